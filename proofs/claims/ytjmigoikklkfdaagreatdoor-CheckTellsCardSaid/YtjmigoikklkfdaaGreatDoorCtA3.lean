/- Part of a proof: the last of these texts says what is proved. -/
import Derived.Test.YtjmigoikklkfdaaGreatDoorCtA2
import Derived.Test.YtjmigoikklkfdaaGreatDoorCtA1
namespace Go.Proofs.YtjmigoikklkfdaaGreatDoor
open Go
set_option linter.unusedVariables false
set_option linter.unusedSimpArgs false
set_option maxRecDepth 4000
theorem rBytes_len (r : Rdr) (n : Nat) : (rBytes r n).2.1.length ≤ r.1.length ∧ ((rBytes r n).2.2 = false → r.2 = false ∧ (rBytes r n).2.1.length + n = r.1.length) := by
  unfold rBytes
  split
  · exact ⟨Nat.le_refl _, fun h => by simp at h⟩
  · rename_i h
    refine ⟨by simp, fun _ => ⟨?_, ?_⟩⟩
    · cases hb : r.2 with
      | false => rfl
      | true => exact absurd (.inl hb) h
    · have : ¬ r.1.length < n := fun hh => h (.inr hh)
      rw [List.length_drop]; omega
theorem rKind_len (r : Rdr) : (rKind r).2.1.length ≤ r.1.length ∧ ((rKind r).2.2 = false → r.2 = false ∧ (rKind r).2.1.length + 1 = r.1.length) := rBytes_len r 1
theorem rId_len (r : Rdr) : (rId r).2.1.length ≤ r.1.length ∧ ((rId r).2.2 = false → r.2 = false ∧ (rId r).2.1.length + 32 = r.1.length) := rBytes_len r 32
theorem rText_len (r : Rdr) : (rText r).2.1.length ≤ r.1.length ∧ (rText r).1.length ≤ r.1.length ∧ ((rText r).2.2 = false → r.2 = false) := by
  unfold rText
  rcases hg : vtake r.1 with _ | ⟨t, k⟩
  · simp
  · dsimp only
    have l := takeD_le r.1
    unfold takeD at l
    rw [hg] at l
    simp only [Option.getD_some] at l
    split
    · simp
    · rename_i h
      refine ⟨by simp, by dsimp only; omega, fun _ => by simpa using h⟩
theorem rNum_len (r : Rdr) : (rNum r).2.1.length ≤ r.1.length ∧ ((rNum r).2.2 = false → r.2 = false) ∧ (rNum r).1 < 18446744073709551616 := by
  unfold rNum
  rcases hg : vget r.1 with _ | ⟨t, k⟩
  · simp
  · dsimp only
    have l := vget_bound hg
    split
    · simp
    · rename_i h
      exact ⟨by simp, fun _ => by simpa using h, l.1⟩
def pBlob (k : Nat) (r : Rdr) : DObj × Rdr := ({ zobj with kind := k, data := (rBytes r r.1.length).1 }, (rBytes r r.1.length).2)
theorem pBlob_spec (b c k : Nat) (r : Rdr) (hr : r.1.length < 4294967296) (S : Mem) :
    Spec Tryz.prog 158 [ptr b 0, ptr c 0] S [blk b 254 [[str r.1], [.bool r.2]], blk c 77 (segsO { zobj with kind := k } (.slice none 0 0) (.slice none 0 0))]
      (fun S' v L' => ∃ ve vp, ObjIn S' (pBlob k r).1 ve vp ∧ L' = [blk b 254 [[str (pBlob k r).2.1], [.bool (pBlob k r).2.2]], blk c 77 (segsO (pBlob k r).1 ve vp)]) := by
  refine enter Tryz.func158 rfl 14 rfl rfl (fun w0 => ?_)
  refine rg ?_
  refine q (vMv rfl) rfl ?_
  refine q (vMv rfl) rfl ?_
  refine q (vMv rfl) rfl ?_
  refine q (vNil rfl) rfl ?_
  refine q (vFa fa254_0 rfl) rfl ?_
  refine q (vLd sc9 rfl (rB1 T0 (.z (.c .n)))) rfl ?_
  refine q (vLenS Tryz.underlying9 rfl) rfl ?_
  refine l rfl (call cf185 (rBytes_spec b r r.1.length hr _) rfl (.cons T0 .nil) rfl ?_)
  intro S1 r1 l1 hS1 hp1
  obtain ⟨rfl, rfl, rfl⟩ := hp1
  refine q (vNil rfl) rfl ?_
  refine q (vFa fa77_1 rfl) rfl ?_
  refine l rfl (store sz9 rfl rfl T1 (by simp) (.s (.z (.c inferInstance inferInstance .n))) ?_)
  refine nil ?_
  refine retN rfl .nil (.t T1 (.t T0 .nil)) ⟨.slice none 0 0, .slice none 0 0, ⟨PSl.nil, PSl.nil⟩, rfl⟩
def pTag (k : Nat) (r : Rdr) : DObj × Rdr := ({ zobj with kind := k, of := (rKind r).1, target := (rId (rKind r).2).1, name := (rText (rId (rKind r).2).2).1 }, (rText (rId (rKind r).2).2).2)
theorem pTag_spec (b c k : Nat) (r : Rdr) (hr : r.1.length < 4294967296) (S : Mem) :
    Spec Tryz.prog 161 [ptr b 0, ptr c 0] S [blk b 254 [[str r.1], [.bool r.2]], blk c 77 (segsO { zobj with kind := k } (.slice none 0 0) (.slice none 0 0))]
      (fun S' v L' => ∃ ve vp, ObjIn S' (pTag k r).1 ve vp ∧ L' = [blk b 254 [[str (pTag k r).2.1], [.bool (pTag k r).2.2]], blk c 77 (segsO (pTag k r).1 ve vp)]) := by
  have l1 := rKind_len r
  have l2 := rId_len (rKind r).2
  refine enter Tryz.func161 rfl 19 rfl rfl (fun w0 => ?_)
  refine sq ?_
  refine rg ?_
  refine q (vMv rfl) rfl ?_
  refine q (vMv rfl) rfl ?_
  refine l rfl (call cf186 (rKind_spec b r _) rfl (.cons T0 .nil) rfl ?_)
  intro S1 r1 l1 hS1 hp1
  obtain ⟨rfl, rfl, rfl⟩ := hp1
  refine q (vNil rfl) rfl ?_
  refine q (vFa fa77_8 rfl) rfl ?_
  refine l rfl (store sz3 rfl rfl T1 (by simp) (.s (.s (.s (.n (n := 32) inferInstance (.s (.s (.s (.n (n := 32) inferInstance (.z (.c inferInstance inferInstance .n)))))))))) ?_)
  refine nil ?_
  refine thN ?_
  refine sq ?_
  refine rg ?_
  refine q (vMv rfl) rfl ?_
  refine q (vMv rfl) rfl ?_
  refine l rfl (call cf188 (rId_spec b (rKind r).2 _) rfl (.cons T1 .nil) rfl ?_)
  intro S2 r2 l2 hS2 hp2
  obtain ⟨rfl, rfl, rfl⟩ := hp2
  refine q (vNil rfl) rfl ?_
  refine q (vFa fa77_7 rfl) rfl ?_
  refine l rfl (store sz35 rfl rfl T1 (by simp) (.s (.s (.s (.n (n := 32) inferInstance (.s (.s (.s (.z (.c inferInstance inferInstance .n))))))))) ?_)
  refine nil ?_
  refine thN ?_
  refine rg ?_
  refine q (vMv rfl) rfl ?_
  refine q (vMv rfl) rfl ?_
  refine l rfl (call cf187 (rText_spec b (rId (rKind r).2).2 (by omega) _) rfl (.cons T1 .nil) rfl ?_)
  intro S3 r3 l3 hS3 hp3
  obtain ⟨rfl, rfl, rfl⟩ := hp3
  refine q (vNil rfl) rfl ?_
  refine q (vFa fa77_9 rfl) rfl ?_
  refine l rfl (store sz9 rfl rfl T1 (by simp) (.s (.s (.s (.n (n := 32) inferInstance (.s (.s (.s (.n (n := 32) inferInstance (.s (.z (.c inferInstance inferInstance .n))))))))))) ?_)
  refine nil ?_
  refine retN rfl .nil (.t T1 (.t T0 .nil)) ⟨.slice none 0 0, .slice none 0 0, ⟨PSl.nil, PSl.nil⟩, rfl⟩
def pEnts : Nat → Rdr → List DEnt × Rdr
  | 0, r => ([], r)
  | n + 1, r => if r.2 = true ∨ r.1 = [] then ([], r) else
    (⟨(rText (rKind r).2).1, (rKind r).1, (rId (rText (rKind r).2).2).1⟩ :: (pEnts n (rId (rText (rKind r).2).2).2).1, (pEnts n (rId (rText (rKind r).2).2).2).2)
theorem pEnts_end (n : Nat) (r : Rdr) (h : r.2 = true ∨ r.1 = []) : pEnts n r = ([], r) := by
  cases n with
  | zero => rfl
  | succ n => rw [pEnts, if_pos h]
def pTree (k : Nat) (r : Rdr) : DObj × Rdr := ({ zobj with kind := k, entries := (pEnts r.1.length r).1 }, (pEnts r.1.length r).2)
theorem pTree_spec (b c k : Nat) (r : Rdr) (hr : r.1.length < 1073741824) (S : Mem) :
    Spec Tryz.prog 159 [ptr b 0, ptr c 0] S [blk b 254 [[str r.1], [.bool r.2]], blk c 77 (segsO { zobj with kind := k } (.slice none 0 0) (.slice none 0 0))]
      (fun S' v L' => ∃ ve vp, ObjIn S' (pTree k r).1 ve vp ∧ L' = [blk b 254 [[str (pTree k r).2.1], [.bool (pTree k r).2.2]], blk c 77 (segsO (pTree k r).1 ve vp)]) := by
  refine enter Tryz.func159 rfl 36 rfl rfl (fun w0 => ?_)
  refine bk ?_
  refine nilsl 247 34 ?_
  refine loop (ι := Nat × Rdr × List DEnt × Value) (fun (p : Nat × Rdr × List DEnt × Value) => [(0, ptr b 0), (1, ptr c 0)]) (fun (p : Nat × Rdr × List DEnt × Value) => [blk b 254 [[str p.2.1.1], [.bool p.2.1.2]], blk c 77 (segsO { zobj with kind := k } p.2.2.2 (.slice none 0 0)), sl p.2.2.2 247 34 (p.2.2.1.map encE)]) (fun (p : Nat × Rdr × List DEnt × Value) => fun S' => (p.2.2.1 ++ (pEnts p.1 p.2.1).1 = (pEnts r.1.length r).1 ∧ (pEnts p.1 p.2.1).2 = (pEnts r.1.length r).2) ∧ (p.2.1.2 = true ∨ p.2.1.1.length ≤ p.1) ∧ p.2.1.1.length ≤ r.1.length ∧ p.2.2.1.length + p.1 ≤ r.1.length) (fun (p : Nat × Rdr × List DEnt × Value) => p.1) (r.1.length, r, [], .slice none 0 0) ⟨⟨rfl, rfl⟩, .inr (Nat.le_refl _), Nat.le_refl _, by simp⟩ (.cons rfl (by first | rfl | simp | (simp <;> omega)) (.cons rfl (by first | rfl | simp | (simp <;> omega)) .nil)) (.cons T1 (Ent.Le.of (by first | rfl | simp | (simp <;> omega))) (.cons T1 (Ent.Le.of (by first | rfl | simp | (simp <;> omega))) (.cons T0 (Ent.Le.of (by first | rfl | simp | (simp <;> omega))) .nil))) ?_
  rintro ⟨n, qq, es, ve⟩ S2 hle2 ⟨⟨h4, h5⟩, h6, h7, h8⟩
  dsimp only at h4 h5 h6 h7 h8 ⊢
  refine sq ?_
  refine sq ?_
  refine rg ?_
  refine q (vMv rfl) rfl ?_
  refine q (vNil rfl) rfl ?_
  refine q (vFa fa254_1 rfl) rfl ?_
  refine q (vLd sc4 rfl (rB1 T0 (.s (.z (.c .n))))) rfl ?_
  refine q (vNot rfl) rfl ?_
  refine q (vMv rfl) rfl ?_
  apply gAnd 10 16 6
  · rfl
  · intro hb1 hX1
    have hc1 := hb1 ; try simp only [bls, beq_iff_eq, bne_iff_ne, Int.reduceToNat, List.length_map] at hc1
    refine qT ⟨_, rfl, rfl⟩ (vMv rfl) rfl ?_
    refine qT ⟨_, rfl, rfl⟩ (vNil rfl) rfl ?_
    refine qT ⟨_, rfl, rfl⟩ (vFa fa254_0 rfl) rfl ?_
    refine qT ⟨_, rfl, rfl⟩ (vLd sc9 rfl (rB1 T0 (.z (.c .n)))) rfl ?_
    refine qT ⟨_, rfl, rfl⟩ (vNeS rfl rfl) rfl ?_
    refine q (vPkT rfl rfl) rfl ?_
    exact gTT 6 10 rfl rfl rfl rfl hb1 hX1
  · intro hb1 hX1
    have hc1 := hb1 ; try simp only [bls, beq_iff_eq, bne_iff_ne, Int.reduceToNat, List.length_map] at hc1
    refine qF ⟨_, _, rfl, rfl, rfl⟩ rfl ?_
    refine qF ⟨_, _, rfl, rfl, rfl⟩ rfl ?_
    refine qF ⟨_, _, rfl, rfl, rfl⟩ rfl ?_
    refine qF ⟨_, _, rfl, rfl, rfl⟩ rfl ?_
    refine qF ⟨_, _, rfl, rfl, rfl⟩ rfl ?_
    refine q (vPkF rfl rfl) rfl ?_
    exact gTF 6 10 rfl rfl rfl rfl hb1 hX1
  refine nil ?_
  refine thN ?_
  refine cd rfl (fun hd => ?_) (fun hd => ?_) <;> try simp only [bls, beq_iff_eq, bne_iff_ne, Int.reduceToNat, List.length_map] at hd
  · skip
    have hq : qq.2 = false := by simpa using hd.1
    have hq1 : 1 ≤ qq.1.length := List.length_pos_iff.2 hd.2
    have hq2 : qq.1.length ≤ n := h6.resolve_left (by simp [hq])
    obtain ⟨m, rfl⟩ : ∃ m, n = m + 1 := ⟨n - 1, by omega⟩
    have hn : ¬ (qq.2 = true ∨ qq.1 = []) := by simp [hq, hd.2]
    rw [pEnts, if_neg hn] at h4 h5
    have l1 := rKind_len qq
    have l2 := rText_len (rKind qq).2
    have l3 := rId_len (rText (rKind qq).2).2
    refine sk ?_
    refine thN ?_
    refine bk ?_
    refine sq ?_
    refine rg ?_
    refine q (vMv rfl) rfl ?_
    refine l rfl (call cf186 (rKind_spec b qq _) rfl (.cons T0 .nil) rfl ?_)
    intro S1 r1 l1 hS1 hp1
    obtain ⟨rfl, rfl, rfl⟩ := hp1
    refine q (vBuild st247 (.cons rfl rfl inferInstance (by simp) (.s (.z (.c inferInstance inferInstance .n))) .nil)) rfl ?_
    refine l rfl (alloc ze247 rfl ?_)
    intro B4
    refine l rfl (store sz247 rfl rfl T0 (by simp) (.z (.c inferInstance inferInstance (.c inferInstance inferInstance (.c inferInstance inferInstance .n)))) ?_)
    refine nil ?_
    refine thN ?_
    refine sq ?_
    refine rg ?_
    refine q (vMv rfl) rfl ?_
    refine l rfl (call cf187 (rText_spec b (rKind qq).2 (by omega) _) rfl (.cons T1 .nil) rfl ?_)
    intro S2 r2 l2 hS2 hp2
    obtain ⟨rfl, rfl, rfl⟩ := hp2
    refine q (vFa fa247_0 rfl) rfl ?_
    refine l rfl (store sz9 rfl rfl T1 (by simp) (.z (.c inferInstance inferInstance .n)) ?_)
    refine nil ?_
    refine thN ?_
    refine sq ?_
    refine rg ?_
    refine q (vMv rfl) rfl ?_
    refine l rfl (call cf188 (rId_spec b (rText (rKind qq).2).2 _) rfl (.cons T1 .nil) rfl ?_)
    intro S3 r3 l3 hS3 hp3
    obtain ⟨rfl, rfl, rfl⟩ := hp3
    refine q (vFa fa247_2 rfl) rfl ?_
    refine l rfl (store sz35 rfl rfl T1 (by simp) (.s (.s (.z (.c inferInstance inferInstance .n)))) ?_)
    refine nil ?_
    refine thN ?_
    refine dr (.take 0 (.take 1 (.take 2 (.take 3 (.take 4 (.take 5 (.one 6 (.one 7 (.one 8 (.take 9 (.last 10))))))))))) wide (by decide +kernel) _ _ (.cons T0 (.cons T0 (.cons T0 .nil))) ?_
    refine pT rfl (vMv rfl) rfl ?_
    refine pT rfl (vMv rfl) rfl ?_
    refine pT rfl (vNil rfl) rfl ?_
    refine pT rfl (vFa fa77_2 rfl) rfl ?_
    refine pT rfl (vLd sc74 rfl (rB1 T2 (.s (.s (.z (.c .n)))))) rfl ?_
    refine pT rfl (vLdA ag247 rfl (rB T0 (.z (.c (.c (.c .n))))) (by simp)) rfl ?_
    refine pO ?_
    refine opL rfl rfl (bslice sl74 ze247 (.cons rfl inferInstance .nil) (by simp) rfl rfl rfl rfl ?_)
    intro B32
    refine pK (Le.refl _) (.cons T1 (.cons T1 (.cons T1 .nil))) ?_
    refine pO ?_
    refine opL rfl rfl (app ap74 rfl rfl T4 (srcO T0) (by first | omega | (simp only [Int.toNat_natCast, Int.reduceToNat, List.length_append, List.length_cons, List.length_nil, List.length_map, bid_len]; omega) | (simp <;> omega)) rfl ?_)
    intro v33 hv33
    refine pK (Le.refl _) (.cons T2 (.cons T2 (.cons T2 .nil))) ?_
    refine pO ?_
    refine opL rfl rfl (qK (vNil rfl) rfl ?_)
    refine pK (Le.refl _) (.cons T2 (.cons T2 (.cons T2 .nil))) ?_
    refine pT rfl (vFa fa77_2 rfl) rfl ?_
    refine pL ?_
    refine opL rfl rfl (store sz74 rfl rfl T4 (by simp) (.s (.s (.z (.c inferInstance inferInstance .n)))) ?_)
    refine bkN ?_
    refine thN ?_
    have h9 : (rId (rText (rKind qq).2).2).2.2 = true ∨ (rId (rText (rKind qq).2).2).2.1.length ≤ m := by
      cases hb : (rId (rText (rKind qq).2).2).2.2 with
      | true => exact .inl rfl
      | false =>
        have := (l3.2 hb).2
        exact .inr (by omega)
    refine back ((m, (rId (rText (rKind qq).2).2).2, es ++ [⟨(rText (rKind qq).2).1, (rKind qq).1, (rId (rText (rKind qq).2).2).1⟩], v33)) (Le.refl _) ⟨⟨⟨by dsimp only; rw [← h4]; simp, h5⟩, h9, by dsimp only; omega, by dsimp only; simp only [List.length_append, List.length_cons, List.length_nil]; omega⟩, Nat.lt_succ_self _⟩ (.cons rfl (by first | rfl | (simp only [List.map_append, List.map_cons, List.map_nil]; done) | (simp only [List.map_append, List.map_cons, List.map_nil]; rfl)) (.cons rfl (by first | rfl | (simp only [List.map_append, List.map_cons, List.map_nil]; done) | (simp only [List.map_append, List.map_cons, List.map_nil]; rfl)) .nil)) (.cons T4 (Ent.Le.of (by first | rfl | (simp only [List.map_append, List.map_cons, List.map_nil]; done) | (simp only [List.map_append, List.map_cons, List.map_nil]; rfl))) (.cons T0 (Ent.Le.of (by first | rfl | (simp only [List.map_append, List.map_cons, List.map_nil]; done) | (simp only [List.map_append, List.map_cons, List.map_nil]; rfl))) (.cons T0 (Ent.Le.of (by first | rfl | (simp only [List.map_append, List.map_cons, List.map_nil]; done) | (simp only [List.map_append, List.map_cons, List.map_nil]; rfl))) .nil)))
  · skip
    have hn : qq.2 = true ∨ qq.1 = [] := by
      cases hb : qq.2 with
      | true => exact .inl rfl
      | false => simp [hb] at hd; exact .inr hd
    rw [pEnts_end n qq hn] at h4 h5
    rw [List.append_nil] at h4
    refine xt ?_
    refine thX ?_
    refine thX ?_
    refine bkX ?_
    refine pub T2 (fun S4 hS4 hE => ?_)
    have e1 : pTree k r = ({ zobj with kind := k, entries := es }, qq) := by rw [pTree, ← h4, ← h5]
    refine retN rfl .nil (.t T0 (.t T0 .nil)) ⟨ve, .slice none 0 0, by rw [e1]; exact ⟨hE, PSl.nil⟩, by rw [e1]⟩
def pIds : Nat → Rdr → List BId × Rdr
  | 0, r => ([], r)
  | n + 1, r => if r.2 = true then ([], r) else ((rId r).1 :: (pIds n (rId r).2).1, (pIds n (rId r).2).2)
theorem pIds_bad (n : Nat) (r : Rdr) (h : r.2 = true) : pIds n r = ([], r) := by
  cases n with
  | zero => rfl
  | succ n => rw [pIds, if_pos h]
def cap (c : Bool) (r : Rdr) : Rdr := (r.1, r.2 || c)
def pComA (r : Rdr) : Rdr := cap (decide (8 < (rNum (rId r).2).1)) (rNum (rId r).2).2
def pComB (r : Rdr) : List BId × Rdr := pIds (rNum (rId r).2).1 (pComA r)
def pComC (r : Rdr) : Rdr := cap (decide (4294967295 < (rNum (pComB r).2).1)) (rNum (pComB r).2).2
def pCom (k : Nat) (r : Rdr) : DObj × Rdr :=
  ({ zobj with kind := k, tree := (rId r).1, parents := (pComB r).1, time := UInt32.ofNat (rNum (pComB r).2).1, text := (rText (pComC r)).1 }, (rText (pComC r)).2)
theorem pIds_len : ∀ (n : Nat) (r : Rdr), (pIds n r).2.1.length ≤ r.1.length
  | 0, r => Nat.le_refl _
  | n + 1, r => by
    unfold pIds
    split
    · exact Nat.le_refl _
    · exact Nat.le_trans (pIds_len n (rId r).2) (rId_len r).1
theorem pCom_spec (b c k : Nat) (r : Rdr) (hr : r.1.length < 1073741824) (S : Mem) :
    Spec Tryz.prog 160 [ptr b 0, ptr c 0] S [blk b 254 [[str r.1], [.bool r.2]], blk c 77 (segsO { zobj with kind := k } (.slice none 0 0) (.slice none 0 0))]
      (fun S' v L' => ∃ ve vp, ObjIn S' (pCom k r).1 ve vp ∧ L' = [blk b 254 [[str (pCom k r).2.1], [.bool (pCom k r).2.2]], blk c 77 (segsO (pCom k r).1 ve vp)]) := by
  have l1 := rId_len r
  have l2 := rNum_len (rId r).2
  have l3 := pIds_len (rNum (rId r).2).1 (pComA r)
  have l4 : (pComA r).1.length ≤ r.1.length := Nat.le_trans l2.1 l1.1
  have l5 := rNum_len (pComB r).2
  have l6 : (pComB r).2.1.length ≤ r.1.length := Nat.le_trans l3 l4
  have l7 : (pComC r).1.length ≤ r.1.length := Nat.le_trans l5.1 l6
  refine enter Tryz.func160 rfl 59 rfl rfl (fun w0 => ?_)
  refine sq ?_
  refine rg ?_
  refine q (vMv rfl) rfl ?_
  refine q (vMv rfl) rfl ?_
  refine l rfl (call cf188 (rId_spec b r _) rfl (.cons T0 .nil) rfl ?_)
  intro S1 r1 l1 hS1 hp1
  obtain ⟨rfl, rfl, rfl⟩ := hp1
  refine q (vNil rfl) rfl ?_
  refine q (vFa fa77_3 rfl) rfl ?_
  refine l rfl (store sz35 rfl rfl T1 (by simp) (.s (.s (.s (.z (.c inferInstance inferInstance .n))))) ?_)
  refine nil ?_
  refine thN ?_
  refine sq ?_
  refine rg ?_
  refine q (vMv rfl) rfl ?_
  refine l rfl (call cf189 (rNum_spec b (rId r).2 (by omega) _) rfl (.cons T1 .nil) rfl ?_)
  intro S2 r2 l2 hS2 hp2
  obtain ⟨rfl, rfl, rfl⟩ := hp2
  refine q (vAs rfl) rfl ?_
  refine nil ?_
  refine thN ?_
  refine join (ι := Unit) (fun (u : Unit) => [(0, ptr b 0), (1, ptr c 0), (4, .int .u64 ((rNum (rId r).2).1 : Int))]) (fun (u : Unit) => [blk b 254 [[str (pComA r).1], [.bool (pComA r).2]], blk c 77 (segsO { zobj with kind := k, tree := (rId r).1 } (.slice none 0 0) (.slice none 0 0))]) (fun (u : Unit) => fun S' => True) ?_ ?_
  · skip
    refine sq ?_
    refine rg ?_
    refine q (vMv rfl) rfl ?_
    refine q (vGt rfl rfl) rfl ?_
    refine nil ?_
    refine thN ?_
    refine cd rfl (fun hc => ?_) (fun hc => ?_) <;> try simp only [bls, beq_iff_eq, bne_iff_ne, Int.reduceToNat, List.length_map] at hc
    · skip
      have e1 : pComA r = ((rNum (rId r).2).2.1, true) := by unfold pComA cap; rw [decide_eq_true (by omega)]; simp
      simp only [e1]
      refine rg ?_
      refine q (vMv rfl) rfl ?_
      refine q (vNil rfl) rfl ?_
      refine q (vFa fa254_1 rfl) rfl ?_
      refine l rfl (store sz4 rfl rfl T0 (by simp) (.s (.z (.c inferInstance inferInstance .n))) ?_)
      refine nil ?_
      refine thN ?_
      refine back (()) (Le.refl _) trivial (.cons rfl (by first | rfl | simp | (simp <;> omega)) (.cons rfl (by first | rfl | simp | (simp <;> omega)) (.cons rfl (by first | rfl | simp | (simp <;> omega)) .nil))) (.cons T0 (Ent.Le.of (by first | rfl | simp | (simp <;> omega))) (.cons T0 (Ent.Le.of (by first | rfl | simp | (simp <;> omega))) .nil))
    · skip
      have e1 : pComA r = (rNum (rId r).2).2 := by unfold pComA cap; rw [decide_eq_false (by omega)]; simp
      simp only [e1]
      refine sk ?_
      refine thN ?_
      refine back (()) (Le.refl _) trivial (.cons rfl (by first | rfl | simp | (simp <;> omega)) (.cons rfl (by first | rfl | simp | (simp <;> omega)) (.cons rfl (by first | rfl | simp | (simp <;> omega)) .nil))) (.cons T0 (Ent.Le.of (by first | rfl | simp | (simp <;> omega))) (.cons T0 (Ent.Le.of (by first | rfl | simp | (simp <;> omega))) .nil))
  · rintro u S8 hle8 _
    have hA : (pComA r).2 = true ∨ (rNum (rId r).2).1 ≤ 8 := by
      rcases Nat.lt_or_ge 8 (rNum (rId r).2).1 with h | h
      · left; simp [pComA, cap, h]
      · exact .inr h
    refine sq ?_
    refine sq ?_
    refine rg ?_
    refine q (vAs rfl) rfl ?_
    refine nil ?_
    refine thN ?_
    refine bk ?_
    refine nilsl 35 32 ?_
    refine loop (ι := Nat × Rdr × List BId × Value) (fun (p : Nat × Rdr × List BId × Value) => [(0, ptr b 0), (1, ptr c 0), (4, .int .u64 ((rNum (rId r).2).1 : Int)), (5, .int .u64 (p.1 : Int))]) (fun (p : Nat × Rdr × List BId × Value) => [blk b 254 [[str p.2.1.1], [.bool p.2.1.2]], blk c 77 (segsO { zobj with kind := k, tree := (rId r).1 } (.slice none 0 0) p.2.2.2), sl p.2.2.2 35 32 (p.2.2.1.map encId)]) (fun (p : Nat × Rdr × List BId × Value) => fun S' => (p.2.2.1 ++ (pIds ((rNum (rId r).2).1 - p.1) p.2.1).1 = (pComB r).1 ∧ (pIds ((rNum (rId r).2).1 - p.1) p.2.1).2 = (pComB r).2) ∧ p.1 ≤ (rNum (rId r).2).1 ∧ p.2.1.1.length ≤ r.1.length ∧ p.2.2.1.length = p.1 ∧ (p.2.1.2 = true ∨ (rNum (rId r).2).1 ≤ 8)) (fun (p : Nat × Rdr × List BId × Value) => (rNum (rId r).2).1 - p.1) (0, pComA r, [], .slice none 0 0) ⟨⟨rfl, rfl⟩, Nat.zero_le _, l4, rfl, hA⟩ (.cons rfl (by first | rfl | simp | (simp <;> omega)) (.cons rfl (by first | rfl | simp | (simp <;> omega)) (.cons rfl (by first | rfl | simp | (simp <;> omega)) (.cons rfl (by first | rfl | simp | (simp <;> omega)) .nil)))) (.cons T1 (Ent.Le.of (by first | rfl | simp | (simp <;> omega))) (.cons T1 (Ent.Le.of (by first | rfl | simp | (simp <;> omega))) (.cons T0 (Ent.Le.of (by first | rfl | simp | (simp <;> omega))) .nil))) ?_
    rintro ⟨i, rr, ps, vp⟩ S2 hle2 ⟨⟨h4, h5⟩, h6, h7, h8, h9⟩
    dsimp only at h4 h5 h6 h7 h8 h9 ⊢
    refine sq ?_
    refine sq ?_
    refine rg ?_
    refine q (vMv rfl) rfl ?_
    refine q (vMv rfl) rfl ?_
    refine q (vLt rfl rfl) rfl ?_
    refine q (vMv rfl) rfl ?_
    apply gAnd 22 28 6
    · rfl
    · intro hb1 hX1
      have hc1 := hb1 ; try simp only [bls, beq_iff_eq, bne_iff_ne, Int.reduceToNat, List.length_map] at hc1
      refine qT ⟨_, rfl, rfl⟩ (vMv rfl) rfl ?_
      refine qT ⟨_, rfl, rfl⟩ (vNil rfl) rfl ?_
      refine qT ⟨_, rfl, rfl⟩ (vFa fa254_1 rfl) rfl ?_
      refine qT ⟨_, rfl, rfl⟩ (vLd sc4 rfl (rB1 T0 (.s (.z (.c .n))))) rfl ?_
      refine qT ⟨_, rfl, rfl⟩ (vNot rfl) rfl ?_
      refine q (vPkT rfl rfl) rfl ?_
      exact gTT 6 22 rfl rfl rfl rfl hb1 hX1
    · intro hb1 hX1
      have hc1 := hb1 ; try simp only [bls, beq_iff_eq, bne_iff_ne, Int.reduceToNat, List.length_map] at hc1
      refine qF ⟨_, _, rfl, rfl, rfl⟩ rfl ?_
      refine qF ⟨_, _, rfl, rfl, rfl⟩ rfl ?_
      refine qF ⟨_, _, rfl, rfl, rfl⟩ rfl ?_
      refine qF ⟨_, _, rfl, rfl, rfl⟩ rfl ?_
      refine qF ⟨_, _, rfl, rfl, rfl⟩ rfl ?_
      refine q (vPkF rfl rfl) rfl ?_
      exact gTF 6 22 rfl rfl rfl rfl hb1 hX1
    refine nil ?_
    refine thN ?_
    refine cd rfl (fun hd => ?_) (fun hd => ?_) <;> try simp only [bls, beq_iff_eq, bne_iff_ne, Int.reduceToNat, List.length_map] at hd
    · skip
      have hq : rr.2 = false := by simpa using hd.2
      have hn8 := h9.resolve_left (by simp [hq])
      have e2 : (rNum (rId r).2).1 - i = ((rNum (rId r).2).1 - (i + 1)) + 1 := by omega
      rw [e2, pIds, if_neg (by simp [hq])] at h4 h5
      have l8 := rId_len rr
      refine sk ?_
      refine thN ?_
      refine sq ?_
      refine bk ?_
      refine dr (.take 0 (.take 1 (.take 2 (.take 3 (.take 4 (.take 5 (.one 6 (.one 7 (.one 8 (.one 9 (.take 10 (.last 11)))))))))))) wide (by decide +kernel) _ _ (.cons T1 .nil) ?_
      refine pT rfl (vMv rfl) rfl ?_
      refine pT rfl (vMv rfl) rfl ?_
      refine pT rfl (vNil rfl) rfl ?_
      refine pT rfl (vFa fa77_4 rfl) rfl ?_
      refine pT rfl (vLd sc27 rfl (rB1 T0 (.s (.s (.s (.n (n := 32) inferInstance (.z (.c .n)))))))) rfl ?_
      refine pT rfl (vMv rfl) rfl ?_
      refine pO ?_
      refine opL rfl rfl (call cf188 (rId_spec b rr _) rfl (.cons T0 .nil) rfl ?_)
      intro S3 r3 l3 hS3 hp3
      obtain ⟨rfl, rfl, rfl⟩ := hp3
      refine pK hS3 (.cons T1 .nil) ?_
      refine pO ?_
      refine opL rfl rfl (bslice sl27 ze35 (.cA rfl .nil) (by simp) rfl rfl rfl rfl ?_)
      intro B38
      refine pK hS3 (.cons T2 .nil) ?_
      refine pO ?_
      refine opL rfl rfl (app ap27 rfl rfl T3 (srcO T0) (by first | omega | (simp only [Int.toNat_natCast, Int.reduceToNat, List.length_append, List.length_cons, List.length_nil, List.length_map, bid_len]; omega) | (simp <;> omega)) rfl ?_)
      intro v39 hv39
      refine pK hS3 (.cons T3 .nil) ?_
      refine pO ?_
      refine opL rfl rfl (qK (vNil rfl) rfl ?_)
      refine pK hS3 (.cons T3 .nil) ?_
      refine pT rfl (vFa fa77_4 rfl) rfl ?_
      refine pL ?_
      refine opL rfl rfl (store sz27 rfl rfl T3 (by simp) (.s (.s (.s (.n (n := 32) inferInstance (.z (.c inferInstance inferInstance .n)))))) ?_)
      refine bkN ?_
      refine thN ?_
      refine rg ?_
      refine q (vMv rfl) rfl ?_
      refine q (vAddN rfl rfl (by first | omega | (simp only [Int.toNat_natCast, Int.reduceToNat, List.length_append, List.length_cons, List.length_nil, List.length_map, bid_len]; omega) | (simp <;> omega))) rfl ?_
      refine q (vAs rfl) rfl ?_
      refine nil ?_
      refine thN ?_
      refine back ((i + 1, (rId rr).2, ps ++ [(rId rr).1], v39)) (Le.refl _) ⟨⟨⟨by dsimp only; rw [← h4]; simp, h5⟩, by dsimp only; omega, by dsimp only; omega, by dsimp only; simp only [List.length_append, List.length_cons, List.length_nil]; omega, .inr hn8⟩, by dsimp only; omega⟩ (.cons rfl (by first | rfl | (simp only [List.map_append, List.map_cons, List.map_nil, List.flatten_cons, List.flatten_nil, List.append_nil]; done) | simp) (.cons rfl (by first | rfl | (simp only [List.map_append, List.map_cons, List.map_nil, List.flatten_cons, List.flatten_nil, List.append_nil]; done) | simp) (.cons rfl (by first | rfl | (simp only [List.map_append, List.map_cons, List.map_nil, List.flatten_cons, List.flatten_nil, List.append_nil]; done) | simp) (.cons rfl (by first | rfl | (simp only [List.map_append, List.map_cons, List.map_nil, List.flatten_cons, List.flatten_nil, List.append_nil]; done) | simp) .nil)))) (.cons T3 (Ent.Le.of (by first | rfl | (simp only [List.map_append, List.map_cons, List.map_nil, List.flatten_cons, List.flatten_nil, List.append_nil]; done) | simp)) (.cons T0 (Ent.Le.of (by first | rfl | (simp only [List.map_append, List.map_cons, List.map_nil, List.flatten_cons, List.flatten_nil, List.append_nil]; done) | simp)) (.cons T0 (Ent.Le.of (by first | rfl | (simp only [List.map_append, List.map_cons, List.map_nil, List.flatten_cons, List.flatten_nil, List.append_nil]; done) | simp)) .nil)))
    · skip
      have he : pIds ((rNum (rId r).2).1 - i) rr = ([], rr) := by
        cases hb : rr.2 with
        | true => exact pIds_bad _ _ hb
        | false =>
          have : (rNum (rId r).2).1 - i = 0 := by
            rcases hd with hd | hd
            · omega
            · rw [hb] at hd; cases hd
          rw [this]; rfl
      rw [he] at h4 h5
      simp only [List.append_nil] at h4
      have e3 : pComB r = (ps, rr) := by
        have h5' : rr = (pComB r).2 := h5
        rw [h4, h5']
      rw [e3] at l5 l6
      dsimp only at l5 l6
      refine xt ?_
      refine thX ?_
      refine thX ?_
      refine bkX ?_
      refine thN ?_
      refine sq ?_
      refine rg ?_
      refine q (vMv rfl) rfl ?_
      refine l rfl (call cf189 (rNum_spec b rr (by omega) _) rfl (.cons T0 .nil) rfl ?_)
      intro S4 r4 l4 hS4 hp4
      obtain ⟨rfl, rfl, rfl⟩ := hp4
      refine q (vAs rfl) rfl ?_
      refine nil ?_
      refine thN ?_
      have e4 : pComC r = cap (decide (4294967295 < (rNum rr).1)) (rNum rr).2 := by rw [pComC, e3]
      refine join (ι := Unit) (fun (u : Unit) => [(0, ptr b 0), (1, ptr c 0), (6, .int .u64 ((rNum rr).1 : Int))]) (fun (u : Unit) => [blk b 254 [[str (pComC r).1], [.bool (pComC r).2]], blk c 77 (segsO { zobj with kind := k, tree := (rId r).1 } (.slice none 0 0) vp), sl vp 35 32 (ps.map encId)]) (fun (u : Unit) => fun S' => True) ?_ ?_
      · skip
        refine sq ?_
        refine rg ?_
        refine q (vMv rfl) rfl ?_
        refine q (vGt rfl rfl) rfl ?_
        refine nil ?_
        refine thN ?_
        refine cd rfl (fun hk => ?_) (fun hk => ?_) <;> try simp only [bls, beq_iff_eq, bne_iff_ne, Int.reduceToNat, List.length_map] at hk
        · skip
          have e5 : pComC r = ((rNum rr).2.1, true) := by rw [e4]; unfold cap; rw [decide_eq_true (by omega)]; simp
          simp only [e5]
          refine rg ?_
          refine q (vMv rfl) rfl ?_
          refine q (vNil rfl) rfl ?_
          refine q (vFa fa254_1 rfl) rfl ?_
          refine l rfl (store sz4 rfl rfl T0 (by simp) (.s (.z (.c inferInstance inferInstance .n))) ?_)
          refine nil ?_
          refine thN ?_
          refine back (()) (Le.refl _) trivial (.cons rfl (by first | rfl | simp | (simp <;> omega)) (.cons rfl (by first | rfl | simp | (simp <;> omega)) (.cons rfl (by first | rfl | simp | (simp <;> omega)) .nil))) (.cons T0 (Ent.Le.of (by first | rfl | simp | (simp <;> omega))) (.cons T0 (Ent.Le.of (by first | rfl | simp | (simp <;> omega))) (.cons T0 (Ent.Le.of (by first | rfl | simp | (simp <;> omega))) .nil)))
        · skip
          have e5 : pComC r = (rNum rr).2 := by rw [e4]; unfold cap; rw [decide_eq_false (by omega)]; simp
          simp only [e5]
          refine sk ?_
          refine thN ?_
          refine back (()) (Le.refl _) trivial (.cons rfl (by first | rfl | simp | (simp <;> omega)) (.cons rfl (by first | rfl | simp | (simp <;> omega)) (.cons rfl (by first | rfl | simp | (simp <;> omega)) .nil))) (.cons T0 (Ent.Le.of (by first | rfl | simp | (simp <;> omega))) (.cons T0 (Ent.Le.of (by first | rfl | simp | (simp <;> omega))) (.cons T0 (Ent.Le.of (by first | rfl | simp | (simp <;> omega))) .nil)))
      · rintro u S3 hle3 _
        refine sq ?_
        refine rg ?_
        refine q (vMv rfl) rfl ?_
        refine q (vMv rfl) rfl ?_
        refine q (tCvU32 Tryz.underlying75 Tryz.underlying179 rfl) rfl ?_
        refine q (vNil rfl) rfl ?_
        refine q (vFa fa77_5 rfl) rfl ?_
        refine l rfl (store sz75 rfl rfl T1 (by simp) (.s (.s (.s (.n (n := 32) inferInstance (.s (.z (.c inferInstance inferInstance .n))))))) ?_)
        refine nil ?_
        refine thN ?_
        refine rg ?_
        refine q (vMv rfl) rfl ?_
        refine q (vMv rfl) rfl ?_
        refine l rfl (call cf187 (rText_spec b (pComC r) (by omega) _) rfl (.cons T1 .nil) rfl ?_)
        intro S5 r5 l5 hS5 hp5
        obtain ⟨rfl, rfl, rfl⟩ := hp5
        refine q (vNil rfl) rfl ?_
        refine q (vFa fa77_6 rfl) rfl ?_
        refine l rfl (store sz9 rfl rfl T1 (by simp) (.s (.s (.s (.n (n := 32) inferInstance (.s (.s (.z (.c inferInstance inferInstance .n)))))))) ?_)
        refine nil ?_
        refine pub T2 (fun S6 hS6 hP => ?_)
        have e6 : pCom k r = ({ zobj with kind := k, tree := (rId r).1, parents := ps, time := UInt32.ofNat (rNum rr).1, text := (rText (pComC r)).1 }, (rText (pComC r)).2) := by rw [pCom, e3]
        refine retN rfl .nil (.t T1 (.t T0 .nil)) ⟨.slice none 0 0, vp, by rw [e6]; exact ⟨PSl.nil, hP⟩, by rw [e6]⟩
end Go.Proofs.YtjmigoikklkfdaaGreatDoor
namespace Go.Proofs.YtjmigoikklkfdaaGreatDoor
open Go
set_option linter.unusedVariables false
set_option linter.unusedSimpArgs false
set_option maxRecDepth 4000
def pBody (k : Nat) (r : Rdr) : DObj × Rdr := if k = 2 then pTree k r else if k = 3 then pCom k r else if k = 4 then pTag k r else pBlob k r
theorem pIds_count : ∀ (n : Nat) (r : Rdr), (pIds n r).1.length ≤ n
  | 0, r => Nat.le_refl _
  | n + 1, r => by
    unfold pIds
    split
    · simp
    · simp; exact pIds_count n _
theorem pEnts_small : ∀ (n : Nat) (r : Rdr), (pEnts n r).1.length ≤ n ∧ ∀ x, x ∈ (pEnts n r).1 → x.name.length ≤ r.1.length
  | 0, r => by simp [pEnts]
  | n + 1, r => by
    unfold pEnts
    split
    · simp
    · have ih := pEnts_small n (rId (rText (rKind r).2).2).2
      have l1 := (rKind_len r).1
      have l2 := rText_len (rKind r).2
      have l3 := (rId_len (rText (rKind r).2).2).1
      refine ⟨by rw [List.length_cons]; exact Nat.succ_le_succ ih.1, ?_⟩
      intro x hx
      rcases List.mem_cons.1 hx with rfl | hx
      · dsimp only; omega
      · have := ih.2 x hx; omega
theorem pBody_small (k : Nat) (r : Rdr) (hr : r.1.length < 1073741824) : Small (pBody k r).1 := by
  have z0 : ([] : List UInt8).length < 1073741824 := by decide
  have z1 : ([] : List BId).length < 1073741824 := by decide
  have z2 : ([] : List DEnt).length < 1073741824 := by decide
  have zd : ∀ i, (([] : List DEnt).getD i default).name.length < 1073741824 := fun i => by simp; decide
  unfold pBody
  split
  · have h := pEnts_small r.1.length r
    refine ⟨z0, z0, z0, z1, by show (pEnts r.1.length r).1.length < _; omega, fun i => ?_⟩
    show ((pEnts r.1.length r).1.getD i default).name.length < _
    generalize (pEnts r.1.length r).1 = es at *
    rcases Nat.lt_or_ge i es.length with h2 | h2
    · have e : es.getD i default = es[i] := by simp [List.getD, h2]
      rw [e]
      have := h.2 _ (List.getElem_mem h2)
      omega
    · have e : es.getD i default = default := by simp [List.getD, h2]
      rw [e]; decide
  · split
    · have l1 := (rId_len r).1
      have l2 := (rNum_len (rId r).2).1
      have l3 : (pComB r).2.1.length ≤ (pComA r).1.length := pIds_len _ _
      have l4 : (pComA r).1.length = (rNum (rId r).2).2.1.length := rfl
      have l5 := (rNum_len (pComB r).2).1
      have l6 : (pComC r).1.length = (rNum (pComB r).2).2.1.length := rfl
      have l7 := (rText_len (pComC r)).2.1
      refine ⟨z0, by show (rText (pComC r)).1.length < _; omega, z0, ?_, z2, zd⟩
      show (pIds (rNum (rId r).2).1 (pComA r)).1.length < _
      rcases Nat.lt_or_ge 8 (rNum (rId r).2).1 with h | h
      · rw [pIds_bad _ _ (by simp [pComA, cap, h])]; exact z1
      · have := pIds_count (rNum (rId r).2).1 (pComA r); omega
    · split
      · have l1 := (rKind_len r).1
        have l2 := (rId_len (rKind r).2).1
        have l7 := (rText_len (rId (rKind r).2).2).2.1
        exact ⟨z0, z0, by show (rText (rId (rKind r).2).2).1.length < _; omega, z1, z2, zd⟩
      · refine ⟨?_, z0, z0, z1, z2, zd⟩
        show (rBytes r r.1.length).1.length < _
        unfold rBytes; split
        · exact z0
        · simp only [List.length_take]; omega
def pParse (s : List UInt8) : DObj × Rdr := match vtake (s.drop 1) with
  | none => (zobj, ([], true))
  | some (t, k) => if (s.drop 1).drop k = [] then pBody (s.getD 0 0).toNat (t, false) else (zobj, ([], true))
noncomputable def dOk (s : List UInt8) : Bool := decide (s ≠ [] ∧ s.length ≤ 4096) && (!(pParse s).2.2 && decide ((pParse s).2.1 = []) && mayB (pParse s).1)
noncomputable def dO (s : List UInt8) : DObj := if dOk s = true then (pParse s).1 else zobj
def errn (b : Bool) : Nat := if b then 0 else 2
theorem Decode_spec (s : List UInt8) (hs : s.length < 1073741824) (S : Mem) :
    Spec Tryz.prog 124 [str s] S [] (fun S' v L' => ∃ ve vp, v = .tuple [objv (dO s) ve vp, .int .i64 (errn (dOk s) : Nat)].toArray ∧ ObjIn S' (dO s) ve vp ∧ L' = []) := by
  have nope : dOk s = false → ∃ ve vp, Value.tuple [objv zobj (.slice none 0 0) (.slice none 0 0), .int .i64 2].toArray = .tuple [objv (dO s) ve vp, .int .i64 (errn (dOk s) : Nat)].toArray ∧ ∀ S', ObjIn S' (dO s) ve vp := fun h => by
    have h2 : dO s = zobj := by simp [dO, h]
    rw [h, h2]
    exact ⟨.slice none 0 0, .slice none 0 0, rfl, fun S' => ⟨PSl.nil, PSl.nil⟩⟩
  rcases hg : vtake (s.drop 1) with _ | ⟨t, k⟩
  · refine enter Tryz.func124 rfl 68 rfl rfl (fun w0 => ?_)
    refine sq ?_
    refine rg ?_
    refine l rfl (alloc ze77 rfl ?_)
    intro B2
    refine q (vAs rfl) rfl ?_
    refine nil ?_
    refine thN ?_
    refine sq ?_
    refine sq ?_
    refine rg ?_
    refine q (vMv rfl) rfl ?_
    refine q (vEqS rfl rfl) rfl ?_
    refine q (vMv rfl) rfl ?_
    apply gOr 12 16 4
    · rfl
    · intro hb1 hX1
      have hc1 := hb1 ; try simp only [bls, beq_iff_eq, bne_iff_ne, Int.reduceToNat, List.length_map] at hc1
      refine qF ⟨_, _, rfl, rfl, rfl⟩ rfl ?_
      refine qF ⟨_, _, rfl, rfl, rfl⟩ rfl ?_
      refine qF ⟨_, _, rfl, rfl, rfl⟩ rfl ?_
      refine q (vPkT rfl rfl) rfl ?_
      exact gOT 4 12 rfl rfl rfl rfl hb1 hX1
    · intro hb1 hX1
      have hc1 := hb1 ; try simp only [bls, beq_iff_eq, bne_iff_ne, Int.reduceToNat, List.length_map] at hc1
      refine qT ⟨_, rfl, rfl⟩ (vMv rfl) rfl ?_
      refine qT ⟨_, rfl, rfl⟩ (vLenS Tryz.underlying9 rfl) rfl ?_
      refine qT ⟨_, rfl, rfl⟩ (vGt rfl rfl) rfl ?_
      refine q (vPkF rfl rfl) rfl ?_
      exact gOF 4 12 rfl rfl rfl rfl hb1 hX1
    refine nil ?_
    refine thN ?_
    refine cd rfl (fun hc => ?_) (fun hc => ?_) <;> try simp only [bls, beq_iff_eq, bne_iff_ne, Int.reduceToNat, List.length_map] at hc
    · skip
      refine sq ?_
      refine rg ?_
      refine q (vBuild st77 .nil) rfl ?_
      refine l rfl (store sz77 rfl rfl T0 (by simp) (.z (.c inferInstance inferInstance (.c inferInstance inferInstance (.c inferInstance inferInstance (.c inferInstance inferInstance (.c inferInstance inferInstance (.c inferInstance inferInstance (.c inferInstance inferInstance (.c inferInstance inferInstance (.c inferInstance inferInstance (.c inferInstance inferInstance .n))))))))))) ?_)
      refine q (vAs rfl) rfl ?_
      refine nil ?_
      refine thN ?_
      refine rt ?_
      refine thR ?_
      obtain ⟨ve, vp, h1, h2⟩ := nope (by unfold dOk; rw [decide_eq_false (by rintro ⟨h3, h4⟩; rcases hc with hc | hc; exact h3 hc; omega)]; rfl)
      refine ret rfl (.c ag77 rfl (rB T0 (.z (.c (.c (.c (.c (.c (.c (.c (.c (.c (.c .n)))))))))))) (by simp) (.t rfl .nil)) .nil ⟨ve, vp, h1, h2 _, rfl⟩
    · skip
      obtain ⟨hc1, hc2⟩ := hc
      have h1 : 1 ≤ s.length := List.length_pos_iff.2 hc1
      have hd1 : (s.drop 1).length < 4294967296 := by rw [List.length_drop]; omega
      refine sk ?_
      refine thN ?_
      refine sq ?_
      refine rg ?_
      refine q (vMv rfl) rfl ?_
      refine q (vSlSl Tryz.underlying9 rfl rfl (by first | omega | (simp only [Int.toNat_natCast, Int.reduceToNat, List.length_append, List.length_cons, List.length_nil, List.length_map, bid_len]; omega) | (simp <;> omega))) rfl ?_
      refine l rfl (callP cf157 (take_none hd1 hg _) rfl .nil rfl ?_)
      refine q (vMv rfl) rfl ?_
      refine q (vEx rfl rfl) rfl ?_
      refine q (vEx rfl rfl) rfl ?_
      refine q (vEx rfl rfl) rfl ?_
      refine q (vAs rfl) rfl ?_
      refine q (vAs rfl) rfl ?_
      refine q (vAs rfl) rfl ?_
      refine nil ?_
      refine thN ?_
      refine sq ?_
      refine sq ?_
      refine rg ?_
      refine q (vMv rfl) rfl ?_
      refine q (vNe rfl rfl) rfl ?_
      refine q (vMv rfl) rfl ?_
      apply gOr 27 30 3
      · rfl
      · intro hb2 hX2
        have hc2 := hb2 ; try simp only [bls, beq_iff_eq, bne_iff_ne, Int.reduceToNat, List.length_map] at hc2
        refine qF ⟨_, _, rfl, rfl, rfl⟩ rfl ?_
        refine qF ⟨_, _, rfl, rfl, rfl⟩ rfl ?_
        refine q (vPkT rfl rfl) rfl ?_
        exact gOT 3 27 rfl rfl rfl rfl hb2 hX2
      · intro hb2 hX2
        have hc2 := hb2 ; try simp only [bls, beq_iff_eq, bne_iff_ne, Int.reduceToNat, List.length_map] at hc2
        refine qT ⟨_, rfl, rfl⟩ (vMv rfl) rfl ?_
        refine qT ⟨_, rfl, rfl⟩ (vNeS rfl rfl) rfl ?_
        refine q (vPkF rfl rfl) rfl ?_
        exact gOF 3 27 rfl rfl rfl rfl hb2 hX2
      refine nil ?_
      refine thN ?_
      refine cd rfl (fun hd => ?_) (fun hd => ?_) <;> try simp only [bls, beq_iff_eq, bne_iff_ne, Int.reduceToNat, List.length_map] at hd
      · skip
        refine sq ?_
        refine rg ?_
        refine q (vBuild st77 .nil) rfl ?_
        refine l rfl (store sz77 rfl rfl T0 (by simp) (.z (.c inferInstance inferInstance (.c inferInstance inferInstance (.c inferInstance inferInstance (.c inferInstance inferInstance (.c inferInstance inferInstance (.c inferInstance inferInstance (.c inferInstance inferInstance (.c inferInstance inferInstance (.c inferInstance inferInstance (.c inferInstance inferInstance .n))))))))))) ?_)
        refine q (vAs rfl) rfl ?_
        refine nil ?_
        refine thN ?_
        refine rt ?_
        refine thR ?_
        have hp : pParse s = (zobj, ([], true)) := by simp only [pParse, hg]
        obtain ⟨ve, vp, h3, h4⟩ := nope (by simp [dOk, hp])
        refine ret rfl (.c ag77 rfl (rB T0 (.z (.c (.c (.c (.c (.c (.c (.c (.c (.c (.c .n)))))))))))) (by simp) (.t rfl .nil)) .nil ⟨ve, vp, h3, h4 _, rfl⟩
      · skip
        simp at hd
  · refine enter Tryz.func124 rfl 68 rfl rfl (fun w0 => ?_)
    refine sq ?_
    refine rg ?_
    refine l rfl (alloc ze77 rfl ?_)
    intro B2
    refine q (vAs rfl) rfl ?_
    refine nil ?_
    refine thN ?_
    refine sq ?_
    refine sq ?_
    refine rg ?_
    refine q (vMv rfl) rfl ?_
    refine q (vEqS rfl rfl) rfl ?_
    refine q (vMv rfl) rfl ?_
    apply gOr 12 16 4
    · rfl
    · intro hb1 hX1
      have hc1 := hb1 ; try simp only [bls, beq_iff_eq, bne_iff_ne, Int.reduceToNat, List.length_map] at hc1
      refine qF ⟨_, _, rfl, rfl, rfl⟩ rfl ?_
      refine qF ⟨_, _, rfl, rfl, rfl⟩ rfl ?_
      refine qF ⟨_, _, rfl, rfl, rfl⟩ rfl ?_
      refine q (vPkT rfl rfl) rfl ?_
      exact gOT 4 12 rfl rfl rfl rfl hb1 hX1
    · intro hb1 hX1
      have hc1 := hb1 ; try simp only [bls, beq_iff_eq, bne_iff_ne, Int.reduceToNat, List.length_map] at hc1
      refine qT ⟨_, rfl, rfl⟩ (vMv rfl) rfl ?_
      refine qT ⟨_, rfl, rfl⟩ (vLenS Tryz.underlying9 rfl) rfl ?_
      refine qT ⟨_, rfl, rfl⟩ (vGt rfl rfl) rfl ?_
      refine q (vPkF rfl rfl) rfl ?_
      exact gOF 4 12 rfl rfl rfl rfl hb1 hX1
    refine nil ?_
    refine thN ?_
    refine cd rfl (fun hc => ?_) (fun hc => ?_) <;> try simp only [bls, beq_iff_eq, bne_iff_ne, Int.reduceToNat, List.length_map] at hc
    · skip
      refine sq ?_
      refine rg ?_
      refine q (vBuild st77 .nil) rfl ?_
      refine l rfl (store sz77 rfl rfl T0 (by simp) (.z (.c inferInstance inferInstance (.c inferInstance inferInstance (.c inferInstance inferInstance (.c inferInstance inferInstance (.c inferInstance inferInstance (.c inferInstance inferInstance (.c inferInstance inferInstance (.c inferInstance inferInstance (.c inferInstance inferInstance (.c inferInstance inferInstance .n))))))))))) ?_)
      refine q (vAs rfl) rfl ?_
      refine nil ?_
      refine thN ?_
      refine rt ?_
      refine thR ?_
      obtain ⟨ve, vp, h1, h2⟩ := nope (by unfold dOk; rw [decide_eq_false (by rintro ⟨h3, h4⟩; rcases hc with hc | hc; exact h3 hc; omega)]; rfl)
      refine ret rfl (.c ag77 rfl (rB T0 (.z (.c (.c (.c (.c (.c (.c (.c (.c (.c (.c .n)))))))))))) (by simp) (.t rfl .nil)) .nil ⟨ve, vp, h1, h2 _, rfl⟩
    · skip
      obtain ⟨hc1, hc2⟩ := hc
      have h1 : 1 ≤ s.length := List.length_pos_iff.2 hc1
      have hd1 : (s.drop 1).length < 4294967296 := by rw [List.length_drop]; omega
      refine sk ?_
      refine thN ?_
      refine sq ?_
      refine rg ?_
      refine q (vMv rfl) rfl ?_
      refine q (vSlSl Tryz.underlying9 rfl rfl (by first | omega | (simp only [Int.toNat_natCast, Int.reduceToNat, List.length_append, List.length_cons, List.length_nil, List.length_map, bid_len]; omega) | (simp <;> omega))) rfl ?_
      refine l rfl (callP cf157 (take_some hd1 hg _) rfl .nil rfl ?_)
      refine q (vMv rfl) rfl ?_
      refine q (vEx rfl rfl) rfl ?_
      refine q (vEx rfl rfl) rfl ?_
      refine q (vEx rfl rfl) rfl ?_
      refine q (vAs rfl) rfl ?_
      refine q (vAs rfl) rfl ?_
      refine q (vAs rfl) rfl ?_
      refine nil ?_
      refine thN ?_
      refine sq ?_
      refine sq ?_
      refine rg ?_
      refine q (vMv rfl) rfl ?_
      refine q (vNe rfl rfl) rfl ?_
      refine q (vMv rfl) rfl ?_
      apply gOr 27 30 3
      · rfl
      · intro hb2 hX2
        have hc2 := hb2 ; try simp only [bls, beq_iff_eq, bne_iff_ne, Int.reduceToNat, List.length_map] at hc2
        refine qF ⟨_, _, rfl, rfl, rfl⟩ rfl ?_
        refine qF ⟨_, _, rfl, rfl, rfl⟩ rfl ?_
        refine q (vPkT rfl rfl) rfl ?_
        exact gOT 3 27 rfl rfl rfl rfl hb2 hX2
      · intro hb2 hX2
        have hc2 := hb2 ; try simp only [bls, beq_iff_eq, bne_iff_ne, Int.reduceToNat, List.length_map] at hc2
        refine qT ⟨_, rfl, rfl⟩ (vMv rfl) rfl ?_
        refine qT ⟨_, rfl, rfl⟩ (vNeS rfl rfl) rfl ?_
        refine q (vPkF rfl rfl) rfl ?_
        exact gOF 3 27 rfl rfl rfl rfl hb2 hX2
      refine nil ?_
      refine thN ?_
      refine cd rfl (fun hd => ?_) (fun hd => ?_) <;> try simp only [bls, beq_iff_eq, bne_iff_ne, Int.reduceToNat, List.length_map] at hd
      · skip
        refine sq ?_
        refine rg ?_
        refine q (vBuild st77 .nil) rfl ?_
        refine l rfl (store sz77 rfl rfl T0 (by simp) (.z (.c inferInstance inferInstance (.c inferInstance inferInstance (.c inferInstance inferInstance (.c inferInstance inferInstance (.c inferInstance inferInstance (.c inferInstance inferInstance (.c inferInstance inferInstance (.c inferInstance inferInstance (.c inferInstance inferInstance (.c inferInstance inferInstance .n))))))))))) ?_)
        refine q (vAs rfl) rfl ?_
        refine nil ?_
        refine thN ?_
        refine rt ?_
        refine thR ?_
        have hk : ¬ ((s.drop 1).drop k = []) := by
          rcases hd with hd | hd
          · exact absurd trivial hd
          · exact hd
        have hp : pParse s = (zobj, ([], true)) := by simp only [pParse, hg, if_neg hk]
        obtain ⟨ve, vp, h3, h4⟩ := nope (by simp [dOk, hp])
        refine ret rfl (.c ag77 rfl (rB T0 (.z (.c (.c (.c (.c (.c (.c (.c (.c (.c (.c .n)))))))))))) (by simp) (.t rfl .nil)) .nil ⟨ve, vp, h3, h4 _, rfl⟩
      · skip
        have hk : (s.drop 1).drop k = [] := by
          have := hd.2
          simpa using this
        have hp : pParse s = pBody (s.getD 0 0).toNat (t, false) := by simp only [pParse, hg, if_pos hk]
        have ht : t.length < 1073741824 := by
          have l := takeD_le (s.drop 1)
          unfold takeD at l
          rw [hg, List.length_drop] at l
          simp only [Option.getD_some] at l
          omega
        refine sk ?_
        refine thN ?_
        refine sq ?_
        refine rg ?_
        refine q (vMv rfl) rfl ?_
        refine q (vIxS Tryz.underlying9 rfl rfl (by first | omega | (simp only [Int.toNat_natCast, Int.reduceToNat, List.length_append, List.length_cons, List.length_nil, List.length_map, bid_len]; omega) | (simp <;> omega))) rfl ?_
        refine q (tCvI8 Tryz.underlying3 Tryz.underlying5 rfl) rfl ?_
        refine q (vBuild st77 (.cons rfl rfl inferInstance (by simp) (.z (.c inferInstance inferInstance .n)) .nil)) rfl ?_
        refine l rfl (alloc ze77 rfl ?_)
        intro B7
        refine l rfl (store sz77 rfl rfl T0 (by simp) (.z (.c inferInstance inferInstance (.c inferInstance inferInstance (.c inferInstance inferInstance (.c inferInstance inferInstance (.c inferInstance inferInstance (.c inferInstance inferInstance (.c inferInstance inferInstance (.c inferInstance inferInstance (.c inferInstance inferInstance (.c inferInstance inferInstance .n))))))))))) ?_)
        refine nil ?_
        refine thN ?_
        refine sq ?_
        refine rg ?_
        refine q (vMv rfl) rfl ?_
        refine q (vBuild st254 (.cons rfl rfl inferInstance (by simp) (.z (.c inferInstance inferInstance .n)) .nil)) rfl ?_
        refine l rfl (box rfl rfl ?_)
        intro B38
        refine q (vAs rfl) rfl ?_
        refine nil ?_
        refine thN ?_
        refine sq ?_
        refine rg ?_
        refine q (vAs rfl) rfl ?_
        refine nil ?_
        refine thN ?_
        refine join (ι := Nat) (fun (f : Nat) => [(2, .pointer (some ⟨B2, 0, none⟩)), (7, .pointer (some ⟨B7, 0, none⟩)), (8, .pointer (some ⟨B38, 0, none⟩)), (9, .func (.func f) #[] #[])]) (fun (f : Nat) => [blk B38 254 [[str t], [.bool false]], blk B7 77 (segsO { zobj with kind := (s.getD 0 0).toNat } (.slice none 0 0) (.slice none 0 0)), blk B2 77 (segsO zobj (.slice none 0 0) (.slice none 0 0))]) (fun (f : Nat) => fun S' => CallOk Tryz.prog f ∧ ∀ S0, Spec Tryz.prog f [ptr B38 0, ptr B7 0] S0 [blk B38 254 [[str t], [.bool false]], blk B7 77 (segsO { zobj with kind := (s.getD 0 0).toNat } (.slice none 0 0) (.slice none 0 0))] (fun S' v L' => ∃ ve vp, ObjIn S' (pParse s).1 ve vp ∧ L' = [blk B38 254 [[str (pParse s).2.1], [.bool (pParse s).2.2]], blk B7 77 (segsO (pParse s).1 ve vp)])) ?_ ?_
        · skip
          refine sq ?_
          refine rg ?_
          refine q (vFa fa77_0 rfl) rfl ?_
          refine q (vLd sc3 rfl (rB1 T1 (.z (.c .n)))) rfl ?_
          refine nil ?_
          refine thN ?_
          refine bk ?_
          refine sq ?_
          refine rg ?_
          refine q (vEq rfl rfl) rfl ?_
          refine q (vAs rfl) rfl ?_
          refine nil ?_
          refine thN ?_
          refine cd rfl (fun hk2 => ?_) (fun hk2 => ?_) <;> try simp only [bls, beq_iff_eq, bne_iff_ne, Int.reduceToNat, List.length_map] at hk2
          · skip
            refine rg ?_
            refine q (vAs rfl) rfl ?_
            refine nil ?_
            refine bkN ?_
            refine thN ?_
            refine back (159) (Le.refl _) ⟨cf159, fun S0 => by rw [hp, pBody, if_pos (by omega)]; exact pTree_spec B38 B7 _ (t, false) ht S0⟩ (.cons rfl (by first | rfl | simp | (simp <;> omega)) (.cons rfl (by first | rfl | simp | (simp <;> omega)) (.cons rfl (by first | rfl | simp | (simp <;> omega)) (.cons rfl (by first | rfl | simp | (simp <;> omega)) .nil)))) (.cons T0 (Ent.Le.of (by first | rfl | simp | (simp <;> omega))) (.cons T0 (Ent.Le.of (by first | rfl | simp | (simp <;> omega))) (.cons T0 (Ent.Le.of (by first | rfl | simp | (simp <;> omega))) .nil)))
          · skip
            refine sq ?_
            refine rg ?_
            refine q (vEq rfl rfl) rfl ?_
            refine q (vAs rfl) rfl ?_
            refine nil ?_
            refine thN ?_
            refine cd rfl (fun hk3 => ?_) (fun hk3 => ?_) <;> try simp only [bls, beq_iff_eq, bne_iff_ne, Int.reduceToNat, List.length_map] at hk3
            · skip
              refine rg ?_
              refine q (vAs rfl) rfl ?_
              refine nil ?_
              refine bkN ?_
              refine thN ?_
              refine back (160) (Le.refl _) ⟨cf160, fun S0 => by rw [hp, pBody, if_neg (by omega), if_pos (by omega)]; exact pCom_spec B38 B7 _ (t, false) ht S0⟩ (.cons rfl (by first | rfl | simp | (simp <;> omega)) (.cons rfl (by first | rfl | simp | (simp <;> omega)) (.cons rfl (by first | rfl | simp | (simp <;> omega)) (.cons rfl (by first | rfl | simp | (simp <;> omega)) .nil)))) (.cons T0 (Ent.Le.of (by first | rfl | simp | (simp <;> omega))) (.cons T0 (Ent.Le.of (by first | rfl | simp | (simp <;> omega))) (.cons T0 (Ent.Le.of (by first | rfl | simp | (simp <;> omega))) .nil)))
            · skip
              refine sq ?_
              refine rg ?_
              refine q (vEq rfl rfl) rfl ?_
              refine q (vAs rfl) rfl ?_
              refine nil ?_
              refine thN ?_
              refine cd rfl (fun hk4 => ?_) (fun hk4 => ?_) <;> try simp only [bls, beq_iff_eq, bne_iff_ne, Int.reduceToNat, List.length_map] at hk4
              · skip
                refine rg ?_
                refine q (vAs rfl) rfl ?_
                refine nil ?_
                refine bkN ?_
                refine thN ?_
                refine back (161) (Le.refl _) ⟨cf161, fun S0 => by rw [hp, pBody, if_neg (by omega), if_neg (by omega), if_pos (by omega)]; exact pTag_spec B38 B7 _ (t, false) (by dsimp only; omega) S0⟩ (.cons rfl (by first | rfl | simp | (simp <;> omega)) (.cons rfl (by first | rfl | simp | (simp <;> omega)) (.cons rfl (by first | rfl | simp | (simp <;> omega)) (.cons rfl (by first | rfl | simp | (simp <;> omega)) .nil)))) (.cons T0 (Ent.Le.of (by first | rfl | simp | (simp <;> omega))) (.cons T0 (Ent.Le.of (by first | rfl | simp | (simp <;> omega))) (.cons T0 (Ent.Le.of (by first | rfl | simp | (simp <;> omega))) .nil)))
              · skip
                refine sk ?_
                refine bkN ?_
                refine thN ?_
                refine back (158) (Le.refl _) ⟨cf158, fun S0 => by rw [hp, pBody, if_neg (by omega), if_neg (by omega), if_neg (by omega)]; exact pBlob_spec B38 B7 _ (t, false) (by dsimp only; omega) S0⟩ (.cons rfl (by first | rfl | simp | (simp <;> omega)) (.cons rfl (by first | rfl | simp | (simp <;> omega)) (.cons rfl (by first | rfl | simp | (simp <;> omega)) (.cons rfl (by first | rfl | simp | (simp <;> omega)) .nil)))) (.cons T0 (Ent.Le.of (by first | rfl | simp | (simp <;> omega))) (.cons T0 (Ent.Le.of (by first | rfl | simp | (simp <;> omega))) (.cons T0 (Ent.Le.of (by first | rfl | simp | (simp <;> omega))) .nil)))
        · rintro f S9 hle9 ⟨hcf, hsp⟩
          refine sq ?_
          refine rg ?_
          refine q (vMv rfl) rfl ?_
          refine q (vMv rfl) rfl ?_
          refine l rfl (callV0 hcf rfl (hsp _) rfl (.cons T0 (.cons T0 .nil)) rfl ?_)
          intro S1 r1 l1 hS1 hp1
          obtain ⟨ve, vp, hi, rfl⟩ := hp1
          have he := hi.e
          have hp1 := hi.p
          have hs0 := he.sc
          have hs1 := hp1.sc
          have hz : Small (pParse s).1 := by rw [hp]; exact pBody_small _ _ ht
          refine nil ?_
          refine thN ?_
          refine sq ?_
          refine sq ?_
          refine rg ?_
          refine q (vMv rfl) rfl ?_
          refine q (vNil rfl) rfl ?_
          refine q (vFa fa254_1 rfl) rfl ?_
          refine q (vLd sc4 rfl (rB1 T0 (.s (.z (.c .n))))) rfl ?_
          refine q (vMv rfl) rfl ?_
          apply gOr 54 60 6
          · rfl
          · intro hb3 hX3
            have hc3 := hb3 ; try simp only [bls, beq_iff_eq, bne_iff_ne, Int.reduceToNat, List.length_map] at hc3
            refine qF ⟨_, _, rfl, rfl, rfl⟩ rfl ?_
            refine qF ⟨_, _, rfl, rfl, rfl⟩ rfl ?_
            refine qF ⟨_, _, rfl, rfl, rfl⟩ rfl ?_
            refine qF ⟨_, _, rfl, rfl, rfl⟩ rfl ?_
            refine qF ⟨_, _, rfl, rfl, rfl⟩ rfl ?_
            refine q (vPkT rfl rfl) rfl ?_
            exact gOT 6 54 rfl rfl rfl rfl hb3 hX3
          · intro hb3 hX3
            have hc3 := hb3 ; try simp only [bls, beq_iff_eq, bne_iff_ne, Int.reduceToNat, List.length_map] at hc3
            refine qT ⟨_, rfl, rfl⟩ (vMv rfl) rfl ?_
            refine qT ⟨_, rfl, rfl⟩ (vNil rfl) rfl ?_
            refine qT ⟨_, rfl, rfl⟩ (vFa fa254_0 rfl) rfl ?_
            refine qT ⟨_, rfl, rfl⟩ (vLd sc9 rfl (rB1 T0 (.z (.c .n)))) rfl ?_
            refine qT ⟨_, rfl, rfl⟩ (vNeS rfl rfl) rfl ?_
            refine q (vPkF rfl rfl) rfl ?_
            exact gOF 6 54 rfl rfl rfl rfl hb3 hX3
          refine q (vMv rfl) rfl ?_
          apply gOr 61 65 4
          · rfl
          · intro hb4 hX4
            have hc4 := hb4 ; try simp only [bls, beq_iff_eq, bne_iff_ne, Int.reduceToNat, List.length_map] at hc4
            refine qF ⟨_, _, rfl, rfl, rfl⟩ rfl ?_
            refine qF ⟨_, _, rfl, rfl, rfl⟩ rfl ?_
            refine qF ⟨_, _, rfl, rfl, rfl⟩ rfl ?_
            refine q (vPkT rfl rfl) rfl ?_
            exact gOT 4 61 rfl rfl rfl rfl hb4 hX4
          · intro hb4 hX4
            have hc4 := hb4 ; try simp only [bls, beq_iff_eq, bne_iff_ne, Int.reduceToNat, List.length_map] at hc4
            refine qT ⟨_, rfl, rfl⟩ (vLdA ag77 rfl (rB T1 (.z (.c (.c (.c (.c (.c (.c (.c (.c (.c (.c .n)))))))))))) (by simp)) rfl ?_
            refine lT rfl ⟨_, rfl, rfl⟩ (callP cf162 (may_spec hz hi) rfl .nil rfl ?_)
            refine qT ⟨_, rfl, rfl⟩ (vNot rfl) rfl ?_
            refine q (vPkF rfl rfl) rfl ?_
            exact gOF 4 61 rfl rfl rfl rfl hb4 hX4
          refine nil ?_
          refine thN ?_
          refine cd rfl (fun hl => ?_) (fun hl => ?_) <;> try simp only [bls, beq_iff_eq, bne_iff_ne, Int.reduceToNat, List.length_map] at hl
          · skip
            refine sq ?_
            refine rg ?_
            refine q (vBuild st77 .nil) rfl ?_
            refine l rfl (store sz77 rfl rfl T2 (by simp) (.z (.c inferInstance inferInstance (.c inferInstance inferInstance (.c inferInstance inferInstance (.c inferInstance inferInstance (.c inferInstance inferInstance (.c inferInstance inferInstance (.c inferInstance inferInstance (.c inferInstance inferInstance (.c inferInstance inferInstance (.c inferInstance inferInstance .n))))))))))) ?_)
            refine q (vAs rfl) rfl ?_
            refine nil ?_
            refine thN ?_
            refine rt ?_
            refine thR ?_
            have hno : dOk s = false := by
              unfold dOk
              rcases hl with (hl | hl) | hl
              · simp [hl]
              · simp [hl]
              · simp [hl]
            obtain ⟨ve2, vp2, h3, h4⟩ := nope hno
            refine ret rfl (.c ag77 rfl (rB T0 (.z (.c (.c (.c (.c (.c (.c (.c (.c (.c (.c .n)))))))))))) (by simp) (.t rfl .nil)) .nil ⟨ve2, vp2, h3, h4 _, rfl⟩
          · skip
            refine sk ?_
            refine thN ?_
            refine sq ?_
            refine rg ?_
            refine q (vLdA ag77 rfl (rB T1 (.z (.c (.c (.c (.c (.c (.c (.c (.c (.c (.c .n)))))))))))) (by simp)) rfl ?_
            refine l rfl (store sz77 rfl rfl T2 (by simp) (.z (.c inferInstance inferInstance (.c inferInstance inferInstance (.c inferInstance inferInstance (.c inferInstance inferInstance (.c inferInstance inferInstance (.c inferInstance inferInstance (.c inferInstance inferInstance (.c inferInstance inferInstance (.c inferInstance inferInstance (.c inferInstance inferInstance .n))))))))))) ?_)
            refine q (vAs rfl) rfl ?_
            refine nil ?_
            refine thN ?_
            refine rt ?_
            have hyes : dOk s = true := by
              unfold dOk
              obtain ⟨⟨ha, hb⟩, hm⟩ := hl
              simp [ha, hb, hm, hc1]; omega
            have hdo : dO s = (pParse s).1 := by simp [dO, hyes]
            refine ret rfl (.c ag77 rfl (rB T0 (.z (.c (.c (.c (.c (.c (.c (.c (.c (.c (.c .n)))))))))))) (by simp) (.t rfl .nil)) .nil ⟨ve, vp, by rw [hdo, hyes]; rfl, by rw [hdo]; exact ⟨he, hp1⟩, rfl⟩
end Go.Proofs.YtjmigoikklkfdaaGreatDoor
namespace Go.Proofs.YtjmigoikklkfdaaGreatDoor
open Go
set_option linter.unusedVariables false
set_option linter.unusedSimpArgs false
set_option maxRecDepth 4000
theorem turn_spec' (x : UInt32) (n : Nat) (hn : 0 < n ∧ n < 32) (S : Mem) : PureL Tryz.prog 149 [u32v x, .int .u64 n] S [] (u32v (rot x n)) := turn_spec x n hn S
theorem ref_block_spec (k : Ws 64) (h : Ws 8) (t : List UInt8) (ht : t.length = 64) (S : Mem) : PureL Tryz.prog 112 [ag [encW h], str t, ag [encW k]] S [] (ag [encW (blockF k h t)]) := by
  refine enter Tryz.func112 rfl 209 rfl rfl (fun w0 => ?_)
  refine sq ?_
  refine rg ?_
  refine l rfl (box rfl rfl ?_)
  intro B3
  refine l rfl (box rfl rfl ?_)
  intro B5
  refine l rfl (alloc ze193 rfl ?_)
  intro B6
  refine nil ?_
  refine thN ?_
  refine sq ?_
  refine rg ?_
  refine q (vBuildA0 ze194 ar194) rfl ?_
  refine l rfl (alloc ze194 rfl ?_)
  intro B7
  refine l rfl (store sz194 rfl rfl T0 (by simp) (.z (.c inferInstance inferInstance .n)) ?_)
  refine nil ?_
  refine thN ?_
  refine sq ?_
  refine sq ?_
  refine rg ?_
  refine q (vAs rfl) rfl ?_
  refine nil ?_
  refine thN ?_
  refine bk ?_
  refine loop (ι := Nat) (fun (i : Nat) => [(1, str t), (8, .int .i64 (i : Int)), (3, .pointer (some ⟨B3, 0, none⟩)), (5, .pointer (some ⟨B5, 0, none⟩)), (6, .pointer (some ⟨B6, 0, none⟩)), (7, .pointer (some ⟨B7, 0, none⟩))]) (fun (i : Nat) => [blk B3 193 [encW h], blk B5 194 [encW k], blk B6 193 [encW (zws 8)], blk B7 194 [encW (sched t i)]]) (fun (i : Nat) => fun S' => i ≤ 16) (fun (i : Nat) => 16 - i) 0 (Nat.zero_le _) (.cons rfl (by first | rfl | simp | (simp <;> omega)) (.cons rfl (by first | rfl | simp | (simp <;> omega)) (.cons rfl (by first | rfl | simp | (simp <;> omega)) (.cons rfl (by first | rfl | simp | (simp <;> omega)) (.cons rfl (by first | rfl | simp | (simp <;> omega)) (.cons rfl (by first | rfl | simp | (simp <;> omega)) .nil)))))) (.cons T3 (Ent.Le.of (by first | rfl | simp | (simp <;> omega))) (.cons T2 (Ent.Le.of (by first | rfl | simp | (simp <;> omega))) (.cons T1 (Ent.Le.of (by first | rfl | simp | (simp <;> omega))) (.cons T0 (Ent.Le.of (by first | rfl | simp | (simp <;> omega))) .nil)))) ?_
  rintro i S2 hle2 h5
  refine sq ?_
  refine sq ?_
  refine rg ?_
  refine q (vMv rfl) rfl ?_
  refine q (vLt rfl rfl) rfl ?_
  refine nil ?_
  refine thN ?_
  refine cd rfl (fun hc => ?_) (fun hc => ?_) <;> try simp only [bls, beq_iff_eq, bne_iff_ne, Int.reduceToNat, List.length_map] at hc
  · skip
    refine sk ?_
    refine thN ?_
    refine sq ?_
    refine bk ?_
    refine dr (.take 0 (.take 1 (.take 2 (.take 3 (.take 4 (.take 5 (.take 6 (.take 7 (.take 8 (.take 9 (.take 10 (.take 11 (.take 12 (.take 13 (.take 14 (.take 15 (.take 16 (.take 17 (.take 18 (.take 19 (.take 20 (.take 21 (.take 22 (.take 23 (.take 24 (.take 25 (.take 26 (.take 27 (.take 28 (.take 29 (.take 30 (.last 31)))))))))))))))))))))))))))))))) wide (by decide +kernel) _ _ (.cons T0 (.cons T0 (.cons T0 (.cons T0 .nil)))) ?_
    refine pT rfl (vMv rfl) rfl ?_
    refine pT rfl (vMv rfl) rfl ?_
    refine pT rfl (vMv rfl) rfl ?_
    refine pT rfl (vMul rfl rfl (by first | omega | (simp only [Int.toNat_natCast, Int.reduceToNat, List.length_append, List.length_cons, List.length_nil, List.length_map, bid_len]; omega) | (simp <;> omega))) rfl ?_
    refine pT rfl (vIxS Tryz.underlying9 rfl rfl (by first | omega | (simp only [Int.toNat_natCast, Int.reduceToNat, List.length_append, List.length_cons, List.length_nil, List.length_map, bid_len]; omega) | (simp <;> omega))) rfl ?_
    refine pT rfl (tCvU32 Tryz.underlying75 Tryz.underlying5 rfl) rfl ?_
    refine pT rfl (tMulU32 (y := 16777216) rfl rfl) rfl ?_
    refine pT rfl (vMv rfl) rfl ?_
    refine pT rfl (vMv rfl) rfl ?_
    refine pT rfl (vMul rfl rfl (by first | omega | (simp only [Int.toNat_natCast, Int.reduceToNat, List.length_append, List.length_cons, List.length_nil, List.length_map, bid_len]; omega) | (simp <;> omega))) rfl ?_
    refine pT rfl (vAdd rfl rfl (by first | omega | (simp only [Int.toNat_natCast, Int.reduceToNat, List.length_append, List.length_cons, List.length_nil, List.length_map, bid_len]; omega) | (simp <;> omega))) rfl ?_
    refine pT rfl (vIxS Tryz.underlying9 rfl rfl (by first | omega | (simp only [Int.toNat_natCast, Int.reduceToNat, List.length_append, List.length_cons, List.length_nil, List.length_map, bid_len]; omega) | (simp <;> omega))) rfl ?_
    refine pT rfl (tCvU32 Tryz.underlying75 Tryz.underlying5 rfl) rfl ?_
    refine pT rfl (tMulU32 (y := 65536) rfl rfl) rfl ?_
    refine pT rfl (tAddU32 rfl rfl) rfl ?_
    refine pT rfl (vMv rfl) rfl ?_
    refine pT rfl (vMv rfl) rfl ?_
    refine pT rfl (vMul rfl rfl (by first | omega | (simp only [Int.toNat_natCast, Int.reduceToNat, List.length_append, List.length_cons, List.length_nil, List.length_map, bid_len]; omega) | (simp <;> omega))) rfl ?_
    refine pT rfl (vAdd rfl rfl (by first | omega | (simp only [Int.toNat_natCast, Int.reduceToNat, List.length_append, List.length_cons, List.length_nil, List.length_map, bid_len]; omega) | (simp <;> omega))) rfl ?_
    refine pT rfl (vIxS Tryz.underlying9 rfl rfl (by first | omega | (simp only [Int.toNat_natCast, Int.reduceToNat, List.length_append, List.length_cons, List.length_nil, List.length_map, bid_len]; omega) | (simp <;> omega))) rfl ?_
    refine pT rfl (tCvU32 Tryz.underlying75 Tryz.underlying5 rfl) rfl ?_
    refine pT rfl (tMulU32 (y := 256) rfl rfl) rfl ?_
    refine pT rfl (tAddU32 rfl rfl) rfl ?_
    refine pT rfl (vMv rfl) rfl ?_
    refine pT rfl (vMv rfl) rfl ?_
    refine pT rfl (vMul rfl rfl (by first | omega | (simp only [Int.toNat_natCast, Int.reduceToNat, List.length_append, List.length_cons, List.length_nil, List.length_map, bid_len]; omega) | (simp <;> omega))) rfl ?_
    refine pT rfl (vAdd rfl rfl (by first | omega | (simp only [Int.toNat_natCast, Int.reduceToNat, List.length_append, List.length_cons, List.length_nil, List.length_map, bid_len]; omega) | (simp <;> omega))) rfl ?_
    refine pT rfl (vIxS Tryz.underlying9 rfl rfl (by first | omega | (simp only [Int.toNat_natCast, Int.reduceToNat, List.length_append, List.length_cons, List.length_nil, List.length_map, bid_len]; omega) | (simp <;> omega))) rfl ?_
    refine pT rfl (tCvU32 Tryz.underlying75 Tryz.underlying5 rfl) rfl ?_
    refine pT rfl (tAddU32 rfl rfl) rfl ?_
    refine pT rfl (vIxA ar194 rfl rfl (by first | omega | (simp only [Int.toNat_natCast, Int.reduceToNat, List.length_append, List.length_cons, List.length_nil, List.length_map, bid_len]; omega) | (simp <;> omega))) rfl ?_
    refine pL ?_
    refine opL rfl rfl (storeI sz75 rfl rfl T3 .z (by first | omega | (simp only [Int.toNat_natCast, Int.reduceToNat, List.length_append, List.length_cons, List.length_nil, List.length_map, bid_len]; omega) | (simp <;> omega)) ?_)
    refine bkN ?_
    refine thN ?_
    refine rg ?_
    refine q (vMv rfl) rfl ?_
    refine q (vAdd rfl rfl (by first | omega | (simp only [Int.toNat_natCast, Int.reduceToNat, List.length_append, List.length_cons, List.length_nil, List.length_map, bid_len]; omega) | (simp <;> omega))) rfl ?_
    refine q (vAs rfl) rfl ?_
    refine nil ?_
    refine thN ?_
    have e2 : (sched t (i + 1)) = setW (sched t i) i (be4 t i) := by rw [sched, nextW, if_pos (by omega)]
    have e1 := encW_set (sched t i) i (be4 t i)
    have e3 : ((4 : Int) * (i : Int)).toNat = 4 * i := by omega
    have e4 : ((4 : Int) * (i : Int) + 1).toNat = 4 * i + 1 := by omega
    have e5 : ((4 : Int) * (i : Int) + 2).toNat = 4 * i + 2 := by omega
    have e6 : ((4 : Int) * (i : Int) + 3).toNat = 4 * i + 3 := by omega
    simp only [Int.toNat_natCast, Nat.mul_one, e3, e4, e5, e6]
    refine back (i + 1) (Le.refl _) ⟨by omega, by omega⟩ (.cons rfl (by first | rfl | (rw [e2]; exact congrArg (fun z => blk B7 194 [z]) e1)) (.cons rfl (by first | rfl | (rw [e2]; exact congrArg (fun z => blk B7 194 [z]) e1)) (.cons rfl (by first | rfl | (rw [e2]; exact congrArg (fun z => blk B7 194 [z]) e1)) (.cons rfl (by first | rfl | (rw [e2]; exact congrArg (fun z => blk B7 194 [z]) e1)) (.cons rfl (by first | rfl | (rw [e2]; exact congrArg (fun z => blk B7 194 [z]) e1)) (.cons rfl (by first | rfl | (rw [e2]; exact congrArg (fun z => blk B7 194 [z]) e1)) .nil)))))) (.cons T1 (Ent.Le.of (by first | rfl | (rw [e2]; exact congrArg (fun z => blk B7 194 [z]) e1))) (.cons T1 (Ent.Le.of (by first | rfl | (rw [e2]; exact congrArg (fun z => blk B7 194 [z]) e1))) (.cons T1 (Ent.Le.of (by first | rfl | (rw [e2]; exact congrArg (fun z => blk B7 194 [z]) e1))) (.cons T0 (Ent.Le.of (by first | rfl | (rw [e2]; exact congrArg (fun z => blk B7 194 [z]) e1))) .nil))))
  · skip
    obtain rfl : i = 16 := by omega
    refine xt ?_
    refine thX ?_
    refine thX ?_
    refine bkX ?_
    refine thN ?_
    refine sq ?_
    refine sq ?_
    refine rg ?_
    refine q (vAs rfl) rfl ?_
    refine nil ?_
    refine thN ?_
    refine bk ?_
    refine loop (ι := Nat) (fun (i : Nat) => [(1, str t), (9, .int .i64 (i : Int)), (3, .pointer (some ⟨B3, 0, none⟩)), (5, .pointer (some ⟨B5, 0, none⟩)), (6, .pointer (some ⟨B6, 0, none⟩)), (7, .pointer (some ⟨B7, 0, none⟩))]) (fun (i : Nat) => [blk B3 193 [encW h], blk B5 194 [encW k], blk B6 193 [encW (zws 8)], blk B7 194 [encW (sched t i)]]) (fun (i : Nat) => fun S' => 16 ≤ i ∧ i ≤ 64) (fun (i : Nat) => 64 - i) 16 ⟨Nat.le_refl _, by decide⟩ (.cons rfl (by first | rfl | simp | (simp <;> omega)) (.cons rfl (by first | rfl | simp | (simp <;> omega)) (.cons rfl (by first | rfl | simp | (simp <;> omega)) (.cons rfl (by first | rfl | simp | (simp <;> omega)) (.cons rfl (by first | rfl | simp | (simp <;> omega)) (.cons rfl (by first | rfl | simp | (simp <;> omega)) .nil)))))) (.cons T0 (Ent.Le.of (by first | rfl | simp | (simp <;> omega))) (.cons T0 (Ent.Le.of (by first | rfl | simp | (simp <;> omega))) (.cons T0 (Ent.Le.of (by first | rfl | simp | (simp <;> omega))) (.cons T0 (Ent.Le.of (by first | rfl | simp | (simp <;> omega))) .nil)))) ?_
    rintro i2 S3 hle3 ⟨h6, h7⟩
    refine sq ?_
    refine sq ?_
    refine rg ?_
    refine q (vMv rfl) rfl ?_
    refine q (vLt rfl rfl) rfl ?_
    refine nil ?_
    refine thN ?_
    refine cd rfl (fun hc2 => ?_) (fun hc2 => ?_) <;> try simp only [bls, beq_iff_eq, bne_iff_ne, Int.reduceToNat, List.length_map] at hc2
    · skip
      refine sk ?_
      refine thN ?_
      refine sq ?_
      refine bk ?_
      refine sq ?_
      refine dr (.take 0 (.take 1 (.take 2 (.take 3 (.take 5 (.take 6 (.take 7 (.take 8 (.take 11 (.take 12 (.take 13 (.take 14 (.take 15 (.one 4 (.one 9 (.take 10 (.take 16 (.take 17 .done)))))))))))))))))) wide (by decide +kernel) _ _ (.cons T0 (.cons T0 (.cons T0 (.cons T0 .nil)))) ?_
      refine pT rfl (vMv rfl) rfl ?_
      refine pT rfl (vSub rfl rfl (by first | omega | (simp only [Int.toNat_natCast, Int.reduceToNat, List.length_append, List.length_cons, List.length_nil, List.length_map, bid_len]; omega) | (simp <;> omega))) rfl ?_
      refine pT rfl (vIxA ar194 rfl rfl (by first | omega | (simp only [Int.toNat_natCast, Int.reduceToNat, List.length_append, List.length_cons, List.length_nil, List.length_map, bid_len]; omega) | (simp <;> omega))) rfl ?_
      refine pT rfl (vLd sc75 rfl (Rd.ix (rB1 T3 (.z (.c .n))) (gm (by first | omega | (simp only [Int.toNat_natCast, Int.reduceToNat, List.length_append, List.length_cons, List.length_nil, List.length_map, bid_len]; omega) | (simp <;> omega))))) rfl ?_
      refine pT rfl (vMv rfl) rfl ?_
      refine pT rfl (vSub rfl rfl (by first | omega | (simp only [Int.toNat_natCast, Int.reduceToNat, List.length_append, List.length_cons, List.length_nil, List.length_map, bid_len]; omega) | (simp <;> omega))) rfl ?_
      refine pT rfl (vIxA ar194 rfl rfl (by first | omega | (simp only [Int.toNat_natCast, Int.reduceToNat, List.length_append, List.length_cons, List.length_nil, List.length_map, bid_len]; omega) | (simp <;> omega))) rfl ?_
      refine pT rfl (vLd sc75 rfl (Rd.ix (rB1 T3 (.z (.c .n))) (gm (by first | omega | (simp only [Int.toNat_natCast, Int.reduceToNat, List.length_append, List.length_cons, List.length_nil, List.length_map, bid_len]; omega) | (simp <;> omega))))) rfl ?_
      refine pT rfl (vMv rfl) rfl ?_
      refine pT rfl (vSub rfl rfl (by first | omega | (simp only [Int.toNat_natCast, Int.reduceToNat, List.length_append, List.length_cons, List.length_nil, List.length_map, bid_len]; omega) | (simp <;> omega))) rfl ?_
      refine pT rfl (vIxA ar194 rfl rfl (by first | omega | (simp only [Int.toNat_natCast, Int.reduceToNat, List.length_append, List.length_cons, List.length_nil, List.length_map, bid_len]; omega) | (simp <;> omega))) rfl ?_
      refine pT rfl (vLd sc75 rfl (Rd.ix (rB1 T3 (.z (.c .n))) (gm (by first | omega | (simp only [Int.toNat_natCast, Int.reduceToNat, List.length_append, List.length_cons, List.length_nil, List.length_map, bid_len]; omega) | (simp <;> omega))))) rfl ?_
      refine pT rfl (tShrU32 rfl rfl (by first | omega | (simp only [Int.toNat_natCast, Int.reduceToNat, List.length_append, List.length_cons, List.length_nil, List.length_map, bid_len]; omega) | (simp <;> omega))) rfl ?_
      refine pO ?_
      refine opL rfl rfl (callP cf149 (turn_spec' _ _ (by decide) _) rfl .nil rfl ?_)
      refine pK (Le.refl _) (.cons T0 (.cons T0 (.cons T0 (.cons T0 .nil)))) ?_
      refine pO ?_
      refine opL rfl rfl (callP cf149 (turn_spec' _ _ (by decide) _) rfl .nil rfl ?_)
      refine pK (Le.refl _) (.cons T0 (.cons T0 (.cons T0 (.cons T0 .nil)))) ?_
      refine pT rfl (tXorU32 rfl rfl) rfl ?_
      refine pT rfl (tXorU32 rfl rfl) rfl ?_
      refine pT rfl (vAs rfl) rfl ?_
      refine pDone ?_
      refine thN ?_
      refine sq ?_
      refine dr (.take 0 (.take 1 (.take 2 (.take 3 (.take 5 (.take 6 (.take 7 (.take 8 (.take 11 (.take 12 (.take 13 (.take 14 (.take 15 (.one 4 (.one 9 (.take 10 (.take 16 (.take 17 .done)))))))))))))))))) wide (by decide +kernel) _ _ (.cons T0 (.cons T0 (.cons T0 (.cons T0 .nil)))) ?_
      refine pT rfl (vMv rfl) rfl ?_
      refine pT rfl (vSub rfl rfl (by first | omega | (simp only [Int.toNat_natCast, Int.reduceToNat, List.length_append, List.length_cons, List.length_nil, List.length_map, bid_len]; omega) | (simp <;> omega))) rfl ?_
      refine pT rfl (vIxA ar194 rfl rfl (by first | omega | (simp only [Int.toNat_natCast, Int.reduceToNat, List.length_append, List.length_cons, List.length_nil, List.length_map, bid_len]; omega) | (simp <;> omega))) rfl ?_
      refine pT rfl (vLd sc75 rfl (Rd.ix (rB1 T3 (.z (.c .n))) (gm (by first | omega | (simp only [Int.toNat_natCast, Int.reduceToNat, List.length_append, List.length_cons, List.length_nil, List.length_map, bid_len]; omega) | (simp <;> omega))))) rfl ?_
      refine pT rfl (vMv rfl) rfl ?_
      refine pT rfl (vSub rfl rfl (by first | omega | (simp only [Int.toNat_natCast, Int.reduceToNat, List.length_append, List.length_cons, List.length_nil, List.length_map, bid_len]; omega) | (simp <;> omega))) rfl ?_
      refine pT rfl (vIxA ar194 rfl rfl (by first | omega | (simp only [Int.toNat_natCast, Int.reduceToNat, List.length_append, List.length_cons, List.length_nil, List.length_map, bid_len]; omega) | (simp <;> omega))) rfl ?_
      refine pT rfl (vLd sc75 rfl (Rd.ix (rB1 T3 (.z (.c .n))) (gm (by first | omega | (simp only [Int.toNat_natCast, Int.reduceToNat, List.length_append, List.length_cons, List.length_nil, List.length_map, bid_len]; omega) | (simp <;> omega))))) rfl ?_
      refine pT rfl (vMv rfl) rfl ?_
      refine pT rfl (vSub rfl rfl (by first | omega | (simp only [Int.toNat_natCast, Int.reduceToNat, List.length_append, List.length_cons, List.length_nil, List.length_map, bid_len]; omega) | (simp <;> omega))) rfl ?_
      refine pT rfl (vIxA ar194 rfl rfl (by first | omega | (simp only [Int.toNat_natCast, Int.reduceToNat, List.length_append, List.length_cons, List.length_nil, List.length_map, bid_len]; omega) | (simp <;> omega))) rfl ?_
      refine pT rfl (vLd sc75 rfl (Rd.ix (rB1 T3 (.z (.c .n))) (gm (by first | omega | (simp only [Int.toNat_natCast, Int.reduceToNat, List.length_append, List.length_cons, List.length_nil, List.length_map, bid_len]; omega) | (simp <;> omega))))) rfl ?_
      refine pT rfl (tShrU32 rfl rfl (by first | omega | (simp only [Int.toNat_natCast, Int.reduceToNat, List.length_append, List.length_cons, List.length_nil, List.length_map, bid_len]; omega) | (simp <;> omega))) rfl ?_
      refine pO ?_
      refine opL rfl rfl (callP cf149 (turn_spec' _ _ (by decide) _) rfl .nil rfl ?_)
      refine pK (Le.refl _) (.cons T0 (.cons T0 (.cons T0 (.cons T0 .nil)))) ?_
      refine pO ?_
      refine opL rfl rfl (callP cf149 (turn_spec' _ _ (by decide) _) rfl .nil rfl ?_)
      refine pK (Le.refl _) (.cons T0 (.cons T0 (.cons T0 (.cons T0 .nil)))) ?_
      refine pT rfl (tXorU32 rfl rfl) rfl ?_
      refine pT rfl (tXorU32 rfl rfl) rfl ?_
      refine pT rfl (vAs rfl) rfl ?_
      refine pDone ?_
      refine thN ?_
      refine dr (.take 0 (.take 1 (.take 2 (.take 3 (.take 4 (.take 5 (.take 6 (.take 7 (.take 8 (.take 9 (.take 10 (.take 11 (.take 12 (.take 13 (.take 14 (.last 15)))))))))))))))) wide (by decide +kernel) _ _ (.cons T0 (.cons T0 (.cons T0 (.cons T0 .nil)))) ?_
      refine pT rfl (vMv rfl) rfl ?_
      refine pT rfl (vMv rfl) rfl ?_
      refine pT rfl (vSub rfl rfl (by first | omega | (simp only [Int.toNat_natCast, Int.reduceToNat, List.length_append, List.length_cons, List.length_nil, List.length_map, bid_len]; omega) | (simp <;> omega))) rfl ?_
      refine pT rfl (vIxA ar194 rfl rfl (by first | omega | (simp only [Int.toNat_natCast, Int.reduceToNat, List.length_append, List.length_cons, List.length_nil, List.length_map, bid_len]; omega) | (simp <;> omega))) rfl ?_
      refine pT rfl (vLd sc75 rfl (Rd.ix (rB1 T3 (.z (.c .n))) (gm (by first | omega | (simp only [Int.toNat_natCast, Int.reduceToNat, List.length_append, List.length_cons, List.length_nil, List.length_map, bid_len]; omega) | (simp <;> omega))))) rfl ?_
      refine pT rfl (vMv rfl) rfl ?_
      refine pT rfl (tAddU32 rfl rfl) rfl ?_
      refine pT rfl (vMv rfl) rfl ?_
      refine pT rfl (vSub rfl rfl (by first | omega | (simp only [Int.toNat_natCast, Int.reduceToNat, List.length_append, List.length_cons, List.length_nil, List.length_map, bid_len]; omega) | (simp <;> omega))) rfl ?_
      refine pT rfl (vIxA ar194 rfl rfl (by first | omega | (simp only [Int.toNat_natCast, Int.reduceToNat, List.length_append, List.length_cons, List.length_nil, List.length_map, bid_len]; omega) | (simp <;> omega))) rfl ?_
      refine pT rfl (vLd sc75 rfl (Rd.ix (rB1 T3 (.z (.c .n))) (gm (by first | omega | (simp only [Int.toNat_natCast, Int.reduceToNat, List.length_append, List.length_cons, List.length_nil, List.length_map, bid_len]; omega) | (simp <;> omega))))) rfl ?_
      refine pT rfl (tAddU32 rfl rfl) rfl ?_
      refine pT rfl (vMv rfl) rfl ?_
      refine pT rfl (tAddU32 rfl rfl) rfl ?_
      refine pT rfl (vIxA ar194 rfl rfl (by first | omega | (simp only [Int.toNat_natCast, Int.reduceToNat, List.length_append, List.length_cons, List.length_nil, List.length_map, bid_len]; omega) | (simp <;> omega))) rfl ?_
      refine pL ?_
      refine opL rfl rfl (storeI sz75 rfl rfl T3 .z (by first | omega | (simp only [Int.toNat_natCast, Int.reduceToNat, List.length_append, List.length_cons, List.length_nil, List.length_map, bid_len]; omega) | (simp <;> omega)) ?_)
      refine bkN ?_
      refine thN ?_
      refine rg ?_
      refine q (vMv rfl) rfl ?_
      refine q (vAdd rfl rfl (by first | omega | (simp only [Int.toNat_natCast, Int.reduceToNat, List.length_append, List.length_cons, List.length_nil, List.length_map, bid_len]; omega) | (simp <;> omega))) rfl ?_
      refine q (vAs rfl) rfl ?_
      refine nil ?_
      refine thN ?_
      have ed : (default : UInt32) = 0 := rfl
      have n1 : ((i2 : Int) - 16).toNat = i2 - 16 := by omega
      have n2 : ((i2 : Int) - 15).toNat = i2 - 15 := by omega
      have n3 : ((i2 : Int) - 7).toNat = i2 - 7 := by omega
      have n4 : ((i2 : Int) - 2).toNat = i2 - 2 := by omega
      have e0 : nextW t (sched t i2).val i2 = (sched t i2).val.getD (i2 - 16) 0 + sg0 ((sched t i2).val.getD (i2 - 15) 0) + (sched t i2).val.getD (i2 - 7) 0 + sg1 ((sched t i2).val.getD (i2 - 2) 0) := by rw [nextW, if_neg (by omega)]
      have e2 : (sched t (i2 + 1)) = setW (sched t i2) i2 (nextW t (sched t i2).val i2) := rfl
      have e1 := encW_set (sched t i2) i2 (nextW t (sched t i2).val i2)
      rw [← e2, e0] at e1
      simp only [n1, n2, n3, n4, ed, Int.toNat_natCast, Nat.mul_one]
      refine back (i2 + 1) (Le.refl _) ⟨⟨by omega, by omega⟩, by omega⟩ (.cons rfl (by first | rfl | exact congrArg (fun z => blk B7 194 [z]) e1) (.cons rfl (by first | rfl | exact congrArg (fun z => blk B7 194 [z]) e1) (.cons rfl (by first | rfl | exact congrArg (fun z => blk B7 194 [z]) e1) (.cons rfl (by first | rfl | exact congrArg (fun z => blk B7 194 [z]) e1) (.cons rfl (by first | rfl | exact congrArg (fun z => blk B7 194 [z]) e1) (.cons rfl (by first | rfl | exact congrArg (fun z => blk B7 194 [z]) e1) .nil)))))) (.cons T1 (Ent.Le.of (by first | rfl | exact congrArg (fun z => blk B7 194 [z]) e1)) (.cons T1 (Ent.Le.of (by first | rfl | exact congrArg (fun z => blk B7 194 [z]) e1)) (.cons T1 (Ent.Le.of (by first | rfl | exact congrArg (fun z => blk B7 194 [z]) e1)) (.cons T0 (Ent.Le.of (by first | rfl | exact congrArg (fun z => blk B7 194 [z]) e1)) .nil))))
    · skip
      obtain rfl : i2 = 64 := by omega
      refine xt ?_
      refine thX ?_
      refine thX ?_
      refine bkX ?_
      refine thN ?_
      refine sq ?_
      refine rg ?_
      refine q (vLdA ag193 rfl (rB T0 (.z (.c .n))) (by simp)) rfl ?_
      refine l rfl (alloc ze193 rfl ?_)
      intro B12
      refine l rfl (store sz193 rfl rfl T0 (by simp) (.z (.c inferInstance inferInstance .n)) ?_)
      refine nil ?_
      refine thN ?_
      refine sq ?_
      refine sq ?_
      refine rg ?_
      refine q (vAs rfl) rfl ?_
      refine nil ?_
      refine thN ?_
      refine bk ?_
      refine loop (ι := Nat) (fun (j : Nat) => [(3, .pointer (some ⟨B3, 0, none⟩)), (5, .pointer (some ⟨B5, 0, none⟩)), (6, .pointer (some ⟨B6, 0, none⟩)), (7, .pointer (some ⟨B7, 0, none⟩)), (12, .pointer (some ⟨B12, 0, none⟩)), (13, .int .i64 (j : Int))]) (fun (j : Nat) => [blk B3 193 [encW h], blk B5 194 [encW k], blk B6 193 [encW (zws 8)], blk B7 194 [encW (sched t 64)], blk B12 193 [encW (rounds h k (sched t 64) j)]]) (fun (j : Nat) => fun S' => j ≤ 64) (fun (j : Nat) => 64 - j) 0 (Nat.zero_le _) (.cons rfl (by first | rfl | simp | (simp <;> omega)) (.cons rfl (by first | rfl | simp | (simp <;> omega)) (.cons rfl (by first | rfl | simp | (simp <;> omega)) (.cons rfl (by first | rfl | simp | (simp <;> omega)) (.cons rfl (by first | rfl | simp | (simp <;> omega)) (.cons rfl (by first | rfl | simp | (simp <;> omega)) .nil)))))) (.cons T1 (Ent.Le.of (by first | rfl | simp | (simp <;> omega))) (.cons T1 (Ent.Le.of (by first | rfl | simp | (simp <;> omega))) (.cons T1 (Ent.Le.of (by first | rfl | simp | (simp <;> omega))) (.cons T1 (Ent.Le.of (by first | rfl | simp | (simp <;> omega))) (.cons T0 (Ent.Le.of (by first | rfl | simp | (simp <;> omega))) .nil))))) ?_
      rintro j S4 hle4 h8
      refine sq ?_
      refine sq ?_
      refine rg ?_
      refine q (vMv rfl) rfl ?_
      refine q (vLt rfl rfl) rfl ?_
      refine nil ?_
      refine thN ?_
      refine cd rfl (fun hc3 => ?_) (fun hc3 => ?_) <;> try simp only [bls, beq_iff_eq, bne_iff_ne, Int.reduceToNat, List.length_map] at hc3
      · skip
        generalize hA : rounds h k (sched t 64) j = A
        generalize hW : sched t 64 = W
        refine sk ?_
        refine thN ?_
        refine sq ?_
        refine bk ?_
        refine sq ?_
        refine dr (.take 0 (.take 1 (.take 2 (.take 3 (.take 5 (.take 6 (.take 9 (.take 10 (.take 14 (.take 15 (.take 16 (.take 17 (.take 18 (.take 19 (.take 20 (.take 21 (.take 22 (.take 23 (.take 24 (.take 25 (.take 27 (.take 28 (.take 29 (.take 31 (.take 32 (.take 33 (.one 4 (.one 7 (.take 8 (.one 11 (.take 12 (.take 13 (.take 26 (.take 30 (.take 34 (.take 35 .done)))))))))))))))))))))))))))))))))))) wide (by decide +kernel) _ _ (.cons T0 (.cons T0 (.cons T0 (.cons T0 (.cons T0 .nil))))) ?_
        refine pT rfl (vIxA ar193 rfl rfl (by first | omega | (simp only [Int.toNat_natCast, Int.reduceToNat, List.length_append, List.length_cons, List.length_nil, List.length_map, bid_len]; omega) | (simp <;> omega))) rfl ?_
        refine pT rfl (vLd sc75 rfl (Rd.ix (rB1 T4 (.z (.c .n))) (gm (by first | omega | (simp only [Int.toNat_natCast, Int.reduceToNat, List.length_append, List.length_cons, List.length_nil, List.length_map, bid_len]; omega) | (simp <;> omega))))) rfl ?_
        refine pT rfl (vIxA ar193 rfl rfl (by first | omega | (simp only [Int.toNat_natCast, Int.reduceToNat, List.length_append, List.length_cons, List.length_nil, List.length_map, bid_len]; omega) | (simp <;> omega))) rfl ?_
        refine pT rfl (vLd sc75 rfl (Rd.ix (rB1 T4 (.z (.c .n))) (gm (by first | omega | (simp only [Int.toNat_natCast, Int.reduceToNat, List.length_append, List.length_cons, List.length_nil, List.length_map, bid_len]; omega) | (simp <;> omega))))) rfl ?_
        refine pT rfl (vIxA ar193 rfl rfl (by first | omega | (simp only [Int.toNat_natCast, Int.reduceToNat, List.length_append, List.length_cons, List.length_nil, List.length_map, bid_len]; omega) | (simp <;> omega))) rfl ?_
        refine pT rfl (vLd sc75 rfl (Rd.ix (rB1 T4 (.z (.c .n))) (gm (by first | omega | (simp only [Int.toNat_natCast, Int.reduceToNat, List.length_append, List.length_cons, List.length_nil, List.length_map, bid_len]; omega) | (simp <;> omega))))) rfl ?_
        refine pT rfl (vIxA ar193 rfl rfl (by first | omega | (simp only [Int.toNat_natCast, Int.reduceToNat, List.length_append, List.length_cons, List.length_nil, List.length_map, bid_len]; omega) | (simp <;> omega))) rfl ?_
        refine pT rfl (vLd sc75 rfl (Rd.ix (rB1 T4 (.z (.c .n))) (gm (by first | omega | (simp only [Int.toNat_natCast, Int.reduceToNat, List.length_append, List.length_cons, List.length_nil, List.length_map, bid_len]; omega) | (simp <;> omega))))) rfl ?_
        refine pT rfl (vIxA ar193 rfl rfl (by first | omega | (simp only [Int.toNat_natCast, Int.reduceToNat, List.length_append, List.length_cons, List.length_nil, List.length_map, bid_len]; omega) | (simp <;> omega))) rfl ?_
        refine pT rfl (vLd sc75 rfl (Rd.ix (rB1 T4 (.z (.c .n))) (gm (by first | omega | (simp only [Int.toNat_natCast, Int.reduceToNat, List.length_append, List.length_cons, List.length_nil, List.length_map, bid_len]; omega) | (simp <;> omega))))) rfl ?_
        refine pT rfl (vIxA ar193 rfl rfl (by first | omega | (simp only [Int.toNat_natCast, Int.reduceToNat, List.length_append, List.length_cons, List.length_nil, List.length_map, bid_len]; omega) | (simp <;> omega))) rfl ?_
        refine pT rfl (vLd sc75 rfl (Rd.ix (rB1 T4 (.z (.c .n))) (gm (by first | omega | (simp only [Int.toNat_natCast, Int.reduceToNat, List.length_append, List.length_cons, List.length_nil, List.length_map, bid_len]; omega) | (simp <;> omega))))) rfl ?_
        refine pT rfl (tAndU32 rfl rfl) rfl ?_
        refine pT rfl (vIxA ar193 rfl rfl (by first | omega | (simp only [Int.toNat_natCast, Int.reduceToNat, List.length_append, List.length_cons, List.length_nil, List.length_map, bid_len]; omega) | (simp <;> omega))) rfl ?_
        refine pT rfl (vLd sc75 rfl (Rd.ix (rB1 T4 (.z (.c .n))) (gm (by first | omega | (simp only [Int.toNat_natCast, Int.reduceToNat, List.length_append, List.length_cons, List.length_nil, List.length_map, bid_len]; omega) | (simp <;> omega))))) rfl ?_
        refine pT rfl (tNotU32 rfl) rfl ?_
        refine pT rfl (vIxA ar193 rfl rfl (by first | omega | (simp only [Int.toNat_natCast, Int.reduceToNat, List.length_append, List.length_cons, List.length_nil, List.length_map, bid_len]; omega) | (simp <;> omega))) rfl ?_
        refine pT rfl (vLd sc75 rfl (Rd.ix (rB1 T4 (.z (.c .n))) (gm (by first | omega | (simp only [Int.toNat_natCast, Int.reduceToNat, List.length_append, List.length_cons, List.length_nil, List.length_map, bid_len]; omega) | (simp <;> omega))))) rfl ?_
        refine pT rfl (tAndU32 rfl rfl) rfl ?_
        refine pT rfl (tXorU32 rfl rfl) rfl ?_
        refine pT rfl (vMv rfl) rfl ?_
        refine pT rfl (vIxA ar194 rfl rfl (by first | omega | (simp only [Int.toNat_natCast, Int.reduceToNat, List.length_append, List.length_cons, List.length_nil, List.length_map, bid_len]; omega) | (simp <;> omega))) rfl ?_
        refine pT rfl (vLd sc75 rfl (Rd.ix (rB1 T1 (.z (.c .n))) (gm (by first | omega | (simp only [Int.toNat_natCast, Int.reduceToNat, List.length_append, List.length_cons, List.length_nil, List.length_map, bid_len]; omega) | (simp <;> omega))))) rfl ?_
        refine pT rfl (vMv rfl) rfl ?_
        refine pT rfl (vIxA ar194 rfl rfl (by first | omega | (simp only [Int.toNat_natCast, Int.reduceToNat, List.length_append, List.length_cons, List.length_nil, List.length_map, bid_len]; omega) | (simp <;> omega))) rfl ?_
        refine pT rfl (vLd sc75 rfl (Rd.ix (rB1 T3 (.z (.c .n))) (gm (by first | omega | (simp only [Int.toNat_natCast, Int.reduceToNat, List.length_append, List.length_cons, List.length_nil, List.length_map, bid_len]; omega) | (simp <;> omega))))) rfl ?_
        refine pO ?_
        refine opL rfl rfl (callP cf149 (turn_spec' _ _ (by decide) _) rfl .nil rfl ?_)
        refine pK (Le.refl _) (.cons T0 (.cons T0 (.cons T0 (.cons T0 (.cons T0 .nil))))) ?_
        refine pO ?_
        refine opL rfl rfl (callP cf149 (turn_spec' _ _ (by decide) _) rfl .nil rfl ?_)
        refine pK (Le.refl _) (.cons T0 (.cons T0 (.cons T0 (.cons T0 (.cons T0 .nil))))) ?_
        refine pT rfl (tXorU32 rfl rfl) rfl ?_
        refine pO ?_
        refine opL rfl rfl (callP cf149 (turn_spec' _ _ (by decide) _) rfl .nil rfl ?_)
        refine pK (Le.refl _) (.cons T0 (.cons T0 (.cons T0 (.cons T0 (.cons T0 .nil))))) ?_
        refine pT rfl (tXorU32 rfl rfl) rfl ?_
        refine pT rfl (tAddU32 rfl rfl) rfl ?_
        refine pT rfl (tAddU32 rfl rfl) rfl ?_
        refine pT rfl (tAddU32 rfl rfl) rfl ?_
        refine pT rfl (tAddU32 rfl rfl) rfl ?_
        refine pT rfl (vAs rfl) rfl ?_
        refine pDone ?_
        refine thN ?_
        refine sq ?_
        refine dr (.take 0 (.take 1 (.take 3 (.take 4 (.take 7 (.take 8 (.take 11 (.take 12 (.take 13 (.take 14 (.take 15 (.take 16 (.take 17 (.take 18 (.take 19 (.take 20 (.take 21 (.take 22 (.take 23 (.take 24 (.take 25 (.take 26 (.take 27 (.one 2 (.one 5 (.take 6 (.one 9 (.take 10 (.take 28 (.take 29 .done)))))))))))))))))))))))))))))) wide (by decide +kernel) _ _ (.cons T0 (.cons T0 (.cons T0 (.cons T0 (.cons T0 .nil))))) ?_
        refine pT rfl (vIxA ar193 rfl rfl (by first | omega | (simp only [Int.toNat_natCast, Int.reduceToNat, List.length_append, List.length_cons, List.length_nil, List.length_map, bid_len]; omega) | (simp <;> omega))) rfl ?_
        refine pT rfl (vLd sc75 rfl (Rd.ix (rB1 T4 (.z (.c .n))) (gm (by first | omega | (simp only [Int.toNat_natCast, Int.reduceToNat, List.length_append, List.length_cons, List.length_nil, List.length_map, bid_len]; omega) | (simp <;> omega))))) rfl ?_
        refine pT rfl (vIxA ar193 rfl rfl (by first | omega | (simp only [Int.toNat_natCast, Int.reduceToNat, List.length_append, List.length_cons, List.length_nil, List.length_map, bid_len]; omega) | (simp <;> omega))) rfl ?_
        refine pT rfl (vLd sc75 rfl (Rd.ix (rB1 T4 (.z (.c .n))) (gm (by first | omega | (simp only [Int.toNat_natCast, Int.reduceToNat, List.length_append, List.length_cons, List.length_nil, List.length_map, bid_len]; omega) | (simp <;> omega))))) rfl ?_
        refine pT rfl (vIxA ar193 rfl rfl (by first | omega | (simp only [Int.toNat_natCast, Int.reduceToNat, List.length_append, List.length_cons, List.length_nil, List.length_map, bid_len]; omega) | (simp <;> omega))) rfl ?_
        refine pT rfl (vLd sc75 rfl (Rd.ix (rB1 T4 (.z (.c .n))) (gm (by first | omega | (simp only [Int.toNat_natCast, Int.reduceToNat, List.length_append, List.length_cons, List.length_nil, List.length_map, bid_len]; omega) | (simp <;> omega))))) rfl ?_
        refine pT rfl (vIxA ar193 rfl rfl (by first | omega | (simp only [Int.toNat_natCast, Int.reduceToNat, List.length_append, List.length_cons, List.length_nil, List.length_map, bid_len]; omega) | (simp <;> omega))) rfl ?_
        refine pT rfl (vLd sc75 rfl (Rd.ix (rB1 T4 (.z (.c .n))) (gm (by first | omega | (simp only [Int.toNat_natCast, Int.reduceToNat, List.length_append, List.length_cons, List.length_nil, List.length_map, bid_len]; omega) | (simp <;> omega))))) rfl ?_
        refine pT rfl (vIxA ar193 rfl rfl (by first | omega | (simp only [Int.toNat_natCast, Int.reduceToNat, List.length_append, List.length_cons, List.length_nil, List.length_map, bid_len]; omega) | (simp <;> omega))) rfl ?_
        refine pT rfl (vLd sc75 rfl (Rd.ix (rB1 T4 (.z (.c .n))) (gm (by first | omega | (simp only [Int.toNat_natCast, Int.reduceToNat, List.length_append, List.length_cons, List.length_nil, List.length_map, bid_len]; omega) | (simp <;> omega))))) rfl ?_
        refine pT rfl (tAndU32 rfl rfl) rfl ?_
        refine pT rfl (vIxA ar193 rfl rfl (by first | omega | (simp only [Int.toNat_natCast, Int.reduceToNat, List.length_append, List.length_cons, List.length_nil, List.length_map, bid_len]; omega) | (simp <;> omega))) rfl ?_
        refine pT rfl (vLd sc75 rfl (Rd.ix (rB1 T4 (.z (.c .n))) (gm (by first | omega | (simp only [Int.toNat_natCast, Int.reduceToNat, List.length_append, List.length_cons, List.length_nil, List.length_map, bid_len]; omega) | (simp <;> omega))))) rfl ?_
        refine pT rfl (vIxA ar193 rfl rfl (by first | omega | (simp only [Int.toNat_natCast, Int.reduceToNat, List.length_append, List.length_cons, List.length_nil, List.length_map, bid_len]; omega) | (simp <;> omega))) rfl ?_
        refine pT rfl (vLd sc75 rfl (Rd.ix (rB1 T4 (.z (.c .n))) (gm (by first | omega | (simp only [Int.toNat_natCast, Int.reduceToNat, List.length_append, List.length_cons, List.length_nil, List.length_map, bid_len]; omega) | (simp <;> omega))))) rfl ?_
        refine pT rfl (tAndU32 rfl rfl) rfl ?_
        refine pT rfl (tXorU32 rfl rfl) rfl ?_
        refine pT rfl (vIxA ar193 rfl rfl (by first | omega | (simp only [Int.toNat_natCast, Int.reduceToNat, List.length_append, List.length_cons, List.length_nil, List.length_map, bid_len]; omega) | (simp <;> omega))) rfl ?_
        refine pT rfl (vLd sc75 rfl (Rd.ix (rB1 T4 (.z (.c .n))) (gm (by first | omega | (simp only [Int.toNat_natCast, Int.reduceToNat, List.length_append, List.length_cons, List.length_nil, List.length_map, bid_len]; omega) | (simp <;> omega))))) rfl ?_
        refine pT rfl (vIxA ar193 rfl rfl (by first | omega | (simp only [Int.toNat_natCast, Int.reduceToNat, List.length_append, List.length_cons, List.length_nil, List.length_map, bid_len]; omega) | (simp <;> omega))) rfl ?_
        refine pT rfl (vLd sc75 rfl (Rd.ix (rB1 T4 (.z (.c .n))) (gm (by first | omega | (simp only [Int.toNat_natCast, Int.reduceToNat, List.length_append, List.length_cons, List.length_nil, List.length_map, bid_len]; omega) | (simp <;> omega))))) rfl ?_
        refine pT rfl (tAndU32 rfl rfl) rfl ?_
        refine pT rfl (tXorU32 rfl rfl) rfl ?_
        refine pO ?_
        refine opL rfl rfl (callP cf149 (turn_spec' _ _ (by decide) _) rfl .nil rfl ?_)
        refine pK (Le.refl _) (.cons T0 (.cons T0 (.cons T0 (.cons T0 (.cons T0 .nil))))) ?_
        refine pO ?_
        refine opL rfl rfl (callP cf149 (turn_spec' _ _ (by decide) _) rfl .nil rfl ?_)
        refine pK (Le.refl _) (.cons T0 (.cons T0 (.cons T0 (.cons T0 (.cons T0 .nil))))) ?_
        refine pT rfl (tXorU32 rfl rfl) rfl ?_
        refine pO ?_
        refine opL rfl rfl (callP cf149 (turn_spec' _ _ (by decide) _) rfl .nil rfl ?_)
        refine pK (Le.refl _) (.cons T0 (.cons T0 (.cons T0 (.cons T0 (.cons T0 .nil))))) ?_
        refine pT rfl (tXorU32 rfl rfl) rfl ?_
        refine pT rfl (tAddU32 rfl rfl) rfl ?_
        refine pT rfl (vAs rfl) rfl ?_
        refine pDone ?_
        refine thN ?_
        refine rg ?_
        refine q (vMv rfl) rfl ?_
        refine q (vMv rfl) rfl ?_
        refine q (tAddU32 rfl rfl) rfl ?_
        refine q (vIxA ar193 rfl rfl (by first | omega | (simp only [Int.toNat_natCast, Int.reduceToNat, List.length_append, List.length_cons, List.length_nil, List.length_map, bid_len]; omega) | (simp <;> omega))) rfl ?_
        refine q (vLd sc75 rfl (Rd.ix (rB1 T4 (.z (.c .n))) (gm (by first | omega | (simp only [Int.toNat_natCast, Int.reduceToNat, List.length_append, List.length_cons, List.length_nil, List.length_map, bid_len]; omega) | (simp <;> omega))))) rfl ?_
        refine q (vIxA ar193 rfl rfl (by first | omega | (simp only [Int.toNat_natCast, Int.reduceToNat, List.length_append, List.length_cons, List.length_nil, List.length_map, bid_len]; omega) | (simp <;> omega))) rfl ?_
        refine q (vLd sc75 rfl (Rd.ix (rB1 T4 (.z (.c .n))) (gm (by first | omega | (simp only [Int.toNat_natCast, Int.reduceToNat, List.length_append, List.length_cons, List.length_nil, List.length_map, bid_len]; omega) | (simp <;> omega))))) rfl ?_
        refine q (vIxA ar193 rfl rfl (by first | omega | (simp only [Int.toNat_natCast, Int.reduceToNat, List.length_append, List.length_cons, List.length_nil, List.length_map, bid_len]; omega) | (simp <;> omega))) rfl ?_
        refine q (vLd sc75 rfl (Rd.ix (rB1 T4 (.z (.c .n))) (gm (by first | omega | (simp only [Int.toNat_natCast, Int.reduceToNat, List.length_append, List.length_cons, List.length_nil, List.length_map, bid_len]; omega) | (simp <;> omega))))) rfl ?_
        refine q (vIxA ar193 rfl rfl (by first | omega | (simp only [Int.toNat_natCast, Int.reduceToNat, List.length_append, List.length_cons, List.length_nil, List.length_map, bid_len]; omega) | (simp <;> omega))) rfl ?_
        refine q (vLd sc75 rfl (Rd.ix (rB1 T4 (.z (.c .n))) (gm (by first | omega | (simp only [Int.toNat_natCast, Int.reduceToNat, List.length_append, List.length_cons, List.length_nil, List.length_map, bid_len]; omega) | (simp <;> omega))))) rfl ?_
        refine q (vMv rfl) rfl ?_
        refine q (tAddU32 rfl rfl) rfl ?_
        refine q (vIxA ar193 rfl rfl (by first | omega | (simp only [Int.toNat_natCast, Int.reduceToNat, List.length_append, List.length_cons, List.length_nil, List.length_map, bid_len]; omega) | (simp <;> omega))) rfl ?_
        refine q (vLd sc75 rfl (Rd.ix (rB1 T4 (.z (.c .n))) (gm (by first | omega | (simp only [Int.toNat_natCast, Int.reduceToNat, List.length_append, List.length_cons, List.length_nil, List.length_map, bid_len]; omega) | (simp <;> omega))))) rfl ?_
        refine q (vIxA ar193 rfl rfl (by first | omega | (simp only [Int.toNat_natCast, Int.reduceToNat, List.length_append, List.length_cons, List.length_nil, List.length_map, bid_len]; omega) | (simp <;> omega))) rfl ?_
        refine q (vLd sc75 rfl (Rd.ix (rB1 T4 (.z (.c .n))) (gm (by first | omega | (simp only [Int.toNat_natCast, Int.reduceToNat, List.length_append, List.length_cons, List.length_nil, List.length_map, bid_len]; omega) | (simp <;> omega))))) rfl ?_
        refine q (vIxA ar193 rfl rfl (by first | omega | (simp only [Int.toNat_natCast, Int.reduceToNat, List.length_append, List.length_cons, List.length_nil, List.length_map, bid_len]; omega) | (simp <;> omega))) rfl ?_
        refine q (vLd sc75 rfl (Rd.ix (rB1 T4 (.z (.c .n))) (gm (by first | omega | (simp only [Int.toNat_natCast, Int.reduceToNat, List.length_append, List.length_cons, List.length_nil, List.length_map, bid_len]; omega) | (simp <;> omega))))) rfl ?_
        refine q (vBuildAf ze193 ar193 (.c1 rfl inferInstance (.c1 rfl inferInstance (.c1 rfl inferInstance (.c1 rfl inferInstance (.c1 rfl inferInstance (.c1 rfl inferInstance (.c1 rfl inferInstance (.c1 rfl inferInstance .nil)))))))) (by simp) (by simp)) rfl ?_
        refine l rfl (store sz193 rfl rfl T4 (by simp) (.z (.c inferInstance inferInstance .n)) ?_)
        refine nil ?_
        refine bkN ?_
        refine thN ?_
        refine rg ?_
        refine q (vMv rfl) rfl ?_
        refine q (vAdd rfl rfl (by first | omega | (simp only [Int.toNat_natCast, Int.reduceToNat, List.length_append, List.length_cons, List.length_nil, List.length_map, bid_len]; omega) | (simp <;> omega))) rfl ?_
        refine q (vAs rfl) rfl ?_
        refine nil ?_
        refine thN ?_
        have ed : (default : UInt32) = 0 := rfl
        rw [hW] at hA
        have e2 : rounds h k W (j + 1) = rnd A (k.val.getD j 0) (W.val.getD j 0) := by rw [rounds, hA]
        simp only [ed, Int.toNat_natCast, Int.reduceToNat, Nat.mul_one]
        refine back (j + 1) (Le.refl _) ⟨by omega, by omega⟩ (.cons rfl (by first | rfl | (rw [e2]; rfl)) (.cons rfl (by first | rfl | (rw [e2]; rfl)) (.cons rfl (by first | rfl | (rw [e2]; rfl)) (.cons rfl (by first | rfl | (rw [e2]; rfl)) (.cons rfl (by first | rfl | (rw [e2]; rfl)) (.cons rfl (by first | rfl | (rw [e2]; rfl)) .nil)))))) (.cons T1 (Ent.Le.of (by first | rfl | (rw [e2]; rfl))) (.cons T1 (Ent.Le.of (by first | rfl | (rw [e2]; rfl))) (.cons T1 (Ent.Le.of (by first | rfl | (rw [e2]; rfl))) (.cons T1 (Ent.Le.of (by first | rfl | (rw [e2]; rfl))) (.cons T0 (Ent.Le.of (by first | rfl | (rw [e2]; rfl))) .nil)))))
      · skip
        obtain rfl : j = 64 := by omega
        generalize hA : rounds h k (sched t 64) 64 = A
        refine xt ?_
        refine thX ?_
        refine thX ?_
        refine bkX ?_
        refine thN ?_
        refine sq ?_
        refine sq ?_
        refine rg ?_
        refine q (vAs rfl) rfl ?_
        refine nil ?_
        refine thN ?_
        refine bk ?_
        refine loop (ι := Nat) (fun (i : Nat) => [(3, .pointer (some ⟨B3, 0, none⟩)), (6, .pointer (some ⟨B6, 0, none⟩)), (12, .pointer (some ⟨B12, 0, none⟩)), (16, .int .i64 (i : Int))]) (fun (i : Nat) => [blk B3 193 [encW h], blk B6 193 [encW (zws 8)], blk B12 193 [encW (addW A h i)]]) (fun (i : Nat) => fun S' => i ≤ 8) (fun (i : Nat) => 8 - i) 0 (Nat.zero_le _) (.cons rfl (by first | rfl | simp | (simp <;> omega)) (.cons rfl (by first | rfl | simp | (simp <;> omega)) (.cons rfl (by first | rfl | simp | (simp <;> omega)) (.cons rfl (by first | rfl | simp | (simp <;> omega)) .nil)))) (.cons T0 (Ent.Le.of (by first | rfl | simp | (simp <;> omega))) (.cons T1 (Ent.Le.of (by first | rfl | simp | (simp <;> omega))) (.cons T2 (Ent.Le.of (by first | rfl | simp | (simp <;> omega))) .nil))) ?_
        rintro i S5 hle5 h9
        refine sq ?_
        refine sq ?_
        refine rg ?_
        refine q (vMv rfl) rfl ?_
        refine q (vLt rfl rfl) rfl ?_
        refine nil ?_
        refine thN ?_
        refine cd rfl (fun hc4 => ?_) (fun hc4 => ?_) <;> try simp only [bls, beq_iff_eq, bne_iff_ne, Int.reduceToNat, List.length_map] at hc4
        · skip
          refine sk ?_
          refine thN ?_
          refine sq ?_
          refine bk ?_
          refine dr (.take 0 (.take 1 (.take 2 (.take 3 (.take 4 (.take 5 (.take 6 (.take 7 (.take 8 (.last 9)))))))))) wide (by decide +kernel) _ _ (.cons T0 (.cons T0 (.cons T0 .nil))) ?_
          refine pT rfl (vMv rfl) rfl ?_
          refine pT rfl (vMv rfl) rfl ?_
          refine pT rfl (vIxA ar193 rfl rfl (by first | omega | (simp only [Int.toNat_natCast, Int.reduceToNat, List.length_append, List.length_cons, List.length_nil, List.length_map, bid_len]; omega) | (simp <;> omega))) rfl ?_
          refine pT rfl (vLd sc75 rfl (Rd.ix (rB1 T2 (.z (.c .n))) (gm (by first | omega | (simp only [Int.toNat_natCast, Int.reduceToNat, List.length_append, List.length_cons, List.length_nil, List.length_map, bid_len]; omega) | (simp <;> omega))))) rfl ?_
          refine pT rfl (vMv rfl) rfl ?_
          refine pT rfl (vIxA ar193 rfl rfl (by first | omega | (simp only [Int.toNat_natCast, Int.reduceToNat, List.length_append, List.length_cons, List.length_nil, List.length_map, bid_len]; omega) | (simp <;> omega))) rfl ?_
          refine pT rfl (vLd sc75 rfl (Rd.ix (rB1 T0 (.z (.c .n))) (gm (by first | omega | (simp only [Int.toNat_natCast, Int.reduceToNat, List.length_append, List.length_cons, List.length_nil, List.length_map, bid_len]; omega) | (simp <;> omega))))) rfl ?_
          refine pT rfl (tAddU32 rfl rfl) rfl ?_
          refine pT rfl (vIxA ar193 rfl rfl (by first | omega | (simp only [Int.toNat_natCast, Int.reduceToNat, List.length_append, List.length_cons, List.length_nil, List.length_map, bid_len]; omega) | (simp <;> omega))) rfl ?_
          refine pL ?_
          refine opL rfl rfl (storeI sz75 rfl rfl T2 .z (by first | omega | (simp only [Int.toNat_natCast, Int.reduceToNat, List.length_append, List.length_cons, List.length_nil, List.length_map, bid_len]; omega) | (simp <;> omega)) ?_)
          refine bkN ?_
          refine thN ?_
          refine rg ?_
          refine q (vMv rfl) rfl ?_
          refine q (vAdd rfl rfl (by first | omega | (simp only [Int.toNat_natCast, Int.reduceToNat, List.length_append, List.length_cons, List.length_nil, List.length_map, bid_len]; omega) | (simp <;> omega))) rfl ?_
          refine q (vAs rfl) rfl ?_
          refine nil ?_
          refine thN ?_
          have ed : (default : UInt32) = 0 := rfl
          have e2 : addW A h (i + 1) = setW (addW A h i) i ((addW A h i).val.getD i 0 + h.val.getD i 0) := rfl
          have e1 := encW_set (addW A h i) i ((addW A h i).val.getD i 0 + h.val.getD i 0)
          rw [← e2] at e1
          simp only [ed, Int.toNat_natCast, Nat.mul_one]
          refine back (i + 1) (Le.refl _) ⟨by omega, by omega⟩ (.cons rfl (by first | rfl | exact congrArg (fun z => blk B12 193 [z]) e1) (.cons rfl (by first | rfl | exact congrArg (fun z => blk B12 193 [z]) e1) (.cons rfl (by first | rfl | exact congrArg (fun z => blk B12 193 [z]) e1) (.cons rfl (by first | rfl | exact congrArg (fun z => blk B12 193 [z]) e1) .nil)))) (.cons T1 (Ent.Le.of (by first | rfl | exact congrArg (fun z => blk B12 193 [z]) e1)) (.cons T1 (Ent.Le.of (by first | rfl | exact congrArg (fun z => blk B12 193 [z]) e1)) (.cons T0 (Ent.Le.of (by first | rfl | exact congrArg (fun z => blk B12 193 [z]) e1)) .nil)))
        · skip
          obtain rfl : i = 8 := by omega
          refine xt ?_
          refine thX ?_
          refine thX ?_
          refine bkX ?_
          refine thN ?_
          refine sq ?_
          refine rg ?_
          refine q (vLdA ag193 rfl (rB T2 (.z (.c .n))) (by simp)) rfl ?_
          refine l rfl (store sz193 rfl rfl T1 (by simp) (.z (.c inferInstance inferInstance .n)) ?_)
          refine nil ?_
          refine thN ?_
          refine rt ?_
          subst hA
          refine retP rfl (.c ag193 rfl (rB T0 (.z (.c .n))) (by simp) .nil) .nil ⟨rfl, rfl, rfl⟩
end Go.Proofs.YtjmigoikklkfdaaGreatDoor
namespace Go.Proofs.YtjmigoikklkfdaaGreatDoor
open Go
set_option linter.unusedVariables false
set_option linter.unusedSimpArgs false
set_option maxRecDepth 4000
theorem rotl_spec (x : UInt32) (k : Int) (hk : k < 0 ∧ -32 < k) (S : Mem) : PureL Tryz.prog 207 [u32v x, .int .i64 k] S [] (u32v (rot x k.natAbs)) := by
  obtain ⟨n, rfl, hn⟩ : ∃ n : Nat, k = -(n : Int) ∧ 0 < n ∧ n < 32 := ⟨k.natAbs, by omega, by omega, by omega⟩
  have e1 : (18446744073709551616 - n) &&& 31 = 32 - n := by
    rw [Nat.and_two_pow_sub_one_eq_mod _ 5]; omega
  have e2 : 32 - (32 - n) = n := by omega
  have e3 : (-(n : Int)).natAbs = n := by omega
  rw [e3]
  refine enter Tryz.func207 rfl 17 rfl rfl (fun w0 => ?_)
  refine sq ?_
  refine rg ?_
  refine q (vAs rfl) rfl ?_
  refine nil ?_
  refine thN ?_
  refine sq ?_
  refine rg ?_
  refine q (vMv rfl) rfl ?_
  refine q (vCvNeg Tryz.underlying192 Tryz.underlying3 rfl rfl ⟨by omega, by omega⟩) rfl ?_
  refine q (vAndU64 rfl rfl (by first | omega | (simp only [Int.toNat_natCast, Int.reduceToNat, List.length_append, List.length_cons, List.length_nil, List.length_map, bid_len]; omega) | (simp <;> omega))) rfl ?_
  refine q (vAs rfl) rfl ?_
  refine nil ?_
  refine thN ?_
  refine sq ?_
  refine rg ?_
  refine q (vMv rfl) rfl ?_
  refine q (vMv rfl) rfl ?_
  refine q (tShlU32 rfl rfl (by first | omega | (simp only [Int.toNat_natCast, Int.reduceToNat, List.length_append, List.length_cons, List.length_nil, List.length_map, bid_len]; omega) | (simp <;> omega))) rfl ?_
  refine q (vMv rfl) rfl ?_
  refine q (vMv rfl) rfl ?_
  refine q (vSubU64 rfl rfl (by first | omega | (simp only [Int.toNat_natCast, Int.reduceToNat, List.length_append, List.length_cons, List.length_nil, List.length_map, bid_len]; omega) | (simp <;> omega))) rfl ?_
  refine q (tShrU32 rfl rfl (by first | omega | (simp only [Int.toNat_natCast, Int.reduceToNat, List.length_append, List.length_cons, List.length_nil, List.length_map, bid_len]; omega) | (simp <;> omega))) rfl ?_
  refine q (tOrU32 rfl rfl) rfl ?_
  refine q (vAs rfl) rfl ?_
  refine nil ?_
  refine thN ?_
  refine rt ?_
  refine retP rfl (.t rfl .nil) .nil ⟨by simp [pack, e1, e2, rotl_rot x n hn], rfl, rfl⟩
theorem words_spec (t : List UInt8) (ht : t.length = 64) (S : Mem) : PureL Tryz.prog 208 [str t] S [] (ag [encW (sched t 64)]) := by
  refine enter Tryz.func208 rfl 72 rfl rfl (fun w0 => ?_)
  refine sq ?_
  refine rg ?_
  refine l rfl (alloc ze194 rfl ?_)
  intro B2
  refine nil ?_
  refine thN ?_
  refine sq ?_
  refine rg ?_
  refine l rfl (alloc ze194 rfl ?_)
  intro B3
  refine nil ?_
  refine thN ?_
  refine sq ?_
  refine sq ?_
  refine rg ?_
  refine q (vMv rfl) rfl ?_
  refine nil ?_
  refine thN ?_
  refine bk ?_
  refine loop (ι := Nat) (fun (i : Nat) => [(0, str t), (2, .pointer (some ⟨B2, 0, none⟩)), (3, .pointer (some ⟨B3, 0, none⟩)), (9, .int .i64 (i : Int))]) (fun (i : Nat) => [blk B2 194 [encW (zws 64)], blk B3 194 [encW (pword t i)]]) (fun (i : Nat) => fun S' => i ≤ 64) (fun (i : Nat) => 64 - i) 0 (Nat.zero_le _) (.cons rfl (by first | rfl | simp | (simp <;> omega)) (.cons rfl (by first | rfl | simp | (simp <;> omega)) (.cons rfl (by first | rfl | simp | (simp <;> omega)) (.cons rfl (by first | rfl | simp | (simp <;> omega)) .nil)))) (.cons T1 (Ent.Le.of (by first | rfl | simp | (simp <;> omega))) (.cons T0 (Ent.Le.of (by first | rfl | simp | (simp <;> omega))) .nil)) ?_
  rintro i S2 hle2 h5
  refine sq ?_
  refine rg ?_
  refine q (vLt rfl rfl) rfl ?_
  refine nil ?_
  refine thN ?_
  refine sq ?_
  refine cd rfl (fun hc => ?_) (fun hc => ?_) <;> try simp only [bls, beq_iff_eq, bne_iff_ne, Int.reduceToNat, List.length_map] at hc
  · skip
    refine sk ?_
    refine thN ?_
    refine sq ?_
    refine bk ?_
    refine sq ?_
    refine rg ?_
    refine q (vMv rfl) rfl ?_
    refine q (vAs rfl) rfl ?_
    refine nil ?_
    refine thN ?_
    refine dr (.take 0 (.take 1 (.take 2 (.take 3 (.take 4 (.take 5 (.take 6 (.take 7 (.take 8 (.take 9 (.take 10 (.take 11 (.take 12 (.last 13)))))))))))))) wide (by decide +kernel) _ _ (.cons T0 (.cons T0 .nil)) ?_
    refine pT rfl (vMv rfl) rfl ?_
    refine pT rfl (vQuo rfl rfl (by first | omega | (simp only [Int.toNat_natCast, Int.reduceToNat, List.length_append, List.length_cons, List.length_nil, List.length_map, bid_len]; omega) | (simp <;> omega))) rfl ?_
    refine pT rfl (vMv rfl) rfl ?_
    refine pT rfl (vQuo rfl rfl (by first | omega | (simp only [Int.toNat_natCast, Int.reduceToNat, List.length_append, List.length_cons, List.length_nil, List.length_map, bid_len]; omega) | (simp <;> omega))) rfl ?_
    refine pT rfl (vIxA ar194 rfl rfl (by first | omega | (simp only [Int.toNat_natCast, Int.reduceToNat, List.length_append, List.length_cons, List.length_nil, List.length_map, bid_len]; omega) | (simp <;> omega))) rfl ?_
    refine pT rfl (vLd sc75 rfl (Rd.ix (rB1 T1 (.z (.c .n))) (gm (by first | omega | (simp only [Int.toNat_natCast, Int.reduceToNat, List.length_append, List.length_cons, List.length_nil, List.length_map, bid_len]; omega) | (simp <;> omega))))) rfl ?_
    refine pT rfl (tShlU32 rfl rfl (by first | omega | (simp only [Int.toNat_natCast, Int.reduceToNat, List.length_append, List.length_cons, List.length_nil, List.length_map, bid_len]; omega) | (simp <;> omega))) rfl ?_
    refine pT rfl (vMv rfl) rfl ?_
    refine pT rfl (vMv rfl) rfl ?_
    refine pT rfl (vIxS Tryz.underlying9 rfl rfl (by first | omega | (simp only [Int.toNat_natCast, Int.reduceToNat, List.length_append, List.length_cons, List.length_nil, List.length_map, bid_len]; omega) | (simp <;> omega))) rfl ?_
    refine pT rfl (tCvU32 Tryz.underlying75 Tryz.underlying5 rfl) rfl ?_
    refine pT rfl (tOrU32 rfl rfl) rfl ?_
    refine pT rfl (vIxA ar194 rfl rfl (by first | omega | (simp only [Int.toNat_natCast, Int.reduceToNat, List.length_append, List.length_cons, List.length_nil, List.length_map, bid_len]; omega) | (simp <;> omega))) rfl ?_
    refine pL ?_
    refine opL rfl rfl (storeI sz75 rfl rfl T1 .z (by first | omega | (simp only [Int.toNat_natCast, Int.reduceToNat, List.length_append, List.length_cons, List.length_nil, List.length_map, bid_len]; omega) | (simp <;> omega)) ?_)
    refine bkN ?_
    refine thN ?_
    refine rg ?_
    refine q (vAdd rfl rfl (by first | omega | (simp only [Int.toNat_natCast, Int.reduceToNat, List.length_append, List.length_cons, List.length_nil, List.length_map, bid_len]; omega) | (simp <;> omega))) rfl ?_
    refine q (vMv rfl) rfl ?_
    refine nil ?_
    refine thN ?_
    have ed : (default : UInt32) = 0 := rfl
    have e2 : pword t (i + 1) = setW (pword t i) (i / 4) ((pword t i).val.getD (i / 4) 0 <<< UInt32.ofNat 8 ||| UInt32.ofNat (t.getD i 0).toNat) := rfl
    have e1 := encW_set (pword t i) (i / 4) ((pword t i).val.getD (i / 4) 0 <<< UInt32.ofNat 8 ||| UInt32.ofNat (t.getD i 0).toNat)
    rw [← e2] at e1
    have n1 : ((i : Int) / 4).toNat = i / 4 := by omega
    simp only [ed, n1, Int.toNat_natCast, Nat.mul_one]
    refine back (i + 1) (Le.refl _) ⟨by omega, by omega⟩ (.cons rfl (by first | rfl | exact congrArg (fun z => blk B3 194 [z]) e1) (.cons rfl (by first | rfl | exact congrArg (fun z => blk B3 194 [z]) e1) (.cons rfl (by first | rfl | exact congrArg (fun z => blk B3 194 [z]) e1) (.cons rfl (by first | rfl | exact congrArg (fun z => blk B3 194 [z]) e1) .nil)))) (.cons T1 (Ent.Le.of (by first | rfl | exact congrArg (fun z => blk B3 194 [z]) e1)) (.cons T0 (Ent.Le.of (by first | rfl | exact congrArg (fun z => blk B3 194 [z]) e1)) .nil))
  · skip
    obtain rfl : i = 64 := by omega
    rw [pword_16]
    refine xt ?_
    refine thX ?_
    refine thX ?_
    refine bkX ?_
    refine thN ?_
    refine sq ?_
    refine rg ?_
    refine q (vAs rfl) rfl ?_
    refine nil ?_
    refine thN ?_
    refine sq ?_
    refine sq ?_
    refine rg ?_
    refine q (vAs rfl) rfl ?_
    refine nil ?_
    refine thN ?_
    refine bk ?_
    refine loop (ι := Nat) (fun (i : Nat) => [(2, .pointer (some ⟨B2, 0, none⟩)), (3, .pointer (some ⟨B3, 0, none⟩)), (5, .func (.func 207) #[] #[]), (6, .int .i64 (i : Int))]) (fun (i : Nat) => [blk B2 194 [encW (zws 64)], blk B3 194 [encW (sched t i)]]) (fun (i : Nat) => fun S' => 16 ≤ i ∧ i ≤ 64) (fun (i : Nat) => 64 - i) 16 ⟨Nat.le_refl _, by decide⟩ (.cons rfl (by first | rfl | simp | (simp <;> omega)) (.cons rfl (by first | rfl | simp | (simp <;> omega)) (.cons rfl (by first | rfl | simp | (simp <;> omega)) (.cons rfl (by first | rfl | simp | (simp <;> omega)) .nil)))) (.cons T0 (Ent.Le.of (by first | rfl | simp | (simp <;> omega))) (.cons T0 (Ent.Le.of (by first | rfl | simp | (simp <;> omega))) .nil)) ?_
    rintro i2 S3 hle3 ⟨h6, h7⟩
    refine sq ?_
    refine sq ?_
    refine rg ?_
    refine q (vMv rfl) rfl ?_
    refine q (vLt rfl rfl) rfl ?_
    refine nil ?_
    refine thN ?_
    refine cd rfl (fun hc2 => ?_) (fun hc2 => ?_) <;> try simp only [bls, beq_iff_eq, bne_iff_ne, Int.reduceToNat, List.length_map] at hc2
    · skip
      refine sk ?_
      refine thN ?_
      refine sq ?_
      refine bk ?_
      refine sq ?_
      refine dr (.take 0 (.take 1 (.take 2 (.take 3 (.take 4 (.take 5 (.take 6 (.take 7 (.take 8 (.take 9 .done)))))))))) wide (by decide +kernel) _ _ (.cons T0 (.cons T0 .nil)) ?_
      refine pT rfl (vMv rfl) rfl ?_
      refine pT rfl (vSub rfl rfl (by first | omega | (simp only [Int.toNat_natCast, Int.reduceToNat, List.length_append, List.length_cons, List.length_nil, List.length_map, bid_len]; omega) | (simp <;> omega))) rfl ?_
      refine pT rfl (vIxA ar194 rfl rfl (by first | omega | (simp only [Int.toNat_natCast, Int.reduceToNat, List.length_append, List.length_cons, List.length_nil, List.length_map, bid_len]; omega) | (simp <;> omega))) rfl ?_
      refine pT rfl (vLd sc75 rfl (Rd.ix (rB1 T1 (.z (.c .n))) (gm (by first | omega | (simp only [Int.toNat_natCast, Int.reduceToNat, List.length_append, List.length_cons, List.length_nil, List.length_map, bid_len]; omega) | (simp <;> omega))))) rfl ?_
      refine pT rfl (vMv rfl) rfl ?_
      refine pT rfl (vSub rfl rfl (by first | omega | (simp only [Int.toNat_natCast, Int.reduceToNat, List.length_append, List.length_cons, List.length_nil, List.length_map, bid_len]; omega) | (simp <;> omega))) rfl ?_
      refine pT rfl (vIxA ar194 rfl rfl (by first | omega | (simp only [Int.toNat_natCast, Int.reduceToNat, List.length_append, List.length_cons, List.length_nil, List.length_map, bid_len]; omega) | (simp <;> omega))) rfl ?_
      refine pT rfl (vLd sc75 rfl (Rd.ix (rB1 T1 (.z (.c .n))) (gm (by first | omega | (simp only [Int.toNat_natCast, Int.reduceToNat, List.length_append, List.length_cons, List.length_nil, List.length_map, bid_len]; omega) | (simp <;> omega))))) rfl ?_
      refine pT rfl (vAs rfl) rfl ?_
      refine pT rfl (vAs rfl) rfl ?_
      refine pDone ?_
      refine thN ?_
      refine dr (.take 0 (.take 1 (.take 2 (.take 3 (.take 4 (.take 5 (.take 6 (.take 7 (.take 8 (.take 9 (.take 10 (.take 11 (.take 13 (.take 14 (.take 17 (.take 18 (.take 21 (.take 22 (.take 24 (.take 25 (.take 28 (.take 29 (.one 12 (.one 15 (.take 16 (.take 19 (.take 20 (.one 23 (.one 26 (.take 27 (.take 30 (.take 31 (.take 32 (.last 33)))))))))))))))))))))))))))))))))) wide (by decide +kernel) _ _ (.cons T0 (.cons T0 .nil)) ?_
      refine pT rfl (vMv rfl) rfl ?_
      refine pT rfl (vMv rfl) rfl ?_
      refine pT rfl (vSub rfl rfl (by first | omega | (simp only [Int.toNat_natCast, Int.reduceToNat, List.length_append, List.length_cons, List.length_nil, List.length_map, bid_len]; omega) | (simp <;> omega))) rfl ?_
      refine pT rfl (vIxA ar194 rfl rfl (by first | omega | (simp only [Int.toNat_natCast, Int.reduceToNat, List.length_append, List.length_cons, List.length_nil, List.length_map, bid_len]; omega) | (simp <;> omega))) rfl ?_
      refine pT rfl (vLd sc75 rfl (Rd.ix (rB1 T1 (.z (.c .n))) (gm (by first | omega | (simp only [Int.toNat_natCast, Int.reduceToNat, List.length_append, List.length_cons, List.length_nil, List.length_map, bid_len]; omega) | (simp <;> omega))))) rfl ?_
      refine pT rfl (vMv rfl) rfl ?_
      refine pT rfl (vSub rfl rfl (by first | omega | (simp only [Int.toNat_natCast, Int.reduceToNat, List.length_append, List.length_cons, List.length_nil, List.length_map, bid_len]; omega) | (simp <;> omega))) rfl ?_
      refine pT rfl (vIxA ar194 rfl rfl (by first | omega | (simp only [Int.toNat_natCast, Int.reduceToNat, List.length_append, List.length_cons, List.length_nil, List.length_map, bid_len]; omega) | (simp <;> omega))) rfl ?_
      refine pT rfl (vLd sc75 rfl (Rd.ix (rB1 T1 (.z (.c .n))) (gm (by first | omega | (simp only [Int.toNat_natCast, Int.reduceToNat, List.length_append, List.length_cons, List.length_nil, List.length_map, bid_len]; omega) | (simp <;> omega))))) rfl ?_
      refine pT rfl (tAddU32 rfl rfl) rfl ?_
      refine pT rfl (vMv rfl) rfl ?_
      refine pT rfl (vMv rfl) rfl ?_
      refine pT rfl (vMv rfl) rfl ?_
      refine pT rfl (vMv rfl) rfl ?_
      refine pT rfl (vMv rfl) rfl ?_
      refine pT rfl (tShrU32 rfl rfl (by first | omega | (simp only [Int.toNat_natCast, Int.reduceToNat, List.length_append, List.length_cons, List.length_nil, List.length_map, bid_len]; omega) | (simp <;> omega))) rfl ?_
      refine pT rfl (vMv rfl) rfl ?_
      refine pT rfl (vMv rfl) rfl ?_
      refine pT rfl (vMv rfl) rfl ?_
      refine pT rfl (vMv rfl) rfl ?_
      refine pT rfl (vMv rfl) rfl ?_
      refine pT rfl (tShrU32 rfl rfl (by first | omega | (simp only [Int.toNat_natCast, Int.reduceToNat, List.length_append, List.length_cons, List.length_nil, List.length_map, bid_len]; omega) | (simp <;> omega))) rfl ?_
      refine pO ?_
      refine opL rfl rfl (callV0P cf207 rfl (rotl_spec _ _ (by decide) _) rfl .nil rfl ?_)
      refine pK (Le.refl _) (.cons T0 (.cons T0 .nil)) ?_
      refine pO ?_
      refine opL rfl rfl (callV0P cf207 rfl (rotl_spec _ _ (by decide) _) rfl .nil rfl ?_)
      refine pK (Le.refl _) (.cons T0 (.cons T0 .nil)) ?_
      refine pT rfl (tXorU32 rfl rfl) rfl ?_
      refine pT rfl (tXorU32 rfl rfl) rfl ?_
      refine pT rfl (tAddU32 rfl rfl) rfl ?_
      refine pO ?_
      refine opL rfl rfl (callV0P cf207 rfl (rotl_spec _ _ (by decide) _) rfl .nil rfl ?_)
      refine pK (Le.refl _) (.cons T0 (.cons T0 .nil)) ?_
      refine pO ?_
      refine opL rfl rfl (callV0P cf207 rfl (rotl_spec _ _ (by decide) _) rfl .nil rfl ?_)
      refine pK (Le.refl _) (.cons T0 (.cons T0 .nil)) ?_
      refine pT rfl (tXorU32 rfl rfl) rfl ?_
      refine pT rfl (tXorU32 rfl rfl) rfl ?_
      refine pT rfl (tAddU32 rfl rfl) rfl ?_
      refine pT rfl (vIxA ar194 rfl rfl (by first | omega | (simp only [Int.toNat_natCast, Int.reduceToNat, List.length_append, List.length_cons, List.length_nil, List.length_map, bid_len]; omega) | (simp <;> omega))) rfl ?_
      refine pL ?_
      refine opL rfl rfl (storeI sz75 rfl rfl T1 .z (by first | omega | (simp only [Int.toNat_natCast, Int.reduceToNat, List.length_append, List.length_cons, List.length_nil, List.length_map, bid_len]; omega) | (simp <;> omega)) ?_)
      refine bkN ?_
      refine thN ?_
      refine rg ?_
      refine q (vMv rfl) rfl ?_
      refine q (vAdd rfl rfl (by first | omega | (simp only [Int.toNat_natCast, Int.reduceToNat, List.length_append, List.length_cons, List.length_nil, List.length_map, bid_len]; omega) | (simp <;> omega))) rfl ?_
      refine q (vAs rfl) rfl ?_
      refine nil ?_
      refine thN ?_
      have ed : (default : UInt32) = 0 := rfl
      have n1 : ((i2 : Int) - 16).toNat = i2 - 16 := by omega
      have n2 : ((i2 : Int) - 15).toNat = i2 - 15 := by omega
      have n3 : ((i2 : Int) - 7).toNat = i2 - 7 := by omega
      have n4 : ((i2 : Int) - 2).toNat = i2 - 2 := by omega
      have e0 : nextW t (sched t i2).val i2 = (sched t i2).val.getD (i2 - 16) 0 + (sched t i2).val.getD (i2 - 7) 0 + sg0 ((sched t i2).val.getD (i2 - 15) 0) + sg1 ((sched t i2).val.getD (i2 - 2) 0) := by
        rw [nextW, if_neg (by omega)]
        congr 1
        rw [UInt32.add_assoc, UInt32.add_assoc]
        congr 1
        exact UInt32.add_comm _ _
      have e2 : (sched t (i2 + 1)) = setW (sched t i2) i2 (nextW t (sched t i2).val i2) := rfl
      have e1 := encW_set (sched t i2) i2 (nextW t (sched t i2).val i2)
      rw [← e2, e0] at e1
      simp only [n1, n2, n3, n4, ed, Int.toNat_natCast, Nat.mul_one]
      refine back (i2 + 1) (Le.refl _) ⟨⟨by omega, by omega⟩, by omega⟩ (.cons rfl (by first | rfl | exact congrArg (fun z => blk B3 194 [z]) e1) (.cons rfl (by first | rfl | exact congrArg (fun z => blk B3 194 [z]) e1) (.cons rfl (by first | rfl | exact congrArg (fun z => blk B3 194 [z]) e1) (.cons rfl (by first | rfl | exact congrArg (fun z => blk B3 194 [z]) e1) .nil)))) (.cons T1 (Ent.Le.of (by first | rfl | exact congrArg (fun z => blk B3 194 [z]) e1)) (.cons T0 (Ent.Le.of (by first | rfl | exact congrArg (fun z => blk B3 194 [z]) e1)) .nil))
    · skip
      obtain rfl : i2 = 64 := by omega
      refine xt ?_
      refine thX ?_
      refine thX ?_
      refine bkX ?_
      refine thN ?_
      refine sq ?_
      refine rg ?_
      refine q (vLdA ag194 rfl (rB T1 (.z (.c .n))) (by simp)) rfl ?_
      refine l rfl (store sz194 rfl rfl T0 (by simp) (.z (.c inferInstance inferInstance .n)) ?_)
      refine nil ?_
      refine thN ?_
      refine rt ?_
      refine retP rfl (.c ag194 rfl (rB T0 (.z (.c .n))) (by simp) .nil) .nil ⟨rfl, rfl, rfl⟩
theorem block_spec (h : Ws 8) (t : List UInt8) (ht : t.length = 64) (S : Mem) (constants_pb : PB S 0 0 (encW kW)) : PureL Tryz.prog 181 [ag [encW h], str t] S [] (ag [encW (blockF kW h t)]) := by
  refine enter Tryz.func181 rfl 109 rfl rfl (fun w0 => ?_)
  refine sq ?_
  refine rg ?_
  refine l rfl (box rfl rfl ?_)
  intro B2
  refine l rfl (alloc ze193 rfl ?_)
  intro B4
  refine nil ?_
  refine thN ?_
  refine sq ?_
  refine rg ?_
  refine q (vAs rfl) rfl ?_
  refine nil ?_
  refine thN ?_
  refine sq ?_
  refine rg ?_
  refine q (vLdA ag193 rfl (rB T1 (.z (.c .n))) (by simp)) rfl ?_
  refine l rfl (alloc ze193 rfl ?_)
  intro B6
  refine l rfl (store sz193 rfl rfl T0 (by simp) (.z (.c inferInstance inferInstance .n)) ?_)
  refine nil ?_
  refine thN ?_
  refine sq ?_
  refine sq ?_
  refine rg ?_
  refine q (vMv rfl) rfl ?_
  refine l rfl (callP cf208 (words_spec _ ht _) rfl .nil rfl ?_)
  refine q (vMv rfl) rfl ?_
  refine nil ?_
  refine thN ?_
  refine bk ?_
  refine loop (ι := Nat) (fun (j : Nat) => [(2, .pointer (some ⟨B2, 0, none⟩)), (4, .pointer (some ⟨B4, 0, none⟩)), (6, .pointer (some ⟨B6, 0, none⟩)), (5, .func (.func 207) #[] #[]), (16, ag [encW (sched t 64)]), (17, .int .i64 (j : Int))]) (fun (j : Nat) => [blk B2 193 [encW h], blk B4 193 [encW (zws 8)], blk B6 193 [encW (rounds h kW (sched t 64) j)]]) (fun (j : Nat) => fun S' => j ≤ 64) (fun (j : Nat) => 64 - j) 0 (Nat.zero_le _) (.cons rfl (by first | rfl | simp | (simp <;> omega)) (.cons rfl (by first | rfl | simp | (simp <;> omega)) (.cons rfl (by first | rfl | simp | (simp <;> omega)) (.cons rfl (by first | rfl | simp | (simp <;> omega)) (.cons rfl (by first | rfl | simp | (simp <;> omega)) (.cons rfl (by first | rfl | simp | (simp <;> omega)) .nil)))))) (.cons T2 (Ent.Le.of (by first | rfl | simp | (simp <;> omega))) (.cons T1 (Ent.Le.of (by first | rfl | simp | (simp <;> omega))) (.cons T0 (Ent.Le.of (by first | rfl | simp | (simp <;> omega))) .nil))) ?_
  rintro j S4 hle4 h8
  replace constants_pb := constants_pb.mono hle4
  refine sq ?_
  refine rg ?_
  refine q (vLt rfl rfl) rfl ?_
  refine nil ?_
  refine thN ?_
  refine sq ?_
  refine cd rfl (fun hc3 => ?_) (fun hc3 => ?_) <;> try simp only [bls, beq_iff_eq, bne_iff_ne, Int.reduceToNat, List.length_map] at hc3
  · skip
    generalize hA : rounds h kW (sched t 64) j = A
    generalize hW : sched t 64 = W
    refine sk ?_
    refine thN ?_
    refine sq ?_
    refine bk ?_
    refine sq ?_
    refine rg ?_
    refine q (vMv rfl) rfl ?_
    refine q (vIxV ix194 rfl rfl (gm (by first | omega | (simp only [Int.toNat_natCast, Int.reduceToNat, List.length_append, List.length_cons, List.length_nil, List.length_map, bid_len]; omega) | (simp <;> omega))) (by first | omega | (simp only [Int.toNat_natCast, Int.reduceToNat, List.length_append, List.length_cons, List.length_nil, List.length_map, bid_len]; omega) | (simp <;> omega))) rfl ?_
    refine q (vAs rfl) rfl ?_
    refine q (vAs rfl) rfl ?_
    refine nil ?_
    refine thN ?_
    refine sq ?_
    refine dr (.take 0 (.take 1 (.take 2 (.take 3 (.take 4 (.take 5 .done)))))) wide (by decide +kernel) _ _ (.cons T0 (.cons T0 (.cons T0 .nil))) ?_
    refine pT rfl (vIxA ar193 rfl rfl (by first | omega | (simp only [Int.toNat_natCast, Int.reduceToNat, List.length_append, List.length_cons, List.length_nil, List.length_map, bid_len]; omega) | (simp <;> omega))) rfl ?_
    refine pT rfl (vLd sc75 rfl (Rd.ix (rB1 T2 (.z (.c .n))) (gm (by first | omega | (simp only [Int.toNat_natCast, Int.reduceToNat, List.length_append, List.length_cons, List.length_nil, List.length_map, bid_len]; omega) | (simp <;> omega))))) rfl ?_
    refine pT rfl (vIxA ar193 rfl rfl (by first | omega | (simp only [Int.toNat_natCast, Int.reduceToNat, List.length_append, List.length_cons, List.length_nil, List.length_map, bid_len]; omega) | (simp <;> omega))) rfl ?_
    refine pT rfl (vLd sc75 rfl (Rd.ix (rB1 T2 (.z (.c .n))) (gm (by first | omega | (simp only [Int.toNat_natCast, Int.reduceToNat, List.length_append, List.length_cons, List.length_nil, List.length_map, bid_len]; omega) | (simp <;> omega))))) rfl ?_
    refine pT rfl (vAs rfl) rfl ?_
    refine pT rfl (vAs rfl) rfl ?_
    refine pDone ?_
    refine thN ?_
    refine sq ?_
    refine dr (.take 0 (.take 1 (.take 2 (.take 3 (.take 5 (.take 6 (.take 9 (.take 10 (.take 14 (.take 15 (.take 16 (.take 17 (.take 18 (.take 19 (.take 20 (.take 21 (.take 22 (.take 23 (.take 25 (.take 26 (.take 27 (.take 29 (.one 4 (.one 7 (.take 8 (.one 11 (.take 12 (.take 13 (.take 24 (.take 28 (.take 30 (.take 31 .done)))))))))))))))))))))))))))))))) wide (by decide +kernel) _ _ (.cons T0 (.cons T0 (.cons T0 .nil))) ?_
    refine pT rfl (vIxA ar193 rfl rfl (by first | omega | (simp only [Int.toNat_natCast, Int.reduceToNat, List.length_append, List.length_cons, List.length_nil, List.length_map, bid_len]; omega) | (simp <;> omega))) rfl ?_
    refine pT rfl (vLd sc75 rfl (Rd.ix (rB1 T2 (.z (.c .n))) (gm (by first | omega | (simp only [Int.toNat_natCast, Int.reduceToNat, List.length_append, List.length_cons, List.length_nil, List.length_map, bid_len]; omega) | (simp <;> omega))))) rfl ?_
    refine pT rfl (vMv rfl) rfl ?_
    refine pT rfl (vMv rfl) rfl ?_
    refine pT rfl (vMv rfl) rfl ?_
    refine pT rfl (vMv rfl) rfl ?_
    refine pT rfl (vMv rfl) rfl ?_
    refine pT rfl (vMv rfl) rfl ?_
    refine pT rfl (vMv rfl) rfl ?_
    refine pT rfl (vIxA ar193 rfl rfl (by first | omega | (simp only [Int.toNat_natCast, Int.reduceToNat, List.length_append, List.length_cons, List.length_nil, List.length_map, bid_len]; omega) | (simp <;> omega))) rfl ?_
    refine pT rfl (vLd sc75 rfl (Rd.ix (rB1 T2 (.z (.c .n))) (gm (by first | omega | (simp only [Int.toNat_natCast, Int.reduceToNat, List.length_append, List.length_cons, List.length_nil, List.length_map, bid_len]; omega) | (simp <;> omega))))) rfl ?_
    refine pT rfl (tAndU32 rfl rfl) rfl ?_
    refine pT rfl (vMv rfl) rfl ?_
    refine pT rfl (tNotU32 rfl) rfl ?_
    refine pT rfl (vIxA ar193 rfl rfl (by first | omega | (simp only [Int.toNat_natCast, Int.reduceToNat, List.length_append, List.length_cons, List.length_nil, List.length_map, bid_len]; omega) | (simp <;> omega))) rfl ?_
    refine pT rfl (vLd sc75 rfl (Rd.ix (rB1 T2 (.z (.c .n))) (gm (by first | omega | (simp only [Int.toNat_natCast, Int.reduceToNat, List.length_append, List.length_cons, List.length_nil, List.length_map, bid_len]; omega) | (simp <;> omega))))) rfl ?_
    refine pT rfl (tAndU32 rfl rfl) rfl ?_
    refine pT rfl (tXorU32 rfl rfl) rfl ?_
    refine pT rfl (vMv rfl) rfl ?_
    refine pT rfl (vIxA ar194 rfl rfl (by first | omega | (simp only [Int.toNat_natCast, Int.reduceToNat, List.length_append, List.length_cons, List.length_nil, List.length_map, bid_len]; omega) | (simp <;> omega))) rfl ?_
    refine pT rfl (vLd sc75 rfl (Rd.ix (rPB constants_pb) (gm (by first | omega | (simp only [Int.toNat_natCast, Int.reduceToNat, List.length_append, List.length_cons, List.length_nil, List.length_map, bid_len]; omega) | (simp <;> omega))))) rfl ?_
    refine pT rfl (vMv rfl) rfl ?_
    refine pO ?_
    refine opL rfl rfl (callV0P cf207 rfl (rotl_spec _ _ (by decide) _) rfl .nil rfl ?_)
    refine pK (Le.refl _) (.cons T0 (.cons T0 (.cons T0 .nil))) ?_
    refine pO ?_
    refine opL rfl rfl (callV0P cf207 rfl (rotl_spec _ _ (by decide) _) rfl .nil rfl ?_)
    refine pK (Le.refl _) (.cons T0 (.cons T0 (.cons T0 .nil))) ?_
    refine pT rfl (tXorU32 rfl rfl) rfl ?_
    refine pO ?_
    refine opL rfl rfl (callV0P cf207 rfl (rotl_spec _ _ (by decide) _) rfl .nil rfl ?_)
    refine pK (Le.refl _) (.cons T0 (.cons T0 (.cons T0 .nil))) ?_
    refine pT rfl (tXorU32 rfl rfl) rfl ?_
    refine pT rfl (tAddU32 rfl rfl) rfl ?_
    refine pT rfl (tAddU32 rfl rfl) rfl ?_
    refine pT rfl (tAddU32 rfl rfl) rfl ?_
    refine pT rfl (tAddU32 rfl rfl) rfl ?_
    refine pT rfl (vAs rfl) rfl ?_
    refine pDone ?_
    refine thN ?_
    refine sq ?_
    refine dr (.take 0 (.take 1 (.take 3 (.take 4 (.take 7 (.take 8 (.take 11 (.take 12 (.take 13 (.take 14 (.take 15 (.take 16 (.take 17 (.take 18 (.take 19 (.take 20 (.take 21 (.take 22 (.take 23 (.take 24 (.take 25 (.one 2 (.one 5 (.take 6 (.one 9 (.take 10 (.take 26 (.take 27 .done)))))))))))))))))))))))))))) wide (by decide +kernel) _ _ (.cons T0 (.cons T0 (.cons T0 .nil))) ?_
    refine pT rfl (vMv rfl) rfl ?_
    refine pT rfl (vMv rfl) rfl ?_
    refine pT rfl (vMv rfl) rfl ?_
    refine pT rfl (vMv rfl) rfl ?_
    refine pT rfl (vMv rfl) rfl ?_
    refine pT rfl (vMv rfl) rfl ?_
    refine pT rfl (vMv rfl) rfl ?_
    refine pT rfl (vIxA ar193 rfl rfl (by first | omega | (simp only [Int.toNat_natCast, Int.reduceToNat, List.length_append, List.length_cons, List.length_nil, List.length_map, bid_len]; omega) | (simp <;> omega))) rfl ?_
    refine pT rfl (vLd sc75 rfl (Rd.ix (rB1 T2 (.z (.c .n))) (gm (by first | omega | (simp only [Int.toNat_natCast, Int.reduceToNat, List.length_append, List.length_cons, List.length_nil, List.length_map, bid_len]; omega) | (simp <;> omega))))) rfl ?_
    refine pT rfl (tAndU32 rfl rfl) rfl ?_
    refine pT rfl (vMv rfl) rfl ?_
    refine pT rfl (vIxA ar193 rfl rfl (by first | omega | (simp only [Int.toNat_natCast, Int.reduceToNat, List.length_append, List.length_cons, List.length_nil, List.length_map, bid_len]; omega) | (simp <;> omega))) rfl ?_
    refine pT rfl (vLd sc75 rfl (Rd.ix (rB1 T2 (.z (.c .n))) (gm (by first | omega | (simp only [Int.toNat_natCast, Int.reduceToNat, List.length_append, List.length_cons, List.length_nil, List.length_map, bid_len]; omega) | (simp <;> omega))))) rfl ?_
    refine pT rfl (tAndU32 rfl rfl) rfl ?_
    refine pT rfl (tXorU32 rfl rfl) rfl ?_
    refine pT rfl (vIxA ar193 rfl rfl (by first | omega | (simp only [Int.toNat_natCast, Int.reduceToNat, List.length_append, List.length_cons, List.length_nil, List.length_map, bid_len]; omega) | (simp <;> omega))) rfl ?_
    refine pT rfl (vLd sc75 rfl (Rd.ix (rB1 T2 (.z (.c .n))) (gm (by first | omega | (simp only [Int.toNat_natCast, Int.reduceToNat, List.length_append, List.length_cons, List.length_nil, List.length_map, bid_len]; omega) | (simp <;> omega))))) rfl ?_
    refine pT rfl (vIxA ar193 rfl rfl (by first | omega | (simp only [Int.toNat_natCast, Int.reduceToNat, List.length_append, List.length_cons, List.length_nil, List.length_map, bid_len]; omega) | (simp <;> omega))) rfl ?_
    refine pT rfl (vLd sc75 rfl (Rd.ix (rB1 T2 (.z (.c .n))) (gm (by first | omega | (simp only [Int.toNat_natCast, Int.reduceToNat, List.length_append, List.length_cons, List.length_nil, List.length_map, bid_len]; omega) | (simp <;> omega))))) rfl ?_
    refine pT rfl (tAndU32 rfl rfl) rfl ?_
    refine pT rfl (tXorU32 rfl rfl) rfl ?_
    refine pO ?_
    refine opL rfl rfl (callV0P cf207 rfl (rotl_spec _ _ (by decide) _) rfl .nil rfl ?_)
    refine pK (Le.refl _) (.cons T0 (.cons T0 (.cons T0 .nil))) ?_
    refine pO ?_
    refine opL rfl rfl (callV0P cf207 rfl (rotl_spec _ _ (by decide) _) rfl .nil rfl ?_)
    refine pK (Le.refl _) (.cons T0 (.cons T0 (.cons T0 .nil))) ?_
    refine pT rfl (tXorU32 rfl rfl) rfl ?_
    refine pO ?_
    refine opL rfl rfl (callV0P cf207 rfl (rotl_spec _ _ (by decide) _) rfl .nil rfl ?_)
    refine pK (Le.refl _) (.cons T0 (.cons T0 (.cons T0 .nil))) ?_
    refine pT rfl (tXorU32 rfl rfl) rfl ?_
    refine pT rfl (tAddU32 rfl rfl) rfl ?_
    refine pT rfl (vAs rfl) rfl ?_
    refine pDone ?_
    refine thN ?_
    refine sq ?_
    refine dr (.take 0 (.take 1 (.last 2))) wide (by decide +kernel) _ _ (.cons T0 (.cons T0 .nil)) ?_
    refine pT rfl (vSlAl (i := 1) ar193 rfl rfl (by decide)) rfl ?_
    refine pT rfl (vSlAh (j := 7) ar193 rfl rfl (by decide)) rfl ?_
    refine pL ?_
    refine opL rfl rfl (cpy (k := 0) (j := 1) (s := encW A) (cs := (A.val.take 7).map u32v) sl311 rfl rfl T2 (cpHead 8 7 A T2 (by decide)) .z (by rw [List.length_map, List.length_take, List.length_map, A.2]; decide) rfl ?_)
    refine thN ?_
    refine sq ?_
    have es : (encW A).take 1 ++ (A.val.take 7).map u32v ++ (encW A).drop (1 + ((A.val.take 7).map u32v).length) = encW (shW A) := by
      rw [List.drop_eq_nil_of_le (by rw [List.length_map, List.length_map, List.length_take, A.2]; decide), List.append_nil, ← List.map_take, ← List.map_append]; rfl
    rw [es]
    refine rg ?_
    refine q (vIxA ar193 rfl rfl (by first | omega | (simp only [Int.toNat_natCast, Int.reduceToNat, List.length_append, List.length_cons, List.length_nil, List.length_map, bid_len]; omega) | (simp <;> omega))) rfl ?_
    refine q (vLd sc75 rfl (Rd.ix (rB1 T0 (.z (.c .n))) (gm (by first | omega | (simp only [Int.toNat_natCast, Int.reduceToNat, List.length_append, List.length_cons, List.length_nil, List.length_map, bid_len]; omega) | (simp <;> omega))))) rfl ?_
    refine q (vMv rfl) rfl ?_
    refine q (tAddU32 rfl rfl) rfl ?_
    refine q (vIxA ar193 rfl rfl (by first | omega | (simp only [Int.toNat_natCast, Int.reduceToNat, List.length_append, List.length_cons, List.length_nil, List.length_map, bid_len]; omega) | (simp <;> omega))) rfl ?_
    refine l rfl (storeI sz75 rfl rfl T0 .z (by first | omega | (simp only [Int.toNat_natCast, Int.reduceToNat, List.length_append, List.length_cons, List.length_nil, List.length_map, bid_len]; omega) | (simp <;> omega)) ?_)
    refine nil ?_
    refine thN ?_
    refine rg ?_
    refine q (vMv rfl) rfl ?_
    refine q (vMv rfl) rfl ?_
    refine q (tAddU32 rfl rfl) rfl ?_
    refine q (vIxA ar193 rfl rfl (by first | omega | (simp only [Int.toNat_natCast, Int.reduceToNat, List.length_append, List.length_cons, List.length_nil, List.length_map, bid_len]; omega) | (simp <;> omega))) rfl ?_
    refine l rfl (storeI sz75 rfl rfl T0 .z (by first | omega | (simp only [Int.toNat_natCast, Int.reduceToNat, List.length_append, List.length_cons, List.length_nil, List.length_map, bid_len]; omega) | (simp <;> omega)) ?_)
    refine nil ?_
    refine bkN ?_
    refine thN ?_
    refine rg ?_
    refine q (vAdd rfl rfl (by first | omega | (simp only [Int.toNat_natCast, Int.reduceToNat, List.length_append, List.length_cons, List.length_nil, List.length_map, bid_len]; omega) | (simp <;> omega))) rfl ?_
    refine q (vMv rfl) rfl ?_
    refine nil ?_
    refine thN ?_
    have ed : (default : UInt32) = 0 := rfl
    rw [hW] at hA
    have e2 : rounds h kW W (j + 1) = rnd A (kW.val.getD j 0) (W.val.getD j 0) := by rw [rounds, hA]
    have e1 : ((encW (shW A)).set 4 (u32v ((shW A).val.getD 4 0 + xOf A.val (kW.val.getD j 0) (W.val.getD j 0)))).set 0 (u32v (xOf A.val (kW.val.getD j 0) (W.val.getD j 0) + yOf A.val)) = encW (rounds h kW W (j + 1)) := by
      rw [encW, encW_set, encW_set, rnd_sh, e2]
    simp only [ed, Int.toNat_natCast, Int.reduceToNat, Nat.mul_one]
    refine back (j + 1) (Le.refl _) ⟨by omega, by omega⟩ (.cons rfl (by first | rfl | exact congrArg (fun z => blk B6 193 [z]) e1) (.cons rfl (by first | rfl | exact congrArg (fun z => blk B6 193 [z]) e1) (.cons rfl (by first | rfl | exact congrArg (fun z => blk B6 193 [z]) e1) (.cons rfl (by first | rfl | exact congrArg (fun z => blk B6 193 [z]) e1) (.cons rfl (by first | rfl | exact congrArg (fun z => blk B6 193 [z]) e1) (.cons rfl (by first | rfl | exact congrArg (fun z => blk B6 193 [z]) e1) .nil)))))) (.cons T1 (Ent.Le.of (by first | rfl | exact congrArg (fun z => blk B6 193 [z]) e1)) (.cons T1 (Ent.Le.of (by first | rfl | exact congrArg (fun z => blk B6 193 [z]) e1)) (.cons T0 (Ent.Le.of (by first | rfl | exact congrArg (fun z => blk B6 193 [z]) e1)) .nil)))
  · skip
    obtain rfl : j = 64 := by omega
    generalize hA : rounds h kW (sched t 64) 64 = A
    refine xt ?_
    refine thX ?_
    refine thX ?_
    refine bkX ?_
    refine thN ?_
    refine sq ?_
    refine sq ?_
    refine rg ?_
    refine q (vMv rfl) rfl ?_
    refine nil ?_
    refine thN ?_
    refine bk ?_
    refine loop (ι := Nat) (fun (i : Nat) => [(2, .pointer (some ⟨B2, 0, none⟩)), (4, .pointer (some ⟨B4, 0, none⟩)), (6, .pointer (some ⟨B6, 0, none⟩)), (96, .int .i64 (i : Int))]) (fun (i : Nat) => [blk B2 193 [encW h], blk B4 193 [encW (zws 8)], blk B6 193 [encW (addW A h i)]]) (fun (i : Nat) => fun S' => i ≤ 8) (fun (i : Nat) => 8 - i) 0 (Nat.zero_le _) (.cons rfl (by first | rfl | simp | (simp <;> omega)) (.cons rfl (by first | rfl | simp | (simp <;> omega)) (.cons rfl (by first | rfl | simp | (simp <;> omega)) (.cons rfl (by first | rfl | simp | (simp <;> omega)) .nil)))) (.cons T0 (Ent.Le.of (by first | rfl | simp | (simp <;> omega))) (.cons T0 (Ent.Le.of (by first | rfl | simp | (simp <;> omega))) (.cons T0 (Ent.Le.of (by first | rfl | simp | (simp <;> omega))) .nil))) ?_
    rintro i S5 hle5 h9
    refine sq ?_
    refine rg ?_
    refine q (vLt rfl rfl) rfl ?_
    refine nil ?_
    refine thN ?_
    refine sq ?_
    refine cd rfl (fun hc4 => ?_) (fun hc4 => ?_) <;> try simp only [bls, beq_iff_eq, bne_iff_ne, Int.reduceToNat, List.length_map] at hc4
    · skip
      refine sk ?_
      refine thN ?_
      refine sq ?_
      refine bk ?_
      refine sq ?_
      refine rg ?_
      refine q (vMv rfl) rfl ?_
      refine q (vAs rfl) rfl ?_
      refine nil ?_
      refine thN ?_
      refine dr (.take 0 (.take 1 (.take 2 (.take 3 (.take 4 (.take 5 (.take 6 (.take 7 (.last 8))))))))) wide (by decide +kernel) _ _ (.cons T0 (.cons T0 (.cons T0 .nil))) ?_
      refine pT rfl (vMv rfl) rfl ?_
      refine pT rfl (vIxA ar193 rfl rfl (by first | omega | (simp only [Int.toNat_natCast, Int.reduceToNat, List.length_append, List.length_cons, List.length_nil, List.length_map, bid_len]; omega) | (simp <;> omega))) rfl ?_
      refine pT rfl (vLd sc75 rfl (Rd.ix (rB1 T2 (.z (.c .n))) (gm (by first | omega | (simp only [Int.toNat_natCast, Int.reduceToNat, List.length_append, List.length_cons, List.length_nil, List.length_map, bid_len]; omega) | (simp <;> omega))))) rfl ?_
      refine pT rfl (vMv rfl) rfl ?_
      refine pT rfl (vIxA ar193 rfl rfl (by first | omega | (simp only [Int.toNat_natCast, Int.reduceToNat, List.length_append, List.length_cons, List.length_nil, List.length_map, bid_len]; omega) | (simp <;> omega))) rfl ?_
      refine pT rfl (vLd sc75 rfl (Rd.ix (rB1 T0 (.z (.c .n))) (gm (by first | omega | (simp only [Int.toNat_natCast, Int.reduceToNat, List.length_append, List.length_cons, List.length_nil, List.length_map, bid_len]; omega) | (simp <;> omega))))) rfl ?_
      refine pT rfl (tAddU32 rfl rfl) rfl ?_
      refine pT rfl (vIxA ar193 rfl rfl (by first | omega | (simp only [Int.toNat_natCast, Int.reduceToNat, List.length_append, List.length_cons, List.length_nil, List.length_map, bid_len]; omega) | (simp <;> omega))) rfl ?_
      refine pL ?_
      refine opL rfl rfl (storeI sz75 rfl rfl T2 .z (by first | omega | (simp only [Int.toNat_natCast, Int.reduceToNat, List.length_append, List.length_cons, List.length_nil, List.length_map, bid_len]; omega) | (simp <;> omega)) ?_)
      refine bkN ?_
      refine thN ?_
      refine rg ?_
      refine q (vAdd rfl rfl (by first | omega | (simp only [Int.toNat_natCast, Int.reduceToNat, List.length_append, List.length_cons, List.length_nil, List.length_map, bid_len]; omega) | (simp <;> omega))) rfl ?_
      refine q (vMv rfl) rfl ?_
      refine nil ?_
      refine thN ?_
      have ed : (default : UInt32) = 0 := rfl
      have e2 : addW A h (i + 1) = setW (addW A h i) i ((addW A h i).val.getD i 0 + h.val.getD i 0) := rfl
      have e1 := encW_set (addW A h i) i ((addW A h i).val.getD i 0 + h.val.getD i 0)
      rw [← e2] at e1
      simp only [ed, Int.toNat_natCast, Nat.mul_one]
      refine back (i + 1) (Le.refl _) ⟨by omega, by omega⟩ (.cons rfl (by first | rfl | exact congrArg (fun z => blk B6 193 [z]) e1) (.cons rfl (by first | rfl | exact congrArg (fun z => blk B6 193 [z]) e1) (.cons rfl (by first | rfl | exact congrArg (fun z => blk B6 193 [z]) e1) (.cons rfl (by first | rfl | exact congrArg (fun z => blk B6 193 [z]) e1) .nil)))) (.cons T1 (Ent.Le.of (by first | rfl | exact congrArg (fun z => blk B6 193 [z]) e1)) (.cons T1 (Ent.Le.of (by first | rfl | exact congrArg (fun z => blk B6 193 [z]) e1)) (.cons T0 (Ent.Le.of (by first | rfl | exact congrArg (fun z => blk B6 193 [z]) e1)) .nil)))
    · skip
      obtain rfl : i = 8 := by omega
      refine xt ?_
      refine thX ?_
      refine thX ?_
      refine bkX ?_
      refine thN ?_
      refine sq ?_
      refine rg ?_
      refine q (vLdA ag193 rfl (rB T2 (.z (.c .n))) (by simp)) rfl ?_
      refine l rfl (store sz193 rfl rfl T1 (by simp) (.z (.c inferInstance inferInstance .n)) ?_)
      refine nil ?_
      refine thN ?_
      refine rt ?_
      subst hA
      refine retP rfl (.c ag193 rfl (rB T0 (.z (.c .n))) (by simp) .nil) .nil ⟨rfl, rfl, rfl⟩
end Go.Proofs.YtjmigoikklkfdaaGreatDoor
namespace Go.Proofs.YtjmigoikklkfdaaGreatDoor
open Go
set_option linter.unusedVariables false
set_option linter.unusedSimpArgs false
set_option maxRecDepth 4000
theorem ref_k_spec (S : Mem) : PureL Tryz.prog 111 [] S [] (ag [encW kW]) := by
  refine enter Tryz.func111 rfl 2 rfl rfl (fun w0 => ?_)
  refine sq ?_
  refine rg ?_
  refine l rfl (alloc ze194 rfl ?_)
  intro B0
  refine nil ?_
  refine thN ?_
  refine sq ?_
  refine rg ?_
  refine q (id (α := Val Tryz.prog _ _ _ _ _ (ag [encW kW])) (vBuildAf ze194 ar194 (.c1 rfl inferInstance (.c1 rfl inferInstance (.c1 rfl inferInstance (.c1 rfl inferInstance (.c1 rfl inferInstance (.c1 rfl inferInstance (.c1 rfl inferInstance (.c1 rfl inferInstance (.c1 rfl inferInstance (.c1 rfl inferInstance (.c1 rfl inferInstance (.c1 rfl inferInstance (.c1 rfl inferInstance (.c1 rfl inferInstance (.c1 rfl inferInstance (.c1 rfl inferInstance (.c1 rfl inferInstance (.c1 rfl inferInstance (.c1 rfl inferInstance (.c1 rfl inferInstance (.c1 rfl inferInstance (.c1 rfl inferInstance (.c1 rfl inferInstance (.c1 rfl inferInstance (.c1 rfl inferInstance (.c1 rfl inferInstance (.c1 rfl inferInstance (.c1 rfl inferInstance (.c1 rfl inferInstance (.c1 rfl inferInstance (.c1 rfl inferInstance (.c1 rfl inferInstance (.c1 rfl inferInstance (.c1 rfl inferInstance (.c1 rfl inferInstance (.c1 rfl inferInstance (.c1 rfl inferInstance (.c1 rfl inferInstance (.c1 rfl inferInstance (.c1 rfl inferInstance (.c1 rfl inferInstance (.c1 rfl inferInstance (.c1 rfl inferInstance (.c1 rfl inferInstance (.c1 rfl inferInstance (.c1 rfl inferInstance (.c1 rfl inferInstance (.c1 rfl inferInstance (.c1 rfl inferInstance (.c1 rfl inferInstance (.c1 rfl inferInstance (.c1 rfl inferInstance (.c1 rfl inferInstance (.c1 rfl inferInstance (.c1 rfl inferInstance (.c1 rfl inferInstance (.c1 rfl inferInstance (.c1 rfl inferInstance (.c1 rfl inferInstance (.c1 rfl inferInstance (.c1 rfl inferInstance (.c1 rfl inferInstance (.c1 rfl inferInstance (.c1 rfl inferInstance .nil)))))))))))))))))))))))))))))))))))))))))))))))))))))))))))))))) (by simp) (by simp))) rfl ?_
  refine l rfl (store sz194 rfl rfl T0 (by simp) (.z (.c inferInstance inferInstance .n)) ?_)
  refine nil ?_
  refine thN ?_
  refine rt ?_
  refine ret rfl (.c ag194 rfl (rB T0 (.z (.c .n))) (by simp) .nil) .nil ⟨rfl, rfl, rfl⟩
theorem ref_Sum_spec (s : List UInt8) (hs : s.length < 1073741824) (S : Mem) : PureL Tryz.prog 62 [str s] S [] (idv (sumF s)) := by
  have hz := zerosN_lt (s.length + 1)
  have hzm := zerosN_mod (s.length + 1)
  have hp := padF_mod s
  have hl := padF_len s
  refine enter Tryz.func62 rfl 77 rfl rfl (fun w0 => ?_)
  refine sq ?_
  refine rg ?_
  refine l rfl (alloc ze35 rfl ?_)
  intro B2
  refine nil ?_
  refine thN ?_
  refine sq ?_
  refine rg ?_
  refine q (vMv rfl) rfl ?_
  refine q (vLenS Tryz.underlying9 rfl) rfl ?_
  refine q (vCvN Tryz.underlying179 Tryz.underlying3 rfl (by first | omega | (simp only [Int.toNat_natCast, Int.reduceToNat, List.length_append, List.length_cons, List.length_nil, List.length_map, bid_len]; omega) | (simp <;> omega))) rfl ?_
  refine q (vMulN rfl rfl (by first | omega | (simp only [Int.toNat_natCast, Int.reduceToNat, List.length_append, List.length_cons, List.length_nil, List.length_map, bid_len]; omega) | (simp <;> omega))) rfl ?_
  refine q (vAs rfl) rfl ?_
  refine nil ?_
  refine thN ?_
  refine sq ?_
  refine rg ?_
  refine q (vMv rfl) rfl ?_
  refine l rfl (bslice sl23 ze5 (.c1 rfl inferInstance .nil) (by simp) rfl rfl rfl rfl ?_)
  intro B16
  refine q (vToStr Tryz.underlying23 Tryz.underlying5 Tryz.underlying9 rfl (srcO T0) (.k 128 128 rfl .n)) rfl ?_
  refine q (vCat rfl rfl (by first | omega | (simp only [Int.toNat_natCast, Int.reduceToNat, List.length_append, List.length_cons, List.length_nil, List.length_map, bid_len]; omega) | (simp <;> omega))) rfl ?_
  refine q (vAs rfl) rfl ?_
  refine nil ?_
  refine thN ?_
  refine sq ?_
  refine bk ?_
  refine loop (ι := Nat) (fun (j : Nat) => [(2, .pointer (some ⟨B2, 0, none⟩)), (3, .int .u64 ((s.length * 8 : Nat) : Int)), (4, str (s ++ [128] ++ List.replicate j 0))]) (fun (j : Nat) => [blk B2 35 [encId zid]]) (fun (j : Nat) => fun S' => j ≤ zerosN (s.length + 1)) (fun (j : Nat) => zerosN (s.length + 1) - j) 0 (Nat.zero_le _) (.cons rfl (by first | rfl | simp | (simp <;> omega)) (.cons rfl (by first | rfl | simp | (simp <;> omega)) (.cons rfl (by first | rfl | simp | (simp <;> omega)) .nil))) (.cons T1 (Ent.Le.of (by first | rfl | simp | (simp <;> omega))) .nil) ?_
  rintro j S2 hle2 h5
  have hlj : (s ++ [128] ++ List.replicate j 0).length = s.length + 1 + j := by simp; omega
  refine sq ?_
  refine sq ?_
  refine rg ?_
  refine q (vMv rfl) rfl ?_
  refine q (vLenS Tryz.underlying9 rfl) rfl ?_
  refine q (vRem rfl rfl (by first | omega | (simp only [Int.toNat_natCast, Int.reduceToNat, List.length_append, List.length_cons, List.length_nil, List.length_map, bid_len]; omega) | (simp <;> omega))) rfl ?_
  refine q (vNe rfl rfl) rfl ?_
  refine nil ?_
  refine thN ?_
  refine cd rfl (fun hc => ?_) (fun hc => ?_) <;> try simp only [bls, beq_iff_eq, bne_iff_ne, Int.reduceToNat, List.length_map] at hc
  · skip
    rw [hlj] at hc
    have hne : j ≠ zerosN (s.length + 1) := fun h => by subst h; omega
    have e1 : s ++ [128] ++ List.replicate j 0 ++ [0] = s ++ [128] ++ List.replicate (j + 1) 0 := by
      rw [List.append_assoc (s ++ [128]), ← List.replicate_succ']
    refine sk ?_
    refine thN ?_
    refine bk ?_
    refine rg ?_
    refine q (vMv rfl) rfl ?_
    refine l rfl (bslice sl23 ze5 (.c1 rfl inferInstance .nil) (by simp) rfl rfl rfl rfl ?_)
    intro B24
    refine q (vToStr Tryz.underlying23 Tryz.underlying5 Tryz.underlying9 rfl (srcO T0) (.k 0 0 rfl .n)) rfl ?_
    refine q (vCat rfl rfl (by first | omega | (simp only [Int.toNat_natCast, Int.reduceToNat, List.length_append, List.length_cons, List.length_nil, List.length_map, bid_len]; omega) | (simp <;> omega))) rfl ?_
    refine q (vAs rfl) rfl ?_
    refine nil ?_
    refine bkN ?_
    refine thN ?_
    refine back (j + 1) (Le.refl _) ⟨by omega, by omega⟩ (.cons rfl (by first | rfl | rw [← e1]) (.cons rfl (by first | rfl | rw [← e1]) (.cons rfl (by first | rfl | rw [← e1]) .nil))) (.cons T1 (Ent.Le.of (by first | rfl | rw [← e1])) .nil)
  · skip
    rw [hlj] at hc
    obtain rfl : j = zerosN (s.length + 1) := by omega
    generalize hA : s ++ [128] ++ List.replicate (zerosN (s.length + 1)) 0 = A
    have hAl : A.length = s.length + 1 + zerosN (s.length + 1) := by rw [← hA]; simp; omega
    have hP : padF s = A ++ lenB (s.length * 8) := by rw [padF, hA]
    refine xt ?_
    refine thX ?_
    refine thX ?_
    refine bkX ?_
    refine thN ?_
    refine sq ?_
    refine sq ?_
    refine rg ?_
    refine q (vAs rfl) rfl ?_
    refine nil ?_
    refine thN ?_
    refine bk ?_
    refine loop (ι := Nat) (fun (j : Nat) => [(2, .pointer (some ⟨B2, 0, none⟩)), (3, .int .u64 ((s.length * 8 : Nat) : Int)), (4, str (A ++ (lenB (s.length * 8)).take j)), (5, .int .i64 (7 - (j : Int)))]) (fun (j : Nat) => [blk B2 35 [encId zid]]) (fun (j : Nat) => fun S' => j ≤ 8) (fun (j : Nat) => 8 - j) 0 (Nat.zero_le _) (.cons rfl (by first | rfl | simp | (simp <;> omega)) (.cons rfl (by first | rfl | simp | (simp <;> omega)) (.cons rfl (by first | rfl | simp | (simp <;> omega)) (.cons rfl (by first | rfl | simp | (simp <;> omega)) .nil)))) (.cons T0 (Ent.Le.of (by first | rfl | simp | (simp <;> omega))) .nil) ?_
    rintro j S3 hle3 h6
    refine sq ?_
    refine sq ?_
    refine rg ?_
    refine q (vMv rfl) rfl ?_
    refine q (vGe rfl rfl) rfl ?_
    refine nil ?_
    refine thN ?_
    refine cd rfl (fun hd => ?_) (fun hd => ?_) <;> try simp only [bls, beq_iff_eq, bne_iff_ne, Int.reduceToNat, List.length_map] at hd
    · skip
      have e1 := lenB_next (s.length * 8) j (by omega)
      have hlj : (A ++ (lenB (s.length * 8)).take j).length ≤ A.length + 8 := by rw [List.length_append, List.length_take, lenB_len]; omega
      refine sk ?_
      refine thN ?_
      refine sq ?_
      refine bk ?_
      refine rg ?_
      refine q (vMv rfl) rfl ?_
      refine q (vMv rfl) rfl ?_
      refine q (vMv rfl) rfl ?_
      refine q (vMul rfl rfl (by first | omega | (simp only [Int.toNat_natCast, Int.reduceToNat, List.length_append, List.length_cons, List.length_nil, List.length_map, bid_len]; omega) | (simp <;> omega))) rfl ?_
      refine q (vCvN Tryz.underlying192 Tryz.underlying3 rfl (by first | omega | (simp only [Int.toNat_natCast, Int.reduceToNat, List.length_append, List.length_cons, List.length_nil, List.length_map, bid_len]; omega) | (simp <;> omega))) rfl ?_
      refine q (vShrU64I (56 - 8 * j) rfl rfl (by omega) (by omega)) rfl ?_
      refine q (tCvU8 Tryz.underlying5 Tryz.underlying179 rfl) rfl ?_
      refine l rfl (bslice sl23 ze5 (.c1 rfl inferInstance .nil) (by simp) rfl rfl rfl rfl ?_)
      intro B38
      refine q (vToStr Tryz.underlying23 Tryz.underlying5 Tryz.underlying9 rfl (srcO T0) (.c .n)) rfl ?_
      refine q (vCat rfl rfl (by first | omega | (simp only [Int.toNat_natCast, Int.reduceToNat, List.length_append, List.length_cons, List.length_nil, List.length_map, bid_len]; omega) | (simp <;> omega))) rfl ?_
      refine q (vAs rfl) rfl ?_
      refine nil ?_
      refine bkN ?_
      refine thN ?_
      refine rg ?_
      refine q (vMv rfl) rfl ?_
      refine q (vSub rfl rfl (by first | omega | (simp only [Int.toNat_natCast, Int.reduceToNat, List.length_append, List.length_cons, List.length_nil, List.length_map, bid_len]; omega) | (simp <;> omega))) rfl ?_
      refine q (vAs rfl) rfl ?_
      refine nil ?_
      refine thN ?_
      refine back (j + 1) (Le.refl _) ⟨by omega, by omega⟩ (.cons rfl (by first | rfl | (simp only [e1, ← List.append_assoc]; done) | (rw [e1, ← List.append_assoc]) | (congr 1 <;> omega)) (.cons rfl (by first | rfl | (simp only [e1, ← List.append_assoc]; done) | (rw [e1, ← List.append_assoc]) | (congr 1 <;> omega)) (.cons rfl (by first | rfl | (simp only [e1, ← List.append_assoc]; done) | (rw [e1, ← List.append_assoc]) | (congr 1 <;> omega)) (.cons rfl (by first | rfl | (simp only [e1, ← List.append_assoc]; done) | (rw [e1, ← List.append_assoc]) | (congr 1 <;> omega)) .nil)))) (.cons T1 (Ent.Le.of (by first | rfl | (simp only [e1, ← List.append_assoc]; done) | (rw [e1, ← List.append_assoc]) | (congr 1 <;> omega))) .nil)
    · skip
      obtain rfl : j = 8 := by omega
      have e2 : A ++ (lenB (s.length * 8)).take 8 = padF s := by rw [hP, List.take_of_length_le (by simp)]
      rw [e2]
      generalize hA2 : padF s = R at *
      refine xt ?_
      refine thX ?_
      refine thX ?_
      refine bkX ?_
      refine thN ?_
      refine sq ?_
      refine rg ?_
      refine q (id (α := Val Tryz.prog _ _ _ _ _ (ag [encW ivW])) (vBuildAf ze193 ar193 (.c1 rfl inferInstance (.c1 rfl inferInstance (.c1 rfl inferInstance (.c1 rfl inferInstance (.c1 rfl inferInstance (.c1 rfl inferInstance (.c1 rfl inferInstance (.c1 rfl inferInstance .nil)))))))) (by simp) (by simp))) rfl ?_
      refine l rfl (alloc ze193 rfl ?_)
      intro B6
      refine l rfl (store sz193 rfl rfl T0 (by simp) (.z (.c inferInstance inferInstance .n)) ?_)
      refine nil ?_
      refine thN ?_
      refine sq ?_
      refine rg ?_
      refine l rfl (callP cf111 (ref_k_spec _) rfl .nil rfl ?_)
      refine l rfl (alloc ze194 rfl ?_)
      intro B7
      refine l rfl (store sz194 rfl rfl T0 (by simp) (.z (.c inferInstance inferInstance .n)) ?_)
      refine nil ?_
      refine thN ?_
      refine sq ?_
      refine sq ?_
      refine rg ?_
      refine q (vAs rfl) rfl ?_
      refine nil ?_
      refine thN ?_
      refine bk ?_
      refine loop (ι := Nat) (fun (j : Nat) => [(2, .pointer (some ⟨B2, 0, none⟩)), (4, str R), (6, .pointer (some ⟨B6, 0, none⟩)), (7, .pointer (some ⟨B7, 0, none⟩)), (8, .int .i64 (64 * (j : Int)))]) (fun (j : Nat) => [blk B2 35 [encId zid], blk B6 193 [encW (foldB kW j ivW R)], blk B7 194 [encW kW]]) (fun (j : Nat) => fun S' => j ≤ R.length / 64) (fun (j : Nat) => R.length / 64 - j) 0 (Nat.zero_le _) (.cons rfl (by first | rfl | simp | (simp <;> omega)) (.cons rfl (by first | rfl | simp | (simp <;> omega)) (.cons rfl (by first | rfl | simp | (simp <;> omega)) (.cons rfl (by first | rfl | simp | (simp <;> omega)) (.cons rfl (by first | rfl | simp | (simp <;> omega)) .nil))))) (.cons T2 (Ent.Le.of (by first | rfl | simp | (simp <;> omega))) (.cons T1 (Ent.Le.of (by first | rfl | simp | (simp <;> omega))) (.cons T0 (Ent.Le.of (by first | rfl | simp | (simp <;> omega))) .nil))) ?_
      rintro j S4 hle4 h7
      refine sq ?_
      refine sq ?_
      refine rg ?_
      refine q (vMv rfl) rfl ?_
      refine q (vAdd rfl rfl (by first | omega | (simp only [Int.toNat_natCast, Int.reduceToNat, List.length_append, List.length_cons, List.length_nil, List.length_map, bid_len]; omega) | (simp <;> omega))) rfl ?_
      refine q (vMv rfl) rfl ?_
      refine q (vLenS Tryz.underlying9 rfl) rfl ?_
      refine q (vLe rfl rfl) rfl ?_
      refine nil ?_
      refine thN ?_
      refine cd rfl (fun he => ?_) (fun he => ?_) <;> try simp only [bls, beq_iff_eq, bne_iff_ne, Int.reduceToNat, List.length_map] at he
      · skip
        refine sk ?_
        refine thN ?_
        refine sq ?_
        refine bk ?_
        refine dr (.take 0 (.take 1 (.take 2 (.take 3 (.take 4 (.take 5 (.take 6 (.one 7 (.last 8))))))))) wide (by decide +kernel) _ _ (.cons T0 (.cons T0 (.cons T0 .nil))) ?_
        refine pT rfl (vLdA ag193 rfl (rB T1 (.z (.c .n))) (by simp)) rfl ?_
        refine pT rfl (vMv rfl) rfl ?_
        refine pT rfl (vMv rfl) rfl ?_
        refine pT rfl (vMv rfl) rfl ?_
        refine pT rfl (vAdd rfl rfl (by first | omega | (simp only [Int.toNat_natCast, Int.reduceToNat, List.length_append, List.length_cons, List.length_nil, List.length_map, bid_len]; omega) | (simp <;> omega))) rfl ?_
        refine pT rfl (vSlS Tryz.underlying9 rfl rfl rfl (by first | omega | (simp only [Int.toNat_natCast, Int.reduceToNat, List.length_append, List.length_cons, List.length_nil, List.length_map, bid_len]; omega) | (simp <;> omega))) rfl ?_
        refine pT rfl (vLdA ag194 rfl (rB T2 (.z (.c .n))) (by simp)) rfl ?_
        refine pO ?_
        refine opL rfl rfl (callP cf112 (ref_block_spec _ _ _ (by rw [List.length_take, List.length_drop]; omega) _) rfl .nil rfl ?_)
        refine pK (Le.refl _) (.cons T0 (.cons T0 (.cons T0 .nil))) ?_
        refine pL ?_
        refine opL rfl rfl (store sz193 rfl rfl T1 (by simp) (.z (.c inferInstance inferInstance .n)) ?_)
        refine bkN ?_
        refine thN ?_
        refine rg ?_
        refine q (vMv rfl) rfl ?_
        refine q (vAdd rfl rfl (by first | omega | (simp only [Int.toNat_natCast, Int.reduceToNat, List.length_append, List.length_cons, List.length_nil, List.length_map, bid_len]; omega) | (simp <;> omega))) rfl ?_
        refine q (vAs rfl) rfl ?_
        refine nil ?_
        refine thN ?_
        have e3 := foldB_next kW j ivW R
        have n1 : ((64 : Int) * (j : Int)).toNat = 64 * j := by omega
        have n2 : ((64 : Int) * (j : Int) + 64).toNat - 64 * j = 64 := by omega
        simp only [n1, n2]
        refine back (j + 1) (Le.refl _) ⟨by omega, by omega⟩ (.cons rfl (by first | rfl | (rw [e3]) | (simp; omega)) (.cons rfl (by first | rfl | (rw [e3]) | (simp; omega)) (.cons rfl (by first | rfl | (rw [e3]) | (simp; omega)) (.cons rfl (by first | rfl | (rw [e3]) | (simp; omega)) (.cons rfl (by first | rfl | (rw [e3]) | (simp; omega)) .nil))))) (.cons T1 (Ent.Le.of (by first | rfl | (rw [e3]) | (simp; omega))) (.cons T0 (Ent.Le.of (by first | rfl | (rw [e3]) | (simp; omega))) (.cons T0 (Ent.Le.of (by first | rfl | (rw [e3]) | (simp; omega))) .nil)))
      · skip
        obtain rfl : j = R.length / 64 := by omega
        generalize hH : foldB kW (R.length / 64) ivW R = H
        have hS : sumF s = outP H 32 := by rw [sumF_def, hA2, hH]
        refine xt ?_
        refine thX ?_
        refine thX ?_
        refine bkX ?_
        refine thN ?_
        refine sq ?_
        refine rg ?_
        refine q (vBuildA0 ze35 ar35) rfl ?_
        refine l rfl (alloc ze35 rfl ?_)
        intro B9
        refine l rfl (store sz35 rfl rfl T0 (by simp) (.z (.c inferInstance inferInstance .n)) ?_)
        refine nil ?_
        refine thN ?_
        refine sq ?_
        refine sq ?_
        refine rg ?_
        refine q (vAs rfl) rfl ?_
        refine nil ?_
        refine thN ?_
        refine bk ?_
        refine loop (ι := Nat) (fun (i : Nat) => [(2, .pointer (some ⟨B2, 0, none⟩)), (6, .pointer (some ⟨B6, 0, none⟩)), (9, .pointer (some ⟨B9, 0, none⟩)), (10, .int .i64 (i : Int))]) (fun (i : Nat) => [blk B2 35 [encId zid], blk B6 193 [encW H], blk B9 35 [encId (outP H i)]]) (fun (i : Nat) => fun S' => i ≤ 32) (fun (i : Nat) => 32 - i) 0 (Nat.zero_le _) (.cons rfl (by first | rfl | simp | (simp <;> omega)) (.cons rfl (by first | rfl | simp | (simp <;> omega)) (.cons rfl (by first | rfl | simp | (simp <;> omega)) (.cons rfl (by first | rfl | simp | (simp <;> omega)) .nil)))) (.cons T1 (Ent.Le.of (by first | rfl | simp | (simp <;> omega))) (.cons T1 (Ent.Le.of (by first | rfl | simp | (simp <;> omega))) (.cons T0 (Ent.Le.of (by first | rfl | simp | (simp <;> omega))) .nil))) ?_
        rintro i S5 hle5 h8
        refine sq ?_
        refine sq ?_
        refine rg ?_
        refine q (vMv rfl) rfl ?_
        refine q (vLt rfl rfl) rfl ?_
        refine nil ?_
        refine thN ?_
        refine cd rfl (fun hf => ?_) (fun hf => ?_) <;> try simp only [bls, beq_iff_eq, bne_iff_ne, Int.reduceToNat, List.length_map] at hf
        · skip
          refine sk ?_
          refine thN ?_
          refine sq ?_
          refine bk ?_
          refine rg ?_
          refine q (vMv rfl) rfl ?_
          refine q (vMv rfl) rfl ?_
          refine q (vQuo rfl rfl (by first | omega | (simp only [Int.toNat_natCast, Int.reduceToNat, List.length_append, List.length_cons, List.length_nil, List.length_map, bid_len]; omega) | (simp <;> omega))) rfl ?_
          refine q (vIxA ar193 rfl rfl (by first | omega | (simp only [Int.toNat_natCast, Int.reduceToNat, List.length_append, List.length_cons, List.length_nil, List.length_map, bid_len]; omega) | (simp <;> omega))) rfl ?_
          refine q (vLd sc75 rfl (Rd.ix (rB1 T1 (.z (.c .n))) (gm (by first | omega | (simp only [Int.toNat_natCast, Int.reduceToNat, List.length_append, List.length_cons, List.length_nil, List.length_map, bid_len]; omega) | (simp <;> omega))))) rfl ?_
          refine q (vMv rfl) rfl ?_
          refine q (vRem rfl rfl (by first | omega | (simp only [Int.toNat_natCast, Int.reduceToNat, List.length_append, List.length_cons, List.length_nil, List.length_map, bid_len]; omega) | (simp <;> omega))) rfl ?_
          refine q (vMul rfl rfl (by first | omega | (simp only [Int.toNat_natCast, Int.reduceToNat, List.length_append, List.length_cons, List.length_nil, List.length_map, bid_len]; omega) | (simp <;> omega))) rfl ?_
          refine q (vSub rfl rfl (by first | omega | (simp only [Int.toNat_natCast, Int.reduceToNat, List.length_append, List.length_cons, List.length_nil, List.length_map, bid_len]; omega) | (simp <;> omega))) rfl ?_
          refine q (vCvN Tryz.underlying192 Tryz.underlying3 rfl (by first | omega | (simp only [Int.toNat_natCast, Int.reduceToNat, List.length_append, List.length_cons, List.length_nil, List.length_map, bid_len]; omega) | (simp <;> omega))) rfl ?_
          refine q (tShrU32I (24 - 8 * (i % 4)) rfl rfl (by omega) (by omega)) rfl ?_
          refine q (tCvU8 Tryz.underlying5 Tryz.underlying75 rfl) rfl ?_
          refine q (vIxA ar35 rfl rfl (by first | omega | (simp only [Int.toNat_natCast, Int.reduceToNat, List.length_append, List.length_cons, List.length_nil, List.length_map, bid_len]; omega) | (simp <;> omega))) rfl ?_
          refine l rfl (storeI sz5 rfl rfl T2 .z (by first | omega | (simp only [Int.toNat_natCast, Int.reduceToNat, List.length_append, List.length_cons, List.length_nil, List.length_map, bid_len]; omega) | (simp <;> omega)) ?_)
          refine nil ?_
          refine bkN ?_
          refine thN ?_
          refine rg ?_
          refine q (vMv rfl) rfl ?_
          refine q (vAdd rfl rfl (by first | omega | (simp only [Int.toNat_natCast, Int.reduceToNat, List.length_append, List.length_cons, List.length_nil, List.length_map, bid_len]; omega) | (simp <;> omega))) rfl ?_
          refine q (vAs rfl) rfl ?_
          refine nil ?_
          refine thN ?_
          have ed : (default : UInt32) = 0 := rfl
          have n1 : ((i : Int) / 4).toNat = i / 4 := by omega
          have e2 : outP H (i + 1) = setI (outP H i) i (wByte H i) := rfl
          have e1 := encId_set (outP H i) i (wByte H i)
          rw [← e2] at e1
          simp only [ed, n1, Int.toNat_natCast, Nat.mul_one]
          refine back (i + 1) (Le.refl _) ⟨by omega, by omega⟩ (.cons rfl (by first | rfl | exact congrArg (fun z => blk B9 35 [z]) e1) (.cons rfl (by first | rfl | exact congrArg (fun z => blk B9 35 [z]) e1) (.cons rfl (by first | rfl | exact congrArg (fun z => blk B9 35 [z]) e1) (.cons rfl (by first | rfl | exact congrArg (fun z => blk B9 35 [z]) e1) .nil)))) (.cons T1 (Ent.Le.of (by first | rfl | exact congrArg (fun z => blk B9 35 [z]) e1)) (.cons T1 (Ent.Le.of (by first | rfl | exact congrArg (fun z => blk B9 35 [z]) e1)) (.cons T0 (Ent.Le.of (by first | rfl | exact congrArg (fun z => blk B9 35 [z]) e1)) .nil)))
        · skip
          obtain rfl : i = 32 := by omega
          refine xt ?_
          refine thX ?_
          refine thX ?_
          refine bkX ?_
          refine thN ?_
          refine sq ?_
          refine rg ?_
          refine q (vLdA ag35 rfl (rB T2 (.z (.c .n))) (by simp)) rfl ?_
          refine l rfl (store sz35 rfl rfl T0 (by simp) (.z (.c inferInstance inferInstance .n)) ?_)
          refine nil ?_
          refine thN ?_
          refine rt ?_
          rw [hS]
          refine retP rfl (.c ag35 rfl (rB T0 (.z (.c .n))) (by simp) .nil) .nil ⟨rfl, rfl, rfl⟩
end Go.Proofs.YtjmigoikklkfdaaGreatDoor
namespace Go.Proofs.YtjmigoikklkfdaaGreatDoor
open Go
set_option linter.unusedVariables false
set_option linter.unusedSimpArgs false
set_option maxRecDepth 4000
theorem Cls.belowL {S : Mem} {L : List Ent} {w w' : World} (hc : Cls S L w) (hb : RowKit.Below w.heap.size w w') : Step S L w S L w' := by
  have key : ∀ b, b < w.heap.size → w'.heap[b]? = w.heap[b]? := fun b hb' => hb.block b hb'
  refine ⟨⟨fun b o v hv => by rw [cell_of_heap (key b (hc.slt hv))]; exact hc.per b o v hv, fun e he => ?_, hc.apart, hc.free⟩, Le.refl _, hb.size, fun b hb' _ => key b hb', fun b h => .inl h, fun b o v h g => (by rw [g] at h; cases h), ⟨hb.os, hb.output⟩⟩
  exact e.loc _ _ (fun b hb' => (key b (hc.lt ⟨e, he, hb'⟩)).symm) (hc.own e he)
theorem Join_one (v : Value) (s : List UInt8) (hs : s.length < 1073741824) (S : Mem) : Spec Tryz.prog 179 [v, str []] S [sl v 9 1 [[str s]]] (fun S' r L' => r = str s ∧ S' = S ∧ L' = [sl v 9 1 [[str s]]]) := by
  intro w hc
  obtain ⟨hm, hk⟩ := hc.own _ (List.mem_cons_self ..)
  rcases hk with ⟨_, h0⟩ | ⟨g, cap, cur, rfl, hg, h1, h2, h3, h4⟩
  · cases h0
  · have hcell : ∀ (j : Nat) x, [(⟨s.toArray⟩ : ByteArray)][j]? = some x → w.cell? ⟨g, 0 + j, none⟩ = some (.string x) := by
      intro j x hj
      match j, hj with
      | 0, hj =>
        obtain rfl : (⟨s.toArray⟩ : ByteArray) = x := by simpa using hj
        have h5 : cur[0]? = some (str s) := by
          have : (cur.toList.take 1)[0]? = some (str s) := by rw [show (1 : Nat) = [[str s]].length * 1 from rfl, h4]; rfl
          simpa [List.getElem?_take] using this
        simp only [hp] at hg
        simp [World.cell?, hg, h5]
      | j + 1, hj => simp at hj
    have hlt : g < w.heap.size := hc.lt ⟨_, List.mem_cons_self .., by simp [sl, slDom]⟩
    have hj := Tryz.strings_Join g 0 cap [⟨s.toArray⟩] ⟨[].toArray⟩ w hcell hlt (by simp) (by simpa using h1) (by simp [Lib.join_one]; omega)
    refine hj.mono ?_
    rintro en w' ⟨rfl, hb⟩
    refine ⟨_, S, _, rfl, ⟨?_, rfl, rfl⟩, hc.belowL hb⟩
    simp [Lib.join_one]
theorem repeat_zero : ∀ c, Lib.repeatL [0] c = List.replicate c 0
  | 0 => rfl
  | c + 1 => by rw [Lib.repeatL, repeat_zero c]; rfl
theorem Repeat_spec (c : Nat) (j : Int) (hj : j = (c : Int)) (hc : c < 1073741824) (S : Mem) : PureL Tryz.prog 180 [str [0], .int .i64 j] S [] (str (List.replicate c 0)) := by
  subst hj
  refine PureL.below (fun w => ?_) S
  have h := Tryz.strings_Repeat ⟨[0].toArray⟩ c w (by omega) (by simp [ByteArray.size]; omega)
  refine h.mono ?_
  rintro en w' ⟨rfl, hb⟩
  refine ⟨?_, hb⟩
  simp [repeat_zero]
theorem Sum_spec (v : Value) (s : List UInt8) (hs : s.length < 1073741824) (S : Mem) (constants_pb : PB S 0 0 (encW kW)) :
    Spec Tryz.prog 141 [v] S [sl v 9 1 [[str s]]] (fun S' r L' => r = idv (sumF s) ∧ S' = S ∧ L' = []) := by
  have hz := zerosN_lt (s.length + 1)
  have hzm := zerosN_mod (s.length + 1)
  have hp := padF_mod s
  have hl := padF_len s
  refine enter Tryz.func141 rfl 65 rfl rfl (fun w0 => ?_)
  refine sq ?_
  refine rg ?_
  refine l rfl (alloc ze35 rfl ?_)
  intro B2
  refine nil ?_
  refine thN ?_
  refine sq ?_
  refine rg ?_
  refine q (vMv rfl) rfl ?_
  refine l rfl (call cf179 (Join_one v s hs _) rfl (.cons T1 .nil) rfl ?_)
  intro S1 r1 l1 hS1 hp1
  obtain ⟨rfl, rfl, rfl⟩ := hp1
  replace constants_pb := constants_pb.mono hS1
  refine q (vAs rfl) rfl ?_
  refine nil ?_
  refine thN ?_
  refine sq ?_
  refine rg ?_
  refine q (vMv rfl) rfl ?_
  refine q (vLenS Tryz.underlying9 rfl) rfl ?_
  refine q (vCvN Tryz.underlying179 Tryz.underlying3 rfl (by first | omega | (simp only [Int.toNat_natCast, Int.reduceToNat, List.length_append, List.length_cons, List.length_nil, List.length_map, bid_len]; omega) | (simp <;> omega))) rfl ?_
  refine q (vMulN rfl rfl (by first | omega | (simp only [Int.toNat_natCast, Int.reduceToNat, List.length_append, List.length_cons, List.length_nil, List.length_map, bid_len]; omega) | (simp <;> omega))) rfl ?_
  refine q (vAs rfl) rfl ?_
  refine nil ?_
  refine thN ?_
  refine sq ?_
  refine rg ?_
  refine q (vMv rfl) rfl ?_
  refine q (vCat rfl rfl (by first | omega | (simp only [Int.toNat_natCast, Int.reduceToNat, List.length_append, List.length_cons, List.length_nil, List.length_map, bid_len]; omega) | (simp <;> omega))) rfl ?_
  refine q (vAs rfl) rfl ?_
  refine nil ?_
  refine thN ?_
  refine sq ?_
  refine rg ?_
  refine q (vMv rfl) rfl ?_
  refine q (vMv rfl) rfl ?_
  refine q (vLenS Tryz.underlying9 rfl) rfl ?_
  refine q (vRem rfl rfl (by first | omega | (simp only [Int.toNat_natCast, Int.reduceToNat, List.length_append, List.length_cons, List.length_nil, List.length_map, bid_len]; omega) | (simp <;> omega))) rfl ?_
  refine q (vSub rfl rfl (by first | omega | (simp only [Int.toNat_natCast, Int.reduceToNat, List.length_append, List.length_cons, List.length_nil, List.length_map, bid_len]; omega) | (simp <;> omega))) rfl ?_
  refine q (vRem rfl rfl (by first | omega | (simp only [Int.toNat_natCast, Int.reduceToNat, List.length_append, List.length_cons, List.length_nil, List.length_map, bid_len]; omega) | (simp <;> omega))) rfl ?_
  refine l rfl (callP cf180 (Repeat_spec (zerosN (s.length + 1)) _ (by simp [zerosN]; omega) (by omega) _) rfl .nil rfl ?_)
  refine q (vCat rfl rfl (by first | omega | (simp only [Int.toNat_natCast, Int.reduceToNat, List.length_append, List.length_cons, List.length_nil, List.length_map, bid_len]; omega) | (simp <;> omega))) rfl ?_
  refine q (vAs rfl) rfl ?_
  refine nil ?_
  refine thN ?_
  refine sq ?_
  refine sq ?_
  refine rg ?_
  refine q (vMv rfl) rfl ?_
  refine nil ?_
  refine thN ?_
  refine bk ?_
  generalize hA : s ++ [128] ++ List.replicate (zerosN (s.length + 1)) 0 = A
  have hAl : A.length = s.length + 1 + zerosN (s.length + 1) := by rw [← hA]; simp; omega
  have hP : padF s = A ++ lenB (s.length * 8) := by rw [padF, hA]
  refine loop (ι := Nat) (fun (j : Nat) => [(2, .pointer (some ⟨B2, 0, none⟩)), (4, .int .u64 ((s.length * 8 : Nat) : Int)), (3, str (A ++ (lenB (s.length * 8)).take j)), (25, .int .i64 (j : Int))]) (fun (j : Nat) => [blk B2 35 [encId zid]]) (fun (j : Nat) => fun S' => j ≤ 8) (fun (j : Nat) => 8 - j) 0 (Nat.zero_le _) (.cons rfl (by first | rfl | simp | (simp <;> omega)) (.cons rfl (by first | rfl | simp | (simp <;> omega)) (.cons rfl (by first | rfl | simp | (simp <;> omega)) (.cons rfl (by first | rfl | simp | (simp <;> omega)) .nil)))) (.cons T1 (Ent.Le.of (by first | rfl | simp | (simp <;> omega))) .nil) ?_
  rintro j S3 hle3 h6
  replace constants_pb := constants_pb.mono hle3
  refine sq ?_
  refine rg ?_
  refine q (vLt rfl rfl) rfl ?_
  refine nil ?_
  refine thN ?_
  refine sq ?_
  refine cd rfl (fun hd => ?_) (fun hd => ?_) <;> try simp only [bls, beq_iff_eq, bne_iff_ne, Int.reduceToNat, List.length_map] at hd
  · skip
    have e1 := lenB_next (s.length * 8) j (by omega)
    have hlj : (A ++ (lenB (s.length * 8)).take j).length ≤ A.length + 8 := by rw [List.length_append, List.length_take, lenB_len]; omega
    refine sk ?_
    refine thN ?_
    refine sq ?_
    refine bk ?_
    refine sq ?_
    refine rg ?_
    refine q (vMv rfl) rfl ?_
    refine q (vAs rfl) rfl ?_
    refine nil ?_
    refine thN ?_
    refine rg ?_
    refine q (vMv rfl) rfl ?_
    refine q (vMv rfl) rfl ?_
    refine q (vMv rfl) rfl ?_
    refine q (vMul rfl rfl (by first | omega | (simp only [Int.toNat_natCast, Int.reduceToNat, List.length_append, List.length_cons, List.length_nil, List.length_map, bid_len]; omega) | (simp <;> omega))) rfl ?_
    refine q (vSub rfl rfl (by first | omega | (simp only [Int.toNat_natCast, Int.reduceToNat, List.length_append, List.length_cons, List.length_nil, List.length_map, bid_len]; omega) | (simp <;> omega))) rfl ?_
    refine q (vShrU64I (56 - 8 * j) rfl rfl (by omega) (by omega)) rfl ?_
    refine q (tCvU8 Tryz.underlying5 Tryz.underlying179 rfl) rfl ?_
    refine l rfl (bslice sl23 ze5 (.c1 rfl inferInstance .nil) (by simp) rfl rfl rfl rfl ?_)
    intro B35
    refine q (vToStr Tryz.underlying23 Tryz.underlying5 Tryz.underlying9 rfl (srcO T0) (.c .n)) rfl ?_
    refine q (vCat rfl rfl (by first | omega | (simp only [Int.toNat_natCast, Int.reduceToNat, List.length_append, List.length_cons, List.length_nil, List.length_map, bid_len]; omega) | (simp <;> omega))) rfl ?_
    refine q (vAs rfl) rfl ?_
    refine nil ?_
    refine bkN ?_
    refine thN ?_
    refine rg ?_
    refine q (vAdd rfl rfl (by first | omega | (simp only [Int.toNat_natCast, Int.reduceToNat, List.length_append, List.length_cons, List.length_nil, List.length_map, bid_len]; omega) | (simp <;> omega))) rfl ?_
    refine q (vMv rfl) rfl ?_
    refine nil ?_
    refine thN ?_
    refine back (j + 1) (Le.refl _) ⟨by omega, by omega⟩ (.cons rfl (by first | rfl | (simp only [e1, ← List.append_assoc]; done) | (rw [e1, ← List.append_assoc]) | (congr 1 <;> omega)) (.cons rfl (by first | rfl | (simp only [e1, ← List.append_assoc]; done) | (rw [e1, ← List.append_assoc]) | (congr 1 <;> omega)) (.cons rfl (by first | rfl | (simp only [e1, ← List.append_assoc]; done) | (rw [e1, ← List.append_assoc]) | (congr 1 <;> omega)) (.cons rfl (by first | rfl | (simp only [e1, ← List.append_assoc]; done) | (rw [e1, ← List.append_assoc]) | (congr 1 <;> omega)) .nil)))) (.cons T1 (Ent.Le.of (by first | rfl | (simp only [e1, ← List.append_assoc]; done) | (rw [e1, ← List.append_assoc]) | (congr 1 <;> omega))) .nil)
  · skip
    obtain rfl : j = 8 := by omega
    have e2 : A ++ (lenB (s.length * 8)).take 8 = padF s := by rw [hP, List.take_of_length_le (by simp)]
    rw [e2]
    generalize hA2 : padF s = R at *
    refine xt ?_
    refine thX ?_
    refine thX ?_
    refine bkX ?_
    refine thN ?_
    refine sq ?_
    refine rg ?_
    refine q (id (α := Val Tryz.prog _ _ _ _ _ (ag [encW ivW])) (vBuildAf ze193 ar193 (.c1 rfl inferInstance (.c1 rfl inferInstance (.c1 rfl inferInstance (.c1 rfl inferInstance (.c1 rfl inferInstance (.c1 rfl inferInstance (.c1 rfl inferInstance (.c1 rfl inferInstance .nil)))))))) (by simp) (by simp))) rfl ?_
    refine l rfl (alloc ze193 rfl ?_)
    intro B6
    refine l rfl (store sz193 rfl rfl T0 (by simp) (.z (.c inferInstance inferInstance .n)) ?_)
    refine nil ?_
    refine thN ?_
    refine sq ?_
    refine bk ?_
    refine loop (ι := Nat) (fun (j : Nat) => [(2, .pointer (some ⟨B2, 0, none⟩)), (3, str (R.drop (64 * j))), (6, .pointer (some ⟨B6, 0, none⟩))]) (fun (j : Nat) => [blk B2 35 [encId zid], blk B6 193 [encW (foldB kW j ivW R)]]) (fun (j : Nat) => fun S' => j ≤ R.length / 64) (fun (j : Nat) => R.length / 64 - j) 0 (Nat.zero_le _) (.cons rfl (by first | rfl | simp | (simp <;> omega)) (.cons rfl (by first | rfl | simp | (simp <;> omega)) (.cons rfl (by first | rfl | simp | (simp <;> omega)) .nil))) (.cons T1 (Ent.Le.of (by first | rfl | simp | (simp <;> omega))) (.cons T0 (Ent.Le.of (by first | rfl | simp | (simp <;> omega))) .nil)) ?_
    rintro j S4 hle4 h7
    replace constants_pb := constants_pb.mono hle4
    have hdl : (R.drop (64 * j)).length = R.length - 64 * j := by rw [List.length_drop]
    refine sq ?_
    refine sq ?_
    refine rg ?_
    refine q (vMv rfl) rfl ?_
    refine q (vNeS rfl rfl) rfl ?_
    refine nil ?_
    refine thN ?_
    refine cd rfl (fun he => ?_) (fun he => ?_) <;> try simp only [bls, beq_iff_eq, bne_iff_ne, Int.reduceToNat, List.length_map] at he
    · skip
      have hj : j < R.length / 64 := by
        rcases Nat.lt_or_ge j (R.length / 64) with h | h
        · exact h
        · exact absurd (List.drop_eq_nil_of_le (by omega)) he
      have hR : 64 ≤ (R.drop (64 * j)).length := by omega
      refine sk ?_
      refine thN ?_
      refine sq ?_
      refine bk ?_
      refine dr (.take 0 (.take 1 (.take 2 (.one 3 (.last 4))))) wide (by decide +kernel) _ _ (.cons T0 (.cons T0 .nil)) ?_
      refine pT rfl (vLdA ag193 rfl (rB T1 (.z (.c .n))) (by simp)) rfl ?_
      refine pT rfl (vMv rfl) rfl ?_
      refine pT rfl (vSlSh Tryz.underlying9 rfl rfl (by first | omega | (simp only [Int.toNat_natCast, Int.reduceToNat, List.length_append, List.length_cons, List.length_nil, List.length_map, bid_len]; omega) | (simp <;> omega))) rfl ?_
      refine pO ?_
      refine opL rfl rfl (callP cf181 (block_spec _ _ (by rw [List.length_take]; simp; omega) _ constants_pb) rfl .nil rfl ?_)
      refine pK (Le.refl _) (.cons T0 (.cons T0 .nil)) ?_
      refine pL ?_
      refine opL rfl rfl (store sz193 rfl rfl T1 (by simp) (.z (.c inferInstance inferInstance .n)) ?_)
      refine bkN ?_
      refine thN ?_
      refine rg ?_
      refine q (vMv rfl) rfl ?_
      refine q (vSlSl Tryz.underlying9 rfl rfl (by first | omega | (simp only [Int.toNat_natCast, Int.reduceToNat, List.length_append, List.length_cons, List.length_nil, List.length_map, bid_len]; omega) | (simp <;> omega))) rfl ?_
      refine q (vAs rfl) rfl ?_
      refine nil ?_
      refine thN ?_
      have e3 := foldB_next kW j ivW R
      have e4 : List.drop (64 : Int).toNat (List.drop (64 * j) R) = List.drop (64 * (j + 1)) R := by rw [List.drop_drop]; congr 1
      have e5 : (64 : Int).toNat = 64 := rfl
      rw [e4]
      simp only [e5]
      refine back (j + 1) (Le.refl _) ⟨by omega, by omega⟩ (.cons rfl (by first | rfl | (rw [e3]) | (simp; omega)) (.cons rfl (by first | rfl | (rw [e3]) | (simp; omega)) (.cons rfl (by first | rfl | (rw [e3]) | (simp; omega)) .nil))) (.cons T1 (Ent.Le.of (by first | rfl | (rw [e3]) | (simp; omega))) (.cons T0 (Ent.Le.of (by first | rfl | (rw [e3]) | (simp; omega))) .nil))
    · skip
      obtain rfl : j = R.length / 64 := by
        rcases Nat.lt_or_ge j (R.length / 64) with h | h
        · have := congrArg List.length he
          rw [hdl] at this; simp at this; omega
        · omega
      generalize hH : foldB kW (R.length / 64) ivW R = H
      have hS : sumF s = outP H 32 := by rw [sumF_def, hA2, hH]
      refine xt ?_
      refine thX ?_
      refine thX ?_
      refine bkX ?_
      refine thN ?_
      refine sq ?_
      refine rg ?_
      refine l rfl (alloc ze35 rfl ?_)
      intro B7
      refine nil ?_
      refine thN ?_
      refine sq ?_
      refine sq ?_
      refine rg ?_
      refine q (vMv rfl) rfl ?_
      refine nil ?_
      refine thN ?_
      refine bk ?_
      refine loop (ι := Nat) (fun (i : Nat) => [(2, .pointer (some ⟨B2, 0, none⟩)), (6, .pointer (some ⟨B6, 0, none⟩)), (7, .pointer (some ⟨B7, 0, none⟩)), (48, .int .i64 (i : Int))]) (fun (i : Nat) => [blk B2 35 [encId zid], blk B6 193 [encW H], blk B7 35 [encId (outP H i)]]) (fun (i : Nat) => fun S' => i ≤ 32) (fun (i : Nat) => 32 - i) 0 (Nat.zero_le _) (.cons rfl (by first | rfl | simp | (simp <;> omega)) (.cons rfl (by first | rfl | simp | (simp <;> omega)) (.cons rfl (by first | rfl | simp | (simp <;> omega)) (.cons rfl (by first | rfl | simp | (simp <;> omega)) .nil)))) (.cons T1 (Ent.Le.of (by first | rfl | simp | (simp <;> omega))) (.cons T1 (Ent.Le.of (by first | rfl | simp | (simp <;> omega))) (.cons T0 (Ent.Le.of (by first | rfl | simp | (simp <;> omega))) .nil))) ?_
      rintro i S5 hle5 h8
      refine sq ?_
      refine rg ?_
      refine q (vLt rfl rfl) rfl ?_
      refine nil ?_
      refine thN ?_
      refine sq ?_
      refine cd rfl (fun hf => ?_) (fun hf => ?_) <;> try simp only [bls, beq_iff_eq, bne_iff_ne, Int.reduceToNat, List.length_map] at hf
      · skip
        refine sk ?_
        refine thN ?_
        refine sq ?_
        refine bk ?_
        refine sq ?_
        refine rg ?_
        refine q (vMv rfl) rfl ?_
        refine q (vAs rfl) rfl ?_
        refine nil ?_
        refine thN ?_
        refine rg ?_
        refine q (vMv rfl) rfl ?_
        refine q (vMv rfl) rfl ?_
        refine q (vQuo rfl rfl (by first | omega | (simp only [Int.toNat_natCast, Int.reduceToNat, List.length_append, List.length_cons, List.length_nil, List.length_map, bid_len]; omega) | (simp <;> omega))) rfl ?_
        refine q (vIxA ar193 rfl rfl (by first | omega | (simp only [Int.toNat_natCast, Int.reduceToNat, List.length_append, List.length_cons, List.length_nil, List.length_map, bid_len]; omega) | (simp <;> omega))) rfl ?_
        refine q (vLd sc75 rfl (Rd.ix (rB1 T1 (.z (.c .n))) (gm (by first | omega | (simp only [Int.toNat_natCast, Int.reduceToNat, List.length_append, List.length_cons, List.length_nil, List.length_map, bid_len]; omega) | (simp <;> omega))))) rfl ?_
        refine q (vMv rfl) rfl ?_
        refine q (vRem rfl rfl (by first | omega | (simp only [Int.toNat_natCast, Int.reduceToNat, List.length_append, List.length_cons, List.length_nil, List.length_map, bid_len]; omega) | (simp <;> omega))) rfl ?_
        refine q (vMul rfl rfl (by first | omega | (simp only [Int.toNat_natCast, Int.reduceToNat, List.length_append, List.length_cons, List.length_nil, List.length_map, bid_len]; omega) | (simp <;> omega))) rfl ?_
        refine q (vSub rfl rfl (by first | omega | (simp only [Int.toNat_natCast, Int.reduceToNat, List.length_append, List.length_cons, List.length_nil, List.length_map, bid_len]; omega) | (simp <;> omega))) rfl ?_
        refine q (tShrU32I (24 - 8 * (i % 4)) rfl rfl (by omega) (by omega)) rfl ?_
        refine q (tCvU8 Tryz.underlying5 Tryz.underlying75 rfl) rfl ?_
        refine q (vIxA ar35 rfl rfl (by first | omega | (simp only [Int.toNat_natCast, Int.reduceToNat, List.length_append, List.length_cons, List.length_nil, List.length_map, bid_len]; omega) | (simp <;> omega))) rfl ?_
        refine l rfl (storeI sz5 rfl rfl T2 .z (by first | omega | (simp only [Int.toNat_natCast, Int.reduceToNat, List.length_append, List.length_cons, List.length_nil, List.length_map, bid_len]; omega) | (simp <;> omega)) ?_)
        refine nil ?_
        refine bkN ?_
        refine thN ?_
        refine rg ?_
        refine q (vAdd rfl rfl (by first | omega | (simp only [Int.toNat_natCast, Int.reduceToNat, List.length_append, List.length_cons, List.length_nil, List.length_map, bid_len]; omega) | (simp <;> omega))) rfl ?_
        refine q (vMv rfl) rfl ?_
        refine nil ?_
        refine thN ?_
        have ed : (default : UInt32) = 0 := rfl
        have n1 : ((i : Int) / 4).toNat = i / 4 := by omega
        have e2 : outP H (i + 1) = setI (outP H i) i (wByte H i) := rfl
        have e1 := encId_set (outP H i) i (wByte H i)
        rw [← e2] at e1
        simp only [ed, n1, Int.toNat_natCast, Nat.mul_one]
        refine back (i + 1) (Le.refl _) ⟨by omega, by omega⟩ (.cons rfl (by first | rfl | exact congrArg (fun z => blk B7 35 [z]) e1) (.cons rfl (by first | rfl | exact congrArg (fun z => blk B7 35 [z]) e1) (.cons rfl (by first | rfl | exact congrArg (fun z => blk B7 35 [z]) e1) (.cons rfl (by first | rfl | exact congrArg (fun z => blk B7 35 [z]) e1) .nil)))) (.cons T1 (Ent.Le.of (by first | rfl | exact congrArg (fun z => blk B7 35 [z]) e1)) (.cons T1 (Ent.Le.of (by first | rfl | exact congrArg (fun z => blk B7 35 [z]) e1)) (.cons T0 (Ent.Le.of (by first | rfl | exact congrArg (fun z => blk B7 35 [z]) e1)) .nil)))
      · skip
        obtain rfl : i = 32 := by omega
        refine xt ?_
        refine thX ?_
        refine thX ?_
        refine bkX ?_
        refine thN ?_
        refine sq ?_
        refine rg ?_
        refine q (vLdA ag35 rfl (rB T2 (.z (.c .n))) (by simp)) rfl ?_
        refine l rfl (store sz35 rfl rfl T0 (by simp) (.z (.c inferInstance inferInstance .n)) ?_)
        refine nil ?_
        refine thN ?_
        refine rt ?_
        rw [hS]
        refine retP rfl (.c ag35 rfl (rB T0 (.z (.c .n))) (by simp) .nil) .nil ⟨rfl, rfl, rfl⟩
theorem Id_spec (s : List UInt8) (hs : s.length < 1073741824) (S : Mem) (constants_pb : PB S 0 0 (encW kW)) : PureL Tryz.prog 106 [str s] S [] (idv (sumF s)) := by
  refine enter Tryz.func106 rfl 6 rfl rfl (fun w0 => ?_)
  refine sq ?_
  refine rg ?_
  refine l rfl (alloc ze35 rfl ?_)
  intro B2
  refine nil ?_
  refine thN ?_
  refine sq ?_
  refine rg ?_
  refine q (vMv rfl) rfl ?_
  refine l rfl (bslice sl59 ze9 (.c1 rfl inferInstance .nil) (by simp) rfl rfl rfl rfl ?_)
  intro B4
  refine l rfl (call cf141 (Sum_spec _ s hs _ constants_pb) rfl (.cons T0 .nil) rfl ?_)
  intro S1 r1 l1 hS1 hp1
  obtain ⟨rfl, rfl, rfl⟩ := hp1
  replace constants_pb := constants_pb.mono hS1
  refine l rfl (store sz35 rfl rfl T0 (by simp) (.z (.c inferInstance inferInstance .n)) ?_)
  refine nil ?_
  refine thN ?_
  refine rt ?_
  refine ret rfl (.c ag35 rfl (rB T0 (.z (.c .n))) (by simp) .nil) .nil ⟨rfl, rfl, rfl⟩
end Go.Proofs.YtjmigoikklkfdaaGreatDoor
namespace Go.Proofs.YtjmigoikklkfdaaGreatDoor
open Go
set_option linter.unusedVariables false
set_option linter.unusedSimpArgs false
set_option maxRecDepth 4000
theorem ref_Less_spec (a b : BId) (S : Mem) : PureL Tryz.prog 68 [idv a, idv b] S [] (.bool (idLt a b)) := by
  refine enter Tryz.func68 rfl 24 rfl rfl (fun w0 => ?_)
  refine sq ?_
  refine rg ?_
  refine l rfl (box rfl rfl ?_)
  intro B2
  refine l rfl (box rfl rfl ?_)
  intro B3
  refine q (vAs rfl) rfl ?_
  refine nil ?_
  refine thN ?_
  refine sq ?_
  refine sq ?_
  refine rg ?_
  refine q (vAs rfl) rfl ?_
  refine nil ?_
  refine thN ?_
  refine bk ?_
  refine loop (ι := Nat) (fun (i : Nat) => [(2, .pointer (some ⟨B2, 0, none⟩)), (3, .pointer (some ⟨B3, 0, none⟩)), (5, .int .i64 (i : Int))]) (fun (i : Nat) => [blk B2 35 [encId a], blk B3 35 [encId b]]) (fun (i : Nat) => fun S' => i ≤ 32 ∧ ∀ j, j < i → a.val.getD j 0 = b.val.getD j 0) (fun (i : Nat) => 32 - i) 0 ⟨Nat.zero_le _, fun j h => absurd h (Nat.not_lt_zero _)⟩ (.cons rfl (by first | rfl | simp | (simp <;> omega)) (.cons rfl (by first | rfl | simp | (simp <;> omega)) (.cons rfl (by first | rfl | simp | (simp <;> omega)) .nil))) (.cons T1 (Ent.Le.of (by first | rfl | simp | (simp <;> omega))) (.cons T0 (Ent.Le.of (by first | rfl | simp | (simp <;> omega))) .nil)) ?_
  rintro i S2 hle2 ⟨h1, h2⟩
  refine sq ?_
  refine sq ?_
  refine rg ?_
  refine q (vMv rfl) rfl ?_
  refine q (vLt rfl rfl) rfl ?_
  refine nil ?_
  refine thN ?_
  refine cd rfl (fun hc => ?_) (fun hc => ?_) <;> try simp only [bls, beq_iff_eq, bne_iff_ne, Int.reduceToNat, List.length_map] at hc
  · skip
    refine sk ?_
    refine thN ?_
    refine sq ?_
    refine bk ?_
    refine sq ?_
    refine dr (.take 0 (.take 1 (.take 2 (.take 3 (.take 4 (.take 5 (.take 6 .done))))))) wide (by decide +kernel) _ _ (.cons T0 (.cons T0 .nil)) ?_
    refine pT rfl (vMv rfl) rfl ?_
    refine pT rfl (vIxA ar35 rfl rfl (by first | omega | (simp only [Int.toNat_natCast, Int.reduceToNat, List.length_append, List.length_cons, List.length_nil, List.length_map, bid_len]; omega) | (simp <;> omega))) rfl ?_
    refine pT rfl (vLd sc5 rfl (Rd.ix (rB1 T0 (.z (.c .n))) (gm (by first | omega | (simp only [Int.toNat_natCast, Int.reduceToNat, List.length_append, List.length_cons, List.length_nil, List.length_map, bid_len]; omega) | (simp <;> omega))))) rfl ?_
    refine pT rfl (vMv rfl) rfl ?_
    refine pT rfl (vIxA ar35 rfl rfl (by first | omega | (simp only [Int.toNat_natCast, Int.reduceToNat, List.length_append, List.length_cons, List.length_nil, List.length_map, bid_len]; omega) | (simp <;> omega))) rfl ?_
    refine pT rfl (vLd sc5 rfl (Rd.ix (rB1 T1 (.z (.c .n))) (gm (by first | omega | (simp only [Int.toNat_natCast, Int.reduceToNat, List.length_append, List.length_cons, List.length_nil, List.length_map, bid_len]; omega) | (simp <;> omega))))) rfl ?_
    refine pT rfl (vNe rfl rfl) rfl ?_
    refine pDone ?_
    refine thN ?_
    have ed : (default : UInt8) = 0 := rfl
    refine cd rfl (fun hd => ?_) (fun hd => ?_) <;> try simp only [bls, beq_iff_eq, bne_iff_ne, Int.reduceToNat, List.length_map] at hd
    · skip
      refine sq ?_
      refine dr (.take 0 (.take 1 (.take 2 (.take 3 (.take 4 (.take 5 (.take 6 (.take 7 .done)))))))) wide (by decide +kernel) _ _ (.cons T0 (.cons T0 .nil)) ?_
      refine pT rfl (vMv rfl) rfl ?_
      refine pT rfl (vIxA ar35 rfl rfl (by first | omega | (simp only [Int.toNat_natCast, Int.reduceToNat, List.length_append, List.length_cons, List.length_nil, List.length_map, bid_len]; omega) | (simp <;> omega))) rfl ?_
      refine pT rfl (vLd sc5 rfl (Rd.ix (rB1 T0 (.z (.c .n))) (gm (by first | omega | (simp only [Int.toNat_natCast, Int.reduceToNat, List.length_append, List.length_cons, List.length_nil, List.length_map, bid_len]; omega) | (simp <;> omega))))) rfl ?_
      refine pT rfl (vMv rfl) rfl ?_
      refine pT rfl (vIxA ar35 rfl rfl (by first | omega | (simp only [Int.toNat_natCast, Int.reduceToNat, List.length_append, List.length_cons, List.length_nil, List.length_map, bid_len]; omega) | (simp <;> omega))) rfl ?_
      refine pT rfl (vLd sc5 rfl (Rd.ix (rB1 T1 (.z (.c .n))) (gm (by first | omega | (simp only [Int.toNat_natCast, Int.reduceToNat, List.length_append, List.length_cons, List.length_nil, List.length_map, bid_len]; omega) | (simp <;> omega))))) rfl ?_
      refine pT rfl (vLt rfl rfl) rfl ?_
      refine pT rfl (vAs rfl) rfl ?_
      refine pDone ?_
      refine thN ?_
      refine rt ?_
      refine bkR ?_
      refine thR ?_
      refine thR ?_
      refine bkR ?_
      refine thR ?_
      have hne : a.val.getD i 0 ≠ b.val.getD i 0 := by
        intro h
        simp only [ed, Int.toNat_natCast, Nat.mul_one, h] at hd
        exact hd trivial
      have e1 := idLt_at (by omega) h2 hne
      refine retP rfl (.t rfl .nil) .nil ⟨by simp [pack, e1, ed], rfl, rfl⟩
    · skip
      refine sk ?_
      refine bkN ?_
      refine thN ?_
      refine rg ?_
      refine q (vMv rfl) rfl ?_
      refine q (vAdd rfl rfl (by first | omega | (simp only [Int.toNat_natCast, Int.reduceToNat, List.length_append, List.length_cons, List.length_nil, List.length_map, bid_len]; omega) | (simp <;> omega))) rfl ?_
      refine q (vAs rfl) rfl ?_
      refine nil ?_
      refine thN ?_
      have he : a.val.getD i 0 = b.val.getD i 0 := by
        simp only [ed, Int.toNat_natCast, Nat.mul_one] at hd
        exact UInt8.toNat_inj.1 (by omega)
      refine back (i + 1) (Le.refl _) ⟨⟨by omega, below_succ h2 he⟩, by omega⟩ (.cons rfl (by first | rfl | simp | (simp <;> omega)) (.cons rfl (by first | rfl | simp | (simp <;> omega)) (.cons rfl (by first | rfl | simp | (simp <;> omega)) .nil))) (.cons T0 (Ent.Le.of (by first | rfl | simp | (simp <;> omega))) (.cons T0 (Ent.Le.of (by first | rfl | simp | (simp <;> omega))) .nil))
  · skip
    refine xt ?_
    refine thX ?_
    refine thX ?_
    refine bkX ?_
    refine thN ?_
    refine sq ?_
    refine rg ?_
    refine q (vAs rfl) rfl ?_
    refine nil ?_
    refine thN ?_
    refine rt ?_
    obtain rfl : i = 32 := by omega
    have e1 : a = b := bid_all h2
    refine retP rfl (.t rfl .nil) .nil ⟨by subst e1; simp [pack, idLt], rfl, rfl⟩
theorem isNaN_spec (x : UInt8) (S : Mem) : PureL Tryz.prog 209 [u8v x] S [] (.bool false) := by
  refine enter Tryz.func209 rfl 6 rfl rfl (fun w0 => ?_)
  refine sq ?_
  refine rg ?_
  refine q (vAs rfl) rfl ?_
  refine nil ?_
  refine thN ?_
  refine sq ?_
  refine rg ?_
  refine q (vMv rfl) rfl ?_
  refine q (vMv rfl) rfl ?_
  refine q (vNe rfl rfl) rfl ?_
  refine q (vAs rfl) rfl ?_
  refine nil ?_
  refine thN ?_
  refine rt ?_
  refine retP rfl (.t rfl .nil) .nil ⟨by simp [pack], rfl, rfl⟩
theorem cmpByte_spec (x y : UInt8) (S : Mem) : PureL Tryz.prog 182 [u8v x, u8v y] S [] (.int .i64 (cmpN x.toNat y.toNat)) := by
  refine enter Tryz.func182 rfl 20 rfl rfl (fun w0 => ?_)
  refine sq ?_
  refine rg ?_
  refine q (vAs rfl) rfl ?_
  refine nil ?_
  refine thN ?_
  refine sq ?_
  refine rg ?_
  refine q (vMv rfl) rfl ?_
  refine l rfl (callP cf209 (isNaN_spec _ _) rfl .nil rfl ?_)
  refine q (vAs rfl) rfl ?_
  refine nil ?_
  refine thN ?_
  refine sq ?_
  refine rg ?_
  refine q (vMv rfl) rfl ?_
  refine l rfl (callP cf209 (isNaN_spec _ _) rfl .nil rfl ?_)
  refine q (vAs rfl) rfl ?_
  refine nil ?_
  refine thN ?_
  refine sq ?_
  refine sq ?_
  refine rg ?_
  refine q (vMv rfl) rfl ?_
  refine nil ?_
  refine thN ?_
  refine cF rfl ?_
  refine sk ?_
  refine thN ?_
  refine sq ?_
  refine sq ?_
  refine rg ?_
  refine q (vMv rfl) rfl ?_
  refine nil ?_
  refine thN ?_
  refine cF rfl ?_
  refine sk ?_
  refine thN ?_
  refine sq ?_
  refine sq ?_
  refine rg ?_
  refine q (vMv rfl) rfl ?_
  refine q (vMv rfl) rfl ?_
  refine q (vLt rfl rfl) rfl ?_
  refine nil ?_
  refine thN ?_
  refine cd rfl (fun hc => ?_) (fun hc => ?_) <;> try simp only [bls, beq_iff_eq, bne_iff_ne, Int.reduceToNat, List.length_map] at hc
  · skip
    refine sq ?_
    refine rg ?_
    refine q (vAs rfl) rfl ?_
    refine nil ?_
    refine thN ?_
    refine rt ?_
    refine thR ?_
    have e : cmpN x.toNat y.toNat = -1 := by unfold cmpN; rw [if_pos (by omega)]
    refine retP rfl (.t rfl .nil) .nil ⟨by rw [e]; rfl, rfl, rfl⟩
  · skip
    refine sk ?_
    refine thN ?_
    refine sq ?_
    refine sq ?_
    refine rg ?_
    refine q (vMv rfl) rfl ?_
    refine q (vMv rfl) rfl ?_
    refine q (vGt rfl rfl) rfl ?_
    refine nil ?_
    refine thN ?_
    refine cd rfl (fun hd => ?_) (fun hd => ?_) <;> try simp only [bls, beq_iff_eq, bne_iff_ne, Int.reduceToNat, List.length_map] at hd
    · skip
      refine sq ?_
      refine rg ?_
      refine q (vAs rfl) rfl ?_
      refine nil ?_
      refine thN ?_
      refine rt ?_
      refine thR ?_
      have e : cmpN x.toNat y.toNat = 1 := by unfold cmpN; rw [if_neg (by omega), if_pos (by omega)]
      refine retP rfl (.t rfl .nil) .nil ⟨by rw [e]; rfl, rfl, rfl⟩
    · skip
      refine sk ?_
      refine thN ?_
      refine sq ?_
      refine rg ?_
      refine q (vAs rfl) rfl ?_
      refine nil ?_
      refine thN ?_
      refine rt ?_
      have e : cmpN x.toNat y.toNat = 0 := by unfold cmpN; rw [if_neg (by omega), if_neg (by omega)]
      refine retP rfl (.t rfl .nil) .nil ⟨by rw [e]; rfl, rfl, rfl⟩
theorem Compare_spec {u v : Value} {a b : BId} {S : Mem} {E1 E2 : Ent} (hu : SrcOk S [E1, E2] u 1 (b1 a.val)) (hv : SrcOk S [E1, E2] v 1 (b1 b.val)) : PureL Tryz.prog 144 [u, v] S [E1, E2] (.int .i64 (cmpId a b)) := by
  have la : (b1 a.val).length = 32 := by rw [b1_len]; exact a.2
  have lb : (b1 b.val).length = 32 := by rw [b1_len]; exact b.2
  refine enter Tryz.func144 rfl 36 rfl rfl (fun w0 => ?_)
  refine sq ?_
  refine rg ?_
  refine q (vAs rfl) rfl ?_
  refine nil ?_
  refine thN ?_
  refine sq ?_
  refine sq ?_
  refine rg ?_
  refine q (vMv rfl) rfl ?_
  refine q (SrcOk.len hu Tryz.underlying23 rfl) rfl ?_
  refine q (vMv rfl) rfl ?_
  refine nil ?_
  refine thN ?_
  refine bk ?_
  refine loop (ι := Nat) (fun (i : Nat) => [(0, u), (1, v), (9, u), (10, .int .i64 ((b1 a.val).length : Int)), (11, .int .i64 (i : Int))]) (fun (i : Nat) => [E1, E2]) (fun (i : Nat) => fun S' => i ≤ 32 ∧ ∀ j, j < i → a.val.getD j 0 = b.val.getD j 0) (fun (i : Nat) => 32 - i) 0 ⟨Nat.zero_le _, fun j h => absurd h (Nat.not_lt_zero _)⟩ (.cons rfl (by first | rfl | simp | (simp <;> omega)) (.cons rfl (by first | rfl | simp | (simp <;> omega)) (.cons rfl (by first | rfl | simp | (simp <;> omega)) (.cons rfl (by first | rfl | simp | (simp <;> omega)) (.cons rfl (by first | rfl | simp | (simp <;> omega)) .nil))))) (.cons T0 (Ent.Le.of (by first | rfl | simp | (simp <;> omega))) (.cons T0 (Ent.Le.of (by first | rfl | simp | (simp <;> omega))) .nil)) ?_
  rintro i S2 hle2 ⟨h1, h2⟩
  replace hu := hu.mono hle2
  replace hv := hv.mono hle2
  refine sq ?_
  refine rg ?_
  refine q (vLt rfl rfl) rfl ?_
  refine nil ?_
  refine thN ?_
  refine sq ?_
  refine cd rfl (fun hc => ?_) (fun hc => ?_) <;> try simp only [bls, beq_iff_eq, bne_iff_ne, Int.reduceToNat, List.length_map] at hc
  · skip
    rw [la] at hc
    refine sk ?_
    refine thN ?_
    refine sq ?_
    refine bk ?_
    refine sq ?_
    refine rg ?_
    refine q (vMv rfl) rfl ?_
    refine q (vIxSrc sl23 rfl rfl hu (by first | omega | (simp only [Int.toNat_natCast, Int.reduceToNat, List.length_append, List.length_cons, List.length_nil, List.length_map, bid_len]; omega) | (simp <;> omega))) rfl ?_
    refine q (vLd sc5 rfl (rSrc hu (gm (by first | omega | (simp only [Int.toNat_natCast, Int.reduceToNat, List.length_append, List.length_cons, List.length_nil, List.length_map, bid_len]; omega) | (simp <;> omega))))) rfl ?_
    refine q (vAs rfl) rfl ?_
    refine q (vAs rfl) rfl ?_
    refine nil ?_
    refine thN ?_
    refine sq ?_
    refine sq ?_
    refine rg ?_
    refine q (vMv rfl) rfl ?_
    refine q (vMv rfl) rfl ?_
    refine q (SrcOk.len hv Tryz.underlying23 rfl) rfl ?_
    refine q (vGe rfl rfl) rfl ?_
    refine nil ?_
    refine thN ?_
    refine cd rfl (fun hd => ?_) (fun hd => ?_) <;> try simp only [bls, beq_iff_eq, bne_iff_ne, Int.reduceToNat, List.length_map] at hd
    · skip
      omega
    · skip
      refine sk ?_
      refine thN ?_
      refine sq ?_
      refine rg ?_
      refine q (vMv rfl) rfl ?_
      refine q (vMv rfl) rfl ?_
      refine q (vIxSrc sl23 rfl rfl hv (by first | omega | (simp only [Int.toNat_natCast, Int.reduceToNat, List.length_append, List.length_cons, List.length_nil, List.length_map, bid_len]; omega) | (simp <;> omega))) rfl ?_
      refine q (vLd sc5 rfl (rSrc hv (gm (by first | omega | (simp only [Int.toNat_natCast, Int.reduceToNat, List.length_append, List.length_cons, List.length_nil, List.length_map, bid_len]; omega) | (simp <;> omega))))) rfl ?_
      refine q (vAs rfl) rfl ?_
      refine nil ?_
      refine thN ?_
      refine sq ?_
      refine rg ?_
      refine q (vMv rfl) rfl ?_
      refine q (vMv rfl) rfl ?_
      refine l rfl (callP cf182 (cmpByte_spec _ _ _) rfl .nil rfl ?_)
      refine q (vAs rfl) rfl ?_
      refine nil ?_
      refine thN ?_
      refine sq ?_
      refine rg ?_
      refine q (vMv rfl) rfl ?_
      refine q (vNe rfl rfl) rfl ?_
      refine nil ?_
      refine thN ?_
      have ed : (default : UInt8) = 0 := rfl
      refine cd rfl (fun he => ?_) (fun he => ?_) <;> try simp only [bls, beq_iff_eq, bne_iff_ne, Int.reduceToNat, List.length_map] at he
      · skip
        refine sq ?_
        refine rg ?_
        refine q (vMv rfl) rfl ?_
        refine q (vAs rfl) rfl ?_
        refine nil ?_
        refine thN ?_
        refine rt ?_
        refine bkR ?_
        refine thR ?_
        refine thR ?_
        refine bkR ?_
        refine thR ?_
        have hne : a.val.getD i 0 ≠ b.val.getD i 0 := by
          intro h
          simp only [ed, Int.toNat_natCast, Nat.mul_one, h, cmpN_self] at he
          exact he trivial
        have e1 := cmpId_at (by omega) h2 hne
        refine retP rfl (.t rfl .nil) (.t T0 (.t T0 .nil)) ⟨by simp [pack, e1, ed], rfl, rfl⟩
      · skip
        refine sk ?_
        refine bkN ?_
        refine thN ?_
        refine rg ?_
        refine q (vAdd rfl rfl (by first | omega | (simp only [Int.toNat_natCast, Int.reduceToNat, List.length_append, List.length_cons, List.length_nil, List.length_map, bid_len]; omega) | (simp <;> omega))) rfl ?_
        refine q (vMv rfl) rfl ?_
        refine nil ?_
        refine thN ?_
        have hq : a.val.getD i 0 = b.val.getD i 0 := by
          simp only [ed, Int.toNat_natCast, Nat.mul_one] at he
          exact UInt8.toNat_inj.1 (cmpN_zero.1 he)
        refine back (i + 1) (Le.refl _) ⟨⟨by omega, below_succ h2 hq⟩, by omega⟩ (.cons rfl (by first | rfl | simp | (simp <;> omega)) (.cons rfl (by first | rfl | simp | (simp <;> omega)) (.cons rfl (by first | rfl | simp | (simp <;> omega)) (.cons rfl (by first | rfl | simp | (simp <;> omega)) (.cons rfl (by first | rfl | simp | (simp <;> omega)) .nil))))) (.cons T0 (Ent.Le.of (by first | rfl | simp | (simp <;> omega))) (.cons T0 (Ent.Le.of (by first | rfl | simp | (simp <;> omega))) .nil))
  · skip
    rw [la] at hc
    refine xt ?_
    refine thX ?_
    refine thX ?_
    refine bkX ?_
    refine thN ?_
    refine sq ?_
    refine sq ?_
    refine rg ?_
    refine q (vMv rfl) rfl ?_
    refine q (SrcOk.len hu Tryz.underlying23 rfl) rfl ?_
    refine q (vMv rfl) rfl ?_
    refine q (SrcOk.len hv Tryz.underlying23 rfl) rfl ?_
    refine q (vLt rfl rfl) rfl ?_
    refine nil ?_
    refine thN ?_
    refine cd rfl (fun hd => ?_) (fun hd => ?_) <;> try simp only [bls, beq_iff_eq, bne_iff_ne, Int.reduceToNat, List.length_map] at hd
    · skip
      omega
    · skip
      refine sk ?_
      refine thN ?_
      refine sq ?_
      refine rg ?_
      refine q (vAs rfl) rfl ?_
      refine nil ?_
      refine thN ?_
      refine rt ?_
      obtain rfl : i = 32 := by omega
      have e1 : a = b := bid_all h2
      refine retP rfl (.t rfl .nil) (.t T0 (.t T0 .nil)) ⟨by subst e1; simp [pack, cmpId, cmpN_self], rfl, rfl⟩
end Go.Proofs.YtjmigoikklkfdaaGreatDoor
namespace Go.Proofs.YtjmigoikklkfdaaGreatDoor
open Go
set_option linter.unusedVariables false
set_option linter.unusedSimpArgs false
set_option maxRecDepth 4000
noncomputable abbrev encIt (t : List UInt8) : List Value := [encId (sumF t), [str t]].flatten
noncomputable abbrev keys (l : List (List UInt8)) : List BId := l.map sumF
theorem placeF_spec (x : BId) (t : List UInt8) (i : BId) (S : Mem) : PureL Tryz.prog 164 [ag [encId x, [str t]], idv i] S [] (.int .i64 (cmpId x i)) := by
  refine enter Tryz.func164 rfl 9 rfl rfl (fun w0 => ?_)
  refine sq ?_
  refine rg ?_
  refine l rfl (box rfl rfl ?_)
  intro B2
  refine l rfl (box rfl rfl ?_)
  intro B3
  refine q (vAs rfl) rfl ?_
  refine nil ?_
  refine thN ?_
  refine sq ?_
  refine dr (.take 0 (.take 1 (.take 2 (.one 3 (.take 4 .done))))) wide (by decide +kernel) _ _ (.cons T0 (.cons T0 .nil)) ?_
  refine pT rfl (vFa fa209_0 rfl) rfl ?_
  refine pT rfl (vSlA ar35 rfl ) rfl ?_
  refine pT rfl (vSlA ar35 rfl ) rfl ?_
  refine pO ?_
  refine opL rfl rfl (callP cf144 (Compare_spec (srcRd (rB1 T0 (.z (.c .n))) (by first | exact bid_len _ | simp)) (srcRd (rB1 T1 (.z (.c .n))) (by first | exact bid_len _ | simp))) rfl (.cons T1 (.cons T0 .nil)) rfl ?_)
  refine pK (Le.refl _) (.cons T0 (.cons T0 .nil)) ?_
  refine pT rfl (vAs rfl) rfl ?_
  refine pDone ?_
  refine thN ?_
  refine rt ?_
  refine ret rfl (.t rfl .nil) .nil ⟨rfl, rfl, rfl⟩
theorem bs_item_spec {v : Value} {A : List (List UInt8)} {S : Mem} {E1 : Ent} (hv : SrcOk S [E1] v 33 (A.map encIt)) (x : BId) (hr : Rising (keys A)) (hlen : A.length < 1073741824) :
    PureL Tryz.prog 163 [v, idv x, .func (.func 164) #[] #[]] S [E1] (.tuple [.int .i64 (low x (keys A) : Nat), .bool (decide (x ∈ keys A))].toArray) := by
  have hp : ((keys A).map idN).Pairwise (· < ·) := List.pairwise_map.2 hr
  have hkl : ((keys A).map idN).length = A.length := by simp
  have hg : ∀ k, k < A.length → ((keys A).map idN).getD k 0 = idN (sumF (A.getD k default)) := fun k hk => by simp [List.getD, hk]
  refine enter Tryz.func163 rfl 49 rfl rfl (fun w0 => ?_)
  refine sq ?_
  refine rg ?_
  refine l rfl (box rfl rfl ?_)
  intro B4
  refine q (vAs rfl) rfl ?_
  refine q (vAs rfl) rfl ?_
  refine nil ?_
  refine thN ?_
  refine sq ?_
  refine rg ?_
  refine q (vMv rfl) rfl ?_
  refine q (SrcOk.len (SrcOk.takes hv (.cons T1 .nil)) Tryz.underlying202 rfl) rfl ?_
  refine q (vAs rfl) rfl ?_
  refine nil ?_
  refine thN ?_
  refine sq ?_
  refine rg ?_
  refine q (vMv rfl) rfl ?_
  refine q (vAs rfl) rfl ?_
  refine q (vAs rfl) rfl ?_
  refine nil ?_
  refine thN ?_
  refine sq ?_
  refine bk ?_
  refine loop (ι := Nat × Nat) (fun (p : Nat × Nat) => [(0, v), (2, .func (.func 164) #[] #[]), (4, .pointer (some ⟨B4, 0, none⟩)), (8, .int .i64 (A.length : Int)), (9, .int .i64 (p.1 : Int)), (10, .int .i64 (p.2 : Int))]) (fun (p : Nat × Nat) => [E1, blk B4 35 [encId x]]) (fun (p : Nat × Nat) => fun S' => (p.1 ≤ p.2 ∧ p.2 ≤ A.length) ∧ (∀ k, k < p.1 → ((keys A).map idN).getD k 0 < idN x) ∧ (p.2 < A.length → idN x ≤ ((keys A).map idN).getD p.2 0)) (fun (p : Nat × Nat) => p.2 - p.1) (0, A.length) ⟨⟨Nat.zero_le _, Nat.le_refl _⟩, fun k h => absurd h (Nat.not_lt_zero _), fun h => absurd h (Nat.lt_irrefl _)⟩ (.cons rfl (by first | rfl | simp | (simp <;> omega)) (.cons rfl (by first | rfl | simp | (simp <;> omega)) (.cons rfl (by first | rfl | simp | (simp <;> omega)) (.cons rfl (by first | rfl | simp | (simp <;> omega)) (.cons rfl (by first | rfl | simp | (simp <;> omega)) (.cons rfl (by first | rfl | simp | (simp <;> omega)) .nil)))))) (.cons T1 (Ent.Le.of (by first | rfl | simp | (simp <;> omega))) (.cons T0 (Ent.Le.of (by first | rfl | simp | (simp <;> omega))) .nil)) ?_
  rintro ⟨i, j⟩ S2 hle2 ⟨⟨h1, h2⟩, h3, h4⟩
  replace hv := hv.mono hle2
  dsimp only at h1 h2 h3 h4 ⊢
  refine sq ?_
  refine sq ?_
  refine rg ?_
  refine q (vMv rfl) rfl ?_
  refine q (vMv rfl) rfl ?_
  refine q (vLt rfl rfl) rfl ?_
  refine nil ?_
  refine thN ?_
  refine cd rfl (fun hc => ?_) (fun hc => ?_) <;> try simp only [bls, beq_iff_eq, bne_iff_ne, Int.reduceToNat, List.length_map] at hc
  · skip
    refine sk ?_
    refine thN ?_
    refine bk ?_
    refine sq ?_
    refine rg ?_
    refine q (vMv rfl) rfl ?_
    refine q (vMv rfl) rfl ?_
    refine q (vAdd rfl rfl (by first | omega | (simp only [Int.toNat_natCast, Int.reduceToNat, List.length_append, List.length_cons, List.length_nil, List.length_map, bid_len]; omega) | (simp <;> omega))) rfl ?_
    refine q (vCvN Tryz.underlying192 Tryz.underlying3 rfl (by first | omega | (simp only [Int.toNat_natCast, Int.reduceToNat, List.length_append, List.length_cons, List.length_nil, List.length_map, bid_len]; omega) | (simp <;> omega))) rfl ?_
    refine q (vHalf (i + j) rfl rfl (by omega)) rfl ?_
    refine q (vCvI Tryz.underlying3 Tryz.underlying192 rfl (by first | omega | (simp only [Int.toNat_natCast, Int.reduceToNat, List.length_append, List.length_cons, List.length_nil, List.length_map, bid_len]; omega) | (simp <;> omega))) rfl ?_
    refine q (vAs rfl) rfl ?_
    refine nil ?_
    refine thN ?_
    refine sq ?_
    refine dr (.take 0 (.take 1 (.take 2 (.take 3 (.take 4 (.take 5 (.one 6 (.take 7 .done)))))))) wide (by decide +kernel) _ _ (.cons T0 (.cons T0 .nil)) ?_
    refine pT rfl (vMv rfl) rfl ?_
    refine pT rfl (vMv rfl) rfl ?_
    refine pT rfl (vMv rfl) rfl ?_
    refine pT rfl (vIxSrc sl202 rfl rfl (SrcOk.takes hv (.cons T0 .nil)) (by first | omega | (simp only [Int.toNat_natCast, Int.reduceToNat, List.length_append, List.length_cons, List.length_nil, List.length_map, bid_len]; omega) | (simp <;> omega))) rfl ?_
    refine pT rfl (vLdA ag209 rfl (rSrc (SrcOk.takes hv (.cons T0 .nil)) (gm (by first | omega | (simp only [Int.toNat_natCast, Int.reduceToNat, List.length_append, List.length_cons, List.length_nil, List.length_map, bid_len]; omega) | (simp <;> omega)))) (by simp)) rfl ?_
    refine pT rfl (vLdA ag35 rfl (rB T1 (.z (.c .n))) (by simp)) rfl ?_
    refine pO ?_
    refine opL rfl rfl (callV0P cf164 rfl (placeF_spec _ _ _ _) rfl .nil rfl ?_)
    refine pK (Le.refl _) (.cons T0 (.cons T0 .nil)) ?_
    refine pT rfl (vLt rfl rfl) rfl ?_
    refine pDone ?_
    refine thN ?_
    have hh1 : i ≤ (i + j) / 2 := by omega
    have hh2 : (i + j) / 2 < j := by omega
    generalize (i + j) / 2 = h at hh1 hh2 ⊢
    have hk := hg h (by omega)
    refine cd rfl (fun hd => ?_) (fun hd => ?_) <;> try simp only [bls, beq_iff_eq, bne_iff_ne, Int.reduceToNat, List.length_map] at hd
    · skip
      have hlt : idN (sumF (A.getD h default)) < idN x := cmpN_neg.1 hd
      refine rg ?_
      refine q (vMv rfl) rfl ?_
      refine q (vAdd rfl rfl (by first | omega | (simp only [Int.toNat_natCast, Int.reduceToNat, List.length_append, List.length_cons, List.length_nil, List.length_map, bid_len]; omega) | (simp <;> omega))) rfl ?_
      refine q (vAs rfl) rfl ?_
      refine nil ?_
      refine bkN ?_
      refine thN ?_
      refine back ((h + 1, j)) (Le.refl _) ⟨⟨⟨by dsimp only; omega, h2⟩, ?_, h4⟩, by dsimp only; omega⟩ (.cons rfl (by first | rfl | simp | (simp <;> omega)) (.cons rfl (by first | rfl | simp | (simp <;> omega)) (.cons rfl (by first | rfl | simp | (simp <;> omega)) (.cons rfl (by first | rfl | simp | (simp <;> omega)) (.cons rfl (by first | rfl | simp | (simp <;> omega)) (.cons rfl (by first | rfl | simp | (simp <;> omega)) .nil)))))) (.cons T0 (Ent.Le.of (by first | rfl | simp | (simp <;> omega))) (.cons T0 (Ent.Le.of (by first | rfl | simp | (simp <;> omega))) .nil))
      intro k hkk
      dsimp only at hkk
      rcases Nat.lt_or_ge k h with h5 | h5
      · have h6 := List.pairwise_iff_getElem.1 hp k h (by omega) (by omega) h5
        have e1 : ((keys A).map idN).getD k 0 = ((keys A).map idN)[k]'(by omega) := by simp [List.getD, show k < A.length by omega]
        have e2 : ((keys A).map idN).getD h 0 = ((keys A).map idN)[h]'(by omega) := by simp [List.getD, show h < A.length by omega]
        omega
      · obtain rfl : k = h := by omega
        omega
    · skip
      have hge : ¬ idN (sumF (A.getD h default)) < idN x := fun hh => by
        have : cmpId (sumF (A.getD h default)) x < 0 := cmpN_neg.2 hh
        omega
      refine rg ?_
      refine q (vMv rfl) rfl ?_
      refine q (vAs rfl) rfl ?_
      refine nil ?_
      refine bkN ?_
      refine thN ?_
      refine back ((i, h)) (Le.refl _) ⟨⟨⟨hh1, by dsimp only; omega⟩, h3, fun _ => by dsimp only; omega⟩, by dsimp only; omega⟩ (.cons rfl (by first | rfl | simp | (simp <;> omega)) (.cons rfl (by first | rfl | simp | (simp <;> omega)) (.cons rfl (by first | rfl | simp | (simp <;> omega)) (.cons rfl (by first | rfl | simp | (simp <;> omega)) (.cons rfl (by first | rfl | simp | (simp <;> omega)) (.cons rfl (by first | rfl | simp | (simp <;> omega)) .nil)))))) (.cons T0 (Ent.Le.of (by first | rfl | simp | (simp <;> omega))) (.cons T0 (Ent.Le.of (by first | rfl | simp | (simp <;> omega))) .nil))
  · skip
    obtain rfl : i = j := by omega
    have hlow : low x (keys A) = i := lowN_unique _ _ _ (by omega) h3 (fun h => h4 (by omega))
    have hm := low_mem (x := x) hr
    rw [hlow] at hm ⊢
    refine xt ?_
    refine thX ?_
    refine thX ?_
    refine bkX ?_
    refine thN ?_
    refine sq ?_
    refine dr (.take 0 (.take 1 (.take 2 (.take 3 (.take 4 (.take 5 (.take 6 (.take 7 (.take 8 (.take 9 (.take 10 (.one 11 (.take 12 (.take 13 (.take 14 (.take 15 .done)))))))))))))))) wide (by decide +kernel) _ _ (.cons T0 (.cons T0 .nil)) ?_
    refine pT rfl (vMv rfl) rfl ?_
    refine pT rfl (vMv rfl) rfl ?_
    refine pT rfl (vMv rfl) rfl ?_
    refine pT rfl (vLt rfl rfl) rfl ?_
    refine pT rfl (vMv rfl) rfl ?_
    apply pAnd 39 48 9
    · rfl
    · intro hb1 hX1
      have hc1 := hb1 ; try simp only [bls, beq_iff_eq, bne_iff_ne, Int.reduceToNat, List.length_map] at hc1
      refine pTT rfl ⟨_, rfl, rfl⟩ (vMv rfl) rfl ?_
      refine pTT rfl ⟨_, rfl, rfl⟩ (vMv rfl) rfl ?_
      refine pTT rfl ⟨_, rfl, rfl⟩ (vMv rfl) rfl ?_
      refine pTT rfl ⟨_, rfl, rfl⟩ (vIxSrc sl202 rfl rfl (SrcOk.takes hv (.cons T0 .nil)) (by first | omega | (simp only [Int.toNat_natCast, Int.reduceToNat, List.length_append, List.length_cons, List.length_nil, List.length_map, bid_len]; omega) | (simp <;> omega))) rfl ?_
      refine pTT rfl ⟨_, rfl, rfl⟩ (vLdA ag209 rfl (rSrc (SrcOk.takes hv (.cons T0 .nil)) (gm (by first | omega | (simp only [Int.toNat_natCast, Int.reduceToNat, List.length_append, List.length_cons, List.length_nil, List.length_map, bid_len]; omega) | (simp <;> omega)))) (by simp)) rfl ?_
      refine pTT rfl ⟨_, rfl, rfl⟩ (vLdA ag35 rfl (rB T1 (.z (.c .n))) (by simp)) rfl ?_
      refine pO ?_
      refine opT rfl rfl ⟨_, rfl, rfl⟩ (callV0P cf164 rfl (placeF_spec _ _ _ _) rfl .nil rfl ?_)
      refine pK (Le.refl _) (.cons T0 (.cons T0 .nil)) ?_
      refine pTT rfl ⟨_, rfl, rfl⟩ (vEq rfl rfl) rfl ?_
      refine pT rfl (vPkT rfl rfl) rfl ?_
      exact gTT 9 39 rfl rfl rfl rfl hb1 hX1
    · intro hb1 hX1
      have hc1 := hb1 ; try simp only [bls, beq_iff_eq, bne_iff_ne, Int.reduceToNat, List.length_map] at hc1
      refine pTF rfl ⟨_, _, rfl, rfl, rfl⟩ rfl ?_
      refine pTF rfl ⟨_, _, rfl, rfl, rfl⟩ rfl ?_
      refine pTF rfl ⟨_, _, rfl, rfl, rfl⟩ rfl ?_
      refine pTF rfl ⟨_, _, rfl, rfl, rfl⟩ rfl ?_
      refine pTF rfl ⟨_, _, rfl, rfl, rfl⟩ rfl ?_
      refine pTF rfl ⟨_, _, rfl, rfl, rfl⟩ rfl ?_
      refine pO ?_
      refine opF rfl ⟨_, _, rfl, rfl, rfl⟩ rfl ?_
      refine pK (Le.refl _) (.cons T0 (.cons T0 .nil)) ?_
      refine pTF rfl ⟨_, _, rfl, rfl, rfl⟩ rfl ?_
      refine pT rfl (vPkF rfl rfl) rfl ?_
      exact gTF 9 39 rfl rfl rfl rfl hb1 hX1
    refine pT rfl (vAs rfl) rfl ?_
    refine pT rfl (vAs rfl) rfl ?_
    refine pDone ?_
    refine thN ?_
    refine rt ?_
    refine retP rfl (.t rfl (.t rfl .nil)) (.t T0 .nil) ⟨?_, rfl, rfl⟩
    have e1 : (decide ((i : Int) < (A.length : Int)) && decide (cmpId (sumF (A.getD (i : Int).toNat default)) x = 0)) = decide (x ∈ keys A) := by
      rw [← hm, Bool.eq_iff_iff]
      simp only [Bool.and_eq_true, decide_eq_true_eq, Int.toNat_natCast, List.length_map]
      constructor
      · rintro ⟨h5, h6⟩
        have h5' : i < A.length := by omega
        refine ⟨h5', ?_⟩
        have h7 := idN_inj (cmpN_zero.1 h6)
        simp only [List.getD, List.getElem?_map, h5', List.getElem?_eq_getElem, Option.map_some, Option.getD_some] at h7 ⊢
        exact h7
      · rintro ⟨h5, h6⟩
        refine ⟨by omega, ?_⟩
        simp only [List.getD, List.getElem?_map, h5, List.getElem?_eq_getElem, Option.map_some, Option.getD_some] at h6 ⊢
        rw [h6]; exact cmpN_self _
    rw [e1]; rfl
end Go.Proofs.YtjmigoikklkfdaaGreatDoor
namespace Go.Proofs.YtjmigoikklkfdaaGreatDoor
open Go
set_option linter.unusedVariables false
set_option linter.unusedSimpArgs false
set_option maxRecDepth 4000
noncomputable abbrev stE (b : Nat) (v : Value) (A : List (List UInt8)) : List Ent := [blk b 204 [[v]], sl v 209 33 (A.map encIt)]
theorem place_spec {b : Nat} {v : Value} {A : List (List UInt8)} (x : BId) (hr : Rising (keys A)) (hlen : A.length < 1073741824) (S : Mem) :
    PureL Tryz.prog 125 [ptr b 0, idv x] S (stE b v A) (.tuple [.int .i64 (low x (keys A) : Nat), .bool (decide (x ∈ keys A))].toArray) := by
  refine enter Tryz.func125 rfl 16 rfl rfl (fun w0 => ?_)
  refine sq ?_
  refine rg ?_
  refine l rfl (box rfl rfl ?_)
  intro B3
  refine q (vAs rfl) rfl ?_
  refine q (vAs rfl) rfl ?_
  refine nil ?_
  refine thN ?_
  refine sq ?_
  refine sq ?_
  refine rg ?_
  refine q (vMv rfl) rfl ?_
  refine q (vEqNil Tryz.underlying42 rfl) rfl ?_
  refine nil ?_
  refine thN ?_
  refine cF rfl ?_
  refine sk ?_
  refine thN ?_
  refine sq ?_
  refine dr (.take 0 (.take 1 (.take 2 (.take 3 (.take 4 (.one 5 (.take 6 (.take 7 (.take 8 (.take 9 .done)))))))))) wide (by decide +kernel) _ _ (.cons T0 (.cons T0 (.cons T0 .nil))) ?_
  refine pT rfl (vMv rfl) rfl ?_
  refine pT rfl (vNil rfl) rfl ?_
  refine pT rfl (vFa fa204_0 rfl) rfl ?_
  refine pT rfl (vLd sc202 rfl (rB1 T1 (.z (.c .n)))) rfl ?_
  refine pT rfl (vLdA ag35 rfl (rB T0 (.z (.c .n))) (by simp)) rfl ?_
  refine pO ?_
  refine opL rfl rfl (callP cf163 (bs_item_spec (srcO T0) _ hr hlen) rfl (.cons T2 .nil) rfl ?_)
  refine pK (Le.refl _) (.cons T0 (.cons T0 (.cons T0 .nil))) ?_
  refine pT rfl (vEx rfl rfl) rfl ?_
  refine pT rfl (vEx rfl rfl) rfl ?_
  refine pT rfl (vAs rfl) rfl ?_
  refine pT rfl (vAs rfl) rfl ?_
  refine pDone ?_
  refine thN ?_
  refine rt ?_
  refine ret rfl (.t rfl (.t rfl .nil)) (.t T1 (.t T1 .nil)) ⟨rfl, rfl, rfl⟩
theorem insert_item_spec {v u : Value} {xs : List (List Value)} {y : List Value} (i : Nat) (hi : i ≤ xs.length) (hl : xs.length < 1073741824) (ho : ∀ c, c ∈ xs.flatten → c.oneCell' = true) (hy : ∀ c, c ∈ y → c.oneCell' = true) (hym : y.length = 33) (S : Mem) :
    Spec Tryz.prog 126 [v, .int .i64 (i : Int), u] S [sl v 209 33 xs, sl u 209 33 [y]] (fun S' r L' => S' = S ∧ Sc r ∧ L' = [sl r 209 33 (xs.take i ++ [y] ++ xs.drop i)]) := by
  haveI hO : Ones [y] := ⟨fun c hc => hy c (by simpa using hc)⟩
  have hy1 : (([y] : List (List Value)).length : Int) = 1 := rfl
  refine enter Tryz.func126 rfl 95 rfl rfl (fun w0 => ?_)
  refine sq ?_
  refine rg ?_
  refine q (vAs rfl) rfl ?_
  refine nil ?_
  refine thN ?_
  refine sq ?_
  refine rg ?_
  refine q (vMv rfl) rfl ?_
  refine q (vMv rfl) rfl ?_
  refine q (vSli sl202 rfl (srcO T0) ⟨_, rfl⟩ rfl (by first | omega | (simp only [Int.toNat_natCast, Int.reduceToNat, List.length_append, List.length_cons, List.length_nil, List.length_map, bid_len]; omega) | (simp <;> omega))) rfl ?_
  refine nil ?_
  refine thN ?_
  refine sq ?_
  refine rg ?_
  refine q (vMv rfl) rfl ?_
  refine q (id (α := Val Tryz.prog _ _ _ _ _ (.int .i64 ((1 : Nat) : Int))) (SrcOk.len (srcO T1) Tryz.underlying202 rfl)) rfl ?_
  refine q (vAs rfl) rfl ?_
  refine nil ?_
  refine thN ?_
  refine sq ?_
  refine sq ?_
  refine rg ?_
  refine q (vMv rfl) rfl ?_
  refine q (vEq rfl rfl) rfl ?_
  refine nil ?_
  refine thN ?_
  refine cd rfl (fun hz => ?_) (fun hz => ?_) <;> try simp only [bls, beq_iff_eq, bne_iff_ne, Int.reduceToNat, List.length_map] at hz
  · skip
    omega
  · skip
    refine sk ?_
    refine thN ?_
    refine sq ?_
    refine rg ?_
    refine q (vMv rfl) rfl ?_
    refine q (SrcOk.len (srcO T0) Tryz.underlying202 rfl) rfl ?_
    refine q (vAs rfl) rfl ?_
    refine nil ?_
    refine thN ?_
    refine sq ?_
    refine sq ?_
    refine rg ?_
    refine q (vMv rfl) rfl ?_
    refine q (vMv rfl) rfl ?_
    refine q (vEq rfl rfl) rfl ?_
    refine nil ?_
    refine thN ?_
    refine cd rfl (fun hn => ?_) (fun hn => ?_) <;> try simp only [bls, beq_iff_eq, bne_iff_ne, Int.reduceToNat, List.length_map] at hn
    · skip
      have hin : i = xs.length := by omega
      subst hin
      refine sq ?_
      refine rg ?_
      refine q (vMv rfl) rfl ?_
      refine q (vMv rfl) rfl ?_
      refine l rfl (app ap202 rfl rfl T0 (srcO T1) (by first | omega | (simp only [Int.toNat_natCast, Int.reduceToNat, List.length_append, List.length_cons, List.length_nil, List.length_map, bid_len]; omega) | (simp <;> omega)) rfl ?_)
      intro v25 hv25
      refine q (vAs rfl) rfl ?_
      refine nil ?_
      refine thN ?_
      refine rt ?_
      refine thR ?_
      have e1 : xs.take xs.length ++ [y] ++ xs.drop xs.length = xs ++ [y] := by rw [List.take_length, List.drop_length, List.append_nil]
      refine ret rfl (.t rfl .nil) (.t T0 .nil) ⟨rfl, hv25, by rw [e1]; rfl⟩
    · skip
      have hin : i < xs.length := by omega
      refine slRow T0 (fun _ h => by subst h; simp at hin) ?_
      rintro g cap sp rfl hc1 hc2 hsp hxm
      refine slRow T1 (fun _ h => by cases h) ?_
      rintro gu capu spu rfl hcu1 hcu2 hspu hum
      have hA : (xs.take i).flatten.length = i * 33 := by rw [flat_len (fun x hx => hxm x (List.mem_of_mem_take hx)), List.length_take]; congr 1; omega
      have hD : (xs.drop i).flatten.length = (xs.length - i) * 33 := by rw [flat_len (fun x hx => hxm x (List.mem_of_mem_drop hx)), List.length_drop]
      have hX : xs.flatten = (xs.take i).flatten ++ (xs.drop i).flatten := by rw [← List.flatten_append, List.take_append_drop]
      have hoD : ∀ c, c ∈ (xs.drop i).flatten → c.oneCell' = true := fun c hc => ho c (by rw [hX]; exact List.mem_append_right _ hc)
      have hXD : ∀ (j : Nat) (w : Value), (xs.drop i).flatten[j]? = some w → ((xs.flatten ++ sp : List Value))[i * 33 + j]? = some w := by
        intro j w hj
        have hlt : j < (xs.drop i).flatten.length := by
          rcases Nat.lt_or_ge j (xs.drop i).flatten.length with h | h
          · exact h
          · rw [List.getElem?_eq_none h] at hj; cases hj
        rw [hX, List.append_assoc, List.getElem?_append_right (by omega), List.getElem?_append_left (by omega), hA]
        rw [← hj]; congr 1; omega
      have hXA : ∀ (j : Nat) (w : Value), (xs.take i).flatten[j]? = some w → ((xs.flatten ++ sp : List Value))[j]? = some w := by
        intro j w hj
        have hlt : j < (xs.take i).flatten.length := by
          rcases Nat.lt_or_ge j (xs.take i).flatten.length with h | h
          · exact h
          · rw [List.getElem?_eq_none h] at hj; cases hj
        rw [hX, List.append_assoc, List.getElem?_append_left hlt]; exact hj
      have hYu : ∀ (j : Nat) (w : Value), y[j]? = some w → (([y] : List (List Value)).flatten ++ spu)[0 + j]? = some w := by
        intro j w hj
        have hlt : j < y.length := by
          rcases Nat.lt_or_ge j y.length with h | h
          · exact h
          · rw [List.getElem?_eq_none h] at hj; cases hj
        rw [Nat.zero_add]
        simp only [List.flatten_cons, List.flatten_nil, List.append_nil]
        rw [List.getElem?_append_left hlt]; exact hj
      have hfin : ∀ x, x ∈ xs.take i ++ [y] ++ xs.drop i → x.length = 33 := by
        intro x hx
        simp only [List.mem_append, List.mem_singleton] at hx
        rcases hx with (hx | hx) | hx
        · exact hxm x (List.mem_of_mem_take hx)
        · rw [hx]; exact hym
        · exact hxm x (List.mem_of_mem_drop hx)
      have hfl : (xs.take i ++ [y] ++ xs.drop i).flatten = (xs.take i).flatten ++ y ++ (xs.drop i).flatten := by simp
      have hfn : (xs.take i ++ [y] ++ xs.drop i).length = xs.length + 1 := by simp; omega
      refine sk ?_
      refine thN ?_
      refine sq ?_
      refine sq ?_
      refine rg ?_
      refine q (vMv rfl) rfl ?_
      refine q (vMv rfl) rfl ?_
      refine q (vAdd rfl rfl (by first | omega | (simp only [Int.toNat_natCast, Int.reduceToNat, List.length_append, List.length_cons, List.length_nil, List.length_map, bid_len]; omega) | (simp <;> omega))) rfl ?_
      refine q (vMv rfl) rfl ?_
      refine q (vCapR Tryz.underlying202 rfl) rfl ?_
      refine q (vGt rfl rfl) rfl ?_
      refine nil ?_
      refine thN ?_
      refine cd rfl (fun hr => ?_) (fun hr => ?_) <;> try simp only [bls, beq_iff_eq, bne_iff_ne, Int.reduceToNat, List.length_map] at hr
      · skip
        have hI1 : (i : Int) + ((1 : Nat) : Int) = ((i + 1 : Nat) : Int) := by omega
        refine sq ?_
        refine rg ?_
        refine q (vMv rfl) rfl ?_
        refine q (vMv rfl) rfl ?_
        refine q (vSlHi i sl202 rfl ⟨_, _, rfl, rfl⟩ (by omega)) rfl ?_
        refine q (vMv rfl) rfl ?_
        refine q (vMv rfl) rfl ?_
        refine q (vAdd rfl rfl (by first | omega | (simp only [Int.toNat_natCast, Int.reduceToNat, List.length_append, List.length_cons, List.length_nil, List.length_map, bid_len]; omega) | (simp <;> omega))) rfl ?_
        refine q (vMv rfl) rfl ?_
        refine q (vSub rfl rfl (by first | omega | (simp only [Int.toNat_natCast, Int.reduceToNat, List.length_append, List.length_cons, List.length_nil, List.length_map, bid_len]; omega) | (simp <;> omega))) rfl ?_
        refine l rfl (appZ (os := xs.take i) (k := xs.length + 1 - i) ap202 Tryz.underlying3 rfl rfl (by omega) (srcRow (ys := xs.take i) T1 (fun x hx => hxm x (List.mem_of_mem_take hx)) (by rw [List.length_take]; omega) (by omega) (fun j w hj => by rw [Nat.zero_add]; exact hXA j w hj)) (by rw [List.length_take]; omega) (fun x hx => hxm x (List.mem_of_mem_take hx)) (by omega) (by omega) (by omega) (by omega) rfl ?_)
        intro g2 cap2 zs hq1 hq2 hq3
        refine q (vAs rfl) rfl ?_
        refine nil ?_
        refine thN ?_
        refine sq ?_
        refine rg ?_
        refine q (vMv rfl) rfl ?_
        refine q (vMv rfl) rfl ?_
        refine q (vSlRow i (i + (xs.length + 1 - i)) sl202 rfl ⟨_, _, rfl, rfl⟩ rfl ⟨by omega, by omega, .inr (by omega)⟩) rfl ?_
        refine q (vMv rfl) rfl ?_
        refine l rfl (cpyM sl202 rfl rfl T0 (cpRow (cnt := 1) (news := y) T1 (by show min 1 _ = 1; omega) (by omega) hYu) hy (by simp only [List.length_append]; omega) rfl ?_)
        refine nil ?_
        refine thN ?_
        refine sq ?_
        have eL1 : ((xs.take i).flatten ++ zs).take (0 + i * 33) ++ y ++ ((xs.take i).flatten ++ zs).drop (0 + i * 33 + y.length) = (xs.take i).flatten ++ y ++ zs.drop y.length := by
          rw [Nat.zero_add, ← hA]; exact ins_cells (D := []) (by omega)
        rw [eL1]
        have hAy : ((xs.take i).flatten ++ y).length = (i + 1) * 33 := by rw [List.length_append, hA, hym, Nat.add_mul, Nat.one_mul]
        refine dr (.take 0 (.take 1 (.take 2 (.take 3 (.take 4 (.take 5 (.take 6 (.take 7 (.one 8 .done))))))))) wide (by decide +kernel) _ _ (.cons T1 (.cons T1 .nil)) ?_
        refine pT rfl (vMv rfl) rfl ?_
        refine pT rfl (vMv rfl) rfl ?_
        refine pT rfl (vMv rfl) rfl ?_
        refine pT rfl (vAdd rfl rfl (by first | omega | (simp only [Int.toNat_natCast, Int.reduceToNat, List.length_append, List.length_cons, List.length_nil, List.length_map, bid_len]; omega) | (simp <;> omega))) rfl ?_
        refine pT rfl (vSlRow (i + 1) (i + (xs.length + 1 - i)) sl202 rfl ⟨_, _, rfl, hI1⟩ rfl ⟨by omega, by omega, .inr (by omega)⟩) rfl ?_
        refine pT rfl (vMv rfl) rfl ?_
        refine pT rfl (vMv rfl) rfl ?_
        refine pT rfl (vSlRow i xs.length sl202 rfl ⟨_, _, rfl, rfl⟩ rfl ⟨by omega, by omega, .inr (by omega)⟩) rfl ?_
        refine pO ?_
        refine opL rfl rfl (cpyM sl202 rfl rfl T0 (cpRow (cnt := xs.length - i) (news := (xs.drop i).flatten) T2 (by show min _ _ = _; omega) hD (fun j w hj => by rw [Nat.zero_add]; exact hXD j w hj)) hoD (by rw [List.length_append, hAy, List.length_drop, hD]; omega) rfl ?_)
        refine pK (Le.refl _) (.cons T1 (.cons T1 .nil)) ?_
        refine pDone ?_
        refine thN ?_
        refine sq ?_
        have eL2 : ((xs.take i).flatten ++ y ++ zs.drop y.length).take (0 + (i + 1) * 33) ++ (xs.drop i).flatten ++ ((xs.take i).flatten ++ y ++ zs.drop y.length).drop (0 + (i + 1) * 33 + (xs.drop i).flatten.length) = (xs.take i).flatten ++ y ++ (xs.drop i).flatten ++ (zs.drop y.length).drop (xs.drop i).flatten.length := by
          rw [Nat.zero_add, ← hAy]; exact ins_cells (D := []) (by rw [List.length_drop, hD]; omega)
        rw [eL2]
        refine ents _ (.cons T0 (rowSl (xs := xs.take i ++ [y] ++ xs.drop i) (m := 33) (cap := cap2) (n := i + (xs.length + 1 - i)) (by rw [hfn]; omega) hfin (by rw [hfn]; omega) hq2 (by
          simp only [List.length_append, List.length_drop, hA, hD, hym, hq3]; omega) (by
          rw [hfl, hfn]
          refine List.take_left' ?_
          simp only [List.length_append, hA, hD, hym]; omega)) .nil) ?_
        refine rg ?_
        refine q (vMv rfl) rfl ?_
        refine q (vAs rfl) rfl ?_
        refine nil ?_
        refine thN ?_
        refine rt ?_
        refine thR ?_
        refine ret rfl (.t rfl .nil) (.t T0 .nil) ⟨rfl, ⟨rfl⟩, rfl⟩
      · skip
        have hcn : xs.length + 1 ≤ cap := by omega
        have hI1 : (i : Int) + ((1 : Nat) : Int) = ((i + 1 : Nat) : Int) := by omega
        have hne : [xs.flatten ++ sp].flatten ≠ [] := by
          intro h
          have := congrArg List.length h
          simp only [List.flatten_cons, List.flatten_nil, List.append_nil, List.length_append, hX, hA, hD, List.length_nil] at this
          omega
        refine sk ?_
        refine thN ?_
        refine sq ?_
        refine rg ?_
        refine q (vMv rfl) rfl ?_
        refine q (vMv rfl) rfl ?_
        refine q (vMv rfl) rfl ?_
        refine q (vAdd rfl rfl (by first | omega | (simp only [Int.toNat_natCast, Int.reduceToNat, List.length_append, List.length_cons, List.length_nil, List.length_map, bid_len]; omega) | (simp <;> omega))) rfl ?_
        refine q (vSlHi (xs.length + 1) sl202 rfl ⟨_, _, rfl, by omega⟩ (by omega)) rfl ?_
        refine q (vAs rfl) rfl ?_
        refine nil ?_
        refine thN ?_
        refine sq ?_
        refine sq ?_
        refine rg ?_
        refine q (vMv rfl) rfl ?_
        refine q (vMv rfl) rfl ?_
        refine q (vMv rfl) rfl ?_
        refine q (vMv rfl) rfl ?_
        refine q (vAdd rfl rfl (by first | omega | (simp only [Int.toNat_natCast, Int.reduceToNat, List.length_append, List.length_cons, List.length_nil, List.length_map, bid_len]; omega) | (simp <;> omega))) rfl ?_
        refine q (vSlRow (i + 1) (xs.length + 1) sl202 rfl ⟨_, _, rfl, hI1⟩ rfl ⟨by omega, by omega, .inr (by omega)⟩) rfl ?_
        refine q (vOvl ov165 sl202 rfl rfl (.cons T0 (.cons T0 .nil)) hne) rfl ?_
        refine q (vNot rfl) rfl ?_
        refine nil ?_
        refine thN ?_
        refine cT rfl ?_
        refine sq ?_
        refine dr (.take 0 (.take 1 (.take 2 (.take 3 (.take 4 (.take 5 (.take 6 (.take 7 (.one 8 .done))))))))) wide (by decide +kernel) _ _ (.cons T0 .nil) ?_
        refine pT rfl (vMv rfl) rfl ?_
        refine pT rfl (vMv rfl) rfl ?_
        refine pT rfl (vMv rfl) rfl ?_
        refine pT rfl (vAdd rfl rfl (by first | omega | (simp only [Int.toNat_natCast, Int.reduceToNat, List.length_append, List.length_cons, List.length_nil, List.length_map, bid_len]; omega) | (simp <;> omega))) rfl ?_
        refine pT rfl (vSlRow (i + 1) (xs.length + 1) sl202 rfl ⟨_, _, rfl, hI1⟩ rfl ⟨by omega, by omega, .inr (by omega)⟩) rfl ?_
        refine pT rfl (vMv rfl) rfl ?_
        refine pT rfl (vMv rfl) rfl ?_
        refine pT rfl (vSlRow i (xs.length + 1) sl202 rfl ⟨_, _, rfl, rfl⟩ rfl ⟨by omega, by omega, .inr (by omega)⟩) rfl ?_
        refine pO ?_
        refine opL rfl rfl (cpyM sl202 rfl rfl T1 (cpRow (cnt := xs.length - i) (news := (xs.drop i).flatten) T1 (by show min _ _ = _; omega) hD (fun j w hj => by rw [Nat.zero_add]; exact hXD j w hj)) hoD (by rw [List.length_append, hX, List.length_append, hA, hD, hsp]; omega) rfl ?_)
        refine pK (Le.refl _) (.cons T1 .nil) ?_
        refine pDone ?_
        refine thN ?_
        refine sq ?_
        have eG1 : (xs.flatten ++ sp).take (0 + (i + 1) * 33) ++ (xs.drop i).flatten ++ (xs.flatten ++ sp).drop (0 + (i + 1) * 33 + (xs.drop i).flatten.length) = (xs.take i).flatten ++ (((xs.drop i).flatten ++ sp).take 33 ++ (xs.drop i).flatten ++ sp.drop 33) := by
          rw [Nat.zero_add, hX, List.append_assoc (xs.take i).flatten]
          have e1 : (i + 1) * 33 = (xs.take i).flatten.length + 33 := by rw [hA]; omega
          rw [e1, List.take_length_add_append, Nat.add_assoc, List.drop_length_add_append, Nat.add_comm 33, List.drop_length_add_append, List.append_assoc, List.append_assoc, List.append_assoc]
        rw [eG1]
        refine rg ?_
        refine q (vMv rfl) rfl ?_
        refine q (vMv rfl) rfl ?_
        refine q (vSlRow i (xs.length + 1) sl202 rfl ⟨_, _, rfl, rfl⟩ rfl ⟨by omega, by omega, .inr (by omega)⟩) rfl ?_
        refine q (vMv rfl) rfl ?_
        refine l rfl (cpyM sl202 rfl rfl T0 (cpRow (cnt := 1) (news := y) T1 (by show min 1 _ = 1; omega) (by omega) hYu) hy (by simp only [List.length_append, List.length_take, List.length_drop, hA, hD, hsp]; omega) rfl ?_)
        refine nil ?_
        refine thN ?_
        refine sq ?_
        have hq : (((xs.drop i).flatten ++ sp).take 33).length = y.length := by rw [List.length_take, List.length_append, hD, hsp, hym]; omega
        have eG2 : ((xs.take i).flatten ++ (((xs.drop i).flatten ++ sp).take 33 ++ (xs.drop i).flatten ++ sp.drop 33)).take (0 + i * 33) ++ y ++ ((xs.take i).flatten ++ (((xs.drop i).flatten ++ sp).take 33 ++ (xs.drop i).flatten ++ sp.drop 33)).drop (0 + i * 33 + y.length) = (xs.take i).flatten ++ y ++ (xs.drop i).flatten ++ sp.drop 33 := by
          rw [Nat.zero_add, ← hA, List.take_left' rfl, List.drop_length_add_append, List.append_assoc (((xs.drop i).flatten ++ sp).take 33), List.drop_left' hq]
          simp only [List.append_assoc]
        rw [eG2]
        refine ents _ (.cons T0 (rowSl (xs := xs.take i ++ [y] ++ xs.drop i) (m := 33) (cap := cap) (n := xs.length + 1) hfn.symm hfin (by rw [hfn]; omega) hc2 (by
          simp only [List.length_append, List.length_drop, hA, hD, hym, hsp]; omega) (by
          rw [hfl, hfn]
          refine List.take_left' ?_
          simp only [List.length_append, hA, hD, hym]; omega)) .nil) ?_
        refine rg ?_
        refine q (vMv rfl) rfl ?_
        refine q (vAs rfl) rfl ?_
        refine nil ?_
        refine thN ?_
        refine rt ?_
        refine thR ?_
        refine ret rfl (.t rfl .nil) (.t T0 .nil) ⟨rfl, ⟨rfl⟩, rfl⟩
end Go.Proofs.YtjmigoikklkfdaaGreatDoor
namespace Go.Proofs.YtjmigoikklkfdaaGreatDoor
open Go
set_option linter.unusedVariables false
set_option linter.unusedSimpArgs false
set_option maxRecDepth 4000
noncomputable def getF (A : List (List UInt8)) (x : BId) : List UInt8 := if x ∈ keys A then A.getD (low x (keys A)) default else []
noncomputable def putF (A : List (List UInt8)) (t : List UInt8) : List (List UInt8) :=
  if dOk t = true then (if sumF t ∈ keys A then A else A.take (low (sumF t) (keys A)) ++ [t] ++ A.drop (low (sumF t) (keys A))) else A
theorem low_le (x : BId) (A : List (List UInt8)) : low x (keys A) ≤ A.length := by
  have := lowN_le (idN x) ((keys A).map idN)
  rwa [List.length_map, List.length_map] at this
theorem low_lt {x : BId} {A : List (List UInt8)} (hr : Rising (keys A)) (h : x ∈ keys A) : low x (keys A) < A.length := by
  have h1 := low_mem (x := x) hr
  rw [decide_eq_true h] at h1
  simp only [Bool.and_eq_true, decide_eq_true_eq, List.length_map] at h1
  exact h1.1
theorem encIt_one (A : List (List UInt8)) : ∀ c, c ∈ (A.map encIt).flatten → c.oneCell' = true := by
  intro c hc
  obtain ⟨l, hl, hc⟩ := List.mem_flatten.1 hc
  obtain ⟨t, _, rfl⟩ := List.mem_map.1 hl
  exact (inferInstance : One (encIt t)).h c hc
theorem encIt_len (t : List UInt8) : (encIt t).length = 33 := by simp [encIt]
theorem New_spec (S : Mem) : Spec Tryz.prog 66 [] S [] (fun S' r L' => ∃ b, S' = S ∧ r = ptr b 0 ∧ L' = stE b (.slice none 0 0) []) := by
  refine enter Tryz.func66 rfl 3 rfl rfl (fun w0 => ?_)
  refine sq ?_
  refine rg ?_
  refine q (vAs rfl) rfl ?_
  refine nil ?_
  refine thN ?_
  refine sq ?_
  refine rg ?_
  refine q (vBuild st204 .nil) rfl ?_
  refine l rfl (box rfl rfl ?_)
  intro B2
  refine q (vAs rfl) rfl ?_
  refine nil ?_
  refine thN ?_
  refine rt ?_
  refine nilsl 209 33 ?_
  refine ret rfl (.t rfl .nil) (.t T1 (.t T0 .nil)) ⟨_, rfl, rfl, rfl⟩
theorem Len_spec (b : Nat) (v : Value) (A : List (List UInt8)) (S : Mem) : PureL Tryz.prog 67 [ptr b 0] S (stE b v A) (.int .i64 (A.length : Nat)) := by
  refine enter Tryz.func67 rfl 10 rfl rfl (fun w0 => ?_)
  refine sq ?_
  refine rg ?_
  refine q (vAs rfl) rfl ?_
  refine nil ?_
  refine thN ?_
  refine sq ?_
  refine sq ?_
  refine rg ?_
  refine q (vMv rfl) rfl ?_
  refine q (vEqNil Tryz.underlying42 rfl) rfl ?_
  refine nil ?_
  refine thN ?_
  refine cF rfl ?_
  refine sk ?_
  refine thN ?_
  refine sq ?_
  refine rg ?_
  refine q (vMv rfl) rfl ?_
  refine q (vNil rfl) rfl ?_
  refine q (vFa fa204_0 rfl) rfl ?_
  refine q (vLd sc202 rfl (rB1 T0 (.z (.c .n)))) rfl ?_
  refine q (SrcOk.len (srcO T1) Tryz.underlying202 rfl) rfl ?_
  refine q (vAs rfl) rfl ?_
  refine nil ?_
  refine thN ?_
  refine rt ?_
  refine ret rfl (.t rfl .nil) (.t T0 (.t T0 .nil)) ⟨by simp [pack], rfl, rfl⟩
theorem Get_spec {b : Nat} {v : Value} {A : List (List UInt8)} (x : BId) (hr : Rising (keys A)) (hlen : A.length < 1073741824) (S : Mem) :
    PureL Tryz.prog 99 [ptr b 0, idv x] S (stE b v A) (.tuple [str (getF A x), .bool (decide (x ∈ keys A))].toArray) := by
  refine enter Tryz.func99 rfl 24 rfl rfl (fun w0 => ?_)
  refine sq ?_
  refine rg ?_
  refine l rfl (box rfl rfl ?_)
  intro B3
  refine q (vAs rfl) rfl ?_
  refine q (vAs rfl) rfl ?_
  refine nil ?_
  refine thN ?_
  refine sq ?_
  refine rg ?_
  refine q (vMv rfl) rfl ?_
  refine q (vLdA ag35 rfl (rB T0 (.z (.c .n))) (by simp)) rfl ?_
  refine l rfl (callP cf125 (place_spec _ hr hlen _) rfl (.cons T1 (.cons T1 .nil)) rfl ?_)
  refine q (vMv rfl) rfl ?_
  refine q (vEx rfl rfl) rfl ?_
  refine q (vEx rfl rfl) rfl ?_
  refine q (vAs rfl) rfl ?_
  refine q (vAs rfl) rfl ?_
  refine nil ?_
  refine thN ?_
  refine sq ?_
  refine sq ?_
  refine rg ?_
  refine q (vMv rfl) rfl ?_
  refine q (vNot rfl) rfl ?_
  refine nil ?_
  refine thN ?_
  refine cd rfl (fun hc => ?_) (fun hc => ?_) <;> try simp only [bls, beq_iff_eq, bne_iff_ne, Int.reduceToNat, List.length_map] at hc
  · skip
    refine sq ?_
    refine rg ?_
    refine q (vAs rfl) rfl ?_
    refine q (vAs rfl) rfl ?_
    refine nil ?_
    refine thN ?_
    refine rt ?_
    refine thR ?_
    refine ret rfl (.t rfl (.t rfl .nil)) (.t T1 (.t T1 .nil)) ⟨by simp [pack, getF, hc], rfl, rfl⟩
  · skip
    have hl := low_lt hr hc
    refine sk ?_
    refine thN ?_
    refine sq ?_
    refine rg ?_
    refine q (vMv rfl) rfl ?_
    refine q (vNil rfl) rfl ?_
    refine q (vFa fa204_0 rfl) rfl ?_
    refine q (vLd sc202 rfl (rB1 T1 (.z (.c .n)))) rfl ?_
    refine q (vMv rfl) rfl ?_
    refine q (vIxO sl202 rfl rfl T2 (by first | omega | (simp only [Int.toNat_natCast, Int.reduceToNat, List.length_append, List.length_cons, List.length_nil, List.length_map, bid_len]; omega) | (simp <;> omega))) rfl ?_
    refine q (vFp fa209_1 rfl (rO T2 (gm (by first | omega | (simp only [Int.toNat_natCast, Int.reduceToNat, List.length_append, List.length_cons, List.length_nil, List.length_map, bid_len]; omega) | (simp <;> omega))))) rfl ?_
    refine q (vLd sc9 rfl (Rd.at1 (rO T2 (gm (by first | omega | (simp only [Int.toNat_natCast, Int.reduceToNat, List.length_append, List.length_cons, List.length_nil, List.length_map, bid_len]; omega) | (simp <;> omega)))) (.n (n := 32) inferInstance (.z (.c .n))))) rfl ?_
    refine q (vAs rfl) rfl ?_
    refine q (vAs rfl) rfl ?_
    refine nil ?_
    refine thN ?_
    refine rt ?_
    refine ret rfl (.t rfl (.t rfl .nil)) (.t T1 (.t T1 .nil)) ⟨by simp [pack, getF, hc], rfl, rfl⟩
theorem Kind_spec {b : Nat} {v : Value} {A : List (List UInt8)} (x : BId) (hr : Rising (keys A)) (hlen : A.length < 1073741824) (hne : ∀ t, t ∈ A → t ≠ []) (S : Mem) :
    PureL Tryz.prog 74 [ptr b 0, idv x] S (stE b v A) (.int .i64 (((getF A x).getD 0 0).toNat : Nat)) := by
  refine enter Tryz.func74 rfl 18 rfl rfl (fun w0 => ?_)
  refine sq ?_
  refine rg ?_
  refine l rfl (box rfl rfl ?_)
  intro B3
  refine q (vAs rfl) rfl ?_
  refine nil ?_
  refine thN ?_
  refine sq ?_
  refine rg ?_
  refine q (vMv rfl) rfl ?_
  refine q (vLdA ag35 rfl (rB T0 (.z (.c .n))) (by simp)) rfl ?_
  refine l rfl (callP cf99 (Get_spec _ hr hlen _) rfl (.cons T1 (.cons T1 .nil)) rfl ?_)
  refine q (vMv rfl) rfl ?_
  refine q (vEx rfl rfl) rfl ?_
  refine q (vEx rfl rfl) rfl ?_
  refine q (vAs rfl) rfl ?_
  refine q (vAs rfl) rfl ?_
  refine nil ?_
  refine thN ?_
  refine sq ?_
  refine sq ?_
  refine rg ?_
  refine q (vMv rfl) rfl ?_
  refine q (vNot rfl) rfl ?_
  refine nil ?_
  refine thN ?_
  refine cd rfl (fun hc => ?_) (fun hc => ?_) <;> try simp only [bls, beq_iff_eq, bne_iff_ne, Int.reduceToNat, List.length_map] at hc
  · skip
    refine sq ?_
    refine rg ?_
    refine q (vAs rfl) rfl ?_
    refine nil ?_
    refine thN ?_
    refine rt ?_
    refine thR ?_
    refine ret rfl (.t rfl .nil) (.t T1 (.t T1 .nil)) ⟨by simp [pack, getF, hc], rfl, rfl⟩
  · skip
    have hl := low_lt hr hc
    have hg : getF A x ∈ A := by
      rw [getF, if_pos hc]
      have e : A.getD (low x (keys A)) default = A[low x (keys A)] := by simp [List.getD, hl]
      rw [e]; exact List.getElem_mem hl
    have hp : 0 < (getF A x).length := List.length_pos_iff.2 (hne _ hg)
    refine sk ?_
    refine thN ?_
    refine sq ?_
    refine rg ?_
    refine q (vMv rfl) rfl ?_
    refine q (vIxS Tryz.underlying9 rfl rfl (by first | omega | (simp only [Int.toNat_natCast, Int.reduceToNat, List.length_append, List.length_cons, List.length_nil, List.length_map, bid_len]; omega) | (simp <;> omega))) rfl ?_
    refine q (tCvI8 Tryz.underlying3 Tryz.underlying5 rfl) rfl ?_
    refine q (vAs rfl) rfl ?_
    refine nil ?_
    refine thN ?_
    refine rt ?_
    refine ret rfl (.t rfl .nil) (.t T1 (.t T1 .nil)) ⟨by simp [pack], rfl, rfl⟩
theorem Object_spec {b : Nat} {v : Value} {A : List (List UInt8)} (x : BId) (hr : Rising (keys A)) (hlen : A.length < 1073741824) (hs : ∀ t, t ∈ A → t.length < 1073741824 ∧ dOk t = true) (S : Mem) :
    Spec Tryz.prog 83 [ptr b 0, idv x] S (stE b v A) (fun S' r L' => ∃ ve vp, r = .tuple [objv (dO (getF A x)) ve vp, .bool (decide (x ∈ keys A))].toArray ∧ ObjIn S' (dO (getF A x)) ve vp ∧ L' = stE b v A) := by
  have hz : dO [] = zobj := by
    have : dOk [] = false := by simp [dOk]
    simp [dO, this]
  refine enter Tryz.func83 rfl 27 rfl rfl (fun w0 => ?_)
  refine sq ?_
  refine rg ?_
  refine l rfl (box rfl rfl ?_)
  intro B3
  refine l rfl (alloc ze77 rfl ?_)
  intro B4
  refine q (vAs rfl) rfl ?_
  refine nil ?_
  refine thN ?_
  refine sq ?_
  refine rg ?_
  refine q (vMv rfl) rfl ?_
  refine q (vLdA ag35 rfl (rB T1 (.z (.c .n))) (by simp)) rfl ?_
  refine l rfl (callP cf99 (Get_spec _ hr hlen _) rfl (.cons T2 (.cons T2 .nil)) rfl ?_)
  refine q (vMv rfl) rfl ?_
  refine q (vEx rfl rfl) rfl ?_
  refine q (vEx rfl rfl) rfl ?_
  refine q (vAs rfl) rfl ?_
  refine q (vAs rfl) rfl ?_
  refine nil ?_
  refine thN ?_
  refine sq ?_
  refine sq ?_
  refine rg ?_
  refine q (vMv rfl) rfl ?_
  refine q (vNot rfl) rfl ?_
  refine nil ?_
  refine thN ?_
  refine cd rfl (fun hc => ?_) (fun hc => ?_) <;> try simp only [bls, beq_iff_eq, bne_iff_ne, Int.reduceToNat, List.length_map] at hc
  · skip
    refine sq ?_
    refine rg ?_
    refine q (vBuild st77 .nil) rfl ?_
    refine l rfl (store sz77 rfl rfl T0 (by simp) (.z (.c inferInstance inferInstance (.c inferInstance inferInstance (.c inferInstance inferInstance (.c inferInstance inferInstance (.c inferInstance inferInstance (.c inferInstance inferInstance (.c inferInstance inferInstance (.c inferInstance inferInstance (.c inferInstance inferInstance (.c inferInstance inferInstance .n))))))))))) ?_)
    refine q (vAs rfl) rfl ?_
    refine nil ?_
    refine thN ?_
    refine rt ?_
    refine thR ?_
    have e1 : dO (getF A x) = zobj := by rw [getF, if_neg hc, hz]
    refine ret rfl (.c ag77 rfl (rB T0 (.z (.c (.c (.c (.c (.c (.c (.c (.c (.c (.c .n)))))))))))) (by simp) (.t rfl .nil)) (.t T2 (.t T2 .nil)) ⟨.slice none 0 0, .slice none 0 0, by rw [e1]; simp [pack, hc]; rfl, by rw [e1]; exact ⟨PSl.nil, PSl.nil⟩, rfl⟩
  · skip
    have hl := low_lt hr hc
    have hg : getF A x ∈ A := by
      rw [getF, if_pos hc]
      have e : A.getD (low x (keys A)) default = A[low x (keys A)] := by simp [List.getD, hl]
      rw [e]; exact List.getElem_mem hl
    obtain ⟨h1, h2⟩ := hs _ hg
    refine sk ?_
    refine thN ?_
    refine sq ?_
    refine rg ?_
    refine q (vMv rfl) rfl ?_
    refine l rfl (call cf124 (Decode_spec _ h1 _) rfl .nil rfl ?_)
    intro S1 r1 l1 hS1 hp1
    obtain ⟨ve, vp, rfl, hi, rfl⟩ := hp1
    have he := hi.e
    have hp := hi.p
    have hs0 := he.sc
    have hs1 := hp.sc
    refine q (vMv rfl) rfl ?_
    refine q (vEx rfl rfl) rfl ?_
    refine q (vEx rfl rfl) rfl ?_
    refine l rfl (alloc ze77 rfl ?_)
    intro B8
    refine l rfl (store sz77 rfl rfl T0 (by simp) (.z (.c inferInstance inferInstance (.c inferInstance inferInstance (.c inferInstance inferInstance (.c inferInstance inferInstance (.c inferInstance inferInstance (.c inferInstance inferInstance (.c inferInstance inferInstance (.c inferInstance inferInstance (.c inferInstance inferInstance (.c inferInstance inferInstance .n))))))))))) ?_)
    refine q (vAs rfl) rfl ?_
    refine nil ?_
    refine thN ?_
    refine sq ?_
    refine rg ?_
    refine q (vLdA ag77 rfl (rB T0 (.z (.c (.c (.c (.c (.c (.c (.c (.c (.c (.c .n)))))))))))) (by simp)) rfl ?_
    refine q (vMv rfl) rfl ?_
    refine q (vEq rfl rfl) rfl ?_
    refine l rfl (store sz77 rfl rfl T1 (by simp) (.z (.c inferInstance inferInstance (.c inferInstance inferInstance (.c inferInstance inferInstance (.c inferInstance inferInstance (.c inferInstance inferInstance (.c inferInstance inferInstance (.c inferInstance inferInstance (.c inferInstance inferInstance (.c inferInstance inferInstance (.c inferInstance inferInstance .n))))))))))) ?_)
    refine q (vAs rfl) rfl ?_
    refine nil ?_
    refine thN ?_
    refine rt ?_
    refine ret rfl (.c ag77 rfl (rB T0 (.z (.c (.c (.c (.c (.c (.c (.c (.c (.c (.c .n)))))))))))) (by simp) (.t rfl .nil)) (.t T3 (.t T3 .nil)) ⟨ve, vp, by simp [pack, h2, hc, errn], ⟨he, hp⟩, rfl⟩
theorem Ids_spec {b : Nat} {v : Value} {A : List (List UInt8)} (hlen : A.length < 1073741824) (S : Mem) :
    Spec Tryz.prog 73 [ptr b 0] S (stE b v A) (fun S' r L' => PSl S' r 32 ((keys A).map encId) ∧ L' = stE b v A) := by
  refine enter Tryz.func73 rfl 24 rfl rfl (fun w0 => ?_)
  refine sq ?_
  refine rg ?_
  refine q (vAs rfl) rfl ?_
  refine nil ?_
  refine thN ?_
  refine sq ?_
  refine sq ?_
  refine rg ?_
  refine q (vMv rfl) rfl ?_
  refine q (vEqNil Tryz.underlying42 rfl) rfl ?_
  refine nil ?_
  refine thN ?_
  refine cF rfl ?_
  refine sk ?_
  refine thN ?_
  refine sq ?_
  refine rg ?_
  refine q (vAs rfl) rfl ?_
  refine nil ?_
  refine thN ?_
  refine sq ?_
  refine sq ?_
  refine rg ?_
  refine q (vMv rfl) rfl ?_
  refine q (vNil rfl) rfl ?_
  refine q (vFa fa204_0 rfl) rfl ?_
  refine q (vLd sc202 rfl (rB1 T0 (.z (.c .n)))) rfl ?_
  refine q (SrcOk.len (srcO T1) Tryz.underlying202 rfl) rfl ?_
  refine q (vMv rfl) rfl ?_
  refine nil ?_
  refine thN ?_
  refine bk ?_
  refine nilsl 35 32 ?_
  refine loop (ι := Nat × Value) (fun (p : Nat × Value) => [(3, p.2), (11, v), (12, .int .i64 (A.length : Int)), (13, .int .i64 (p.1 : Int))]) (fun (p : Nat × Value) => [blk b 204 [[v]], sl v 209 33 (A.map encIt), sl p.2 35 32 (((keys A).take p.1).map encId)]) (fun (p : Nat × Value) => fun S' => p.1 ≤ A.length) (fun (p : Nat × Value) => A.length - p.1) (0, .slice none 0 0) (Nat.zero_le _) (.cons rfl (by first | rfl | simp | (simp <;> omega)) (.cons rfl (by first | rfl | simp | (simp <;> omega)) (.cons rfl (by first | rfl | simp | (simp <;> omega)) (.cons rfl (by first | rfl | simp | (simp <;> omega)) .nil)))) (.cons T1 (Ent.Le.of (by first | rfl | simp | (simp <;> omega))) (.cons T1 (Ent.Le.of (by first | rfl | simp | (simp <;> omega))) (.cons T0 (Ent.Le.of (by first | rfl | simp | (simp <;> omega))) .nil))) ?_
  rintro ⟨i, vo⟩ S2 hle2 h1
  dsimp only at h1 ⊢
  refine sq ?_
  refine rg ?_
  refine q (vLt rfl rfl) rfl ?_
  refine nil ?_
  refine thN ?_
  refine sq ?_
  refine cd rfl (fun hc => ?_) (fun hc => ?_) <;> try simp only [bls, beq_iff_eq, bne_iff_ne, Int.reduceToNat, List.length_map] at hc
  · skip
    have hl : (((keys A).take i).map encId).length = i := by rw [List.length_map, List.length_take, List.length_map]; omega
    refine sk ?_
    refine thN ?_
    refine sq ?_
    refine bk ?_
    refine sq ?_
    refine rg ?_
    refine q (vIxO sl202 rfl rfl T1 (by first | omega | (simp only [Int.toNat_natCast, Int.reduceToNat, List.length_append, List.length_cons, List.length_nil, List.length_map, bid_len]; omega) | (simp <;> omega))) rfl ?_
    refine q (vLdA ag209 rfl (rO T1 (gm (by first | omega | (simp only [Int.toNat_natCast, Int.reduceToNat, List.length_append, List.length_cons, List.length_nil, List.length_map, bid_len]; omega) | (simp <;> omega)))) (by simp)) rfl ?_
    refine l rfl (alloc ze209 rfl ?_)
    intro B5
    refine l rfl (store sz209 rfl rfl T0 (by simp) (.z (.c inferInstance inferInstance (.c inferInstance inferInstance .n))) ?_)
    refine nil ?_
    refine thN ?_
    refine rg ?_
    refine q (vMv rfl) rfl ?_
    refine q (vFa fa209_0 rfl) rfl ?_
    refine q (vLdA ag35 rfl (rB T0 (.z (.c .n))) (by simp)) rfl ?_
    refine l rfl (bslice sl27 ze35 (.cA rfl .nil) (by simp) rfl rfl rfl rfl ?_)
    intro B20
    refine l rfl (app ap27 rfl rfl T4 (srcO T0) (by first | omega | (simp only [Int.toNat_natCast, Int.reduceToNat, List.length_append, List.length_cons, List.length_nil, List.length_map, bid_len]; omega) | (simp <;> omega)) rfl ?_)
    intro v21 hv21
    refine q (vAs rfl) rfl ?_
    refine nil ?_
    refine bkN ?_
    refine thN ?_
    refine rg ?_
    refine q (vAdd rfl rfl (by first | omega | (simp only [Int.toNat_natCast, Int.reduceToNat, List.length_append, List.length_cons, List.length_nil, List.length_map, bid_len]; omega) | (simp <;> omega))) rfl ?_
    refine q (vMv rfl) rfl ?_
    refine nil ?_
    refine thN ?_
    have e1 : (keys A).take (i + 1) = (keys A).take i ++ [sumF (A.getD i default)] := by
      rw [take_next (keys A) i (by rw [List.length_map]; omega)]
      congr 2
      simp [List.getD, show i < A.length by omega]
    refine back ((i + 1, v21)) (Le.refl _) ⟨by dsimp only; omega, by dsimp only; omega⟩ (.cons rfl (by first | rfl | (simp only [e1, List.map_append, List.map_cons, List.map_nil, Int.toNat_natCast]; done) | (simp only [e1, List.map_append, List.map_cons, List.map_nil, Int.toNat_natCast]; simp)) (.cons rfl (by first | rfl | (simp only [e1, List.map_append, List.map_cons, List.map_nil, Int.toNat_natCast]; done) | (simp only [e1, List.map_append, List.map_cons, List.map_nil, Int.toNat_natCast]; simp)) (.cons rfl (by first | rfl | (simp only [e1, List.map_append, List.map_cons, List.map_nil, Int.toNat_natCast]; done) | (simp only [e1, List.map_append, List.map_cons, List.map_nil, Int.toNat_natCast]; simp)) (.cons rfl (by first | rfl | (simp only [e1, List.map_append, List.map_cons, List.map_nil, Int.toNat_natCast]; done) | (simp only [e1, List.map_append, List.map_cons, List.map_nil, Int.toNat_natCast]; simp)) .nil)))) (.cons T3 (Ent.Le.of (by first | rfl | (simp only [e1, List.map_append, List.map_cons, List.map_nil, Int.toNat_natCast]; done) | (simp only [e1, List.map_append, List.map_cons, List.map_nil, Int.toNat_natCast]; simp))) (.cons T3 (Ent.Le.of (by first | rfl | (simp only [e1, List.map_append, List.map_cons, List.map_nil, Int.toNat_natCast]; done) | (simp only [e1, List.map_append, List.map_cons, List.map_nil, Int.toNat_natCast]; simp))) (.cons T0 (Ent.Le.of (by first | rfl | (simp only [e1, List.map_append, List.map_cons, List.map_nil, Int.toNat_natCast]; done) | (simp only [e1, List.map_append, List.map_cons, List.map_nil, Int.toNat_natCast]; simp))) .nil)))
  · skip
    have e1 : (keys A).take i = keys A := List.take_of_length_le (by rw [List.length_map]; omega)
    rw [e1]
    refine xt ?_
    refine thX ?_
    refine thX ?_
    refine bkX ?_
    refine thN ?_
    refine sq ?_
    refine rg ?_
    refine q (vMv rfl) rfl ?_
    refine q (vAs rfl) rfl ?_
    refine nil ?_
    refine thN ?_
    refine rt ?_
    refine pub T2 (fun S1 hS1 hO => ?_)
    refine ret rfl (.t rfl .nil) (.t T0 (.t T0 .nil)) ⟨hO, rfl⟩
theorem Put_spec {b : Nat} {v : Value} {A : List (List UInt8)} (t : List UInt8) (hr : Rising (keys A)) (hlen : A.length < 1000000000) (ht : t.length < 1073741824) (S : Mem) (constants_pb : PB S 0 0 (encW kW)) :
    Spec Tryz.prog 80 [ptr b 0, str t] S (stE b v A) (fun S' r L' => ∃ v', r = .tuple [idv (if dOk t = true then sumF t else zid), .int .i64 (errn (dOk t) : Nat)].toArray ∧ L' = stE b v' (putF A t)) := by
  have hlen2 : A.length < 1073741824 := by omega
  refine enter Tryz.func80 rfl 46 rfl rfl (fun w0 => ?_)
  refine sq ?_
  refine rg ?_
  refine l rfl (alloc ze35 rfl ?_)
  intro B4
  refine q (vAs rfl) rfl ?_
  refine nil ?_
  refine thN ?_
  refine sq ?_
  refine sq ?_
  refine rg ?_
  refine q (vMv rfl) rfl ?_
  refine q (vEqNil Tryz.underlying42 rfl) rfl ?_
  refine nil ?_
  refine thN ?_
  refine cF rfl ?_
  refine sk ?_
  refine thN ?_
  refine sq ?_
  refine sq ?_
  refine rg ?_
  refine q (vMv rfl) rfl ?_
  refine l rfl (call cf124 (Decode_spec _ ht _) rfl .nil rfl ?_)
  intro S1 r1 l1 hS1 hp1
  obtain ⟨ve, vp, rfl, hi, rfl⟩ := hp1
  replace constants_pb := constants_pb.mono hS1
  have he := hi.e
  have hp := hi.p
  have hs0 := he.sc
  have hs1 := hp.sc
  refine q (vMv rfl) rfl ?_
  refine q (vEx rfl rfl) rfl ?_
  refine q (vEx rfl rfl) rfl ?_
  refine l rfl (alloc ze77 rfl ?_)
  intro B6
  refine l rfl (store sz77 rfl rfl T0 (by simp) (.z (.c inferInstance inferInstance (.c inferInstance inferInstance (.c inferInstance inferInstance (.c inferInstance inferInstance (.c inferInstance inferInstance (.c inferInstance inferInstance (.c inferInstance inferInstance (.c inferInstance inferInstance (.c inferInstance inferInstance (.c inferInstance inferInstance .n))))))))))) ?_)
  refine q (vAs rfl) rfl ?_
  refine nil ?_
  refine thN ?_
  refine sq ?_
  refine rg ?_
  refine q (vMv rfl) rfl ?_
  refine q (vNe rfl rfl) rfl ?_
  refine nil ?_
  refine thN ?_
  refine cd rfl (fun hc => ?_) (fun hc => ?_) <;> try simp only [bls, beq_iff_eq, bne_iff_ne, Int.reduceToNat, List.length_map] at hc
  · skip
    refine sq ?_
    refine rg ?_
    refine q (vBuildA0 ze35 ar35) rfl ?_
    refine l rfl (store sz35 rfl rfl T1 (by simp) (.z (.c inferInstance inferInstance .n)) ?_)
    refine q (vAs rfl) rfl ?_
    refine nil ?_
    refine thN ?_
    refine rt ?_
    refine thR ?_
    have e1 : dOk t = false := by
      cases h : dOk t with
      | false => rfl
      | true => rw [h] at hc; exact absurd rfl hc
    refine ret rfl (.c ag35 rfl (rB T0 (.z (.c .n))) (by simp) (.t rfl .nil)) (.t T2 (.t T2 .nil)) ⟨v, by simp [pack, e1, errn], by rw [putF, e1]; rfl⟩
  · skip
    have e1 : dOk t = true := by
      cases h : dOk t with
      | true => rfl
      | false => rw [h] at hc; simp [errn] at hc
    refine sk ?_
    refine thN ?_
    refine sq ?_
    refine rg ?_
    refine q (vMv rfl) rfl ?_
    refine l rfl (callP cf106 (Id_spec _ (by first | omega | (simp only [Int.toNat_natCast, Int.reduceToNat, List.length_append, List.length_cons, List.length_nil, List.length_map, bid_len]; omega) | (simp <;> omega)) _ constants_pb) rfl .nil rfl ?_)
    refine l rfl (alloc ze35 rfl ?_)
    intro B8
    refine l rfl (store sz35 rfl rfl T0 (by simp) (.z (.c inferInstance inferInstance .n)) ?_)
    refine nil ?_
    refine thN ?_
    refine sq ?_
    refine sq ?_
    refine rg ?_
    refine q (vMv rfl) rfl ?_
    refine q (vLdA ag35 rfl (rB T0 (.z (.c .n))) (by simp)) rfl ?_
    refine l rfl (callP cf125 (place_spec _ hr hlen2 _) rfl (.cons T3 (.cons T3 .nil)) rfl ?_)
    refine q (vMv rfl) rfl ?_
    refine q (vEx rfl rfl) rfl ?_
    refine q (vEx rfl rfl) rfl ?_
    refine q (vAs rfl) rfl ?_
    refine q (vAs rfl) rfl ?_
    refine nil ?_
    refine thN ?_
    refine sq ?_
    refine rg ?_
    refine q (vMv rfl) rfl ?_
    refine q (vNot rfl) rfl ?_
    refine nil ?_
    refine thN ?_
    refine cd rfl (fun hd => ?_) (fun hd => ?_) <;> try simp only [bls, beq_iff_eq, bne_iff_ne, Int.reduceToNat, List.length_map] at hd
    · skip
      have hle := low_le (sumF t) A
      refine dr (.take 0 (.take 1 (.take 2 (.take 3 (.take 4 (.take 5 (.take 6 (.take 7 (.take 8 (.one 9 (.one 10 (.one 11 (.take 12 (.last 13)))))))))))))) wide (by decide +kernel) _ _ (.cons T0 (.cons T0 (.cons T0 (.cons T0 .nil)))) ?_
      refine pT rfl (vMv rfl) rfl ?_
      refine pT rfl (vMv rfl) rfl ?_
      refine pT rfl (vNil rfl) rfl ?_
      refine pT rfl (vFa fa204_0 rfl) rfl ?_
      refine pT rfl (vLd sc202 rfl (rB1 T3 (.z (.c .n)))) rfl ?_
      refine pT rfl (vMv rfl) rfl ?_
      refine pT rfl (vLdA ag35 rfl (rB T0 (.z (.c .n))) (by simp)) rfl ?_
      refine pT rfl (vMv rfl) rfl ?_
      refine pT rfl (vBuild st209 (.cons rfl rfl inferInstance (by simp) (.z (.c inferInstance inferInstance .n)) (.cons rfl rfl inferInstance (by simp) (.n (n := 32) inferInstance (.z (.c inferInstance inferInstance .n))) .nil))) rfl ?_
      refine pO ?_
      refine opL rfl rfl (bslice sl202 ze209 (.cons rfl inferInstance .nil) (by simp) rfl rfl rfl rfl ?_)
      intro B41
      refine pK (Le.refl _) (.cons T1 (.cons T1 (.cons T1 (.cons T1 .nil)))) ?_
      refine pO ?_
      refine opL rfl rfl (call cf126 (insert_item_spec (y := encIt t) _ (by rw [List.length_map]; exact hle) (by rw [List.length_map]; omega) (encIt_one A) (inferInstance : One (encIt t)).h (encIt_len t) _) rfl (.cons T5 (.cons T0 .nil)) rfl ?_)
      intro S2 r2 l2 hS2 hp2
      obtain ⟨rfl, hsc, rfl⟩ := hp2
      replace constants_pb := constants_pb.mono hS2
      replace he := he.mono hS2
      replace hp := hp.mono hS2
      refine pK hS2 (.cons T1 (.cons T1 (.cons T1 (.cons T1 .nil)))) ?_
      refine pO ?_
      refine opL rfl rfl (qK (vNil rfl) rfl ?_)
      refine pK hS2 (.cons T1 (.cons T1 (.cons T1 (.cons T1 .nil)))) ?_
      refine pT rfl (vFa fa204_0 rfl) rfl ?_
      refine pL ?_
      refine opL rfl rfl (store sz202 rfl rfl T4 (by simp) (.z (.c inferInstance inferInstance .n)) ?_)
      refine thN ?_
      refine sq ?_
      refine rg ?_
      refine q (vLdA ag35 rfl (rB T2 (.z (.c .n))) (by simp)) rfl ?_
      refine l rfl (store sz35 rfl rfl T4 (by simp) (.z (.c inferInstance inferInstance .n)) ?_)
      refine q (vAs rfl) rfl ?_
      refine nil ?_
      refine thN ?_
      refine rt ?_
      have e2 : (A.map encIt).take (low (sumF t) (keys A)) ++ [encIt t] ++ (A.map encIt).drop (low (sumF t) (keys A)) = (putF A t).map encIt := by
        rw [putF, if_pos e1, if_neg hd]; simp
      refine ret rfl (.c ag35 rfl (rB T0 (.z (.c .n))) (by simp) (.t rfl .nil)) (.t T1 (.t T1 .nil)) ⟨r2, by simp [pack, e1, errn], by rw [e2]⟩
    · skip
      refine sk ?_
      refine thN ?_
      refine sq ?_
      refine rg ?_
      refine q (vLdA ag35 rfl (rB T0 (.z (.c .n))) (by simp)) rfl ?_
      refine l rfl (store sz35 rfl rfl T2 (by simp) (.z (.c inferInstance inferInstance .n)) ?_)
      refine q (vAs rfl) rfl ?_
      refine nil ?_
      refine thN ?_
      refine rt ?_
      refine ret rfl (.c ag35 rfl (rB T0 (.z (.c .n))) (by simp) (.t rfl .nil)) (.t T3 (.t T3 .nil)) ⟨v, by simp [pack, e1, errn], by rw [putF, if_pos e1, if_pos hd]⟩
theorem putF_rising {A : List (List UInt8)} (t : List UInt8) (hr : Rising (keys A)) : Rising (keys (putF A t)) := by
  unfold putF
  split
  · split
    · exact hr
    · rename_i hn
      have hle := low_le (sumF t) A
      have e : keys (A.take (low (sumF t) (keys A)) ++ [t] ++ A.drop (low (sumF t) (keys A))) = (keys A).take (low (sumF t) (keys A)) ++ sumF t :: (keys A).drop (low (sumF t) (keys A)) := by
        simp [keys]
      rw [e]
      have hp : ((keys A).map idN).Pairwise (· < ·) := List.pairwise_map.2 hr
      have h1 : ∀ a, a ∈ (keys A).take (low (sumF t) (keys A)) → idN a < idN (sumF t) := by
        intro a ha
        obtain ⟨i, hi, rfl⟩ := List.getElem_of_mem ha
        rw [List.length_take] at hi
        have := lowN_lt (idN (sumF t)) ((keys A).map idN) i (by show i < low (sumF t) (keys A); omega)
        have e2 : ((keys A).map idN).getD i 0 = idN ((keys A).take (low (sumF t) (keys A)))[i] := by
          have : i < A.length := by omega
          simp [List.getD, this]
        rw [e2] at this; exact this
      have h2 : ∀ a, a ∈ (keys A).drop (low (sumF t) (keys A)) → idN (sumF t) < idN a := by
        intro a ha
        obtain ⟨i, hi, rfl⟩ := List.getElem_of_mem ha
        have hi' : low (sumF t) (keys A) + i < (keys A).length := by rw [List.length_drop] at hi; omega
        have := lowN_ge (idN (sumF t)) ((keys A).map idN) (low (sumF t) (keys A) + i) hp (by show low (sumF t) (keys A) ≤ _; omega) (by rw [List.length_map]; exact hi')
        have e2 : ((keys A).map idN).getD (low (sumF t) (keys A) + i) 0 = idN ((keys A).drop (low (sumF t) (keys A)))[i] := by
          have : low (sumF t) (keys A) + i < A.length := by rwa [List.length_map] at hi'
          simp [List.getD, this]
        rw [e2] at this
        have hne : sumF t ≠ ((keys A).drop (low (sumF t) (keys A)))[i] := fun h => hn (by
          have := List.mem_of_mem_drop ha
          rwa [← h] at this)
        have : idN (sumF t) ≠ idN ((keys A).drop (low (sumF t) (keys A)))[i] := fun h => hne (idN_inj h)
        omega
      refine List.pairwise_append.2 ⟨hr.sublist (List.take_sublist _ _), List.pairwise_cons.2 ⟨h2, hr.sublist (List.drop_sublist _ _)⟩, ?_⟩
      intro a ha c hc
      rcases List.mem_cons.1 hc with rfl | hc
      · exact h1 a ha
      · exact Nat.lt_trans (h1 a ha) (h2 c hc)
  · exact hr
theorem putF_mem {A : List (List UInt8)} (t : List UInt8) : ∀ s, s ∈ putF A t → s ∈ A ∨ (s = t ∧ dOk t = true) := by
  intro s hs
  unfold putF at hs
  split at hs
  · rename_i h
    split at hs
    · exact .inl hs
    · simp only [List.mem_append, List.mem_singleton] at hs
      rcases hs with (hs | hs) | hs
      · exact .inl (List.mem_of_mem_take hs)
      · exact .inr ⟨hs, h⟩
      · exact .inl (List.mem_of_mem_drop hs)
  · exact .inl hs
theorem putF_len {A : List (List UInt8)} (t : List UInt8) : (putF A t).length ≤ A.length + 1 := by
  unfold putF
  split
  · split
    · omega
    · simp only [List.length_append, List.length_take, List.length_drop, List.length_cons, List.length_nil]; omega
  · omega
end Go.Proofs.YtjmigoikklkfdaaGreatDoor
