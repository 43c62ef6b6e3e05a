/- Part of a proof: the last of these texts says what is proved. -/
import Derived.Test.YtjmigoikklkfdaaGreatDoorCtA4
namespace Go.Proofs.YtjmigoikklkfdaaGreatDoor
open Go
set_option linter.unusedVariables false
set_option linter.unusedSimpArgs false
set_option maxRecDepth 4000
def addN (a : List BId) (x : BId) : List BId := if x ∈ a then a else a ++ [x]
def addsN (a l : List BId) : List BId := l.foldl addN a
theorem addN_mem {a : List BId} {x y : BId} : y ∈ addN a x ↔ y ∈ a ∨ y = x := by
  unfold addN; split
  · rename_i h; exact ⟨.inl, fun h2 => h2.elim id (fun e => e ▸ h)⟩
  · simp
theorem addsN_mem {y : BId} : ∀ (l a : List BId), y ∈ addsN a l ↔ y ∈ a ∨ y ∈ l
  | [], a => by simp [addsN]
  | x :: l, a => by
    have := addsN_mem (y := y) l (addN a x)
    unfold addsN at this ⊢
    rw [List.foldl_cons, this, addN_mem, List.mem_cons]
    constructor
    · rintro ((h | h) | h)
      · exact .inl h
      · exact .inr (.inl h)
      · exact .inr (.inr h)
    · rintro (h | h | h)
      · exact .inl (.inl h)
      · exact .inl (.inr h)
      · exact .inr h
theorem addN_nodup {a : List BId} {x : BId} (h : a.Nodup) : (addN a x).Nodup := by
  unfold addN; split
  · exact h
  · rename_i hx
    refine List.nodup_append.2 ⟨h, by simp, ?_⟩
    intro y hy z hz e
    obtain rfl : z = x := by simpa using hz
    exact hx (e ▸ hy)
theorem addsN_nodup : ∀ (l a : List BId), a.Nodup → (addsN a l).Nodup
  | [], a, h => h
  | x :: l, a, h => addsN_nodup l _ (addN_nodup h)
theorem addN_pre (a : List BId) (x : BId) : ∃ r, addN a x = a ++ r := by
  unfold addN; split
  · exact ⟨[], by simp⟩
  · exact ⟨[x], rfl⟩
theorem addsN_pre : ∀ (l a : List BId), ∃ r, addsN a l = a ++ r
  | [], a => ⟨[], by simp [addsN]⟩
  | x :: l, a => by
    obtain ⟨r, hr⟩ := addN_pre a x
    obtain ⟨r2, hr2⟩ := addsN_pre l (addN a x)
    exact ⟨r ++ r2, by show addsN (addN a x) l = _; rw [hr2, hr, List.append_assoc]⟩
theorem addsN_get {a l : List BId} {k : Nat} (hk : k < a.length) : (addsN a l).getD k default = a.getD k default := by
  obtain ⟨r, hr⟩ := addsN_pre l a
  rw [hr, List.getD_eq_getElem?_getD, List.getElem?_append_left hk]; rfl
theorem addsN_lenle {a l : List BId} : a.length ≤ (addsN a l).length := by
  obtain ⟨r, hr⟩ := addsN_pre l a
  rw [hr, List.length_append]; omega
theorem addsN_next (a l : List BId) (i : Nat) (h : i < l.length) : addsN a (l.take (i + 1)) = addN (addsN a (l.take i)) (l.getD i default) := by
  rw [take_next l i h, addsN, addsN, List.foldl_append]; rfl
structure AInv (A : List (List UInt8)) (cut frm a : List BId) (i : Nat) : Prop where
  nd : a.Nodup
  fr : ∀ x, x ∈ frm → x ∈ a
  rc : ∀ x, x ∈ a → Rch A cut frm x
  nx : ∀ k, k < i → ∀ y, y ∈ nextF A cut (a.getD k default) → y ∈ a
noncomputable def univ (A : List (List UInt8)) (cut frm : List BId) (nx : BId → List BId) : List BId := frm ++ ((keys A).map nx).flatten
theorem Rch.univ {A : List (List UInt8)} {cut frm : List BId} {x : BId} (h : Rch A cut frm x) : x ∈ univ A cut frm (nextF A cut) := by
  unfold Go.Proofs.YtjmigoikklkfdaaGreatDoor.univ
  cases h with
  | base hb => exact List.mem_append_left _ hb
  | @step _ y hy hn =>
    refine List.mem_append_right _ (List.mem_flatten.2 ⟨nextF A cut y, List.mem_map_of_mem ?_, hn⟩)
    rcases Classical.em (y ∈ keys A) with h2 | h2
    · exact h2
    · rw [nextF_none h2] at hn; cases hn
theorem sum_le {l : List (List BId)} {k : Nat} (h : ∀ x, x ∈ l → x.length ≤ k) : l.flatten.length ≤ l.length * k := by
  induction l with
  | nil => simp
  | cons x l ih =>
    have h1 := h x (List.mem_cons_self ..)
    have h2 := ih (fun y hy => h y (List.mem_cons_of_mem _ hy))
    rw [List.flatten_cons, List.length_append, List.length_cons, Nat.add_mul]; omega
theorem AInv.len {A : List (List UInt8)} {cut frm a : List BId} {i : Nat} (hF : Fine A) (hr : Rising (keys A)) (h : AInv A cut frm a i) : a.length ≤ frm.length + 74 * A.length := by
  have h1 := nodup_len h.nd (fun x hx => (h.rc x hx).univ)
  have h2 : (univ A cut frm (nextF A cut)).length ≤ frm.length + 74 * A.length := by
    unfold univ
    have := sum_le (l := (keys A).map (nextF A cut)) (k := 74) (fun y hy => by obtain ⟨z, _, rfl⟩ := List.mem_map.1 hy; exact nextF_len hF hr z)
    rw [List.length_append]
    rw [List.length_map, List.length_map] at this
    omega
  omega
theorem AInv.step {A : List (List UInt8)} {cut frm a : List BId} {i : Nat} (h : AInv A cut frm a i) (hi : i < a.length) : AInv A cut frm (addsN a (nextF A cut (a.getD i default))) (i + 1) := by
  have hg : a.getD i default ∈ a := by rw [List.getD_eq_getElem?_getD, List.getElem?_eq_getElem hi]; exact List.getElem_mem hi
  refine ⟨addsN_nodup _ _ h.nd, fun x hx => (addsN_mem _ _).2 (.inl (h.fr x hx)), fun x hx => ?_, fun k hk y hy => ?_⟩
  · rcases (addsN_mem _ _).1 hx with h1 | h1
    · exact h.rc x h1
    · exact .step (h.rc _ hg) h1
  · rcases Nat.lt_or_ge k i with h1 | h1
    · rw [addsN_get (by omega)] at hy
      exact (addsN_mem _ _).2 (.inl (h.nx k h1 y hy))
    · obtain rfl : k = i := by omega
      rw [addsN_get hi] at hy
      exact (addsN_mem _ _).2 (.inr hy)
theorem AInv.all {A : List (List UInt8)} {cut frm a : List BId} (h : AInv A cut frm a a.length) (x : BId) : x ∈ a ↔ Rch A cut frm x := by
  refine ⟨h.rc x, fun hx => ?_⟩
  induction hx with
  | base hb => exact h.fr _ hb
  | @step x y _ hn ih =>
    obtain ⟨k, hk, rfl⟩ := List.getElem_of_mem ih
    refine h.nx k hk x ?_
    rw [List.getD_eq_getElem?_getD, List.getElem?_eq_getElem hk]; exact hn
theorem filter_next {p : BId → Bool} (l : List BId) (i : Nat) (h : i < l.length) : (l.take (i + 1)).filter p = if p (l.getD i default) = true then (l.take i).filter p ++ [l.getD i default] else (l.take i).filter p := by
  rw [take_next l i h, List.filter_append]
  split
  · rename_i hp; rw [List.filter_cons, if_pos hp]; rfl
  · rename_i hp; rw [List.filter_cons, if_neg hp]; simp
theorem ref_Reach_spec {v vf vc : Value} {R : List RIt} {frm cut : List BId} {S : Mem} (h : RS S v R) (hr : Rising (keys (texts R))) (hF : Fine (texts R)) (hlen : R.length < 10000) (hf : PSl S vf 32 (frm.map encId)) (hc : PSl S vc 32 (cut.map encId)) (hfl : frm.length < 100000) :
    Spec Tryz.prog 24 [ag [[v]], vf, vc] S [] (fun S' r L' => ∃ r1 r2 T M, r = .tuple [r1, r2].toArray ∧ PSl S' r1 32 (T.map encId) ∧ PSl S' r2 32 (M.map encId) ∧ Told (texts R) cut frm T M ∧ L' = []) := by
  have hsc := h.pl.sc
  have hpl := h.pl
  have hRt : (texts R).length = R.length := List.length_map _
  have hsf := hc.sc
  refine enter Tryz.func24 rfl 105 rfl rfl (fun w0 => ?_)
  refine sq ?_
  refine rg ?_
  refine l rfl (box rfl rfl ?_)
  intro B3
  refine q (vAs rfl) rfl ?_
  refine q (vAs rfl) rfl ?_
  refine nil ?_
  refine thN ?_
  refine sq ?_
  refine rg ?_
  refine q (vAs rfl) rfl ?_
  refine nil ?_
  refine thN ?_
  refine sq ?_
  refine sq ?_
  refine rg ?_
  refine q (vAs rfl) rfl ?_
  refine nil ?_
  refine thN ?_
  refine bk ?_
  refine nilsl 35 32 ?_
  refine loop (ι := Nat × Value) (fun (p : Nat × Value) => [(1, vf), (2, vc), (3, .pointer (some ⟨B3, 0, none⟩)), (8, p.2), (9, .int .i64 (p.1 : Int))]) (fun (p : Nat × Value) => [blk B3 30 [[v]], sl p.2 35 32 ((addsN [] (frm.take p.1)).map encId)]) (fun (p : Nat × Value) => fun S' => p.1 ≤ frm.length) (fun (p : Nat × Value) => frm.length - p.1) (0, .slice none 0 0) (Nat.zero_le _) (.cons rfl (by first | rfl | simp | (simp <;> omega)) (.cons rfl (by first | rfl | simp | (simp <;> omega)) (.cons rfl (by first | rfl | simp | (simp <;> omega)) (.cons rfl (by first | rfl | simp | (simp <;> omega)) (.cons rfl (by first | rfl | simp | (simp <;> omega)) .nil))))) (.cons T1 (Ent.Le.of (by first | rfl | simp | (simp <;> omega))) (.cons T0 (Ent.Le.of (by first | rfl | simp | (simp <;> omega))) .nil)) ?_
  rintro ⟨i, w⟩ S2 hle2 h1
  replace h := h.mono hle2
  replace hpl := hpl.mono hle2
  replace hf := hf.mono hle2
  replace hc := hc.mono hle2
  dsimp only at h1 ⊢
  have hal : (addsN [] (frm.take i)).length ≤ frm.length := nodup_len (addsN_nodup _ _ List.nodup_nil) (fun x hx => by
    rcases (addsN_mem _ _).1 hx with h2 | h2
    · cases h2
    · exact List.mem_of_mem_take h2)
  refine sq ?_
  refine sq ?_
  refine rg ?_
  refine q (vMv rfl) rfl ?_
  refine q (vMv rfl) rfl ?_
  refine q (SrcOk.len (srcP hf) Tryz.underlying27 rfl) rfl ?_
  refine q (vLt rfl rfl) rfl ?_
  refine nil ?_
  refine thN ?_
  refine cd rfl (fun hd => ?_) (fun hd => ?_) <;> try simp only [bls, beq_iff_eq, bne_iff_ne, Int.reduceToNat, List.length_map] at hd
  · skip
    have hi : i < frm.length := by omega
    have hnx := addsN_next [] frm i hi
    refine sk ?_
    refine thN ?_
    refine sq ?_
    refine bk ?_
    refine sq ?_
    refine rg ?_
    refine q (vMv rfl) rfl ?_
    refine q (vMv rfl) rfl ?_
    refine q (vMv rfl) rfl ?_
    refine q (vIxP sl27 rfl rfl hf (by first | omega | (simp only [Int.toNat_natCast, Int.reduceToNat, List.length_append, List.length_cons, List.length_nil, List.length_map, bid_len]; omega) | (simp <;> omega))) rfl ?_
    refine q (vLdA ag35 rfl (Rd.f1 (rP hf (gm (by first | omega | (simp only [Int.toNat_natCast, Int.reduceToNat, List.length_append, List.length_cons, List.length_nil, List.length_map, bid_len]; omega) | (simp <;> omega))))) (by simp)) rfl ?_
    refine l rfl (callP cf38 (In1_spec (srcO T0) (by omega) _) rfl (.cons T1 .nil) rfl ?_)
    refine q (vAs rfl) rfl ?_
    refine nil ?_
    refine thN ?_
    refine sq ?_
    refine rg ?_
    refine q (vMv rfl) rfl ?_
    refine q (vNot rfl) rfl ?_
    refine nil ?_
    refine thN ?_
    refine cd rfl (fun he => ?_) (fun he => ?_) <;> try simp only [bls, beq_iff_eq, bne_iff_ne, Int.reduceToNat, List.length_map] at he
    · skip
      have e1 : (addsN [] (frm.take (i + 1))).map encId = (addsN [] (frm.take i)).map encId ++ [encId (frm.getD i default)] := by
        rw [hnx, addN, if_neg (by simpa using he)]; simp
      refine rg ?_
      refine q (vMv rfl) rfl ?_
      refine q (vMv rfl) rfl ?_
      refine q (vMv rfl) rfl ?_
      refine q (vIxP sl27 rfl rfl hf (by first | omega | (simp only [Int.toNat_natCast, Int.reduceToNat, List.length_append, List.length_cons, List.length_nil, List.length_map, bid_len]; omega) | (simp <;> omega))) rfl ?_
      refine q (vLdA ag35 rfl (Rd.f1 (rP hf (gm (by first | omega | (simp only [Int.toNat_natCast, Int.reduceToNat, List.length_append, List.length_cons, List.length_nil, List.length_map, bid_len]; omega) | (simp <;> omega))))) (by simp)) rfl ?_
      refine l rfl (bslice sl27 ze35 (.cA rfl .nil) (by simp) rfl rfl rfl rfl ?_)
      intro B38
      refine l rfl (app ap27 rfl rfl T2 (srcO T0) (by first | omega | (simp only [Int.toNat_natCast, Int.reduceToNat, List.length_append, List.length_cons, List.length_nil, List.length_map, bid_len]; omega) | (simp <;> omega)) rfl ?_)
      intro v39 hv39
      refine q (vAs rfl) rfl ?_
      refine nil ?_
      refine bkN ?_
      refine thN ?_
      refine rg ?_
      refine q (vMv rfl) rfl ?_
      refine q (vAdd rfl rfl (by first | omega | (simp only [Int.toNat_natCast, Int.reduceToNat, List.length_append, List.length_cons, List.length_nil, List.length_map, bid_len]; omega) | (simp <;> omega))) rfl ?_
      refine q (vAs rfl) rfl ?_
      refine nil ?_
      refine thN ?_
      refine back ((i + 1, v39)) (Le.refl _) ⟨by dsimp only; omega, by dsimp only; omega⟩ (.cons rfl (by first | rfl | (dsimp only; rw [e1]; rfl)) (.cons rfl (by first | rfl | (dsimp only; rw [e1]; rfl)) (.cons rfl (by first | rfl | (dsimp only; rw [e1]; rfl)) (.cons rfl (by first | rfl | (dsimp only; rw [e1]; rfl)) (.cons rfl (by first | rfl | (dsimp only; rw [e1]; rfl)) .nil))))) (.cons T2 (Ent.Le.of (by first | rfl | (dsimp only; rw [e1]; rfl))) (.cons T0 (Ent.Le.of (by first | rfl | (dsimp only; rw [e1]; rfl))) .nil))
    · skip
      have e1 : addsN [] (frm.take (i + 1)) = addsN [] (frm.take i) := by rw [hnx, addN, if_pos (by simpa using he)]
      refine sk ?_
      refine bkN ?_
      refine thN ?_
      refine rg ?_
      refine q (vMv rfl) rfl ?_
      refine q (vAdd rfl rfl (by first | omega | (simp only [Int.toNat_natCast, Int.reduceToNat, List.length_append, List.length_cons, List.length_nil, List.length_map, bid_len]; omega) | (simp <;> omega))) rfl ?_
      refine q (vAs rfl) rfl ?_
      refine nil ?_
      refine thN ?_
      refine back ((i + 1, w)) (Le.refl _) ⟨by dsimp only; omega, by dsimp only; omega⟩ (.cons rfl (by first | rfl | (dsimp only; rw [e1])) (.cons rfl (by first | rfl | (dsimp only; rw [e1])) (.cons rfl (by first | rfl | (dsimp only; rw [e1])) (.cons rfl (by first | rfl | (dsimp only; rw [e1])) (.cons rfl (by first | rfl | (dsimp only; rw [e1])) .nil))))) (.cons T0 (Ent.Le.of (by first | rfl | (dsimp only; rw [e1]))) (.cons T0 (Ent.Le.of (by first | rfl | (dsimp only; rw [e1]))) .nil))
  · skip
    have e1 : frm.take i = frm := List.take_of_length_le (by omega)
    rw [e1]
    have h0 : AInv (texts R) cut frm (addsN [] frm) 0 := ⟨addsN_nodup _ _ List.nodup_nil, fun x hx => (addsN_mem _ _).2 (.inr hx), fun x hx => by
      rcases (addsN_mem _ _).1 hx with h2 | h2
      · cases h2
      · exact .base h2, fun k hk => by omega⟩
    refine xt ?_
    refine thX ?_
    refine thX ?_
    refine bkX ?_
    refine thN ?_
    refine sq ?_
    refine sq ?_
    refine rg ?_
    refine q (vAs rfl) rfl ?_
    refine nil ?_
    refine thN ?_
    refine bk ?_
    refine loop (ι := Nat × List BId × Value) (fun (p : Nat × List BId × Value) => [(1, vf), (2, vc), (3, .pointer (some ⟨B3, 0, none⟩)), (8, p.2.2), (11, .int .i64 (p.1 : Int))]) (fun (p : Nat × List BId × Value) => [blk B3 30 [[v]], sl p.2.2 35 32 (p.2.1.map encId)]) (fun (p : Nat × List BId × Value) => fun S' => AInv (texts R) cut frm p.2.1 p.1 ∧ p.1 ≤ p.2.1.length) (fun (p : Nat × List BId × Value) => frm.length + 74 * R.length - p.1) (0, addsN [] frm, w) ⟨h0, Nat.zero_le _⟩ (.cons rfl (by first | rfl | simp | (simp <;> omega)) (.cons rfl (by first | rfl | simp | (simp <;> omega)) (.cons rfl (by first | rfl | simp | (simp <;> omega)) (.cons rfl (by first | rfl | simp | (simp <;> omega)) (.cons rfl (by first | rfl | simp | (simp <;> omega)) .nil))))) (.cons T0 (Ent.Le.of (by first | rfl | simp | (simp <;> omega))) (.cons T0 (Ent.Le.of (by first | rfl | simp | (simp <;> omega))) .nil)) ?_
    rintro ⟨n, a, w⟩ S3 hle3 ⟨h2, h3⟩
    replace h := h.mono hle3
    replace hpl := hpl.mono hle3
    replace hf := hf.mono hle3
    replace hc := hc.mono hle3
    dsimp only at h2 h3 ⊢
    have hal := h2.len hF hr
    refine sq ?_
    refine sq ?_
    refine rg ?_
    refine q (vMv rfl) rfl ?_
    refine q (vMv rfl) rfl ?_
    refine q (SrcOk.len (srcO T1) Tryz.underlying27 rfl) rfl ?_
    refine q (vLt rfl rfl) rfl ?_
    refine nil ?_
    refine thN ?_
    refine cd rfl (fun hd2 => ?_) (fun hd2 => ?_) <;> try simp only [bls, beq_iff_eq, bne_iff_ne, Int.reduceToNat, List.length_map] at hd2
    · skip
      have hna : n < a.length := by omega
      have hst := h2.step hna
      have hal2 := hst.len hF hr
      refine sk ?_
      refine thN ?_
      refine sq ?_
      refine bk ?_
      refine sq ?_
      refine dr (.take 0 (.take 1 (.take 2 (.take 3 (.take 4 (.take 5 (.one 6 (.take 7 .done)))))))) wide (by decide +kernel) _ _ (.cons T0 (.cons T0 .nil)) ?_
      refine pT rfl (vLdA ag30 rfl (rB T0 (.z (.c .n))) (by simp)) rfl ?_
      refine pT rfl (vMv rfl) rfl ?_
      refine pT rfl (vMv rfl) rfl ?_
      refine pT rfl (vIxO sl27 rfl rfl T1 (by first | omega | (simp only [Int.toNat_natCast, Int.reduceToNat, List.length_append, List.length_cons, List.length_nil, List.length_map, bid_len]; omega) | (simp <;> omega))) rfl ?_
      refine pT rfl (vLdA ag35 rfl (Rd.f1 (rO T1 (gm (by first | omega | (simp only [Int.toNat_natCast, Int.reduceToNat, List.length_append, List.length_cons, List.length_nil, List.length_map, bid_len]; omega) | (simp <;> omega))))) (by simp)) rfl ?_
      refine pT rfl (vMv rfl) rfl ?_
      refine pO ?_
      refine opL rfl rfl (call cf77 (Next_spec h hr hF hc _) rfl .nil rfl ?_)
      intro S1 r1 l1 hS1 hp1
      obtain ⟨hN, rfl⟩ := hp1
      replace h := h.mono hS1
      replace hpl := hpl.mono hS1
      replace hf := hf.mono hS1
      replace hc := hc.mono hS1
      refine pK hS1 (.cons T0 (.cons T0 .nil)) ?_
      have hsN := hN.sc
      simp only [Int.toNat_natCast] at hN
      generalize hnx : nextF (texts R) cut (a.getD n default) = nx at hN hst hal2
      refine pT rfl (vAs rfl) rfl ?_
      refine pDone ?_
      refine thN ?_
      refine sq ?_
      refine rg ?_
      refine q (vAs rfl) rfl ?_
      refine nil ?_
      refine thN ?_
      refine bk ?_
      refine loop (ι := Nat × Value) (fun (p : Nat × Value) => [(1, vf), (2, vc), (3, .pointer (some ⟨B3, 0, none⟩)), (8, p.2), (11, .int .i64 (n : Int)), (12, r1), (13, .int .i64 (p.1 : Int))]) (fun (p : Nat × Value) => [blk B3 30 [[v]], sl p.2 35 32 ((addsN a (nx.take p.1)).map encId)]) (fun (p : Nat × Value) => fun S' => p.1 ≤ nx.length) (fun (p : Nat × Value) => nx.length - p.1) (0, w) (Nat.zero_le _) (.cons rfl (by first | rfl | simp | (simp <;> omega)) (.cons rfl (by first | rfl | simp | (simp <;> omega)) (.cons rfl (by first | rfl | simp | (simp <;> omega)) (.cons rfl (by first | rfl | simp | (simp <;> omega)) (.cons rfl (by first | rfl | simp | (simp <;> omega)) (.cons rfl (by first | rfl | simp | (simp <;> omega)) (.cons rfl (by first | rfl | simp | (simp <;> omega)) .nil))))))) (.cons T0 (Ent.Le.of (by first | rfl | simp | (simp <;> omega))) (.cons T0 (Ent.Le.of (by first | rfl | simp | (simp <;> omega))) .nil)) ?_
      rintro ⟨j, w2⟩ S4 hle4 h4
      replace h := h.mono hle4
      replace hpl := hpl.mono hle4
      replace hf := hf.mono hle4
      replace hc := hc.mono hle4
      replace hN := hN.mono hle4
      dsimp only at h4 ⊢
      have hnl : nx.length ≤ 74 := by rw [← hnx]; exact nextF_len hF hr _
      have hal3 : (addsN a (nx.take j)).length ≤ (addsN a nx).length := nodup_len (addsN_nodup _ _ h2.nd) (fun x hx => by
        rcases (addsN_mem _ _).1 hx with h5 | h5
        · exact (addsN_mem _ _).2 (.inl h5)
        · exact (addsN_mem _ _).2 (.inr (List.mem_of_mem_take h5)))
      refine sq ?_
      refine sq ?_
      refine rg ?_
      refine q (vMv rfl) rfl ?_
      refine q (vMv rfl) rfl ?_
      refine q (SrcOk.len (srcP hN) Tryz.underlying27 rfl) rfl ?_
      refine q (vLt rfl rfl) rfl ?_
      refine nil ?_
      refine thN ?_
      refine cd rfl (fun hd3 => ?_) (fun hd3 => ?_) <;> try simp only [bls, beq_iff_eq, bne_iff_ne, Int.reduceToNat, List.length_map] at hd3
      · skip
        have hj : j < nx.length := by omega
        have hnx2 := addsN_next a nx j hj
        refine sk ?_
        refine thN ?_
        refine sq ?_
        refine bk ?_
        refine sq ?_
        refine rg ?_
        refine q (vMv rfl) rfl ?_
        refine q (vMv rfl) rfl ?_
        refine q (vMv rfl) rfl ?_
        refine q (vIxP sl27 rfl rfl hN (by first | omega | (simp only [Int.toNat_natCast, Int.reduceToNat, List.length_append, List.length_cons, List.length_nil, List.length_map, bid_len]; omega) | (simp <;> omega))) rfl ?_
        refine q (vLdA ag35 rfl (Rd.f1 (rP hN (gm (by first | omega | (simp only [Int.toNat_natCast, Int.reduceToNat, List.length_append, List.length_cons, List.length_nil, List.length_map, bid_len]; omega) | (simp <;> omega))))) (by simp)) rfl ?_
        refine l rfl (callP cf38 (In1_spec (srcO T0) (by omega) _) rfl (.cons T1 .nil) rfl ?_)
        refine q (vAs rfl) rfl ?_
        refine nil ?_
        refine thN ?_
        refine sq ?_
        refine rg ?_
        refine q (vMv rfl) rfl ?_
        refine q (vNot rfl) rfl ?_
        refine nil ?_
        refine thN ?_
        refine cd rfl (fun he => ?_) (fun he => ?_) <;> try simp only [bls, beq_iff_eq, bne_iff_ne, Int.reduceToNat, List.length_map] at he
        · skip
          have e1 : (addsN a (nx.take (j + 1))).map encId = (addsN a (nx.take j)).map encId ++ [encId (nx.getD j default)] := by
            rw [hnx2, addN, if_neg (by simpa using he)]; simp
          refine rg ?_
          refine q (vMv rfl) rfl ?_
          refine q (vMv rfl) rfl ?_
          refine q (vMv rfl) rfl ?_
          refine q (vIxP sl27 rfl rfl hN (by first | omega | (simp only [Int.toNat_natCast, Int.reduceToNat, List.length_append, List.length_cons, List.length_nil, List.length_map, bid_len]; omega) | (simp <;> omega))) rfl ?_
          refine q (vLdA ag35 rfl (Rd.f1 (rP hN (gm (by first | omega | (simp only [Int.toNat_natCast, Int.reduceToNat, List.length_append, List.length_cons, List.length_nil, List.length_map, bid_len]; omega) | (simp <;> omega))))) (by simp)) rfl ?_
          refine l rfl (bslice sl27 ze35 (.cA rfl .nil) (by simp) rfl rfl rfl rfl ?_)
          intro B72
          refine l rfl (app ap27 rfl rfl T2 (srcO T0) (by first | omega | (simp only [Int.toNat_natCast, Int.reduceToNat, List.length_append, List.length_cons, List.length_nil, List.length_map, bid_len]; omega) | (simp <;> omega)) rfl ?_)
          intro v73 hv73
          refine q (vAs rfl) rfl ?_
          refine nil ?_
          refine bkN ?_
          refine thN ?_
          refine rg ?_
          refine q (vMv rfl) rfl ?_
          refine q (vAdd rfl rfl (by first | omega | (simp only [Int.toNat_natCast, Int.reduceToNat, List.length_append, List.length_cons, List.length_nil, List.length_map, bid_len]; omega) | (simp <;> omega))) rfl ?_
          refine q (vAs rfl) rfl ?_
          refine nil ?_
          refine thN ?_
          refine back ((j + 1, v73)) (Le.refl _) ⟨by dsimp only; omega, by dsimp only; omega⟩ (.cons rfl (by first | rfl | (dsimp only; rw [e1]; rfl)) (.cons rfl (by first | rfl | (dsimp only; rw [e1]; rfl)) (.cons rfl (by first | rfl | (dsimp only; rw [e1]; rfl)) (.cons rfl (by first | rfl | (dsimp only; rw [e1]; rfl)) (.cons rfl (by first | rfl | (dsimp only; rw [e1]; rfl)) (.cons rfl (by first | rfl | (dsimp only; rw [e1]; rfl)) (.cons rfl (by first | rfl | (dsimp only; rw [e1]; rfl)) .nil))))))) (.cons T2 (Ent.Le.of (by first | rfl | (dsimp only; rw [e1]; rfl))) (.cons T0 (Ent.Le.of (by first | rfl | (dsimp only; rw [e1]; rfl))) .nil))
        · skip
          have e1 : addsN a (nx.take (j + 1)) = addsN a (nx.take j) := by rw [hnx2, addN, if_pos (by simpa using he)]
          refine sk ?_
          refine bkN ?_
          refine thN ?_
          refine rg ?_
          refine q (vMv rfl) rfl ?_
          refine q (vAdd rfl rfl (by first | omega | (simp only [Int.toNat_natCast, Int.reduceToNat, List.length_append, List.length_cons, List.length_nil, List.length_map, bid_len]; omega) | (simp <;> omega))) rfl ?_
          refine q (vAs rfl) rfl ?_
          refine nil ?_
          refine thN ?_
          refine back ((j + 1, w2)) (Le.refl _) ⟨by dsimp only; omega, by dsimp only; omega⟩ (.cons rfl (by first | rfl | (dsimp only; rw [e1])) (.cons rfl (by first | rfl | (dsimp only; rw [e1])) (.cons rfl (by first | rfl | (dsimp only; rw [e1])) (.cons rfl (by first | rfl | (dsimp only; rw [e1])) (.cons rfl (by first | rfl | (dsimp only; rw [e1])) (.cons rfl (by first | rfl | (dsimp only; rw [e1])) (.cons rfl (by first | rfl | (dsimp only; rw [e1])) .nil))))))) (.cons T0 (Ent.Le.of (by first | rfl | (dsimp only; rw [e1]))) (.cons T0 (Ent.Le.of (by first | rfl | (dsimp only; rw [e1]))) .nil))
      · skip
        have e1 : nx.take j = nx := List.take_of_length_le (by omega)
        have hll := addsN_lenle (a := a) (l := nx)
        rw [e1]
        refine xt ?_
        refine thX ?_
        refine thX ?_
        refine bkX ?_
        refine bkN ?_
        refine thN ?_
        refine rg ?_
        refine q (vMv rfl) rfl ?_
        refine q (vAdd rfl rfl (by first | omega | (simp only [Int.toNat_natCast, Int.reduceToNat, List.length_append, List.length_cons, List.length_nil, List.length_map, bid_len]; omega) | (simp <;> omega))) rfl ?_
        refine q (vAs rfl) rfl ?_
        refine nil ?_
        refine thN ?_
        refine back ((n + 1, addsN a nx, w2)) (hS1.trans hle4) ⟨⟨hst, by dsimp only; omega⟩, by dsimp only; omega⟩ (.cons rfl (by first | rfl | simp | (simp <;> omega)) (.cons rfl (by first | rfl | simp | (simp <;> omega)) (.cons rfl (by first | rfl | simp | (simp <;> omega)) (.cons rfl (by first | rfl | simp | (simp <;> omega)) (.cons rfl (by first | rfl | simp | (simp <;> omega)) .nil))))) (.cons T0 (Ent.Le.of (by first | rfl | simp | (simp <;> omega))) (.cons T0 (Ent.Le.of (by first | rfl | simp | (simp <;> omega))) .nil))
    · skip
      have hn : n = a.length := by omega
      subst hn
      have hall := h2.all
      refine xt ?_
      refine thX ?_
      refine thX ?_
      refine bkX ?_
      refine thN ?_
      refine sq ?_
      refine rg ?_
      refine q (vAs rfl) rfl ?_
      refine nil ?_
      refine thN ?_
      refine sq ?_
      refine rg ?_
      refine q (vAs rfl) rfl ?_
      refine nil ?_
      refine thN ?_
      refine sq ?_
      refine sq ?_
      refine rg ?_
      refine q (vAs rfl) rfl ?_
      refine nil ?_
      refine thN ?_
      refine bk ?_
      refine nilsl 35 32 ?_
      refine nilsl 35 32 ?_
      refine loop (ι := Nat × Value × Value) (fun (p : Nat × Value × Value) => [(3, .pointer (some ⟨B3, 0, none⟩)), (8, w), (15, p.2.1), (16, p.2.2), (17, .int .i64 (p.1 : Int))]) (fun (p : Nat × Value × Value) => [blk B3 30 [[v]], sl w 35 32 (a.map encId), sl p.2.1 35 32 (((a.take p.1).filter (fun x => decide (x ∈ keys (texts R)))).map encId), sl p.2.2 35 32 (((a.take p.1).filter (fun x => !decide (x ∈ keys (texts R)))).map encId)]) (fun (p : Nat × Value × Value) => fun S' => p.1 ≤ a.length) (fun (p : Nat × Value × Value) => a.length - p.1) (0, .slice none 0 0, .slice none 0 0) (Nat.zero_le _) (.cons rfl (by first | rfl | simp | (simp <;> omega)) (.cons rfl (by first | rfl | simp | (simp <;> omega)) (.cons rfl (by first | rfl | simp | (simp <;> omega)) (.cons rfl (by first | rfl | simp | (simp <;> omega)) (.cons rfl (by first | rfl | simp | (simp <;> omega)) .nil))))) (.cons T2 (Ent.Le.of (by first | rfl | simp | (simp <;> omega))) (.cons T2 (Ent.Le.of (by first | rfl | simp | (simp <;> omega))) (.cons T1 (Ent.Le.of (by first | rfl | simp | (simp <;> omega))) (.cons T0 (Ent.Le.of (by first | rfl | simp | (simp <;> omega))) .nil)))) ?_
      rintro ⟨i, wT, wM⟩ S6 hle6 h6
      replace h := h.mono hle6
      replace hpl := hpl.mono hle6
      replace hf := hf.mono hle6
      replace hc := hc.mono hle6
      dsimp only at h6 ⊢
      have hf1 : ((a.take i).filter (fun x => decide (x ∈ keys (texts R)))).length ≤ a.length := Nat.le_trans (List.length_filter_le _ _) (List.length_take_le' _ _)
      have hf2 : ((a.take i).filter (fun x => !decide (x ∈ keys (texts R)))).length ≤ a.length := Nat.le_trans (List.length_filter_le _ _) (List.length_take_le' _ _)
      refine sq ?_
      refine sq ?_
      refine rg ?_
      refine q (vMv rfl) rfl ?_
      refine q (vMv rfl) rfl ?_
      refine q (SrcOk.len (srcO T1) Tryz.underlying27 rfl) rfl ?_
      refine q (vLt rfl rfl) rfl ?_
      refine nil ?_
      refine thN ?_
      refine cd rfl (fun hd4 => ?_) (fun hd4 => ?_) <;> try simp only [bls, beq_iff_eq, bne_iff_ne, Int.reduceToNat, List.length_map] at hd4
      · skip
        have hi : i < a.length := by omega
        have e1 := filter_next (p := fun x => decide (x ∈ keys (texts R))) a i hi
        have e2 := filter_next (p := fun x => !decide (x ∈ keys (texts R))) a i hi
        refine sk ?_
        refine thN ?_
        refine sq ?_
        refine bk ?_
        refine sq ?_
        refine dr (.take 0 (.take 1 (.take 2 (.take 3 (.take 4 (.one 5 (.take 6 .done))))))) wide (by decide +kernel) _ _ (.cons T0 (.cons T0 (.cons T0 (.cons T0 .nil)))) ?_
        refine pT rfl (vLdA ag30 rfl (rB T0 (.z (.c .n))) (by simp)) rfl ?_
        refine pT rfl (vMv rfl) rfl ?_
        refine pT rfl (vMv rfl) rfl ?_
        refine pT rfl (vIxO sl27 rfl rfl T1 (by first | omega | (simp only [Int.toNat_natCast, Int.reduceToNat, List.length_append, List.length_cons, List.length_nil, List.length_map, bid_len]; omega) | (simp <;> omega))) rfl ?_
        refine pT rfl (vLdA ag35 rfl (Rd.f1 (rO T1 (gm (by first | omega | (simp only [Int.toNat_natCast, Int.reduceToNat, List.length_append, List.length_cons, List.length_nil, List.length_map, bid_len]; omega) | (simp <;> omega))))) (by simp)) rfl ?_
        refine pO ?_
        refine opL rfl rfl (callP cf27 (Has_spec h hr _) rfl .nil rfl ?_)
        refine pK (Le.refl _) (.cons T0 (.cons T0 (.cons T0 (.cons T0 .nil)))) ?_
        refine pT rfl (vAs rfl) rfl ?_
        refine pDone ?_
        refine thN ?_
        refine sq ?_
        refine rg ?_
        refine q (vMv rfl) rfl ?_
        refine nil ?_
        refine thN ?_
        refine cd rfl (fun he => ?_) (fun he => ?_) <;> try simp only [bls, beq_iff_eq, bne_iff_ne, Int.reduceToNat, List.length_map] at he
        · skip
          rw [if_pos (by simpa using he)] at e1
          rw [if_neg (by simpa using he)] at e2
          refine rg ?_
          refine q (vMv rfl) rfl ?_
          refine q (vMv rfl) rfl ?_
          refine q (vMv rfl) rfl ?_
          refine q (vIxO sl27 rfl rfl T1 (by first | omega | (simp only [Int.toNat_natCast, Int.reduceToNat, List.length_append, List.length_cons, List.length_nil, List.length_map, bid_len]; omega) | (simp <;> omega))) rfl ?_
          refine q (vLdA ag35 rfl (Rd.f1 (rO T1 (gm (by first | omega | (simp only [Int.toNat_natCast, Int.reduceToNat, List.length_append, List.length_cons, List.length_nil, List.length_map, bid_len]; omega) | (simp <;> omega))))) (by simp)) rfl ?_
          refine l rfl (bslice sl27 ze35 (.cA rfl .nil) (by simp) rfl rfl rfl rfl ?_)
          intro B92
          refine l rfl (app ap27 rfl rfl T3 (srcO T0) (by first | omega | (simp only [Int.toNat_natCast, Int.reduceToNat, List.length_append, List.length_cons, List.length_nil, List.length_map, bid_len]; omega) | (simp <;> omega)) rfl ?_)
          intro v93 hv93
          refine q (vAs rfl) rfl ?_
          refine nil ?_
          refine bkN ?_
          refine thN ?_
          refine rg ?_
          refine q (vMv rfl) rfl ?_
          refine q (vAdd rfl rfl (by first | omega | (simp only [Int.toNat_natCast, Int.reduceToNat, List.length_append, List.length_cons, List.length_nil, List.length_map, bid_len]; omega) | (simp <;> omega))) rfl ?_
          refine q (vAs rfl) rfl ?_
          refine nil ?_
          refine thN ?_
          refine back ((i + 1, v93, wM)) (Le.refl _) ⟨by dsimp only; omega, by dsimp only; omega⟩ (.cons rfl (by first | rfl | (dsimp only; rw [e1, List.map_append]; rfl) | (dsimp only; rw [e2])) (.cons rfl (by first | rfl | (dsimp only; rw [e1, List.map_append]; rfl) | (dsimp only; rw [e2])) (.cons rfl (by first | rfl | (dsimp only; rw [e1, List.map_append]; rfl) | (dsimp only; rw [e2])) (.cons rfl (by first | rfl | (dsimp only; rw [e1, List.map_append]; rfl) | (dsimp only; rw [e2])) (.cons rfl (by first | rfl | (dsimp only; rw [e1, List.map_append]; rfl) | (dsimp only; rw [e2])) .nil))))) (.cons T2 (Ent.Le.of (by first | rfl | (dsimp only; rw [e1, List.map_append]; rfl) | (dsimp only; rw [e2]))) (.cons T2 (Ent.Le.of (by first | rfl | (dsimp only; rw [e1, List.map_append]; rfl) | (dsimp only; rw [e2]))) (.cons T0 (Ent.Le.of (by first | rfl | (dsimp only; rw [e1, List.map_append]; rfl) | (dsimp only; rw [e2]))) (.cons T1 (Ent.Le.of (by first | rfl | (dsimp only; rw [e1, List.map_append]; rfl) | (dsimp only; rw [e2]))) .nil))))
        · skip
          rw [if_neg (by simpa using he)] at e1
          rw [if_pos (by simpa using he)] at e2
          refine rg ?_
          refine q (vMv rfl) rfl ?_
          refine q (vMv rfl) rfl ?_
          refine q (vMv rfl) rfl ?_
          refine q (vIxO sl27 rfl rfl T1 (by first | omega | (simp only [Int.toNat_natCast, Int.reduceToNat, List.length_append, List.length_cons, List.length_nil, List.length_map, bid_len]; omega) | (simp <;> omega))) rfl ?_
          refine q (vLdA ag35 rfl (Rd.f1 (rO T1 (gm (by first | omega | (simp only [Int.toNat_natCast, Int.reduceToNat, List.length_append, List.length_cons, List.length_nil, List.length_map, bid_len]; omega) | (simp <;> omega))))) (by simp)) rfl ?_
          refine l rfl (bslice sl27 ze35 (.cA rfl .nil) (by simp) rfl rfl rfl rfl ?_)
          intro B99
          refine l rfl (app ap27 rfl rfl T4 (srcO T0) (by first | omega | (simp only [Int.toNat_natCast, Int.reduceToNat, List.length_append, List.length_cons, List.length_nil, List.length_map, bid_len]; omega) | (simp <;> omega)) rfl ?_)
          intro v100 hv100
          refine q (vAs rfl) rfl ?_
          refine nil ?_
          refine bkN ?_
          refine thN ?_
          refine rg ?_
          refine q (vMv rfl) rfl ?_
          refine q (vAdd rfl rfl (by first | omega | (simp only [Int.toNat_natCast, Int.reduceToNat, List.length_append, List.length_cons, List.length_nil, List.length_map, bid_len]; omega) | (simp <;> omega))) rfl ?_
          refine q (vAs rfl) rfl ?_
          refine nil ?_
          refine thN ?_
          refine back ((i + 1, wT, v100)) (Le.refl _) ⟨by dsimp only; omega, by dsimp only; omega⟩ (.cons rfl (by first | rfl | (dsimp only; rw [e2, List.map_append]; rfl) | (dsimp only; rw [e1])) (.cons rfl (by first | rfl | (dsimp only; rw [e2, List.map_append]; rfl) | (dsimp only; rw [e1])) (.cons rfl (by first | rfl | (dsimp only; rw [e2, List.map_append]; rfl) | (dsimp only; rw [e1])) (.cons rfl (by first | rfl | (dsimp only; rw [e2, List.map_append]; rfl) | (dsimp only; rw [e1])) (.cons rfl (by first | rfl | (dsimp only; rw [e2, List.map_append]; rfl) | (dsimp only; rw [e1])) .nil))))) (.cons T2 (Ent.Le.of (by first | rfl | (dsimp only; rw [e2, List.map_append]; rfl) | (dsimp only; rw [e1]))) (.cons T2 (Ent.Le.of (by first | rfl | (dsimp only; rw [e2, List.map_append]; rfl) | (dsimp only; rw [e1]))) (.cons T2 (Ent.Le.of (by first | rfl | (dsimp only; rw [e2, List.map_append]; rfl) | (dsimp only; rw [e1]))) (.cons T0 (Ent.Le.of (by first | rfl | (dsimp only; rw [e2, List.map_append]; rfl) | (dsimp only; rw [e1]))) .nil))))
      · skip
        have e1 : a.take i = a := List.take_of_length_le (by omega)
        rw [e1] at hf1 hf2 ⊢
        refine pub T2 (fun S2 hS2 hT => ?_)
        replace h := h.mono hS2
        replace hpl := hpl.mono hS2
        replace hf := hf.mono hS2
        replace hc := hc.mono hS2
        refine pub T2 (fun S3 hS3 hM => ?_)
        replace h := h.mono hS3
        replace hpl := hpl.mono hS3
        replace hf := hf.mono hS3
        replace hc := hc.mono hS3
        replace hT := hT.mono hS3
        refine xt ?_
        refine thX ?_
        refine thX ?_
        refine bkX ?_
        refine thN ?_
        refine sq ?_
        refine rg ?_
        refine q (vMv rfl) rfl ?_
        refine l rfl (call cf17 (Sorted_spec hT (by omega)) rfl .nil rfl ?_)
        intro S4 r4 l4 hS4 hp4
        obtain ⟨hO1, rfl⟩ := hp4
        replace h := h.mono hS4
        replace hpl := hpl.mono hS4
        replace hf := hf.mono hS4
        replace hc := hc.mono hS4
        replace hT := hT.mono hS4
        replace hM := hM.mono hS4
        refine q (vMv rfl) rfl ?_
        refine l rfl (call cf17 (Sorted_spec hM (by omega)) rfl .nil rfl ?_)
        intro S5 r5 l5 hS5 hp5
        obtain ⟨hO2, rfl⟩ := hp5
        replace h := h.mono hS5
        replace hpl := hpl.mono hS5
        replace hf := hf.mono hS5
        replace hc := hc.mono hS5
        replace hT := hT.mono hS5
        replace hM := hM.mono hS5
        replace hO1 := hO1.mono hS5
        refine q (vAs rfl) rfl ?_
        refine q (vAs rfl) rfl ?_
        refine nil ?_
        refine thN ?_
        refine rt ?_
        refine ret rfl (.t rfl (.t rfl .nil)) .nil ⟨_, _, _, _, rfl, hO1, hO2, ⟨sortF_rising _, sortF_rising _, fun x => ?_, fun x => ?_⟩, rfl⟩
        · rw [sortF_mem, List.mem_filter, hall, decide_eq_true_eq]
        · rw [sortF_mem, List.mem_filter, hall]; simp only [Bool.not_eq_true', decide_eq_false_iff_not]
end Go.Proofs.YtjmigoikklkfdaaGreatDoor
namespace Go.Proofs.YtjmigoikklkfdaaGreatDoor
open Go
set_option linter.unusedVariables false
set_option linter.unusedSimpArgs false
set_option maxRecDepth 4000
def idxF (ids : List BId) (x : BId) : Int := if x ∈ ids then ((ids.findIdx (fun y => decide (y = x)) : Nat) : Int) else -1
theorem idxF_at {ids : List BId} {x : BId} {i : Nat} (hi : i < ids.length) (hx : ids.getD i default = x) (hb : ∀ j, j < i → ids.getD j default ≠ x) : idxF ids x = i := by
  have hg : ∀ k, (hk : k < ids.length) → ids.getD k default = ids[k] := fun k hk => by rw [List.getD_eq_getElem?_getD, List.getElem?_eq_getElem hk]; rfl
  have hm : x ∈ ids := by rw [← hx, hg i hi]; exact List.getElem_mem hi
  rw [idxF, if_pos hm]
  congr 1
  rw [List.findIdx_eq hi]
  refine ⟨by simpa [← hg i hi] using hx, fun j hj => ?_⟩
  have := hb j hj
  rw [hg j (by omega)] at this
  simpa using this
theorem idxF_none {ids : List BId} {x : BId} (h : x ∉ ids) : idxF ids x = -1 := by rw [idxF, if_neg h]
theorem Index_spec {v : Value} {ids : List BId} {S : Mem} (hl : PSl S v 32 (ids.map encId)) (x : BId) : PureL Tryz.prog 100 [v, idv x] S [] (.int .i64 (idxF ids x)) := by
  have hlen := hl.mlen
  refine enter Tryz.func100 rfl 19 rfl rfl (fun w0 => ?_)
  refine sq ?_
  refine rg ?_
  refine l rfl (box rfl rfl ?_)
  intro B3
  refine q (vAs rfl) rfl ?_
  refine nil ?_
  refine thN ?_
  refine sq ?_
  refine sq ?_
  refine rg ?_
  refine q (vMv rfl) rfl ?_
  refine q (SrcOk.len (srcP hl) Tryz.underlying27 rfl) rfl ?_
  refine q (vMv rfl) rfl ?_
  refine nil ?_
  refine thN ?_
  refine bk ?_
  refine loop (ι := Nat) (fun (i : Nat) => [(0, v), (3, .pointer (some ⟨B3, 0, none⟩)), (7, .int .i64 (ids.length : Int)), (8, .int .i64 (i : Int))]) (fun (i : Nat) => [blk B3 35 [encId x]]) (fun (i : Nat) => fun S' => i ≤ ids.length ∧ ∀ j, j < i → ids.getD j default ≠ x) (fun (i : Nat) => ids.length - i) 0 ⟨Nat.zero_le _, fun j h => absurd h (Nat.not_lt_zero _)⟩ (.cons rfl (by first | rfl | simp | (simp <;> omega)) (.cons rfl (by first | rfl | simp | (simp <;> omega)) (.cons rfl (by first | rfl | simp | (simp <;> omega)) (.cons rfl (by first | rfl | simp | (simp <;> omega)) .nil)))) (.cons T0 (Ent.Le.of (by first | rfl | simp | (simp <;> omega))) .nil) ?_
  rintro i S2 hle2 ⟨h1, h2⟩
  replace hl := hl.mono hle2
  refine sq ?_
  refine rg ?_
  refine q (vLt rfl rfl) rfl ?_
  refine nil ?_
  refine thN ?_
  refine sq ?_
  refine cd rfl (fun hc => ?_) (fun hc => ?_) <;> try simp only [bls, beq_iff_eq, bne_iff_ne, Int.reduceToNat, List.length_map] at hc
  · skip
    have hi : i < ids.length := by omega
    refine sk ?_
    refine thN ?_
    refine sq ?_
    refine bk ?_
    refine sq ?_
    refine rg ?_
    refine q (vMv rfl) rfl ?_
    refine q (vAs rfl) rfl ?_
    refine nil ?_
    refine thN ?_
    refine sq ?_
    refine dr (.take 0 (.take 1 (.take 2 (.take 3 (.take 4 (.take 5 .done)))))) wide (by decide +kernel) _ _ (.cons T0 .nil) ?_
    refine pT rfl (vLdA ag35 rfl (rB T0 (.z (.c .n))) (by simp)) rfl ?_
    refine pT rfl (vMv rfl) rfl ?_
    refine pT rfl (vMv rfl) rfl ?_
    refine pT rfl (vIxP sl27 rfl rfl hl (by first | omega | (simp only [Int.toNat_natCast, Int.reduceToNat, List.length_append, List.length_cons, List.length_nil, List.length_map, bid_len]; omega) | (simp <;> omega))) rfl ?_
    refine pT rfl (vLdA ag35 rfl (Rd.f1 (rP hl (gm (by first | omega | (simp only [Int.toNat_natCast, Int.reduceToNat, List.length_append, List.length_cons, List.length_nil, List.length_map, bid_len]; omega) | (simp <;> omega))))) (by simp)) rfl ?_
    refine pT rfl (vEqA id35 rfl rfl) rfl ?_
    refine pDone ?_
    refine thN ?_
    refine cd rfl (fun hd => ?_) (fun hd => ?_) <;> try simp only [bls, beq_iff_eq, bne_iff_ne, Int.reduceToNat, List.length_map] at hd
    · skip
      have hd' : ids.getD i default = x := by simpa [eq_comm] using hd
      have e1 := idxF_at hi hd' h2
      refine sq ?_
      refine rg ?_
      refine q (vMv rfl) rfl ?_
      refine q (vAs rfl) rfl ?_
      refine nil ?_
      refine thN ?_
      refine rt ?_
      refine bkR ?_
      refine thR ?_
      refine thR ?_
      refine bkR ?_
      refine thR ?_
      refine retP rfl (.t rfl .nil) .nil ⟨by rw [e1]; rfl, rfl, rfl⟩
    · skip
      refine sk ?_
      refine bkN ?_
      refine thN ?_
      refine rg ?_
      refine q (vAdd rfl rfl (by first | omega | (simp only [Int.toNat_natCast, Int.reduceToNat, List.length_append, List.length_cons, List.length_nil, List.length_map, bid_len]; omega) | (simp <;> omega))) rfl ?_
      refine q (vMv rfl) rfl ?_
      refine nil ?_
      refine thN ?_
      refine back (i + 1) (Le.refl _) ⟨⟨by omega, below_succ h2 (by simpa [eq_comm] using hd)⟩, by omega⟩ (.cons rfl (by first | rfl | simp | (simp <;> omega)) (.cons rfl (by first | rfl | simp | (simp <;> omega)) (.cons rfl (by first | rfl | simp | (simp <;> omega)) (.cons rfl (by first | rfl | simp | (simp <;> omega)) .nil)))) (.cons T0 (Ent.Le.of (by first | rfl | simp | (simp <;> omega))) .nil)
  · skip
    have hm : x ∉ ids := by
      intro hm
      obtain ⟨j, hj, rfl⟩ := List.getElem_of_mem hm
      exact h2 j (by omega) (by rw [List.getD_eq_getElem?_getD, List.getElem?_eq_getElem hj]; rfl)
    refine xt ?_
    refine thX ?_
    refine thX ?_
    refine bkX ?_
    refine thN ?_
    refine sq ?_
    refine rg ?_
    refine q (vAs rfl) rfl ?_
    refine nil ?_
    refine thN ?_
    refine rt ?_
    refine retP rfl (.t rfl .nil) .nil ⟨by rw [idxF_none hm]; rfl, rfl, rfl⟩
theorem Contains_spec {v : Value} {ids : List BId} {S : Mem} (hl : PSl S v 32 (ids.map encId)) (x : BId) : PureL Tryz.prog 96 [v, idv x] S [] (.bool (decide (x ∈ ids))) := by
  refine enter Tryz.func96 rfl 9 rfl rfl (fun w0 => ?_)
  refine sq ?_
  refine rg ?_
  refine l rfl (box rfl rfl ?_)
  intro B3
  refine q (vAs rfl) rfl ?_
  refine nil ?_
  refine thN ?_
  refine sq ?_
  refine rg ?_
  refine q (vMv rfl) rfl ?_
  refine q (vLdA ag35 rfl (rB T0 (.z (.c .n))) (by simp)) rfl ?_
  refine l rfl (callP cf100 (Index_spec hl _) rfl .nil rfl ?_)
  refine q (vGe rfl rfl) rfl ?_
  refine q (vAs rfl) rfl ?_
  refine nil ?_
  refine thN ?_
  refine rt ?_
  have e1 : decide ((0 : Int) ≤ idxF ids x) = decide (x ∈ ids) := by
    unfold idxF; split
    · rename_i h2; exact (decide_eq_true (by omega)).trans (decide_eq_true h2).symm
    · rename_i h2; exact (decide_eq_false (by omega)).trans (decide_eq_false h2).symm
  refine retP rfl (.t rfl .nil) .nil ⟨by rw [e1]; rfl, rfl, rfl⟩
def RightP (A : List (List UInt8)) (cut : List BId) (x : BId) : Prop := 0 < (objF A x).kind ∧ ∀ y, y ∈ linksF (cutO (objF A x) (decide (x ∈ cut))) → (objF A y.1).kind = y.2
noncomputable def rightB (A : List (List UInt8)) (cut : List BId) (x : BId) : Bool := @decide (RightP A cut x) (Classical.propDecidable _)
theorem rightB_iff {A : List (List UInt8)} {cut : List BId} {x : BId} : rightB A cut x = true ↔ RightP A cut x := by simp [rightB]
theorem rightB_not {A : List (List UInt8)} {cut : List BId} {x : BId} : rightB A cut x = false ↔ ¬ RightP A cut x := by simp [rightB]
theorem links_head (A : List (List UInt8)) (cut : List BId) (x : BId) : ∃ m : Nat, linksF (cutO (objF A x) (decide (x ∈ cut))) = (linksF (objF A x)).take m ∧ ∀ i, i < (linksF (objF A x)).length → (((objF A x).kind = 3 ∧ x ∈ cut ∧ 0 < i) ↔ m ≤ i) := by
  by_cases hc : (objF A x).kind = 3 ∧ decide (x ∈ cut) = true
  · refine ⟨1, ?_, fun i hi => ⟨fun h => h.2.2, fun h => ⟨hc.1, by simpa using hc.2, h⟩⟩⟩
    rw [cutO, if_pos hc, linksF_cut hc.1]
  · refine ⟨(linksF (objF A x)).length, ?_, fun i hi => ⟨fun h => absurd ⟨h.1, by simpa using h.2.1⟩ hc, fun h => by omega⟩⟩
    rw [cutO, if_neg hc, List.take_length]
theorem links_len {A : List (List UInt8)} (hF : Fine A) (hr : Rising (keys A)) (x : BId) : (linksF (objF A x)).length ≤ 74 := by
  have := nextF_len (cut := []) hF hr x
  unfold nextF at this
  rw [List.length_map] at this
  have e : cutO (objF A x) (decide (x ∈ ([] : List BId))) = objF A x := by rw [cutO, if_neg]; rintro ⟨_, h2⟩; simp at h2
  rwa [e] at this
theorem take_mem_get {l : List (BId × Nat)} {m : Nat} {y : BId × Nat} (h : y ∈ l.take m) : ∃ i, i < m ∧ i < l.length ∧ l.getD i default = y := by
  obtain ⟨i, hi, rfl⟩ := List.getElem_of_mem h
  rw [List.length_take] at hi
  refine ⟨i, by omega, by omega, ?_⟩
  rw [List.getD_eq_getElem?_getD, List.getElem?_eq_getElem (by omega : i < l.length), List.getElem_take]; rfl
theorem get_take_mem {l : List (BId × Nat)} {m i : Nat} (h : i < m) (hi : i < l.length) : l.getD i default ∈ l.take m := by
  have : (l.take m)[i]'(by rw [List.length_take]; omega) = l.getD i default := by
    rw [List.getD_eq_getElem?_getD, List.getElem?_eq_getElem hi, List.getElem_take]; rfl
  rw [← this]; exact List.getElem_mem _
theorem Right_spec {v vc : Value} {R : List RIt} {cut : List BId} {S : Mem} (h : RS S v R) (hr : Rising (keys (texts R))) (hF : Fine (texts R)) (hl : PSl S vc 32 (cut.map encId)) (x : BId) :
    Spec Tryz.prog 70 [ag [[v]], idv x, vc] S [] (fun S' r L' => r = .bool (rightB (texts R) cut x) ∧ L' = []) := by
  have hsc := h.pl.sc
  have hpl := h.pl
  obtain ⟨m, hm1, hm2⟩ := links_head (texts R) cut x
  have hlen := links_len hF hr x
  refine enter Tryz.func70 rfl 50 rfl rfl (fun w0 => ?_)
  refine sq ?_
  refine rg ?_
  refine l rfl (box rfl rfl ?_)
  intro B3
  refine l rfl (box rfl rfl ?_)
  intro B4
  refine q (vAs rfl) rfl ?_
  refine nil ?_
  refine thN ?_
  refine sq ?_
  refine rg ?_
  refine q (vMv rfl) rfl ?_
  refine q (vLdA ag35 rfl (rB T0 (.z (.c .n))) (by simp)) rfl ?_
  refine l rfl (callP cf38 (ids_In_spec hl _) rfl .nil rfl ?_)
  refine q (vAs rfl) rfl ?_
  refine nil ?_
  refine thN ?_
  refine sq ?_
  refine rg ?_
  refine q (vLdA ag30 rfl (rB T1 (.z (.c .n))) (by simp)) rfl ?_
  refine q (vLdA ag35 rfl (rB T0 (.z (.c .n))) (by simp)) rfl ?_
  refine l rfl (callP cf22 (ref_Kind_spec h hr _) rfl .nil rfl ?_)
  refine q (vAs rfl) rfl ?_
  refine nil ?_
  refine thN ?_
  refine sq ?_
  refine rg ?_
  refine q (vLdA ag30 rfl (rB T1 (.z (.c .n))) (by simp)) rfl ?_
  refine q (vLdA ag35 rfl (rB T0 (.z (.c .n))) (by simp)) rfl ?_
  refine l rfl (call cf116 (ref_SLinks_spec h hr x) rfl .nil rfl ?_)
  intro S1 r1 l1 hS1 hp1
  obtain ⟨hk, rfl⟩ := hp1
  replace h := h.mono hS1
  replace hl := hl.mono hS1
  replace hpl := hpl.mono hS1
  change PSl _ _ 33 ((linksF (objF (texts R) x)).map encL) at hk
  have hright : RightP (texts R) cut x ↔ 0 < (objF (texts R) x).kind ∧ ∀ y, y ∈ (linksF (objF (texts R) x)).take m → (objF (texts R) y.1).kind = y.2 := by rw [RightP, hm1]
  generalize linksF (objF (texts R) x) = lk at hlen hm2 hk hright ⊢
  refine q (vAs rfl) rfl ?_
  refine nil ?_
  refine thN ?_
  refine sq ?_
  refine sq ?_
  refine rg ?_
  refine q (vAs rfl) rfl ?_
  refine nil ?_
  refine thN ?_
  refine bk ?_
  refine loop (ι := Nat) (fun (i : Nat) => [(3, .pointer (some ⟨B3, 0, none⟩)), (7, .bool (decide (x ∈ cut))), (8, .int .i64 ((objF (texts R) x).kind : Nat)), (9, r1), (10, .int .i64 (i : Int))]) (fun (i : Nat) => [blk B3 30 [[v]]]) (fun (i : Nat) => fun S' => i ≤ lk.length ∧ i ≤ m ∧ ∀ j, j < i → (objF (texts R) (lk.getD j default).1).kind = (lk.getD j default).2) (fun (i : Nat) => lk.length - i) 0 ⟨Nat.zero_le _, Nat.zero_le _, fun j h => absurd h (Nat.not_lt_zero _)⟩ (.cons rfl (by first | rfl | simp | (simp <;> omega)) (.cons rfl (by first | rfl | simp | (simp <;> omega)) (.cons rfl (by first | rfl | simp | (simp <;> omega)) (.cons rfl (by first | rfl | simp | (simp <;> omega)) (.cons rfl (by first | rfl | simp | (simp <;> omega)) .nil))))) (.cons T1 (Ent.Le.of (by first | rfl | simp | (simp <;> omega))) .nil) ?_
  rintro i S3 hle3 ⟨h1, h1b, h2⟩
  replace h := h.mono hle3
  replace hl := hl.mono hle3
  replace hpl := hpl.mono hle3
  replace hk := hk.mono hle3
  refine sq ?_
  refine sq ?_
  refine rg ?_
  refine q (vMv rfl) rfl ?_
  refine q (vMv rfl) rfl ?_
  refine q (SrcOk.len (srcP hk) Tryz.underlying148 rfl) rfl ?_
  refine q (vLt rfl rfl) rfl ?_
  refine nil ?_
  refine thN ?_
  refine cd rfl (fun hc => ?_) (fun hc => ?_) <;> try simp only [bls, beq_iff_eq, bne_iff_ne, Int.reduceToNat, List.length_map] at hc
  · skip
    have hi : i < lk.length := by omega
    have hmi := hm2 i hi
    refine sk ?_
    refine thN ?_
    refine sq ?_
    refine bk ?_
    refine sq ?_
    refine sq ?_
    refine rg ?_
    refine q (vMv rfl) rfl ?_
    refine q (vEq rfl rfl) rfl ?_
    refine q (vMv rfl) rfl ?_
    apply gAnd 28 30 2
    · rfl
    · intro hb1 hX1
      have hc1 := hb1 ; try simp only [bls, beq_iff_eq, bne_iff_ne, Int.reduceToNat, List.length_map] at hc1
      refine qT ⟨_, rfl, rfl⟩ (vMv rfl) rfl ?_
      refine q (vPkT rfl rfl) rfl ?_
      exact gTT 2 28 rfl rfl rfl rfl hb1 hX1
    · intro hb1 hX1
      have hc1 := hb1 ; try simp only [bls, beq_iff_eq, bne_iff_ne, Int.reduceToNat, List.length_map] at hc1
      refine qF ⟨_, _, rfl, rfl, rfl⟩ rfl ?_
      refine q (vPkF rfl rfl) rfl ?_
      exact gTF 2 28 rfl rfl rfl rfl hb1 hX1
    refine q (vMv rfl) rfl ?_
    apply gAnd 31 34 3
    · rfl
    · intro hb2 hX2
      have hc2 := hb2 ; try simp only [bls, beq_iff_eq, bne_iff_ne, Int.reduceToNat, List.length_map] at hc2
      refine qT ⟨_, rfl, rfl⟩ (vMv rfl) rfl ?_
      refine qT ⟨_, rfl, rfl⟩ (vGt rfl rfl) rfl ?_
      refine q (vPkT rfl rfl) rfl ?_
      exact gTT 3 31 rfl rfl rfl rfl hb2 hX2
    · intro hb2 hX2
      have hc2 := hb2 ; try simp only [bls, beq_iff_eq, bne_iff_ne, Int.reduceToNat, List.length_map] at hc2
      refine qF ⟨_, _, rfl, rfl, rfl⟩ rfl ?_
      refine qF ⟨_, _, rfl, rfl, rfl⟩ rfl ?_
      refine q (vPkF rfl rfl) rfl ?_
      exact gTF 3 31 rfl rfl rfl rfl hb2 hX2
    refine nil ?_
    refine thN ?_
    refine cd rfl (fun hd => ?_) (fun hd => ?_) <;> try simp only [bls, beq_iff_eq, bne_iff_ne, Int.reduceToNat, List.length_map] at hd
    · skip
      have hd2 := hd.1.2
      have hge : m ≤ i := hmi.1 ⟨by omega, by simpa using hd2, by omega⟩
      have hall : RightP (texts R) cut x := by
        refine hright.2 ⟨by omega, fun y hy => ?_⟩
        obtain ⟨j, hj, hj2, rfl⟩ := take_mem_get hy
        exact h2 j (by omega)
      refine sq ?_
      refine rg ?_
      refine q (vAs rfl) rfl ?_
      refine nil ?_
      refine thN ?_
      refine rt ?_
      refine thR ?_
      refine bkR ?_
      refine thR ?_
      refine thR ?_
      refine bkR ?_
      refine thR ?_
      refine ret rfl (.t rfl .nil) .nil ⟨by rw [rightB_iff.2 hall]; rfl, rfl⟩
    · skip
      have hlt : i < m := by
        rcases Nat.lt_or_ge i m with h9 | h9
        · exact h9
        · obtain ⟨k1, k2, k3⟩ := hmi.2 h9
          rcases hd with hd | hd
          · rcases hd with hd | hd
            · omega
            · exact absurd k2 hd
          · omega
      refine sk ?_
      refine thN ?_
      refine sq ?_
      refine dr (.take 0 (.take 1 (.take 2 (.take 3 (.take 4 (.take 5 (.take 7 (.take 8 (.take 9 (.take 10 (.take 11 (.one 6 (.take 12 .done))))))))))))) wide (by decide +kernel) _ _ (.cons T0 .nil) ?_
      refine pT rfl (vLdA ag30 rfl (rB T0 (.z (.c .n))) (by simp)) rfl ?_
      refine pT rfl (vMv rfl) rfl ?_
      refine pT rfl (vMv rfl) rfl ?_
      refine pT rfl (vIxP sl148 rfl rfl hk (by first | omega | (simp only [Int.toNat_natCast, Int.reduceToNat, List.length_append, List.length_cons, List.length_nil, List.length_map, bid_len]; omega) | (simp <;> omega))) rfl ?_
      refine pT rfl (vFp fa151_0 rfl (rP hk (gm (by first | omega | (simp only [Int.toNat_natCast, Int.reduceToNat, List.length_append, List.length_cons, List.length_nil, List.length_map, bid_len]; omega) | (simp <;> omega))))) rfl ?_
      refine pT rfl (vLdA ag35 rfl (Rd.at (rP hk (gm (by first | omega | (simp only [Int.toNat_natCast, Int.reduceToNat, List.length_append, List.length_cons, List.length_nil, List.length_map, bid_len]; omega) | (simp <;> omega)))) (.z (.c .n))) (by simp)) rfl ?_
      refine pT rfl (vMv rfl) rfl ?_
      refine pT rfl (vMv rfl) rfl ?_
      refine pT rfl (vIxP sl148 rfl rfl hk (by first | omega | (simp only [Int.toNat_natCast, Int.reduceToNat, List.length_append, List.length_cons, List.length_nil, List.length_map, bid_len]; omega) | (simp <;> omega))) rfl ?_
      refine pT rfl (vFp fa151_1 rfl (rP hk (gm (by first | omega | (simp only [Int.toNat_natCast, Int.reduceToNat, List.length_append, List.length_cons, List.length_nil, List.length_map, bid_len]; omega) | (simp <;> omega))))) rfl ?_
      refine pT rfl (vLd sc3 rfl (Rd.at1 (rP hk (gm (by first | omega | (simp only [Int.toNat_natCast, Int.reduceToNat, List.length_append, List.length_cons, List.length_nil, List.length_map, bid_len]; omega) | (simp <;> omega)))) (.n (n := 32) inferInstance (.z (.c .n))))) rfl ?_
      refine pO ?_
      refine opL rfl rfl (callP cf22 (ref_Kind_spec h hr _) rfl .nil rfl ?_)
      refine pK (Le.refl _) (.cons T0 .nil) ?_
      refine pT rfl (vNe rfl rfl) rfl ?_
      refine pDone ?_
      refine thN ?_
      refine cd rfl (fun he => ?_) (fun he => ?_) <;> try simp only [bls, beq_iff_eq, bne_iff_ne, Int.reduceToNat, List.length_map] at he
      · skip
        have hno : ¬ RightP (texts R) cut x := fun hp => by
          have := (hright.1 hp).2 _ (get_take_mem hlt hi)
          simp only [objF] at this
          omega
        refine sq ?_
        refine rg ?_
        refine q (vAs rfl) rfl ?_
        refine nil ?_
        refine thN ?_
        refine rt ?_
        refine bkR ?_
        refine thR ?_
        refine thR ?_
        refine bkR ?_
        refine thR ?_
        refine ret rfl (.t rfl .nil) .nil ⟨by rw [rightB_not.2 hno]; rfl, rfl⟩
      · skip
        have hq : (objF (texts R) (lk.getD i default).1).kind = (lk.getD i default).2 := by
          simp only [objF]; omega
        refine sk ?_
        refine bkN ?_
        refine thN ?_
        refine rg ?_
        refine q (vMv rfl) rfl ?_
        refine q (vAdd rfl rfl (by first | omega | (simp only [Int.toNat_natCast, Int.reduceToNat, List.length_append, List.length_cons, List.length_nil, List.length_map, bid_len]; omega) | (simp <;> omega))) rfl ?_
        refine q (vAs rfl) rfl ?_
        refine nil ?_
        refine thN ?_
        refine back (i + 1) (Le.refl _) ⟨⟨by omega, by omega, below_succ h2 hq⟩, by omega⟩ (.cons rfl (by first | rfl | simp | (simp <;> omega)) (.cons rfl (by first | rfl | simp | (simp <;> omega)) (.cons rfl (by first | rfl | simp | (simp <;> omega)) (.cons rfl (by first | rfl | simp | (simp <;> omega)) (.cons rfl (by first | rfl | simp | (simp <;> omega)) .nil))))) (.cons T0 (Ent.Le.of (by first | rfl | simp | (simp <;> omega))) .nil)
  · skip
    obtain rfl : i = lk.length := by omega
    have e1 : decide ((0 : Int) < ((objF (texts R) x).kind : Nat)) = rightB (texts R) cut x := by
      rw [Bool.eq_iff_iff, rightB_iff, decide_eq_true_eq, hright]
      constructor
      · intro h9
        refine ⟨by omega, fun y hy => ?_⟩
        obtain ⟨j, hj, hj2, rfl⟩ := take_mem_get hy
        exact h2 j hj2
      · intro h9; omega
    refine xt ?_
    refine thX ?_
    refine thX ?_
    refine bkX ?_
    refine thN ?_
    refine sq ?_
    refine rg ?_
    refine q (vMv rfl) rfl ?_
    refine q (vGt rfl rfl) rfl ?_
    refine q (vAs rfl) rfl ?_
    refine nil ?_
    refine thN ?_
    refine rt ?_
    refine ret rfl (.t rfl .nil) .nil ⟨by rw [e1]; rfl, rfl⟩
theorem get_mem_lk {l : List (BId × Nat)} {i : Nat} (h : i < l.length) : l.getD i default ∈ l := by rw [List.getD_eq_getElem?_getD, List.getElem?_eq_getElem h]; exact List.getElem_mem h
theorem lk_get {l : List (BId × Nat)} {x : BId × Nat} (h : x ∈ l) : ∃ i, i < l.length ∧ l.getD i default = x := by
  obtain ⟨i, hi, rfl⟩ := List.getElem_of_mem h
  exact ⟨i, hi, by rw [List.getD_eq_getElem?_getD, List.getElem?_eq_getElem hi]; rfl⟩
def AllRight (A : List (List UInt8)) (cut ids : List BId) : Prop := ∀ x, x ∈ ids → RightP A cut x
noncomputable def allRightB (A : List (List UInt8)) (cut ids : List BId) : Bool := @decide (AllRight A cut ids) (Classical.propDecidable _)
theorem allRightB_iff {A : List (List UInt8)} {cut ids : List BId} : allRightB A cut ids = true ↔ AllRight A cut ids := by simp [allRightB]
theorem allRightB_not {A : List (List UInt8)} {cut ids : List BId} : allRightB A cut ids = false ↔ ¬ AllRight A cut ids := by simp [allRightB]
theorem mem_getD {l : List BId} {i : Nat} (h : i < l.length) : l.getD i default ∈ l := by rw [List.getD_eq_getElem?_getD, List.getElem?_eq_getElem h]; exact List.getElem_mem h
theorem getD_mem {l : List BId} {x : BId} (h : x ∈ l) : ∃ i, i < l.length ∧ l.getD i default = x := by
  obtain ⟨i, hi, rfl⟩ := List.getElem_of_mem h
  exact ⟨i, hi, by rw [List.getD_eq_getElem?_getD, List.getElem?_eq_getElem hi]; rfl⟩
theorem right_spec {b : Nat} {v vi vc : Value} {A : List (List UInt8)} {ids cut : List BId} {S : Mem} (hr : Rising (keys A)) (hF : Fine A) (hlen : A.length < 10000) (hids : PSl S vi 32 (ids.map encId)) (hl : PSl S vc 32 (cut.map encId)) (hil : ids.length < 1073741824) :
    Spec Tryz.prog 69 [ptr b 0, vi, vc] S (stE b v A) (fun S' r L' => r = .bool (allRightB A cut ids) ∧ L' = stE b v A) := by
  have hlt : A.length < 1073741824 := by omega
  have hne := hF.ne
  refine enter Tryz.func69 rfl 52 rfl rfl (fun w0 => ?_)
  refine sq ?_
  refine rg ?_
  refine q (vAs rfl) rfl ?_
  refine nil ?_
  refine thN ?_
  refine sq ?_
  refine sq ?_
  refine rg ?_
  refine q (vMv rfl) rfl ?_
  refine q (SrcOk.len (srcP hids) Tryz.underlying27 rfl) rfl ?_
  refine q (vMv rfl) rfl ?_
  refine nil ?_
  refine thN ?_
  refine bk ?_
  refine loop (ι := Nat) (fun (i : Nat) => [(0, ptr b 0), (2, vc), (13, vi), (14, .int .i64 (ids.length : Int)), (15, .int .i64 (i : Int))]) (fun (i : Nat) => [blk b 204 [[v]], sl v 209 33 (A.map encIt)]) (fun (i : Nat) => fun S' => i ≤ ids.length ∧ ∀ j, j < i → RightP A cut (ids.getD j default)) (fun (i : Nat) => ids.length - i) 0 ⟨Nat.zero_le _, fun j h => absurd h (Nat.not_lt_zero _)⟩ (.cons rfl (by first | rfl | simp | (simp <;> omega)) (.cons rfl (by first | rfl | simp | (simp <;> omega)) (.cons rfl (by first | rfl | simp | (simp <;> omega)) (.cons rfl (by first | rfl | simp | (simp <;> omega)) (.cons rfl (by first | rfl | simp | (simp <;> omega)) .nil))))) (.cons T0 (Ent.Le.of (by first | rfl | simp | (simp <;> omega))) (.cons T0 (Ent.Le.of (by first | rfl | simp | (simp <;> omega))) .nil)) ?_
  rintro i S2 hle2 ⟨h1, h2⟩
  replace hids := hids.mono hle2
  replace hl := hl.mono hle2
  refine sq ?_
  refine rg ?_
  refine q (vLt rfl rfl) rfl ?_
  refine nil ?_
  refine thN ?_
  refine sq ?_
  refine cd rfl (fun hc => ?_) (fun hc => ?_) <;> try simp only [bls, beq_iff_eq, bne_iff_ne, Int.reduceToNat, List.length_map] at hc
  · skip
    have hi : i < ids.length := by omega
    obtain ⟨x, hx⟩ : ∃ x, ids.getD (i : Int).toNat default = x := ⟨_, rfl⟩
    have hxm : x ∈ ids := by rw [← hx]; exact mem_getD hi
    obtain ⟨m, hm1, hm2⟩ := links_head A cut x
    have hlen := links_len hF hr x
    refine sk ?_
    refine thN ?_
    refine sq ?_
    refine bk ?_
    refine sq ?_
    refine rg ?_
    refine q (vIxP sl27 rfl rfl hids (by first | omega | (simp only [Int.toNat_natCast, Int.reduceToNat, List.length_append, List.length_cons, List.length_nil, List.length_map, bid_len]; omega) | (simp <;> omega))) rfl ?_
    refine q (vLdA ag35 rfl (Rd.f1 (rP hids (gm (by first | omega | (simp only [Int.toNat_natCast, Int.reduceToNat, List.length_append, List.length_cons, List.length_nil, List.length_map, bid_len]; omega) | (simp <;> omega))))) (by simp)) rfl ?_
    refine l rfl (alloc ze35 rfl ?_)
    intro B8
    refine l rfl (store sz35 rfl rfl T0 (by simp) (.z (.c inferInstance inferInstance .n)) ?_)
    refine nil ?_
    refine thN ?_
    refine sq ?_
    refine rg ?_
    refine q (vMv rfl) rfl ?_
    refine q (vLdA ag35 rfl (rB T0 (.z (.c .n))) (by simp)) rfl ?_
    simp only [hx]
    refine l rfl (call cf83 (Object_spec x hr hlt hF _) rfl (.cons T1 (.cons T1 .nil)) rfl ?_)
    intro S1 r1 l1 hS1 hp1
    obtain ⟨ve, vp, rfl, hi2, rfl⟩ := hp1
    replace hids := hids.mono hS1
    replace hl := hl.mono hS1
    have he := hi2.e
    have hp := hi2.p
    have hs3 := he.sc
    have hs4 := hp.sc
    refine q (vMv rfl) rfl ?_
    refine q (vEx rfl rfl) rfl ?_
    refine q (vEx rfl rfl) rfl ?_
    refine l rfl (alloc ze77 rfl ?_)
    intro B9
    refine l rfl (store sz77 rfl rfl T0 (by simp) (.z (.c inferInstance inferInstance (.c inferInstance inferInstance (.c inferInstance inferInstance (.c inferInstance inferInstance (.c inferInstance inferInstance (.c inferInstance inferInstance (.c inferInstance inferInstance (.c inferInstance inferInstance (.c inferInstance inferInstance (.c inferInstance inferInstance .n))))))))))) ?_)
    refine q (vAs rfl) rfl ?_
    refine nil ?_
    refine thN ?_
    refine sq ?_
    refine sq ?_
    refine rg ?_
    refine q (vMv rfl) rfl ?_
    refine q (vNot rfl) rfl ?_
    refine nil ?_
    refine thN ?_
    refine cd rfl (fun hk => ?_) (fun hk => ?_) <;> try simp only [bls, beq_iff_eq, bne_iff_ne, Int.reduceToNat, List.length_map] at hk
    · skip
      have hno : ¬ AllRight A cut ids := fun h9 => hk ((kind_pos hF hr).1 (h9 x hxm).1)
      refine sq ?_
      refine rg ?_
      refine q (vAs rfl) rfl ?_
      refine nil ?_
      refine thN ?_
      refine rt ?_
      refine thR ?_
      refine bkR ?_
      refine thR ?_
      refine thR ?_
      refine bkR ?_
      refine thR ?_
      refine ret rfl (.t rfl .nil) (.t T1 (.t T1 .nil)) ⟨by rw [allRightB_not.2 hno]; rfl, rfl⟩
    · skip
      have hkp := (kind_pos hF hr).2 hk
      refine sk ?_
      refine thN ?_
      refine join (ι := Value) (fun (w : Value) => [(0, ptr b 0), (2, vc), (8, .pointer (some ⟨B8, 0, none⟩)), (9, .pointer (some ⟨B9, 0, none⟩)), (13, vi), (14, .int .i64 (ids.length : Int)), (15, .int .i64 (i : Int))]) (fun (w : Value) => [blk b 204 [[v]], sl v 209 33 (A.map encIt), blk B8 35 [encId x], blk B9 77 (segsO (cutO (objF A x) (decide (x ∈ cut))) ve w)]) (fun (w : Value) => fun S' => PSl S' w 32 ((cutO (objF A x) (decide (x ∈ cut))).parents.map encId)) ?_ ?_
      · skip
        refine sq ?_
        refine rg ?_
        refine q (vFa fa77_0 rfl) rfl ?_
        refine q (vLd sc3 rfl (rB1 T0 (.z (.c .n)))) rfl ?_
        refine q (vEq rfl rfl) rfl ?_
        refine q (vMv rfl) rfl ?_
        apply gAnd 30 34 4
        · rfl
        · intro hb1 hX1
          have hc1 := hb1 ; try simp only [bls, beq_iff_eq, bne_iff_ne, Int.reduceToNat, List.length_map] at hc1
          refine qT ⟨_, rfl, rfl⟩ (vMv rfl) rfl ?_
          refine qT ⟨_, rfl, rfl⟩ (vLdA ag35 rfl (rB T3 (.z (.c .n))) (by simp)) rfl ?_
          refine lT rfl ⟨_, rfl, rfl⟩ (callP cf96 (Contains_spec hl _) rfl .nil rfl ?_)
          refine q (vPkT rfl rfl) rfl ?_
          exact gTT 4 30 rfl rfl rfl rfl hb1 hX1
        · intro hb1 hX1
          have hc1 := hb1 ; try simp only [bls, beq_iff_eq, bne_iff_ne, Int.reduceToNat, List.length_map] at hc1
          refine qF ⟨_, _, rfl, rfl, rfl⟩ rfl ?_
          refine qF ⟨_, _, rfl, rfl, rfl⟩ rfl ?_
          refine qF ⟨_, _, rfl, rfl, rfl⟩ rfl ?_
          refine q (vPkF rfl rfl) rfl ?_
          exact gTF 4 30 rfl rfl rfl rfl hb1 hX1
        refine nil ?_
        refine thN ?_
        refine cd rfl (fun hq => ?_) (fun hq => ?_) <;> try simp only [bls, beq_iff_eq, bne_iff_ne, Int.reduceToNat, List.length_map] at hq
        · skip
          have e1 : cutO (objF A x) (decide (x ∈ cut)) = { objF A x with parents := [] } := by
            rw [cutO, if_pos ⟨by have := hq.1; simp only [objF]; omega, by simpa using hq.2⟩]
          rw [e1]
          refine rg ?_
          refine q (vFa fa77_4 rfl) rfl ?_
          refine l rfl (store sz27 rfl rfl T0 (by simp) (.s (.s (.s (.n (n := 32) inferInstance (.z (.c inferInstance inferInstance .n)))))) ?_)
          refine nil ?_
          refine thN ?_
          refine back (.slice none 0 0) (Le.refl _) PSl.nil (.cons rfl (by first | rfl | simp | (simp <;> omega)) (.cons rfl (by first | rfl | simp | (simp <;> omega)) (.cons rfl (by first | rfl | simp | (simp <;> omega)) (.cons rfl (by first | rfl | simp | (simp <;> omega)) (.cons rfl (by first | rfl | simp | (simp <;> omega)) (.cons rfl (by first | rfl | simp | (simp <;> omega)) (.cons rfl (by first | rfl | simp | (simp <;> omega)) .nil))))))) (.cons T1 (Ent.Le.of (by first | rfl | simp | (simp <;> omega))) (.cons T1 (Ent.Le.of (by first | rfl | simp | (simp <;> omega))) (.cons T1 (Ent.Le.of (by first | rfl | simp | (simp <;> omega))) (.cons T0 (Ent.Le.of (by first | rfl | simp | (simp <;> omega))) .nil))))
        · skip
          have e1 : cutO (objF A x) (decide (x ∈ cut)) = objF A x := by
            rw [cutO, if_neg]
            rintro ⟨k1, k2⟩
            simp only [objF] at k1
            rcases hq with hq | hq
            · omega
            · simp at k2; exact hq k2
          rw [e1]
          refine sk ?_
          refine thN ?_
          refine back (vp) (Le.refl _) hp (.cons rfl (by first | rfl | simp | (simp <;> omega)) (.cons rfl (by first | rfl | simp | (simp <;> omega)) (.cons rfl (by first | rfl | simp | (simp <;> omega)) (.cons rfl (by first | rfl | simp | (simp <;> omega)) (.cons rfl (by first | rfl | simp | (simp <;> omega)) (.cons rfl (by first | rfl | simp | (simp <;> omega)) (.cons rfl (by first | rfl | simp | (simp <;> omega)) .nil))))))) (.cons T1 (Ent.Le.of (by first | rfl | simp | (simp <;> omega))) (.cons T1 (Ent.Le.of (by first | rfl | simp | (simp <;> omega))) (.cons T1 (Ent.Le.of (by first | rfl | simp | (simp <;> omega))) (.cons T0 (Ent.Le.of (by first | rfl | simp | (simp <;> omega))) .nil))))
      · rintro w S4 hle4 hp2
        replace hids := hids.mono hle4
        replace hl := hl.mono hle4
        replace he := he.mono hle4
        replace hp := hp.mono hle4
        have hen : (cutO (objF A x) (decide (x ∈ cut))).entries = (objF A x).entries := by unfold cutO; split <;> rfl
        have he5 : PSl S4 ve 34 ((cutO (objF A x) (decide (x ∈ cut))).entries.map encE) := by rw [hen]; exact he
        have hsz : Small (cutO (objF A x) (decide (x ∈ cut))) := by
          obtain ⟨z1, z2, z3, z4, z5, z6⟩ := dO_small (t := getF A x)
          unfold cutO; split
          · exact ⟨z1, z2, z3, by simp, z5, z6⟩
          · exact ⟨z1, z2, z3, z4, z5, z6⟩
        have hs5 := hp2.sc
        have hright : RightP A cut x ↔ ∀ y, y ∈ linksF (cutO (objF A x) (decide (x ∈ cut))) → (objF A y.1).kind = y.2 := by rw [RightP]; exact ⟨fun h9 => h9.2, fun h9 => ⟨hkp, h9⟩⟩
        have hll : (linksF (cutO (objF A x) (decide (x ∈ cut)))).length ≤ 74 := by rw [hm1, List.length_take]; omega
        refine sq ?_
        refine rg ?_
        refine q (vLdA ag77 rfl (rB T3 (.z (.c (.c (.c (.c (.c (.c (.c (.c (.c (.c .n)))))))))))) (by simp)) rfl ?_
        refine l rfl (call cf115 (Links_spec hsz ⟨he5, hp2⟩) rfl .nil rfl ?_)
        intro S2 r2 l2 hS2 hp2
        obtain ⟨hO, rfl⟩ := hp2
        replace hids := hids.mono hS2
        replace hl := hl.mono hS2
        replace he := he.mono hS2
        replace hp := hp.mono hS2
        replace hp2 := hp2.mono hS2
        generalize linksF (cutO (objF A x) (decide (x ∈ cut))) = lk at hright hll hO
        refine q (SrcOk.len (srcP hO) Tryz.underlying148 rfl) rfl ?_
        refine q (vMv rfl) rfl ?_
        refine nil ?_
        refine thN ?_
        refine bk ?_
        refine loop (ι := Nat) (fun (j : Nat) => [(0, ptr b 0), (2, vc), (13, vi), (14, .int .i64 (ids.length : Int)), (15, .int .i64 (i : Int)), (37, r2), (38, .int .i64 (lk.length : Int)), (39, .int .i64 (j : Int))]) (fun (j : Nat) => [blk b 204 [[v]], sl v 209 33 (A.map encIt)]) (fun (j : Nat) => fun S' => j ≤ lk.length ∧ ∀ k, k < j → (objF A (lk.getD k default).1).kind = (lk.getD k default).2) (fun (j : Nat) => lk.length - j) 0 ⟨Nat.zero_le _, fun j h => absurd h (Nat.not_lt_zero _)⟩ (.cons rfl (by first | rfl | simp | (simp <;> omega)) (.cons rfl (by first | rfl | simp | (simp <;> omega)) (.cons rfl (by first | rfl | simp | (simp <;> omega)) (.cons rfl (by first | rfl | simp | (simp <;> omega)) (.cons rfl (by first | rfl | simp | (simp <;> omega)) (.cons rfl (by first | rfl | simp | (simp <;> omega)) (.cons rfl (by first | rfl | simp | (simp <;> omega)) (.cons rfl (by first | rfl | simp | (simp <;> omega)) .nil)))))))) (.cons T0 (Ent.Le.of (by first | rfl | simp | (simp <;> omega))) (.cons T0 (Ent.Le.of (by first | rfl | simp | (simp <;> omega))) .nil)) ?_
        rintro j S7 hle7 ⟨k1, k2⟩
        replace hids := hids.mono hle7
        replace hl := hl.mono hle7
        replace he := he.mono hle7
        replace hp := hp.mono hle7
        replace hp2 := hp2.mono hle7
        replace hO := hO.mono hle7
        refine sq ?_
        refine rg ?_
        refine q (vLt rfl rfl) rfl ?_
        refine nil ?_
        refine thN ?_
        refine sq ?_
        refine cd rfl (fun hc2 => ?_) (fun hc2 => ?_) <;> try simp only [bls, beq_iff_eq, bne_iff_ne, Int.reduceToNat, List.length_map] at hc2
        · skip
          have hj : j < lk.length := by omega
          refine sk ?_
          refine thN ?_
          refine sq ?_
          refine bk ?_
          refine sq ?_
          refine rg ?_
          refine q (vIxP sl148 rfl rfl hO (by first | omega | (simp only [Int.toNat_natCast, Int.reduceToNat, List.length_append, List.length_cons, List.length_nil, List.length_map, bid_len]; omega) | (simp <;> omega))) rfl ?_
          refine q (vLdA ag151 rfl (rP hO (gm (by first | omega | (simp only [Int.toNat_natCast, Int.reduceToNat, List.length_append, List.length_cons, List.length_nil, List.length_map, bid_len]; omega) | (simp <;> omega)))) (by simp)) rfl ?_
          refine l rfl (alloc ze151 rfl ?_)
          intro B12
          refine l rfl (store sz151 rfl rfl T0 (by simp) (.z (.c inferInstance inferInstance (.c inferInstance inferInstance .n))) ?_)
          refine nil ?_
          refine thN ?_
          refine sq ?_
          refine dr (.take 0 (.take 1 (.take 2 (.take 4 (.take 5 (.one 3 (.take 6 .done))))))) wide (by decide +kernel) _ _ (.cons T0 (.cons T0 (.cons T0 .nil))) ?_
          refine pT rfl (vMv rfl) rfl ?_
          refine pT rfl (vFa fa151_0 rfl) rfl ?_
          refine pT rfl (vLdA ag35 rfl (rB T0 (.z (.c .n))) (by simp)) rfl ?_
          refine pT rfl (vFa fa151_1 rfl) rfl ?_
          refine pT rfl (vLd sc3 rfl (rB1 T0 (.n (n := 32) inferInstance (.z (.c .n))))) rfl ?_
          refine pO ?_
          refine opL rfl rfl (callP cf74 (Kind_spec _ hr hlt hne _) rfl (.cons T1 (.cons T1 .nil)) rfl ?_)
          refine pK (Le.refl _) (.cons T0 (.cons T0 (.cons T0 .nil))) ?_
          refine pT rfl (vNe rfl rfl) rfl ?_
          refine pDone ?_
          refine thN ?_
          refine cd rfl (fun hd => ?_) (fun hd => ?_) <;> try simp only [bls, beq_iff_eq, bne_iff_ne, Int.reduceToNat, List.length_map] at hd
          · skip
            have hno : ¬ AllRight A cut ids := fun h9 => by
              have h8 := hright.1 (h9 x hxm) _ (get_mem_lk hj)
              rw [← kind_same hF hr] at h8
              omega
            refine sq ?_
            refine rg ?_
            refine q (vAs rfl) rfl ?_
            refine nil ?_
            refine thN ?_
            refine rt ?_
            refine bkR ?_
            refine thR ?_
            refine thR ?_
            refine bkR ?_
            refine bkR ?_
            refine thR ?_
            refine thR ?_
            refine bkR ?_
            refine thR ?_
            refine ret rfl (.t rfl .nil) (.t T1 (.t T1 .nil)) ⟨by rw [allRightB_not.2 hno]; rfl, rfl⟩
          · skip
            have hq : (objF A (lk.getD j default).1).kind = (lk.getD j default).2 := by
              rw [← kind_same hF hr]; omega
            refine sk ?_
            refine bkN ?_
            refine thN ?_
            refine rg ?_
            refine q (vAdd rfl rfl (by first | omega | (simp only [Int.toNat_natCast, Int.reduceToNat, List.length_append, List.length_cons, List.length_nil, List.length_map, bid_len]; omega) | (simp <;> omega))) rfl ?_
            refine q (vMv rfl) rfl ?_
            refine nil ?_
            refine thN ?_
            refine back (j + 1) (Le.refl _) ⟨⟨by omega, below_succ k2 hq⟩, by omega⟩ (.cons rfl (by first | rfl | simp | (simp <;> omega)) (.cons rfl (by first | rfl | simp | (simp <;> omega)) (.cons rfl (by first | rfl | simp | (simp <;> omega)) (.cons rfl (by first | rfl | simp | (simp <;> omega)) (.cons rfl (by first | rfl | simp | (simp <;> omega)) (.cons rfl (by first | rfl | simp | (simp <;> omega)) (.cons rfl (by first | rfl | simp | (simp <;> omega)) (.cons rfl (by first | rfl | simp | (simp <;> omega)) .nil)))))))) (.cons T1 (Ent.Le.of (by first | rfl | simp | (simp <;> omega))) (.cons T1 (Ent.Le.of (by first | rfl | simp | (simp <;> omega))) .nil))
        · skip
          obtain rfl : j = lk.length := by omega
          have hR : RightP A cut x := hright.2 fun y hy => by
            obtain ⟨k, hk1, rfl⟩ := lk_get hy
            exact k2 k hk1
          refine xt ?_
          refine thX ?_
          refine thX ?_
          refine bkX ?_
          refine bkN ?_
          refine thN ?_
          refine rg ?_
          refine q (vAdd rfl rfl (by first | omega | (simp only [Int.toNat_natCast, Int.reduceToNat, List.length_append, List.length_cons, List.length_nil, List.length_map, bid_len]; omega) | (simp <;> omega))) rfl ?_
          refine q (vMv rfl) rfl ?_
          refine nil ?_
          refine thN ?_
          refine back (i + 1) (hS1.trans (hle4.trans (hS2.trans hle7))) ⟨⟨by omega, below_succ h2 (by rw [show ids.getD i default = x from hx]; exact hR)⟩, by omega⟩ (.cons rfl (by first | rfl | simp | (simp <;> omega)) (.cons rfl (by first | rfl | simp | (simp <;> omega)) (.cons rfl (by first | rfl | simp | (simp <;> omega)) (.cons rfl (by first | rfl | simp | (simp <;> omega)) (.cons rfl (by first | rfl | simp | (simp <;> omega)) .nil))))) (.cons T0 (Ent.Le.of (by first | rfl | simp | (simp <;> omega))) (.cons T0 (Ent.Le.of (by first | rfl | simp | (simp <;> omega))) .nil))
  · skip
    obtain rfl : i = ids.length := by omega
    have hall : AllRight A cut ids := fun x hx => by
      obtain ⟨j, hj, rfl⟩ := getD_mem hx
      exact h2 j hj
    refine xt ?_
    refine thX ?_
    refine thX ?_
    refine bkX ?_
    refine thN ?_
    refine sq ?_
    refine rg ?_
    refine q (vAs rfl) rfl ?_
    refine nil ?_
    refine thN ?_
    refine rt ?_
    refine ret rfl (.t rfl .nil) (.t T0 (.t T0 .nil)) ⟨by rw [allRightB_iff.2 hall]; rfl, rfl⟩
end Go.Proofs.YtjmigoikklkfdaaGreatDoor
namespace Go.Proofs.YtjmigoikklkfdaaGreatDoor
open Go
set_option linter.unusedVariables false
set_option linter.unusedSimpArgs false
set_option maxRecDepth 4000
def ClosedP (A : List (List UInt8)) (frm cut : List BId) : Prop := ∀ x, Rch A cut frm x → RightP A cut x
noncomputable def closedB (A : List (List UInt8)) (frm cut : List BId) : Bool := @decide (ClosedP A frm cut) (Classical.propDecidable _)
theorem closedB_iff {A : List (List UInt8)} {frm cut : List BId} : closedB A frm cut = true ↔ ClosedP A frm cut := by simp [closedB]
theorem closedB_not {A : List (List UInt8)} {frm cut : List BId} : closedB A frm cut = false ↔ ¬ ClosedP A frm cut := by simp [closedB]
theorem RightP.there {A : List (List UInt8)} {cut : List BId} {x : BId} (hF : Fine A) (hr : Rising (keys A)) (h : RightP A cut x) : x ∈ keys A := (kind_pos hF hr).1 h.1
theorem Told.closed {A : List (List UInt8)} {frm cut T M : List BId} (hF : Fine A) (hr : Rising (keys A)) (h : Told A cut frm T M) : ClosedP A frm cut ↔ AllRight A cut T ∧ M = [] := by
  constructor
  · intro hc
    refine ⟨fun x hx => hc x ((h.mt x).1 hx).1, ?_⟩
    rcases M with _ | ⟨y, M⟩
    · rfl
    · obtain ⟨h1, h2⟩ := (h.mm y).1 (by simp)
      exact absurd ((hc y h1).there hF hr) h2
  · rintro ⟨h1, rfl⟩ x hx
    by_cases hk : x ∈ keys A
    · exact h1 x ((h.mt x).2 ⟨hx, hk⟩)
    · exact absurd ((h.mm x).2 ⟨hx, hk⟩) (by simp)
theorem rising_len {A : List (List UInt8)} {frm cut T M : List BId} (h : Told A cut frm T M) : T.length ≤ A.length := by
  have h1 : T ⊆ keys A := fun x hx => ((h.mt x).1 hx).2
  have := nodup_len (rising_nodup h.rt) h1
  simpa using this
theorem ref_Closed_spec {v vf vc : Value} {R : List RIt} {frm cut : List BId} {S : Mem} (h : RS S v R) (hr : Rising (keys (texts R))) (hF : Fine (texts R)) (hlen : R.length < 10000) (hf : PSl S vf 32 (frm.map encId)) (hc : PSl S vc 32 (cut.map encId)) (hfl : frm.length < 100000) :
    Spec Tryz.prog 19 [ag [[v]], vf, vc] S [] (fun S' r L' => r = .bool (closedB (texts R) frm cut) ∧ L' = []) := by
  have hsc := h.pl.sc
  have hpl := h.pl
  refine enter Tryz.func19 rfl 36 rfl rfl (fun w0 => ?_)
  refine sq ?_
  refine rg ?_
  refine l rfl (box rfl rfl ?_)
  intro B3
  refine q (vAs rfl) rfl ?_
  refine nil ?_
  refine thN ?_
  refine sq ?_
  refine rg ?_
  refine q (vLdA ag30 rfl (rB T0 (.z (.c .n))) (by simp)) rfl ?_
  refine q (vMv rfl) rfl ?_
  refine q (vMv rfl) rfl ?_
  refine l rfl (call cf24 (ref_Reach_spec h hr hF hlen hf hc hfl) rfl .nil rfl ?_)
  intro S1 r1 l1 hS1 hp1
  obtain ⟨v1, v2, T, M, rfl, hT, hM, hTo, rfl⟩ := hp1
  replace h := h.mono hS1
  replace hpl := hpl.mono hS1
  replace hf := hf.mono hS1
  replace hc := hc.mono hS1
  have hs1 := hT.sc
  have hs2 := hM.sc
  have hcl := hTo.closed hF hr
  have hTl := rising_len hTo
  have hRt : (texts R).length = R.length := List.length_map _
  refine q (vMv rfl) rfl ?_
  refine q (vEx rfl rfl) rfl ?_
  refine q (vEx rfl rfl) rfl ?_
  refine q (vAs rfl) rfl ?_
  refine q (vAs rfl) rfl ?_
  refine nil ?_
  refine thN ?_
  refine sq ?_
  refine sq ?_
  refine rg ?_
  refine q (vAs rfl) rfl ?_
  refine nil ?_
  refine thN ?_
  refine bk ?_
  refine loop (ι := Nat) (fun (i : Nat) => [(2, vc), (3, .pointer (some ⟨B3, 0, none⟩)), (7, v1), (8, v2), (9, .int .i64 (i : Int))]) (fun (i : Nat) => [blk B3 30 [[v]]]) (fun (i : Nat) => fun S' => i ≤ T.length ∧ ∀ j, j < i → RightP (texts R) cut (T.getD j default)) (fun (i : Nat) => T.length - i) 0 ⟨Nat.zero_le _, fun j h => absurd h (Nat.not_lt_zero _)⟩ (.cons rfl (by first | rfl | simp | (simp <;> omega)) (.cons rfl (by first | rfl | simp | (simp <;> omega)) (.cons rfl (by first | rfl | simp | (simp <;> omega)) (.cons rfl (by first | rfl | simp | (simp <;> omega)) (.cons rfl (by first | rfl | simp | (simp <;> omega)) .nil))))) (.cons T0 (Ent.Le.of (by first | rfl | simp | (simp <;> omega))) .nil) ?_
  rintro i S3 hle3 ⟨h1, h2⟩
  replace h := h.mono hle3
  replace hpl := hpl.mono hle3
  replace hf := hf.mono hle3
  replace hc := hc.mono hle3
  replace hT := hT.mono hle3
  replace hM := hM.mono hle3
  refine sq ?_
  refine sq ?_
  refine rg ?_
  refine q (vMv rfl) rfl ?_
  refine q (vMv rfl) rfl ?_
  refine q (SrcOk.len (srcP hT) Tryz.underlying27 rfl) rfl ?_
  refine q (vLt rfl rfl) rfl ?_
  refine nil ?_
  refine thN ?_
  refine cd rfl (fun hd => ?_) (fun hd => ?_) <;> try simp only [bls, beq_iff_eq, bne_iff_ne, Int.reduceToNat, List.length_map] at hd
  · skip
    have hi : i < T.length := by omega
    refine sk ?_
    refine thN ?_
    refine sq ?_
    refine bk ?_
    refine sq ?_
    refine dr (.take 0 (.take 1 (.take 2 (.take 3 (.take 4 (.take 5 (.one 6 (.take 7 .done)))))))) wide (by decide +kernel) _ _ (.cons T0 .nil) ?_
    refine pT rfl (vLdA ag30 rfl (rB T0 (.z (.c .n))) (by simp)) rfl ?_
    refine pT rfl (vMv rfl) rfl ?_
    refine pT rfl (vMv rfl) rfl ?_
    refine pT rfl (vIxP sl27 rfl rfl hT (by first | omega | (simp only [Int.toNat_natCast, Int.reduceToNat, List.length_append, List.length_cons, List.length_nil, List.length_map, bid_len]; omega) | (simp <;> omega))) rfl ?_
    refine pT rfl (vLdA ag35 rfl (Rd.f1 (rP hT (gm (by first | omega | (simp only [Int.toNat_natCast, Int.reduceToNat, List.length_append, List.length_cons, List.length_nil, List.length_map, bid_len]; omega) | (simp <;> omega))))) (by simp)) rfl ?_
    refine pT rfl (vMv rfl) rfl ?_
    refine pO ?_
    refine opL rfl rfl (call cf70 (Right_spec h hr hF hc _) rfl .nil rfl ?_)
    intro S2 r2 l2 hS2 hp2
    obtain ⟨rfl, rfl⟩ := hp2
    replace h := h.mono hS2
    replace hpl := hpl.mono hS2
    replace hf := hf.mono hS2
    replace hc := hc.mono hS2
    replace hT := hT.mono hS2
    replace hM := hM.mono hS2
    refine pK hS2 (.cons T0 .nil) ?_
    refine pT rfl (vAs rfl) rfl ?_
    refine pDone ?_
    refine thN ?_
    refine sq ?_
    refine rg ?_
    refine q (vMv rfl) rfl ?_
    refine q (vNot rfl) rfl ?_
    refine nil ?_
    refine thN ?_
    refine cd rfl (fun hq => ?_) (fun hq => ?_) <;> try simp only [bls, beq_iff_eq, bne_iff_ne, Int.reduceToNat, List.length_map] at hq
    · skip
      have hno : ¬ ClosedP (texts R) frm cut := fun h9 => by
        have := (hcl.1 h9).1 _ (mem_getD hi)
        rw [rightB_not] at hq
        exact hq this
      refine sq ?_
      refine rg ?_
      refine q (vAs rfl) rfl ?_
      refine nil ?_
      refine thN ?_
      refine rt ?_
      refine bkR ?_
      refine thR ?_
      refine thR ?_
      refine bkR ?_
      refine thR ?_
      refine ret rfl (.t rfl .nil) .nil ⟨by rw [closedB_not.2 hno]; rfl, rfl⟩
    · skip
      have hq' : RightP (texts R) cut (T.getD i default) := by
        rw [← rightB_iff]; simpa using hq
      refine sk ?_
      refine bkN ?_
      refine thN ?_
      refine rg ?_
      refine q (vMv rfl) rfl ?_
      refine q (vAdd rfl rfl (by first | omega | (simp only [Int.toNat_natCast, Int.reduceToNat, List.length_append, List.length_cons, List.length_nil, List.length_map, bid_len]; omega) | (simp <;> omega))) rfl ?_
      refine q (vAs rfl) rfl ?_
      refine nil ?_
      refine thN ?_
      refine back (i + 1) (by assumption) ⟨⟨by omega, below_succ h2 hq'⟩, by omega⟩ (.cons rfl (by first | rfl | simp | (simp <;> omega)) (.cons rfl (by first | rfl | simp | (simp <;> omega)) (.cons rfl (by first | rfl | simp | (simp <;> omega)) (.cons rfl (by first | rfl | simp | (simp <;> omega)) (.cons rfl (by first | rfl | simp | (simp <;> omega)) .nil))))) (.cons T0 (Ent.Le.of (by first | rfl | simp | (simp <;> omega))) .nil)
  · skip
    obtain rfl : i = T.length := by omega
    have hall : AllRight (texts R) cut T := fun x hx => by
      obtain ⟨j, hj, rfl⟩ := getD_mem hx
      exact h2 j hj
    have e1 : decide ((M.length : Int) = 0) = closedB (texts R) frm cut := by
      rw [Bool.eq_iff_iff, decide_eq_true_eq, closedB_iff, hcl]
      constructor
      · intro h9; exact ⟨hall, List.length_eq_zero_iff.1 (by omega)⟩
      · rintro ⟨_, rfl⟩; rfl
    refine xt ?_
    refine thX ?_
    refine thX ?_
    refine bkX ?_
    refine thN ?_
    refine sq ?_
    refine rg ?_
    refine q (vMv rfl) rfl ?_
    refine q (SrcOk.len (srcP hM) Tryz.underlying27 rfl) rfl ?_
    refine q (vEq rfl rfl) rfl ?_
    refine q (vAs rfl) rfl ?_
    refine nil ?_
    refine thN ?_
    refine rt ?_
    refine ret rfl (.t rfl .nil) .nil ⟨by rw [List.length_map, e1]; rfl, rfl⟩
theorem Closed_spec {b : Nat} {v vf vc : Value} {A : List (List UInt8)} {frm cut : List BId} {S : Mem} (hr : Rising (keys A)) (hF : Fine A) (hlen : A.length < 10000) (hf : PSl S vf 32 (frm.map encId)) (hc : PSl S vc 32 (cut.map encId)) (hfl : frm.length < 100000) (hcl : cut.length < 100000) :
    Spec Tryz.prog 18 [ptr b 0, vf, vc] S (stE b v A) (fun S' r L' => r = .int .i64 (if closedB A frm cut then 0 else 7) ∧ L' = stE b v A) := by
  refine enter Tryz.func18 rfl 26 rfl rfl (fun w0 => ?_)
  refine sq ?_
  refine rg ?_
  refine q (vAs rfl) rfl ?_
  refine nil ?_
  refine thN ?_
  refine sq ?_
  refine rg ?_
  refine q (vMv rfl) rfl ?_
  refine q (vMv rfl) rfl ?_
  refine q (vMv rfl) rfl ?_
  refine l rfl (call cf30 (Reach_spec hr hF hlen hf hc hfl hcl) rfl (.cons T0 (.cons T0 .nil)) rfl ?_)
  intro S1 r1 l1 hS1 hp1
  obtain ⟨v1, v2, T, M, rfl, hT, hM, hTo, rfl⟩ := hp1
  replace hf := hf.mono hS1
  replace hc := hc.mono hS1
  have hs1 := hT.sc
  have hs2 := hM.sc
  have hcl2 := hTo.closed hF hr
  have hTl := rising_len hTo
  refine q (vMv rfl) rfl ?_
  refine q (vEx rfl rfl) rfl ?_
  refine q (vEx rfl rfl) rfl ?_
  refine q (vAs rfl) rfl ?_
  refine q (vAs rfl) rfl ?_
  refine nil ?_
  refine thN ?_
  refine sq ?_
  refine sq ?_
  refine rg ?_
  refine q (vMv rfl) rfl ?_
  refine q (SrcOk.len (srcP hM) Tryz.underlying27 rfl) rfl ?_
  refine q (vGt rfl rfl) rfl ?_
  refine q (vMv rfl) rfl ?_
  refine split 19 rfl (fun hb => ?_) (fun hb => ?_)
  · skip
    have hno : ¬ ClosedP A frm cut := fun h9 => by
      have := (hcl2.1 h9).2
      subst this
      simp at hb
    refine qF ⟨_, _, rfl, rfl, rfl⟩ rfl ?_
    refine qF ⟨_, _, rfl, rfl, rfl⟩ rfl ?_
    refine qF ⟨_, _, rfl, rfl, rfl⟩ rfl ?_
    refine qF ⟨_, _, rfl, rfl, rfl⟩ rfl ?_
    refine qF ⟨_, _, rfl, rfl, rfl⟩ rfl ?_
    refine q (vPkT rfl rfl) rfl ?_
    refine nil ?_
    refine thN ?_
    refine cT rfl ?_
    refine sq ?_
    refine rg ?_
    refine q (vAs rfl) rfl ?_
    refine nil ?_
    refine thN ?_
    refine rt ?_
    refine thR ?_
    refine ret rfl (.t rfl .nil) (.t T0 (.t T0 .nil)) ⟨by rw [closedB_not.2 hno]; rfl, rfl⟩
  · skip
    have hM0 : M = [] := List.length_eq_zero_iff.1 (by simpa using hb)
    refine qT ⟨_, rfl, rfl⟩ (vMv rfl) rfl ?_
    refine qT ⟨_, rfl, rfl⟩ (vMv rfl) rfl ?_
    refine qT ⟨_, rfl, rfl⟩ (vMv rfl) rfl ?_
    refine lT rfl ⟨_, rfl, rfl⟩ (call cf69 (right_spec hr hF hlen hT hc (by omega)) rfl (.cons T0 (.cons T0 .nil)) rfl ?_)
    intro S2 r2 l2 hS2 hp2
    obtain ⟨rfl, rfl⟩ := hp2
    replace hf := hf.mono hS2
    replace hc := hc.mono hS2
    replace hT := hT.mono hS2
    replace hM := hM.mono hS2
    have e1 : allRightB A cut T = closedB A frm cut := by
      rw [Bool.eq_iff_iff, closedB_iff, allRightB_iff, hcl2]
      exact ⟨fun h9 => ⟨h9, hM0⟩, fun h9 => h9.1⟩
    rw [e1]
    refine qT ⟨_, rfl, rfl⟩ (vNot rfl) rfl ?_
    refine q (vPkF rfl rfl) rfl ?_
    refine nil ?_
    refine thN ?_
    refine cd rfl (fun hq => ?_) (fun hq => ?_) <;> try simp only [bls, beq_iff_eq, bne_iff_ne, Int.reduceToNat, List.length_map] at hq
    · skip
      refine sq ?_
      refine rg ?_
      refine q (vAs rfl) rfl ?_
      refine nil ?_
      refine thN ?_
      refine rt ?_
      refine thR ?_
      refine ret rfl (.t rfl .nil) (.t T0 (.t T0 .nil)) ⟨by rw [if_neg (by simpa using hq)]; rfl, rfl⟩
    · skip
      refine sk ?_
      refine thN ?_
      refine sq ?_
      refine rg ?_
      refine q (vAs rfl) rfl ?_
      refine nil ?_
      refine thN ?_
      refine rt ?_
      refine ret rfl (.t rfl .nil) (.t T0 (.t T0 .nil)) ⟨by rw [if_pos (by simpa using hq)]; rfl, rfl⟩
end Go.Proofs.YtjmigoikklkfdaaGreatDoor
namespace Go.Proofs.YtjmigoikklkfdaaGreatDoor
open Go
set_option linter.unusedVariables false
set_option linter.unusedSimpArgs false
set_option maxRecDepth 4000
theorem bytes_total : ∀ (x y : List UInt8), (Op.bytesLess x y || x == y) = !Op.bytesLess y x
  | [], [] => by simp [Op.bytesLess]
  | _ :: _, [] => by simp [Op.bytesLess]
  | [], _ :: _ => by simp [Op.bytesLess]
  | a :: x, b :: y => by
    have ih := bytes_total x y
    rw [Bool.eq_iff_iff] at ih ⊢
    simp only [Op.bytesLess, Bool.or_eq_true, Bool.and_eq_true, decide_eq_true_eq, beq_iff_eq, List.cons.injEq, Bool.not_eq_true', Bool.or_eq_false_iff, decide_eq_false_iff_not, Bool.and_eq_false_iff, beq_eq_false_iff_ne, UInt8.lt_iff_toNat_lt] at ih ⊢
    have hab : a = b ↔ a.toNat = b.toNat := UInt8.toNat_inj.symm
    have hba : b = a ↔ b.toNat = a.toNat := UInt8.toNat_inj.symm
    by_cases h : a = b
    · subst h
      simp only [true_and, Nat.lt_irrefl, false_or, not_false_eq_true, ne_eq, not_true_eq_false]
      exact ih
    · rw [Ne, hba]
      have := (not_congr hab).1 h
      simp only [h, false_and, or_false]
      omega
theorem vLeS {P : Program} {S : Mem} {e : Env} {L : List Ent} {ty : TypeId} {x y l m xt yt} (hx : ev e x = some (str l)) (hy : ev e y = some (str m)) : Val P S L e (.binOp .leq xt x y yt) ty (.bool (!Op.bytesLess m l)) :=
  fun a w d pos aft g ha _ => by
    simp [execOp, ha.ev hx, ha.ev hy, eqGuard, binOp, Op.stringOp, ByteArray.toList_mk]
    exact bytes_total l m
def RefName (s : List UInt8) : Prop := (∀ c, c ∈ s → 33 ≤ c.toNat ∧ c.toNat ≤ 126) ∧ 1 ≤ s.length ∧ s.length ≤ 40
instance (s : List UInt8) : Decidable (RefName s) := by unfold RefName; infer_instance
theorem rname_spec (s : List UInt8) (hs : s.length < 4294967296) (S : Mem) : PureL Tryz.prog 117 [str s] S [] (.bool (decide (RefName s))) := by
  refine enter Tryz.func117 rfl 27 rfl rfl (fun w0 => ?_)
  refine sq ?_
  refine rg ?_
  refine q (vAs rfl) rfl ?_
  refine nil ?_
  refine thN ?_
  refine sq ?_
  refine sq ?_
  refine rg ?_
  refine q (vMv rfl) rfl ?_
  refine q (vLenS Tryz.underlying9 rfl) rfl ?_
  refine q (vMv rfl) rfl ?_
  refine nil ?_
  refine thN ?_
  refine bk ?_
  refine loop (ι := Nat) (fun (i : Nat) => [(0, str s), (5, .int .i64 (s.length : Int)), (6, .int .i64 (i : Int))]) (fun (i : Nat) => []) (fun (i : Nat) => fun S' => i ≤ s.length ∧ ∀ j, j < i → 33 ≤ (s.getD j 0).toNat ∧ (s.getD j 0).toNat ≤ 126) (fun (i : Nat) => s.length - i) 0 ⟨Nat.zero_le _, fun j h => absurd h (Nat.not_lt_zero _)⟩ (.cons rfl (by first | rfl | simp | (simp <;> omega)) (.cons rfl (by first | rfl | simp | (simp <;> omega)) (.cons rfl (by first | rfl | simp | (simp <;> omega)) .nil))) .nil ?_
  rintro i S1 hle ⟨h1, h2⟩
  refine sq ?_
  refine rg ?_
  refine q (vLt rfl rfl) rfl ?_
  refine nil ?_
  refine thN ?_
  refine sq ?_
  refine cd rfl (fun hc => ?_) (fun hc => ?_) <;> try simp only [bls, beq_iff_eq, bne_iff_ne, Int.reduceToNat, List.length_map] at hc
  · skip
    have hi : i < s.length := by omega
    refine sk ?_
    refine thN ?_
    refine sq ?_
    refine bk ?_
    refine sq ?_
    refine rg ?_
    refine q (vMv rfl) rfl ?_
    refine q (vAs rfl) rfl ?_
    refine nil ?_
    refine thN ?_
    refine sq ?_
    refine rg ?_
    refine q (vMv rfl) rfl ?_
    refine q (vMv rfl) rfl ?_
    refine q (vIxS Tryz.underlying9 rfl rfl (by first | omega | (simp only [Int.toNat_natCast, Int.reduceToNat, List.length_append, List.length_cons, List.length_nil, List.length_map, bid_len]; omega) | (simp <;> omega))) rfl ?_
    refine q (vLe rfl rfl) rfl ?_
    refine q (vMv rfl) rfl ?_
    apply gOr 13 18 5
    · rfl
    · intro hb1 hX1
      have hc1 := hb1 ; try simp only [bls, beq_iff_eq, bne_iff_ne, Int.reduceToNat, List.length_map] at hc1
      refine qF ⟨_, _, rfl, rfl, rfl⟩ rfl ?_
      refine qF ⟨_, _, rfl, rfl, rfl⟩ rfl ?_
      refine qF ⟨_, _, rfl, rfl, rfl⟩ rfl ?_
      refine qF ⟨_, _, rfl, rfl, rfl⟩ rfl ?_
      refine q (vPkT rfl rfl) rfl ?_
      exact gOT 5 13 rfl rfl rfl rfl hb1 hX1
    · intro hb1 hX1
      have hc1 := hb1 ; try simp only [bls, beq_iff_eq, bne_iff_ne, Int.reduceToNat, List.length_map] at hc1
      refine qT ⟨_, rfl, rfl⟩ (vMv rfl) rfl ?_
      refine qT ⟨_, rfl, rfl⟩ (vMv rfl) rfl ?_
      refine qT ⟨_, rfl, rfl⟩ (vIxS Tryz.underlying9 rfl rfl (by first | omega | (simp only [Int.toNat_natCast, Int.reduceToNat, List.length_append, List.length_cons, List.length_nil, List.length_map, bid_len]; omega) | (simp <;> omega))) rfl ?_
      refine qT ⟨_, rfl, rfl⟩ (vGt rfl rfl) rfl ?_
      refine q (vPkF rfl rfl) rfl ?_
      exact gOF 5 13 rfl rfl rfl rfl hb1 hX1
    refine nil ?_
    refine thN ?_
    refine cd rfl (fun hd => ?_) (fun hd => ?_) <;> try simp only [bls, beq_iff_eq, bne_iff_ne, Int.reduceToNat, List.length_map] at hd
    · skip
      have : ¬ RefName s := fun h => by
        have := (all_ix.1 h.1) i (by omega)
        omega
      refine sq ?_
      refine rg ?_
      refine q (vAs rfl) rfl ?_
      refine nil ?_
      refine thN ?_
      refine rt ?_
      refine bkR ?_
      refine thR ?_
      refine thR ?_
      refine bkR ?_
      refine thR ?_
      refine retP rfl (.t rfl .nil) .nil ⟨by simp [pack, this], rfl, rfl⟩
    · skip
      have h3 : ∀ j, j < i + 1 → 33 ≤ (s.getD j 0).toNat ∧ (s.getD j 0).toNat ≤ 126 := below_succ h2 (by omega)
      refine sk ?_
      refine bkN ?_
      refine thN ?_
      refine rg ?_
      refine q (vAdd rfl rfl (by first | omega | (simp only [Int.toNat_natCast, Int.reduceToNat, List.length_append, List.length_cons, List.length_nil, List.length_map, bid_len]; omega) | (simp <;> omega))) rfl ?_
      refine q (vMv rfl) rfl ?_
      refine nil ?_
      refine thN ?_
      refine back (i + 1) (Le.refl _) ⟨⟨by omega, h3⟩, by omega⟩ (.cons rfl (by first | rfl | simp | (simp <;> omega)) (.cons rfl (by first | rfl | simp | (simp <;> omega)) (.cons rfl (by first | rfl | simp | (simp <;> omega)) .nil))) .nil
  · skip
    obtain rfl : i = s.length := by omega
    have e2 : ∀ c, c ∈ s → 33 ≤ c.toNat ∧ c.toNat ≤ 126 := all_ix.2 h2
    have e3 : (!decide (s = []) && decide ((s.length : Int) ≤ 40)) = decide (RefName s) := by
      have h8 : s = [] ↔ s.length = 0 := List.length_eq_zero_iff.symm
      have h9 : RefName s ↔ (¬ s.length = 0 ∧ s.length ≤ 40) := ⟨fun ⟨_, h3, h4⟩ => ⟨by omega, h4⟩, fun ⟨h3, h4⟩ => ⟨e2, by omega, h4⟩⟩
      rw [Bool.eq_iff_iff, decide_eq_true_eq, h9]
      simp only [Bool.and_eq_true, Bool.not_eq_true', decide_eq_false_iff_not, decide_eq_true_eq, h8]
      omega
    refine xt ?_
    refine thX ?_
    refine thX ?_
    refine bkX ?_
    refine thN ?_
    refine sq ?_
    refine rg ?_
    refine q (vMv rfl) rfl ?_
    refine q (vNeS rfl rfl) rfl ?_
    refine q (vMv rfl) rfl ?_
    apply gAnd 22 26 4
    · rfl
    · intro hb2 hX2
      have hc2 := hb2 ; try simp only [bls, beq_iff_eq, bne_iff_ne, Int.reduceToNat, List.length_map] at hc2
      refine qT ⟨_, rfl, rfl⟩ (vMv rfl) rfl ?_
      refine qT ⟨_, rfl, rfl⟩ (vLenS Tryz.underlying9 rfl) rfl ?_
      refine qT ⟨_, rfl, rfl⟩ (vLe rfl rfl) rfl ?_
      refine q (vPkT rfl rfl) rfl ?_
      exact gTT 4 22 rfl rfl rfl rfl hb2 hX2
    · intro hb2 hX2
      have hc2 := hb2 ; try simp only [bls, beq_iff_eq, bne_iff_ne, Int.reduceToNat, List.length_map] at hc2
      refine qF ⟨_, _, rfl, rfl, rfl⟩ rfl ?_
      refine qF ⟨_, _, rfl, rfl, rfl⟩ rfl ?_
      refine qF ⟨_, _, rfl, rfl, rfl⟩ rfl ?_
      refine q (vPkF rfl rfl) rfl ?_
      exact gTF 4 22 rfl rfl rfl rfl hb2 hX2
    refine q (vAs rfl) rfl ?_
    refine nil ?_
    refine thN ?_
    refine rt ?_
    refine retP rfl (.t rfl .nil) .nil ⟨by rw [e3]; rfl, rfl, rfl⟩
theorem ref_rname_spec (s : List UInt8) (hs : s.length < 4294967296) (S : Mem) : PureL Tryz.prog 120 [str s] S [] (.bool (decide (RefName s))) := by
  refine enter Tryz.func120 rfl 28 rfl rfl (fun w0 => ?_)
  refine sq ?_
  refine rg ?_
  refine q (vAs rfl) rfl ?_
  refine nil ?_
  refine thN ?_
  refine sq ?_
  refine sq ?_
  refine rg ?_
  refine q (vMv rfl) rfl ?_
  refine q (vLenS Tryz.underlying9 rfl) rfl ?_
  refine q (vLt rfl rfl) rfl ?_
  refine q (vMv rfl) rfl ?_
  apply gOr 7 11 4
  · rfl
  · intro hb1 hX1
    have hc1 := hb1 ; try simp only [bls, beq_iff_eq, bne_iff_ne, Int.reduceToNat, List.length_map] at hc1
    refine qF ⟨_, _, rfl, rfl, rfl⟩ rfl ?_
    refine qF ⟨_, _, rfl, rfl, rfl⟩ rfl ?_
    refine qF ⟨_, _, rfl, rfl, rfl⟩ rfl ?_
    refine q (vPkT rfl rfl) rfl ?_
    exact gOT 4 7 rfl rfl rfl rfl hb1 hX1
  · intro hb1 hX1
    have hc1 := hb1 ; try simp only [bls, beq_iff_eq, bne_iff_ne, Int.reduceToNat, List.length_map] at hc1
    refine qT ⟨_, rfl, rfl⟩ (vMv rfl) rfl ?_
    refine qT ⟨_, rfl, rfl⟩ (vLenS Tryz.underlying9 rfl) rfl ?_
    refine qT ⟨_, rfl, rfl⟩ (vGt rfl rfl) rfl ?_
    refine q (vPkF rfl rfl) rfl ?_
    exact gOF 4 7 rfl rfl rfl rfl hb1 hX1
  refine nil ?_
  refine thN ?_
  refine cd rfl (fun hd => ?_) (fun hd => ?_) <;> try simp only [bls, beq_iff_eq, bne_iff_ne, Int.reduceToNat, List.length_map] at hd
  · skip
    have : ¬ RefName s := fun h => by
      obtain ⟨h1, h2, h3⟩ := h
      omega
    refine sq ?_
    refine rg ?_
    refine q (vAs rfl) rfl ?_
    refine nil ?_
    refine thN ?_
    refine rt ?_
    refine thR ?_
    refine retP rfl (.t rfl .nil) .nil ⟨by simp [pack, this], rfl, rfl⟩
  · skip
    refine sk ?_
    refine thN ?_
    refine sq ?_
    refine sq ?_
    refine rg ?_
    refine q (vAs rfl) rfl ?_
    refine nil ?_
    refine thN ?_
    refine bk ?_
    refine loop (ι := Nat) (fun (i : Nat) => [(0, str s), (3, .int .i64 (i : Int))]) (fun (i : Nat) => []) (fun (i : Nat) => fun S' => i ≤ s.length ∧ ∀ j, j < i → 33 ≤ (s.getD j 0).toNat ∧ (s.getD j 0).toNat ≤ 126) (fun (i : Nat) => s.length - i) 0 ⟨Nat.zero_le _, fun j h => absurd h (Nat.not_lt_zero _)⟩ (.cons rfl (by first | rfl | simp | (simp <;> omega)) (.cons rfl (by first | rfl | simp | (simp <;> omega)) .nil)) .nil ?_
    rintro i S1 hle ⟨h1, h2⟩
    refine sq ?_
    refine sq ?_
    refine rg ?_
    refine q (vMv rfl) rfl ?_
    refine q (vMv rfl) rfl ?_
    refine q (vLenS Tryz.underlying9 rfl) rfl ?_
    refine q (vLt rfl rfl) rfl ?_
    refine nil ?_
    refine thN ?_
    refine cd rfl (fun hc => ?_) (fun hc => ?_) <;> try simp only [bls, beq_iff_eq, bne_iff_ne, Int.reduceToNat, List.length_map] at hc
    · skip
      have hi : i < s.length := by omega
      refine sk ?_
      refine thN ?_
      refine sq ?_
      refine bk ?_
      refine sq ?_
      refine rg ?_
      refine q (vMv rfl) rfl ?_
      refine q (vMv rfl) rfl ?_
      refine q (vIxS Tryz.underlying9 rfl rfl (by first | omega | (simp only [Int.toNat_natCast, Int.reduceToNat, List.length_append, List.length_cons, List.length_nil, List.length_map, bid_len]; omega) | (simp <;> omega))) rfl ?_
      refine q (vLt rfl rfl) rfl ?_
      refine q (vMv rfl) rfl ?_
      apply gOr 22 27 5
      · rfl
      · intro hb2 hX2
        have hc2 := hb2 ; try simp only [bls, beq_iff_eq, bne_iff_ne, Int.reduceToNat, List.length_map] at hc2
        refine qF ⟨_, _, rfl, rfl, rfl⟩ rfl ?_
        refine qF ⟨_, _, rfl, rfl, rfl⟩ rfl ?_
        refine qF ⟨_, _, rfl, rfl, rfl⟩ rfl ?_
        refine qF ⟨_, _, rfl, rfl, rfl⟩ rfl ?_
        refine q (vPkT rfl rfl) rfl ?_
        exact gOT 5 22 rfl rfl rfl rfl hb2 hX2
      · intro hb2 hX2
        have hc2 := hb2 ; try simp only [bls, beq_iff_eq, bne_iff_ne, Int.reduceToNat, List.length_map] at hc2
        refine qT ⟨_, rfl, rfl⟩ (vMv rfl) rfl ?_
        refine qT ⟨_, rfl, rfl⟩ (vMv rfl) rfl ?_
        refine qT ⟨_, rfl, rfl⟩ (vIxS Tryz.underlying9 rfl rfl (by first | omega | (simp only [Int.toNat_natCast, Int.reduceToNat, List.length_append, List.length_cons, List.length_nil, List.length_map, bid_len]; omega) | (simp <;> omega))) rfl ?_
        refine qT ⟨_, rfl, rfl⟩ (vGt rfl rfl) rfl ?_
        refine q (vPkF rfl rfl) rfl ?_
        exact gOF 5 22 rfl rfl rfl rfl hb2 hX2
      refine nil ?_
      refine thN ?_
      refine cd rfl (fun hd => ?_) (fun hd => ?_) <;> try simp only [bls, beq_iff_eq, bne_iff_ne, Int.reduceToNat, List.length_map] at hd
      · skip
        have : ¬ RefName s := fun h => by
          have := (all_ix.1 h.1) i (by omega)
          omega
        refine sq ?_
        refine rg ?_
        refine q (vAs rfl) rfl ?_
        refine nil ?_
        refine thN ?_
        refine rt ?_
        refine bkR ?_
        refine thR ?_
        refine thR ?_
        refine bkR ?_
        refine thR ?_
        refine retP rfl (.t rfl .nil) .nil ⟨by simp [pack, this], rfl, rfl⟩
      · skip
        have h3 : ∀ j, j < i + 1 → 33 ≤ (s.getD j 0).toNat ∧ (s.getD j 0).toNat ≤ 126 := below_succ h2 (by omega)
        refine sk ?_
        refine bkN ?_
        refine thN ?_
        refine rg ?_
        refine q (vMv rfl) rfl ?_
        refine q (vAdd rfl rfl (by first | omega | (simp only [Int.toNat_natCast, Int.reduceToNat, List.length_append, List.length_cons, List.length_nil, List.length_map, bid_len]; omega) | (simp <;> omega))) rfl ?_
        refine q (vAs rfl) rfl ?_
        refine nil ?_
        refine thN ?_
        refine back (i + 1) (Le.refl _) ⟨⟨by omega, h3⟩, by omega⟩ (.cons rfl (by first | rfl | simp | (simp <;> omega)) (.cons rfl (by first | rfl | simp | (simp <;> omega)) .nil)) .nil
    · skip
      obtain rfl : i = s.length := by omega
      have e2 : RefName s := ⟨all_ix.2 h2, by omega, by omega⟩
      refine xt ?_
      refine thX ?_
      refine thX ?_
      refine bkX ?_
      refine thN ?_
      refine sq ?_
      refine rg ?_
      refine q (vAs rfl) rfl ?_
      refine nil ?_
      refine thN ?_
      refine rt ?_
      refine retP rfl (.t rfl .nil) .nil ⟨by simp [pack, e2], rfl, rfl⟩
theorem none_spec (x : BId) (S : Mem) : PureL Tryz.prog 118 [idv x] S [] (.bool (decide (x = zid))) := by
  refine enter Tryz.func118 rfl 6 rfl rfl (fun w0 => ?_)
  refine sq ?_
  refine rg ?_
  refine l rfl (box rfl rfl ?_)
  intro B1
  refine q (vAs rfl) rfl ?_
  refine nil ?_
  refine thN ?_
  refine sq ?_
  refine rg ?_
  refine q (vLdA ag35 rfl (rB T0 (.z (.c .n))) (by simp)) rfl ?_
  refine q (vBuildA0 ze35 ar35) rfl ?_
  refine q (vEqA id35 rfl rfl) rfl ?_
  refine q (vAs rfl) rfl ?_
  refine nil ?_
  refine thN ?_
  refine rt ?_
  refine retP rfl (.t rfl .nil) .nil ⟨rfl, rfl, rfl⟩
structure DRef where
  name : List UInt8
  id : BId
instance : Inhabited DRef := ⟨⟨[], zid⟩⟩
abbrev encRf (x : DRef) : List Value := [[str x.name], encId x.id].flatten
def RefOk (l : List DRef) (i : Nat) : Prop := RefName (l.getD i default).name ∧ (l.getD i default).id ≠ zid ∧ (0 < i → Op.bytesLess (l.getD (i - 1) default).name (l.getD i default).name = true)
def RefsP (l : List DRef) : Prop := l.length ≤ 64 ∧ ∀ i, i < l.length → RefOk l i
noncomputable def refsB (l : List DRef) : Bool := @decide (RefsP l) (Classical.propDecidable _)
theorem refsB_iff {l : List DRef} : refsB l = true ↔ RefsP l := by simp [refsB]
theorem refsB_not {l : List DRef} : refsB l = false ↔ ¬ RefsP l := by simp [refsB]
theorem getD_memR {l : List DRef} {i : Nat} (h : i < l.length) : l.getD i default ∈ l := by rw [List.getD_eq_getElem?_getD, List.getElem?_eq_getElem h]; exact List.getElem_mem h
theorem refs_spec {v : Value} {rf : List DRef} {S : Mem} (hl : PSl S v 33 (rf.map encRf)) (hn : ∀ r, r ∈ rf → r.name.length < 4294967296) (hlen : rf.length < 1073741824) : PureL Tryz.prog 71 [v] S [] (.bool (refsB rf)) := by
  have hsc := hl.sc
  refine enter Tryz.func71 rfl 40 rfl rfl (fun w0 => ?_)
  refine sq ?_
  refine rg ?_
  refine q (vAs rfl) rfl ?_
  refine nil ?_
  refine thN ?_
  refine sq ?_
  refine sq ?_
  refine rg ?_
  refine q (vMv rfl) rfl ?_
  refine q (SrcOk.len (srcP hl) Tryz.underlying26 rfl) rfl ?_
  refine q (vMv rfl) rfl ?_
  refine nil ?_
  refine thN ?_
  refine bk ?_
  refine loop (ι := Nat) (fun (i : Nat) => [(0, v), (5, v), (6, .int .i64 (rf.length : Int)), (7, .int .i64 (i : Int))]) (fun (i : Nat) => []) (fun (i : Nat) => fun S' => i ≤ rf.length ∧ ∀ j, j < i → RefOk rf j) (fun (i : Nat) => rf.length - i) 0 ⟨Nat.zero_le _, fun j h => absurd h (Nat.not_lt_zero _)⟩ (.cons rfl (by first | rfl | simp | (simp <;> omega)) (.cons rfl (by first | rfl | simp | (simp <;> omega)) (.cons rfl (by first | rfl | simp | (simp <;> omega)) (.cons rfl (by first | rfl | simp | (simp <;> omega)) .nil)))) .nil ?_
  rintro i S2 hle2 ⟨h5, h6⟩
  replace hl := hl.mono hle2
  refine sq ?_
  refine rg ?_
  refine q (vLt rfl rfl) rfl ?_
  refine nil ?_
  refine thN ?_
  refine sq ?_
  refine cd rfl (fun hj => ?_) (fun hj => ?_) <;> try simp only [bls, beq_iff_eq, bne_iff_ne, Int.reduceToNat, List.length_map] at hj
  · skip
    have hi : i < rf.length := by omega
    have hni := hn _ (getD_memR hi)
    refine sk ?_
    refine thN ?_
    refine sq ?_
    refine bk ?_
    refine sq ?_
    refine rg ?_
    refine q (vMv rfl) rfl ?_
    refine q (vIxP sl26 rfl rfl hl (by first | omega | (simp only [Int.toNat_natCast, Int.reduceToNat, List.length_append, List.length_cons, List.length_nil, List.length_map, bid_len]; omega) | (simp <;> omega))) rfl ?_
    refine q (vLdA ag37 rfl (rP hl (gm (by first | omega | (simp only [Int.toNat_natCast, Int.reduceToNat, List.length_append, List.length_cons, List.length_nil, List.length_map, bid_len]; omega) | (simp <;> omega)))) (by simp)) rfl ?_
    refine l rfl (alloc ze37 rfl ?_)
    intro B4
    refine q (vAs rfl) rfl ?_
    refine l rfl (store sz37 rfl rfl T0 (by simp) (.z (.c inferInstance inferInstance (.c inferInstance inferInstance .n))) ?_)
    refine nil ?_
    refine thN ?_
    refine sq ?_
    refine dr (.take 0 (.take 1 (.one 2 (.take 3 (.take 4 (.take 5 (.take 6 (.one 7 (.take 8 (.take 9 (.take 10 (.take 11 (.take 12 (.take 13 (.take 14 (.take 15 (.take 16 (.take 17 (.take 18 (.take 19 (.take 20 (.take 21 (.take 22 (.take 23 .done)))))))))))))))))))))))) wide (by decide +kernel) _ _ (.cons T0 .nil) ?_
    refine pT rfl (vFa fa37_0 rfl) rfl ?_
    refine pT rfl (vLd sc9 rfl (rB1 T0 (.z (.c .n)))) rfl ?_
    refine pO ?_
    refine opL rfl rfl (callP cf117 (rname_spec _ (by first | omega | (simp only [Int.toNat_natCast, Int.reduceToNat, List.length_append, List.length_cons, List.length_nil, List.length_map, bid_len]; omega) | (simp <;> omega)) _) rfl .nil rfl ?_)
    refine pK (Le.refl _) (.cons T0 .nil) ?_
    refine pT rfl (vNot rfl) rfl ?_
    refine pT rfl (vMv rfl) rfl ?_
    apply pOr 16 20 4
    · rfl
    · intro hb1 hX1
      have hc1 := hb1 ; try simp only [bls, beq_iff_eq, bne_iff_ne, Int.reduceToNat, List.length_map] at hc1
      refine pTF rfl ⟨_, _, rfl, rfl, rfl⟩ rfl ?_
      refine pTF rfl ⟨_, _, rfl, rfl, rfl⟩ rfl ?_
      refine pO ?_
      refine opF rfl ⟨_, _, rfl, rfl, rfl⟩ rfl ?_
      refine pK (Le.refl _) (.cons T0 .nil) ?_
      refine pT rfl (vPkT rfl rfl) rfl ?_
      exact gOT 4 16 rfl rfl rfl rfl hb1 hX1
    · intro hb1 hX1
      have hc1 := hb1 ; try simp only [bls, beq_iff_eq, bne_iff_ne, Int.reduceToNat, List.length_map] at hc1
      refine pTT rfl ⟨_, rfl, rfl⟩ (vFa fa37_1 rfl) rfl ?_
      refine pTT rfl ⟨_, rfl, rfl⟩ (vLdA ag35 rfl (rB T0 (.s (.z (.c .n)))) (by simp)) rfl ?_
      refine pO ?_
      refine opT rfl rfl ⟨_, rfl, rfl⟩ (callP cf118 (none_spec _ _) rfl .nil rfl ?_)
      refine pK (Le.refl _) (.cons T0 .nil) ?_
      refine pT rfl (vPkF rfl rfl) rfl ?_
      exact gOF 4 16 rfl rfl rfl rfl hb1 hX1
    refine pT rfl (vMv rfl) rfl ?_
    apply pOr 21 35 14
    · rfl
    · intro hb2 hX2
      have hc2 := hb2 ; try simp only [bls, beq_iff_eq, bne_iff_ne, Int.reduceToNat, List.length_map] at hc2
      refine pTF rfl ⟨_, _, rfl, rfl, rfl⟩ rfl ?_
      refine pTF rfl ⟨_, _, rfl, rfl, rfl⟩ rfl ?_
      refine pTF rfl ⟨_, _, rfl, rfl, rfl⟩ rfl ?_
      refine pTF rfl ⟨_, _, rfl, rfl, rfl⟩ rfl ?_
      refine pTF rfl ⟨_, _, rfl, rfl, rfl⟩ rfl ?_
      refine pTF rfl ⟨_, _, rfl, rfl, rfl⟩ rfl ?_
      refine pTF rfl ⟨_, _, rfl, rfl, rfl⟩ rfl ?_
      refine pTF rfl ⟨_, _, rfl, rfl, rfl⟩ rfl ?_
      refine pTF rfl ⟨_, _, rfl, rfl, rfl⟩ rfl ?_
      refine pTF rfl ⟨_, _, rfl, rfl, rfl⟩ rfl ?_
      refine pTF rfl ⟨_, _, rfl, rfl, rfl⟩ rfl ?_
      refine pTF rfl ⟨_, _, rfl, rfl, rfl⟩ rfl ?_
      refine pTF rfl ⟨_, _, rfl, rfl, rfl⟩ rfl ?_
      refine pT rfl (vPkT rfl rfl) rfl ?_
      exact gOT 14 21 rfl rfl rfl rfl hb2 hX2
    · intro hb2 hX2
      have hc2 := hb2 ; try simp only [bls, beq_iff_eq, bne_iff_ne, Int.reduceToNat, List.length_map] at hc2
      refine pTT rfl ⟨_, rfl, rfl⟩ (vMv rfl) rfl ?_
      refine pTT rfl ⟨_, rfl, rfl⟩ (vGt rfl rfl) rfl ?_
      refine pTT rfl ⟨_, rfl, rfl⟩ (vMv rfl) rfl ?_
      apply pAnd 24 34 10
      · rfl
      · intro hb3 hX3
        have hc3 := hb3 ; try simp only [bls, beq_iff_eq, bne_iff_ne, Int.reduceToNat, List.length_map] at hc3
        refine pTT rfl ⟨_, rfl, rfl⟩ (vMv rfl) rfl ?_
        refine pTT rfl ⟨_, rfl, rfl⟩ (vMv rfl) rfl ?_
        refine pTT rfl ⟨_, rfl, rfl⟩ (vSub rfl rfl (by first | omega | (simp only [Int.toNat_natCast, Int.reduceToNat, List.length_append, List.length_cons, List.length_nil, List.length_map, bid_len]; omega) | (simp <;> omega))) rfl ?_
        refine pTT rfl ⟨_, rfl, rfl⟩ (vIxP sl26 rfl rfl hl (by first | omega | (simp only [Int.toNat_natCast, Int.reduceToNat, List.length_append, List.length_cons, List.length_nil, List.length_map, bid_len]; omega) | (simp <;> omega))) rfl ?_
        refine pTT rfl ⟨_, rfl, rfl⟩ (vFp fa37_0 rfl (rP hl (gm (by first | omega | (simp only [Int.toNat_natCast, Int.reduceToNat, List.length_append, List.length_cons, List.length_nil, List.length_map, bid_len]; omega) | (simp <;> omega))))) rfl ?_
        refine pTT rfl ⟨_, rfl, rfl⟩ (vLd sc9 rfl (Rd.at1 (rP hl (gm (by first | omega | (simp only [Int.toNat_natCast, Int.reduceToNat, List.length_append, List.length_cons, List.length_nil, List.length_map, bid_len]; omega) | (simp <;> omega)))) (.z (.c .n)))) rfl ?_
        refine pTT rfl ⟨_, rfl, rfl⟩ (vFa fa37_0 rfl) rfl ?_
        refine pTT rfl ⟨_, rfl, rfl⟩ (vLd sc9 rfl (rB1 T0 (.z (.c .n)))) rfl ?_
        refine pTT rfl ⟨_, rfl, rfl⟩ (vGeS rfl rfl) rfl ?_
        refine pTT rfl ⟨_, rfl, rfl⟩ (vPkT rfl rfl) rfl ?_
        exact gTT 10 24 rfl rfl rfl rfl hb3 hX3
      · intro hb3 hX3
        have hc3 := hb3 ; try simp only [bls, beq_iff_eq, bne_iff_ne, Int.reduceToNat, List.length_map] at hc3
        refine pTF rfl ⟨_, _, rfl, rfl, rfl⟩ rfl ?_
        refine pTF rfl ⟨_, _, rfl, rfl, rfl⟩ rfl ?_
        refine pTF rfl ⟨_, _, rfl, rfl, rfl⟩ rfl ?_
        refine pTF rfl ⟨_, _, rfl, rfl, rfl⟩ rfl ?_
        refine pTF rfl ⟨_, _, rfl, rfl, rfl⟩ rfl ?_
        refine pTF rfl ⟨_, _, rfl, rfl, rfl⟩ rfl ?_
        refine pTF rfl ⟨_, _, rfl, rfl, rfl⟩ rfl ?_
        refine pTF rfl ⟨_, _, rfl, rfl, rfl⟩ rfl ?_
        refine pTF rfl ⟨_, _, rfl, rfl, rfl⟩ rfl ?_
        refine pTT rfl ⟨_, rfl, rfl⟩ (vPkF rfl rfl) rfl ?_
        exact gTF 10 24 rfl rfl rfl rfl hb3 hX3
      refine pT rfl (vPkF rfl rfl) rfl ?_
      exact gOF 5 21 rfl rfl rfl rfl hb2 hX2
    refine pDone ?_
    refine thN ?_
    refine cd rfl (fun hk => ?_) (fun hk => ?_) <;> try simp only [bls, beq_iff_eq, bne_iff_ne, Int.reduceToNat, List.length_map] at hk
    · skip
      have hno : ¬ RefsP rf := fun h9 => by
        obtain ⟨k1, k2, k3⟩ := h9.2 i hi
        rcases hk with (hk | hk) | hk
        · exact hk k1
        · exact k2 hk
        · have k3 := k3 (by omega)
          have e1 : ((i : Int) - 1).toNat = i - 1 := by omega
          simp [e1] at hk k3
          simp [k3] at hk
      refine sq ?_
      refine rg ?_
      refine q (vAs rfl) rfl ?_
      refine nil ?_
      refine thN ?_
      refine rt ?_
      refine bkR ?_
      refine thR ?_
      refine thR ?_
      refine bkR ?_
      refine thR ?_
      refine retP rfl (.t rfl .nil) .nil ⟨by rw [refsB_not.2 hno]; rfl, rfl, rfl⟩
    · skip
      have hok : RefOk rf i := by
        refine ⟨hk.1.1, hk.1.2, fun h0 => ?_⟩
        have e1 : ((i : Int) - 1).toNat = i - 1 := by omega
        simp [e1] at hk ⊢
        exact hk.2.resolve_left (by omega)
      refine sk ?_
      refine bkN ?_
      refine thN ?_
      refine rg ?_
      refine q (vAdd rfl rfl (by first | omega | (simp only [Int.toNat_natCast, Int.reduceToNat, List.length_append, List.length_cons, List.length_nil, List.length_map, bid_len]; omega) | (simp <;> omega))) rfl ?_
      refine q (vMv rfl) rfl ?_
      refine nil ?_
      refine thN ?_
      refine back (i + 1) (Le.refl _) ⟨⟨by omega, below_succ h6 hok⟩, by omega⟩ (.cons rfl (by first | rfl | simp | (simp <;> omega)) (.cons rfl (by first | rfl | simp | (simp <;> omega)) (.cons rfl (by first | rfl | simp | (simp <;> omega)) (.cons rfl (by first | rfl | simp | (simp <;> omega)) .nil)))) .nil
  · skip
    obtain rfl : i = rf.length := by omega
    have e1 : decide ((rf.length : Int) ≤ 64) = refsB rf := by
      rw [Bool.eq_iff_iff, decide_eq_true_eq, refsB_iff, RefsP]
      exact ⟨fun h9 => ⟨by omega, h6⟩, fun h9 => by have := h9.1; omega⟩
    refine xt ?_
    refine thX ?_
    refine thX ?_
    refine bkX ?_
    refine thN ?_
    refine sq ?_
    refine rg ?_
    refine q (vMv rfl) rfl ?_
    refine q (SrcOk.len (srcP hl) Tryz.underlying26 rfl) rfl ?_
    refine q (vLe rfl rfl) rfl ?_
    refine q (vAs rfl) rfl ?_
    refine nil ?_
    refine thN ?_
    refine rt ?_
    refine retP rfl (.t rfl .nil) .nil ⟨by rw [List.length_map, e1]; rfl, rfl, rfl⟩
theorem ref_refs_spec {v : Value} {rf : List DRef} {S : Mem} (hl : PSl S v 33 (rf.map encRf)) (hn : ∀ r, r ∈ rf → r.name.length < 4294967296) (hlen : rf.length < 1073741824) : PureL Tryz.prog 75 [v] S [] (.bool (refsB rf)) := by
  have hsc := hl.sc
  refine enter Tryz.func75 rfl 47 rfl rfl (fun w0 => ?_)
  refine sq ?_
  refine rg ?_
  refine q (vAs rfl) rfl ?_
  refine nil ?_
  refine thN ?_
  refine sq ?_
  refine sq ?_
  refine rg ?_
  refine q (vMv rfl) rfl ?_
  refine q (SrcOk.len (srcP hl) Tryz.underlying26 rfl) rfl ?_
  refine q (vGt rfl rfl) rfl ?_
  refine nil ?_
  refine thN ?_
  refine cd rfl (fun hd => ?_) (fun hd => ?_) <;> try simp only [bls, beq_iff_eq, bne_iff_ne, Int.reduceToNat, List.length_map] at hd
  · skip
    have : ¬ RefsP rf := fun h => by have := h.1; omega
    refine sq ?_
    refine rg ?_
    refine q (vAs rfl) rfl ?_
    refine nil ?_
    refine thN ?_
    refine rt ?_
    refine thR ?_
    refine retP rfl (.t rfl .nil) .nil ⟨by rw [refsB_not.2 this]; rfl, rfl, rfl⟩
  · skip
    refine sk ?_
    refine thN ?_
    refine sq ?_
    refine sq ?_
    refine rg ?_
    refine q (vAs rfl) rfl ?_
    refine nil ?_
    refine thN ?_
    refine bk ?_
    refine loop (ι := Nat) (fun (i : Nat) => [(0, v), (3, .int .i64 (i : Int))]) (fun (i : Nat) => []) (fun (i : Nat) => fun S' => i ≤ rf.length ∧ ∀ j, j < i → RefOk rf j) (fun (i : Nat) => rf.length - i) 0 ⟨Nat.zero_le _, fun j h => absurd h (Nat.not_lt_zero _)⟩ (.cons rfl (by first | rfl | simp | (simp <;> omega)) (.cons rfl (by first | rfl | simp | (simp <;> omega)) .nil)) .nil ?_
    rintro i S2 hle2 ⟨h5, h6⟩
    replace hl := hl.mono hle2
    refine sq ?_
    refine sq ?_
    refine rg ?_
    refine q (vMv rfl) rfl ?_
    refine q (vMv rfl) rfl ?_
    refine q (SrcOk.len (srcP hl) Tryz.underlying26 rfl) rfl ?_
    refine q (vLt rfl rfl) rfl ?_
    refine nil ?_
    refine thN ?_
    refine cd rfl (fun hj => ?_) (fun hj => ?_) <;> try simp only [bls, beq_iff_eq, bne_iff_ne, Int.reduceToNat, List.length_map] at hj
    · skip
      have hi : i < rf.length := by omega
      have hni := hn _ (getD_memR hi)
      refine sk ?_
      refine thN ?_
      refine sq ?_
      refine bk ?_
      refine sq ?_
      refine rg ?_
      refine q (vMv rfl) rfl ?_
      refine q (vMv rfl) rfl ?_
      refine q (vIxP sl26 rfl rfl hl (by first | omega | (simp only [Int.toNat_natCast, Int.reduceToNat, List.length_append, List.length_cons, List.length_nil, List.length_map, bid_len]; omega) | (simp <;> omega))) rfl ?_
      refine q (vFp fa37_0 rfl (rP hl (gm (by first | omega | (simp only [Int.toNat_natCast, Int.reduceToNat, List.length_append, List.length_cons, List.length_nil, List.length_map, bid_len]; omega) | (simp <;> omega))))) rfl ?_
      refine q (vLd sc9 rfl (Rd.at1 (rP hl (gm (by first | omega | (simp only [Int.toNat_natCast, Int.reduceToNat, List.length_append, List.length_cons, List.length_nil, List.length_map, bid_len]; omega) | (simp <;> omega)))) (.z (.c .n)))) rfl ?_
      refine l rfl (callP cf120 (ref_rname_spec _ (by first | omega | (simp only [Int.toNat_natCast, Int.reduceToNat, List.length_append, List.length_cons, List.length_nil, List.length_map, bid_len]; omega) | (simp <;> omega)) _) rfl .nil rfl ?_)
      refine q (vAs rfl) rfl ?_
      refine nil ?_
      refine thN ?_
      refine sq ?_
      refine sq ?_
      refine rg ?_
      refine q (vMv rfl) rfl ?_
      refine q (vNot rfl) rfl ?_
      refine q (vMv rfl) rfl ?_
      apply gOr 22 30 8
      · rfl
      · intro hb1 hX1
        have hc1 := hb1 ; try simp only [bls, beq_iff_eq, bne_iff_ne, Int.reduceToNat, List.length_map] at hc1
        refine qF ⟨_, _, rfl, rfl, rfl⟩ rfl ?_
        refine qF ⟨_, _, rfl, rfl, rfl⟩ rfl ?_
        refine qF ⟨_, _, rfl, rfl, rfl⟩ rfl ?_
        refine qF ⟨_, _, rfl, rfl, rfl⟩ rfl ?_
        refine qF ⟨_, _, rfl, rfl, rfl⟩ rfl ?_
        refine qF ⟨_, _, rfl, rfl, rfl⟩ rfl ?_
        refine qF ⟨_, _, rfl, rfl, rfl⟩ rfl ?_
        refine q (vPkT rfl rfl) rfl ?_
        exact gOT 8 22 rfl rfl rfl rfl hb1 hX1
      · intro hb1 hX1
        have hc1 := hb1 ; try simp only [bls, beq_iff_eq, bne_iff_ne, Int.reduceToNat, List.length_map] at hc1
        refine qT ⟨_, rfl, rfl⟩ (vMv rfl) rfl ?_
        refine qT ⟨_, rfl, rfl⟩ (vMv rfl) rfl ?_
        refine qT ⟨_, rfl, rfl⟩ (vIxP sl26 rfl rfl hl (by first | omega | (simp only [Int.toNat_natCast, Int.reduceToNat, List.length_append, List.length_cons, List.length_nil, List.length_map, bid_len]; omega) | (simp <;> omega))) rfl ?_
        refine qT ⟨_, rfl, rfl⟩ (vFp fa37_1 rfl (rP hl (gm (by first | omega | (simp only [Int.toNat_natCast, Int.reduceToNat, List.length_append, List.length_cons, List.length_nil, List.length_map, bid_len]; omega) | (simp <;> omega))))) rfl ?_
        refine qT ⟨_, rfl, rfl⟩ (vLdA ag35 rfl (Rd.at (rP hl (gm (by first | omega | (simp only [Int.toNat_natCast, Int.reduceToNat, List.length_append, List.length_cons, List.length_nil, List.length_map, bid_len]; omega) | (simp <;> omega)))) (.s (.z (.c .n)))) (by simp)) rfl ?_
        refine qT ⟨_, rfl, rfl⟩ (vBuildA0 ze35 ar35) rfl ?_
        refine qT ⟨_, rfl, rfl⟩ (vEqA id35 rfl rfl) rfl ?_
        refine q (vPkF rfl rfl) rfl ?_
        exact gOF 8 22 rfl rfl rfl rfl hb1 hX1
      refine nil ?_
      refine thN ?_
      refine cd rfl (fun hk => ?_) (fun hk => ?_) <;> try simp only [bls, beq_iff_eq, bne_iff_ne, Int.reduceToNat, List.length_map] at hk
      · skip
        have hno : ¬ RefsP rf := fun h9 => by
          obtain ⟨k1, k2, k3⟩ := h9.2 i hi
          rcases hk with hk | hk
          · exact hk k1
          · exact k2 hk
        refine sq ?_
        refine rg ?_
        refine q (vAs rfl) rfl ?_
        refine nil ?_
        refine thN ?_
        refine rt ?_
        refine thR ?_
        refine bkR ?_
        refine thR ?_
        refine thR ?_
        refine bkR ?_
        refine thR ?_
        refine retP rfl (.t rfl .nil) .nil ⟨by rw [refsB_not.2 hno]; rfl, rfl, rfl⟩
      · skip
        refine sk ?_
        refine thN ?_
        refine sq ?_
        refine dr (.take 0 (.take 1 (.take 2 (.take 3 (.take 4 (.take 5 (.take 6 (.take 7 (.take 8 (.take 9 (.take 10 (.take 11 (.take 12 (.take 13 (.take 14 (.take 15 .done)))))))))))))))) wide (by decide +kernel) _ _ .nil ?_
        refine pT rfl (vMv rfl) rfl ?_
        refine pT rfl (vGt rfl rfl) rfl ?_
        refine pT rfl (vMv rfl) rfl ?_
        apply pAnd 33 46 13
        · rfl
        · intro hb2 hX2
          have hc2 := hb2 ; try simp only [bls, beq_iff_eq, bne_iff_ne, Int.reduceToNat, List.length_map] at hc2
          refine pTT rfl ⟨_, rfl, rfl⟩ (vMv rfl) rfl ?_
          refine pTT rfl ⟨_, rfl, rfl⟩ (vMv rfl) rfl ?_
          refine pTT rfl ⟨_, rfl, rfl⟩ (vIxP sl26 rfl rfl hl (by first | omega | (simp only [Int.toNat_natCast, Int.reduceToNat, List.length_append, List.length_cons, List.length_nil, List.length_map, bid_len]; omega) | (simp <;> omega))) rfl ?_
          refine pTT rfl ⟨_, rfl, rfl⟩ (vFp fa37_0 rfl (rP hl (gm (by first | omega | (simp only [Int.toNat_natCast, Int.reduceToNat, List.length_append, List.length_cons, List.length_nil, List.length_map, bid_len]; omega) | (simp <;> omega))))) rfl ?_
          refine pTT rfl ⟨_, rfl, rfl⟩ (vLd sc9 rfl (Rd.at1 (rP hl (gm (by first | omega | (simp only [Int.toNat_natCast, Int.reduceToNat, List.length_append, List.length_cons, List.length_nil, List.length_map, bid_len]; omega) | (simp <;> omega)))) (.z (.c .n)))) rfl ?_
          refine pTT rfl ⟨_, rfl, rfl⟩ (vMv rfl) rfl ?_
          refine pTT rfl ⟨_, rfl, rfl⟩ (vMv rfl) rfl ?_
          refine pTT rfl ⟨_, rfl, rfl⟩ (vSub rfl rfl (by first | omega | (simp only [Int.toNat_natCast, Int.reduceToNat, List.length_append, List.length_cons, List.length_nil, List.length_map, bid_len]; omega) | (simp <;> omega))) rfl ?_
          refine pTT rfl ⟨_, rfl, rfl⟩ (vIxP sl26 rfl rfl hl (by first | omega | (simp only [Int.toNat_natCast, Int.reduceToNat, List.length_append, List.length_cons, List.length_nil, List.length_map, bid_len]; omega) | (simp <;> omega))) rfl ?_
          refine pTT rfl ⟨_, rfl, rfl⟩ (vFp fa37_0 rfl (rP hl (gm (by first | omega | (simp only [Int.toNat_natCast, Int.reduceToNat, List.length_append, List.length_cons, List.length_nil, List.length_map, bid_len]; omega) | (simp <;> omega))))) rfl ?_
          refine pTT rfl ⟨_, rfl, rfl⟩ (vLd sc9 rfl (Rd.at1 (rP hl (gm (by first | omega | (simp only [Int.toNat_natCast, Int.reduceToNat, List.length_append, List.length_cons, List.length_nil, List.length_map, bid_len]; omega) | (simp <;> omega)))) (.z (.c .n)))) rfl ?_
          refine pTT rfl ⟨_, rfl, rfl⟩ (vLeS rfl rfl) rfl ?_
          refine pT rfl (vPkT rfl rfl) rfl ?_
          exact gTT 13 33 rfl rfl rfl rfl hb2 hX2
        · intro hb2 hX2
          have hc2 := hb2 ; try simp only [bls, beq_iff_eq, bne_iff_ne, Int.reduceToNat, List.length_map] at hc2
          refine pTF rfl ⟨_, _, rfl, rfl, rfl⟩ rfl ?_
          refine pTF rfl ⟨_, _, rfl, rfl, rfl⟩ rfl ?_
          refine pTF rfl ⟨_, _, rfl, rfl, rfl⟩ rfl ?_
          refine pTF rfl ⟨_, _, rfl, rfl, rfl⟩ rfl ?_
          refine pTF rfl ⟨_, _, rfl, rfl, rfl⟩ rfl ?_
          refine pTF rfl ⟨_, _, rfl, rfl, rfl⟩ rfl ?_
          refine pTF rfl ⟨_, _, rfl, rfl, rfl⟩ rfl ?_
          refine pTF rfl ⟨_, _, rfl, rfl, rfl⟩ rfl ?_
          refine pTF rfl ⟨_, _, rfl, rfl, rfl⟩ rfl ?_
          refine pTF rfl ⟨_, _, rfl, rfl, rfl⟩ rfl ?_
          refine pTF rfl ⟨_, _, rfl, rfl, rfl⟩ rfl ?_
          refine pTF rfl ⟨_, _, rfl, rfl, rfl⟩ rfl ?_
          refine pT rfl (vPkF rfl rfl) rfl ?_
          exact gTF 13 33 rfl rfl rfl rfl hb2 hX2
        refine pDone ?_
        refine thN ?_
        refine cd rfl (fun hk2 => ?_) (fun hk2 => ?_) <;> try simp only [bls, beq_iff_eq, bne_iff_ne, Int.reduceToNat, List.length_map] at hk2
        · skip
          have hno : ¬ RefsP rf := fun h9 => by
            obtain ⟨k1, k2, k3⟩ := h9.2 i hi
            have k3 := k3 (by omega)
            have e1 : ((i : Int) - 1).toNat = i - 1 := by omega
            simp [e1] at hk2 k3
            simp [k3] at hk2
          refine sq ?_
          refine rg ?_
          refine q (vAs rfl) rfl ?_
          refine nil ?_
          refine thN ?_
          refine rt ?_
          refine bkR ?_
          refine thR ?_
          refine thR ?_
          refine bkR ?_
          refine thR ?_
          refine retP rfl (.t rfl .nil) .nil ⟨by rw [refsB_not.2 hno]; rfl, rfl, rfl⟩
        · skip
          have hok : RefOk rf i := by
            refine ⟨hk.1, hk.2, fun h0 => ?_⟩
            have e1 : ((i : Int) - 1).toNat = i - 1 := by omega
            simp [e1] at hk2 ⊢
            exact hk2.resolve_left (by omega)
          refine sk ?_
          refine bkN ?_
          refine thN ?_
          refine rg ?_
          refine q (vMv rfl) rfl ?_
          refine q (vAdd rfl rfl (by first | omega | (simp only [Int.toNat_natCast, Int.reduceToNat, List.length_append, List.length_cons, List.length_nil, List.length_map, bid_len]; omega) | (simp <;> omega))) rfl ?_
          refine q (vAs rfl) rfl ?_
          refine nil ?_
          refine thN ?_
          refine back (i + 1) (Le.refl _) ⟨⟨by omega, below_succ h6 hok⟩, by omega⟩ (.cons rfl (by first | rfl | simp | (simp <;> omega)) (.cons rfl (by first | rfl | simp | (simp <;> omega)) .nil)) .nil
    · skip
      obtain rfl : i = rf.length := by omega
      have hyes : RefsP rf := ⟨by omega, h6⟩
      refine xt ?_
      refine thX ?_
      refine thX ?_
      refine bkX ?_
      refine thN ?_
      refine sq ?_
      refine rg ?_
      refine q (vAs rfl) rfl ?_
      refine nil ?_
      refine thN ?_
      refine rt ?_
      refine retP rfl (.t rfl .nil) .nil ⟨by rw [refsB_iff.2 hyes]; rfl, rfl, rfl⟩
end Go.Proofs.YtjmigoikklkfdaaGreatDoor
namespace Go.Proofs.YtjmigoikklkfdaaGreatDoor
open Go
set_option linter.unusedVariables false
set_option linter.unusedSimpArgs false
set_option maxRecDepth 4000
def ShalP (A : List (List UInt8)) (l : List BId) : Prop := (∀ i, i < l.length → (objF A (l.getD i default)).kind = 3) ∧ Rising l
noncomputable def shalB (A : List (List UInt8)) (l : List BId) : Bool := @decide (ShalP A l) (Classical.propDecidable _)
theorem shalB_iff {A : List (List UInt8)} {l : List BId} : shalB A l = true ↔ ShalP A l := by simp [shalB]
theorem shalB_not {A : List (List UInt8)} {l : List BId} : shalB A l = false ↔ ¬ ShalP A l := by simp [shalB]
theorem shallow_spec {b : Nat} {v vs : Value} {A : List (List UInt8)} {sh : List BId} {S : Mem} (hr : Rising (keys A)) (hF : Fine A) (hlt : A.length < 1073741824) (hs : PSl S vs 32 (sh.map encId)) (hsl : sh.length < 1073741824) :
    PureL Tryz.prog 72 [ptr b 0, vs] S (stE b v A) (.bool (shalB A sh)) := by
  have hne := hF.ne
  refine enter Tryz.func72 rfl 33 rfl rfl (fun w0 => ?_)
  refine sq ?_
  refine rg ?_
  refine q (vAs rfl) rfl ?_
  refine nil ?_
  refine thN ?_
  refine sq ?_
  refine sq ?_
  refine rg ?_
  refine q (vMv rfl) rfl ?_
  refine q (SrcOk.len (srcP hs) Tryz.underlying27 rfl) rfl ?_
  refine q (vMv rfl) rfl ?_
  refine nil ?_
  refine thN ?_
  refine bk ?_
  refine loop (ι := Nat) (fun (i : Nat) => [(0, ptr b 0), (1, vs), (7, vs), (8, .int .i64 (sh.length : Int)), (9, .int .i64 (i : Int))]) (fun (i : Nat) => [blk b 204 [[v]], sl v 209 33 (A.map encIt)]) (fun (i : Nat) => fun S' => i ≤ sh.length ∧ ∀ j, j < i → (objF A (sh.getD j default)).kind = 3 ∧ (0 < j → idN (sh.getD (j - 1) default) < idN (sh.getD j default))) (fun (i : Nat) => sh.length - i) 0 ⟨Nat.zero_le _, fun j h => absurd h (Nat.not_lt_zero _)⟩ (.cons rfl (by first | rfl | simp | (simp <;> omega)) (.cons rfl (by first | rfl | simp | (simp <;> omega)) (.cons rfl (by first | rfl | simp | (simp <;> omega)) (.cons rfl (by first | rfl | simp | (simp <;> omega)) (.cons rfl (by first | rfl | simp | (simp <;> omega)) .nil))))) (.cons T0 (Ent.Le.of (by first | rfl | simp | (simp <;> omega))) (.cons T0 (Ent.Le.of (by first | rfl | simp | (simp <;> omega))) .nil)) ?_
  rintro i S2 hle2 ⟨h1, h2⟩
  replace hs := hs.mono hle2
  refine sq ?_
  refine rg ?_
  refine q (vLt rfl rfl) rfl ?_
  refine nil ?_
  refine thN ?_
  refine sq ?_
  refine cd rfl (fun hc => ?_) (fun hc => ?_) <;> try simp only [bls, beq_iff_eq, bne_iff_ne, Int.reduceToNat, List.length_map] at hc
  · skip
    have hi : i < sh.length := by omega
    have hk := kind_same hF hr (sh.getD i default)
    have e1 : ((i : Int) - 1).toNat = i - 1 := by omega
    refine sk ?_
    refine thN ?_
    refine sq ?_
    refine bk ?_
    refine sq ?_
    refine rg ?_
    refine q (vMv rfl) rfl ?_
    refine q (vIxP sl27 rfl rfl hs (by first | omega | (simp only [Int.toNat_natCast, Int.reduceToNat, List.length_append, List.length_cons, List.length_nil, List.length_map, bid_len]; omega) | (simp <;> omega))) rfl ?_
    refine q (vLdA ag35 rfl (Rd.f1 (rP hs (gm (by first | omega | (simp only [Int.toNat_natCast, Int.reduceToNat, List.length_append, List.length_cons, List.length_nil, List.length_map, bid_len]; omega) | (simp <;> omega))))) (by simp)) rfl ?_
    refine l rfl (alloc ze35 rfl ?_)
    intro B6
    refine q (vAs rfl) rfl ?_
    refine l rfl (store sz35 rfl rfl T0 (by simp) (.z (.c inferInstance inferInstance .n)) ?_)
    refine nil ?_
    refine thN ?_
    refine sq ?_
    refine dr (.take 0 (.take 1 (.one 2 (.take 3 (.take 4 (.take 5 (.take 6 (.take 7 (.take 8 (.take 9 (.take 10 (.take 11 (.take 12 (.take 13 (.one 14 (.take 15 (.take 16 (.take 17 .done)))))))))))))))))) wide (by decide +kernel) _ _ (.cons T0 (.cons T0 (.cons T0 .nil))) ?_
    refine pT rfl (vMv rfl) rfl ?_
    refine pT rfl (vLdA ag35 rfl (rB T0 (.z (.c .n))) (by simp)) rfl ?_
    refine pO ?_
    refine opL rfl rfl (callP cf74 (Kind_spec _ hr hlt hne _) rfl (.cons T1 (.cons T1 .nil)) rfl ?_)
    refine pK (Le.refl _) (.cons T0 (.cons T0 (.cons T0 .nil))) ?_
    refine pT rfl (vNe rfl rfl) rfl ?_
    refine pT rfl (vMv rfl) rfl ?_
    apply pOr 18 31 13
    · rfl
    · intro hb1 hX1
      have hc1 := hb1 ; try simp only [bls, beq_iff_eq, bne_iff_ne, Int.reduceToNat, List.length_map] at hc1
      refine pTF rfl ⟨_, _, rfl, rfl, rfl⟩ rfl ?_
      refine pTF rfl ⟨_, _, rfl, rfl, rfl⟩ rfl ?_
      refine pTF rfl ⟨_, _, rfl, rfl, rfl⟩ rfl ?_
      refine pTF rfl ⟨_, _, rfl, rfl, rfl⟩ rfl ?_
      refine pTF rfl ⟨_, _, rfl, rfl, rfl⟩ rfl ?_
      refine pTF rfl ⟨_, _, rfl, rfl, rfl⟩ rfl ?_
      refine pTF rfl ⟨_, _, rfl, rfl, rfl⟩ rfl ?_
      refine pTF rfl ⟨_, _, rfl, rfl, rfl⟩ rfl ?_
      refine pTF rfl ⟨_, _, rfl, rfl, rfl⟩ rfl ?_
      refine pO ?_
      refine opF rfl ⟨_, _, rfl, rfl, rfl⟩ rfl ?_
      refine pK (Le.refl _) (.cons T0 (.cons T0 (.cons T0 .nil))) ?_
      refine pTF rfl ⟨_, _, rfl, rfl, rfl⟩ rfl ?_
      refine pTF rfl ⟨_, _, rfl, rfl, rfl⟩ rfl ?_
      refine pT rfl (vPkT rfl rfl) rfl ?_
      exact gOT 13 18 rfl rfl rfl rfl hb1 hX1
    · intro hb1 hX1
      have hc1 := hb1 ; try simp only [bls, beq_iff_eq, bne_iff_ne, Int.reduceToNat, List.length_map] at hc1
      refine pTT rfl ⟨_, rfl, rfl⟩ (vMv rfl) rfl ?_
      refine pTT rfl ⟨_, rfl, rfl⟩ (vGt rfl rfl) rfl ?_
      refine pTT rfl ⟨_, rfl, rfl⟩ (vMv rfl) rfl ?_
      apply pAnd 21 30 9
      · rfl
      · intro hb2 hX2
        have hc2 := hb2 ; try simp only [bls, beq_iff_eq, bne_iff_ne, Int.reduceToNat, List.length_map] at hc2
        refine pTT rfl ⟨_, rfl, rfl⟩ (vMv rfl) rfl ?_
        refine pTT rfl ⟨_, rfl, rfl⟩ (vMv rfl) rfl ?_
        refine pTT rfl ⟨_, rfl, rfl⟩ (vSub rfl rfl (by first | omega | (simp only [Int.toNat_natCast, Int.reduceToNat, List.length_append, List.length_cons, List.length_nil, List.length_map, bid_len]; omega) | (simp <;> omega))) rfl ?_
        refine pTT rfl ⟨_, rfl, rfl⟩ (vIxP sl27 rfl rfl hs (by first | omega | (simp only [Int.toNat_natCast, Int.reduceToNat, List.length_append, List.length_cons, List.length_nil, List.length_map, bid_len]; omega) | (simp <;> omega))) rfl ?_
        refine pTT rfl ⟨_, rfl, rfl⟩ (vLdA ag35 rfl (Rd.f1 (rP hs (gm (by first | omega | (simp only [Int.toNat_natCast, Int.reduceToNat, List.length_append, List.length_cons, List.length_nil, List.length_map, bid_len]; omega) | (simp <;> omega))))) (by simp)) rfl ?_
        refine pTT rfl ⟨_, rfl, rfl⟩ (vLdA ag35 rfl (rB T0 (.z (.c .n))) (by simp)) rfl ?_
        refine pO ?_
        refine opT rfl rfl ⟨_, rfl, rfl⟩ (callP cf119 (Less_spec _ _ _) rfl .nil rfl ?_)
        refine pK (Le.refl _) (.cons T0 (.cons T0 (.cons T0 .nil))) ?_
        refine pTT rfl ⟨_, rfl, rfl⟩ (vNot rfl) rfl ?_
        refine pTT rfl ⟨_, rfl, rfl⟩ (vPkT rfl rfl) rfl ?_
        exact gTT 9 21 rfl rfl rfl rfl hb2 hX2
      · intro hb2 hX2
        have hc2 := hb2 ; try simp only [bls, beq_iff_eq, bne_iff_ne, Int.reduceToNat, List.length_map] at hc2
        refine pTF rfl ⟨_, _, rfl, rfl, rfl⟩ rfl ?_
        refine pTF rfl ⟨_, _, rfl, rfl, rfl⟩ rfl ?_
        refine pTF rfl ⟨_, _, rfl, rfl, rfl⟩ rfl ?_
        refine pTF rfl ⟨_, _, rfl, rfl, rfl⟩ rfl ?_
        refine pTF rfl ⟨_, _, rfl, rfl, rfl⟩ rfl ?_
        refine pTF rfl ⟨_, _, rfl, rfl, rfl⟩ rfl ?_
        refine pO ?_
        refine opF rfl ⟨_, _, rfl, rfl, rfl⟩ rfl ?_
        refine pK (Le.refl _) (.cons T0 (.cons T0 (.cons T0 .nil))) ?_
        refine pTF rfl ⟨_, _, rfl, rfl, rfl⟩ rfl ?_
        refine pTT rfl ⟨_, rfl, rfl⟩ (vPkF rfl rfl) rfl ?_
        exact gTF 9 21 rfl rfl rfl rfl hb2 hX2
      refine pT rfl (vPkF rfl rfl) rfl ?_
      exact gOF 5 18 rfl rfl rfl rfl hb1 hX1
    refine pDone ?_
    refine thN ?_
    refine cd rfl (fun hd => ?_) (fun hd => ?_) <;> try simp only [bls, beq_iff_eq, bne_iff_ne, Int.reduceToNat, List.length_map] at hd
    · skip
      have hno : ¬ ShalP A sh := fun h9 => by
        have k1 := h9.1 i hi
        rcases hd with hd | hd
        · simp only [Int.toNat_natCast, hk] at hd; omega
        · have k2 := rising_iff.1 h9.2 i hi (by omega)
          simp only [e1, Int.toNat_natCast, idLt, decide_eq_false_iff_not] at hd
          exact hd.2 k2
      refine sq ?_
      refine rg ?_
      refine q (vAs rfl) rfl ?_
      refine nil ?_
      refine thN ?_
      refine rt ?_
      refine bkR ?_
      refine thR ?_
      refine thR ?_
      refine bkR ?_
      refine thR ?_
      refine retP rfl (.t rfl .nil) (.t T1 (.t T1 .nil)) ⟨by rw [shalB_not.2 hno]; rfl, rfl, rfl⟩
    · skip
      have hq : (objF A (sh.getD i default)).kind = 3 ∧ (0 < i → idN (sh.getD (i - 1) default) < idN (sh.getD i default)) := by
        refine ⟨?_, fun h0 => ?_⟩
        · have := hd.1; simp only [Int.toNat_natCast, hk] at this; omega
        · have := hd.2.resolve_left (by omega)
          simpa only [e1, Int.toNat_natCast, idLt, decide_eq_true_eq] using this
      refine sk ?_
      refine bkN ?_
      refine thN ?_
      refine rg ?_
      refine q (vAdd rfl rfl (by first | omega | (simp only [Int.toNat_natCast, Int.reduceToNat, List.length_append, List.length_cons, List.length_nil, List.length_map, bid_len]; omega) | (simp <;> omega))) rfl ?_
      refine q (vMv rfl) rfl ?_
      refine nil ?_
      refine thN ?_
      refine back (i + 1) (Le.refl _) ⟨⟨by omega, below_succ h2 hq⟩, by omega⟩ (.cons rfl (by first | rfl | simp | (simp <;> omega)) (.cons rfl (by first | rfl | simp | (simp <;> omega)) (.cons rfl (by first | rfl | simp | (simp <;> omega)) (.cons rfl (by first | rfl | simp | (simp <;> omega)) (.cons rfl (by first | rfl | simp | (simp <;> omega)) .nil))))) (.cons T1 (Ent.Le.of (by first | rfl | simp | (simp <;> omega))) (.cons T1 (Ent.Le.of (by first | rfl | simp | (simp <;> omega))) .nil))
  · skip
    obtain rfl : i = sh.length := by omega
    have hyes : ShalP A sh := ⟨fun j hj => (h2 j hj).1, rising_iff.2 fun j hj h0 => (h2 j hj).2 h0⟩
    refine xt ?_
    refine thX ?_
    refine thX ?_
    refine bkX ?_
    refine thN ?_
    refine sq ?_
    refine rg ?_
    refine q (vAs rfl) rfl ?_
    refine nil ?_
    refine thN ?_
    refine rt ?_
    refine retP rfl (.t rfl .nil) (.t T0 (.t T0 .nil)) ⟨by rw [shalB_iff.2 hyes]; rfl, rfl, rfl⟩
def RefsIn (A : List (List UInt8)) (rf : List DRef) : Prop := ∀ i, i < rf.length → 0 < (objF A (rf.getD i default).id).kind
noncomputable instance (A : List (List UInt8)) (rf : List DRef) : Decidable (RefsIn A rf) := Classical.propDecidable _
noncomputable def wholeN (A : List (List UInt8)) (rf : List DRef) (sh : List BId) : Nat :=
  if refsB rf then (if shalB A sh then (if allRightB A sh (keys A) then (if RefsIn A rf then 0 else 7) else 7) else 9) else 8
theorem Whole_spec {b : Nat} {v vr vs : Value} {A : List (List UInt8)} {rf : List DRef} {sh : List BId} {S : Mem} (hr : Rising (keys A)) (hF : Fine A) (hlen : A.length < 10000) (hrf : PSl S vr 33 (rf.map encRf)) (hrn : ∀ r, r ∈ rf → r.name.length < 4294967296) (hrl : rf.length < 1073741824) (hsh : PSl S vs 32 (sh.map encId)) (hsl : sh.length < 1073741824) :
    Spec Tryz.prog 20 [ag [[ptr b 0], [vr], [vs]]] S (stE b v A) (fun S' r L' => r = .int .i64 (wholeN A rf sh : Nat) ∧ L' = stE b v A) := by
  have hlt : A.length < 1073741824 := by omega
  have hne := hF.ne
  have hsc1 := hrf.sc
  have hsc2 := hsh.sc
  refine enter Tryz.func20 rfl 41 rfl rfl (fun w0 => ?_)
  refine sq ?_
  refine rg ?_
  refine l rfl (box rfl rfl ?_)
  intro B1
  refine q (vAs rfl) rfl ?_
  refine nil ?_
  refine thN ?_
  refine sq ?_
  refine bk ?_
  refine sq ?_
  refine rg ?_
  refine q (vFa fa44_1 rfl) rfl ?_
  refine q (vLd sc26 rfl (rB1 T0 (.s (.z (.c .n))))) rfl ?_
  refine l rfl (callP cf71 (refs_spec hrf hrn hrl) rfl .nil rfl ?_)
  refine q (vNot rfl) rfl ?_
  refine q (vAs rfl) rfl ?_
  refine nil ?_
  refine thN ?_
  refine cd rfl (fun h1 => ?_) (fun h1 => ?_) <;> try simp only [bls, beq_iff_eq, bne_iff_ne, Int.reduceToNat, List.length_map] at h1
  · skip
    refine sq ?_
    refine rg ?_
    refine q (vAs rfl) rfl ?_
    refine nil ?_
    refine thN ?_
    refine rt ?_
    refine bkR ?_
    refine thR ?_
    refine ret rfl (.t rfl .nil) (.t T1 (.t T1 .nil)) ⟨by rw [wholeN, if_neg (by simpa using h1)]; rfl, rfl⟩
  · skip
    refine sq ?_
    refine rg ?_
    refine q (vFa fa44_0 rfl) rfl ?_
    refine q (vLd sc42 rfl (rB1 T0 (.z (.c .n)))) rfl ?_
    refine q (vFa fa44_2 rfl) rfl ?_
    refine q (vLd sc27 rfl (rB1 T0 (.s (.s (.z (.c .n)))))) rfl ?_
    refine l rfl (callP cf72 (shallow_spec hr hF hlt hsh hsl) rfl (.cons T1 (.cons T1 .nil)) rfl ?_)
    refine q (vNot rfl) rfl ?_
    refine q (vAs rfl) rfl ?_
    refine nil ?_
    refine thN ?_
    refine cd rfl (fun h2 => ?_) (fun h2 => ?_) <;> try simp only [bls, beq_iff_eq, bne_iff_ne, Int.reduceToNat, List.length_map] at h2
    · skip
      refine sq ?_
      refine rg ?_
      refine q (vAs rfl) rfl ?_
      refine nil ?_
      refine thN ?_
      refine rt ?_
      refine bkR ?_
      refine thR ?_
      refine ret rfl (.t rfl .nil) (.t T1 (.t T1 .nil)) ⟨by rw [wholeN, if_pos (by simpa using h1), if_neg (by simpa using h2)]; rfl, rfl⟩
    · skip
      refine sq ?_
      refine dr (.take 0 (.take 1 (.take 2 (.take 3 (.take 5 (.take 6 (.one 4 (.one 7 (.take 8 (.take 9 .done)))))))))) wide (by decide +kernel) _ _ (.cons T0 (.cons T0 (.cons T0 .nil))) ?_
      refine pT rfl (vFa fa44_0 rfl) rfl ?_
      refine pT rfl (vLd sc42 rfl (rB1 T0 (.z (.c .n)))) rfl ?_
      refine pT rfl (vFa fa44_0 rfl) rfl ?_
      refine pT rfl (vLd sc42 rfl (rB1 T0 (.z (.c .n)))) rfl ?_
      refine pT rfl (vFa fa44_2 rfl) rfl ?_
      refine pT rfl (vLd sc27 rfl (rB1 T0 (.s (.s (.z (.c .n)))))) rfl ?_
      refine pO ?_
      refine opL rfl rfl (call cf73 (Ids_spec hlt _) rfl (.cons T1 (.cons T1 .nil)) rfl ?_)
      intro S1 r1 l1 hS1 hp1
      obtain ⟨hki, rfl⟩ := hp1
      replace hrf := hrf.mono hS1
      replace hsh := hsh.mono hS1
      refine pK hS1 (.cons T2 (.cons T0 (.cons T0 .nil))) ?_
      have hkl : (keys A).length = A.length := by simp
      refine pO ?_
      refine opL rfl rfl (call cf69 (right_spec hr hF hlen hki hsh (by omega)) rfl (.cons T0 (.cons T0 .nil)) rfl ?_)
      intro S2 r2 l2 hS2 hp2
      obtain ⟨rfl, rfl⟩ := hp2
      replace hrf := hrf.mono hS2
      replace hsh := hsh.mono hS2
      replace hki := hki.mono hS2
      refine pK (Le.trans hS1 hS2) (.cons T2 (.cons T0 (.cons T0 .nil))) ?_
      refine pT rfl (vNot rfl) rfl ?_
      refine pT rfl (vAs rfl) rfl ?_
      refine pDone ?_
      refine thN ?_
      refine cd rfl (fun h3 => ?_) (fun h3 => ?_) <;> try simp only [bls, beq_iff_eq, bne_iff_ne, Int.reduceToNat, List.length_map] at h3
      · skip
        refine sq ?_
        refine rg ?_
        refine q (vAs rfl) rfl ?_
        refine nil ?_
        refine thN ?_
        refine rt ?_
        refine bkR ?_
        refine thR ?_
        refine ret rfl (.t rfl .nil) (.t T0 (.t T0 .nil)) ⟨by rw [wholeN, if_pos (by simpa using h1), if_pos (by simpa using h2), if_neg (by simpa using h3)]; rfl, rfl⟩
      · skip
        refine sk ?_
        refine bkN ?_
        refine thN ?_
        refine sq ?_
        refine sq ?_
        refine rg ?_
        refine q (vFa fa44_1 rfl) rfl ?_
        refine q (vLd sc26 rfl (rB1 T2 (.s (.z (.c .n))))) rfl ?_
        refine q (SrcOk.len (srcP hrf) Tryz.underlying26 rfl) rfl ?_
        refine q (vMv rfl) rfl ?_
        refine nil ?_
        refine thN ?_
        refine bk ?_
        refine loop (ι := Nat) (fun (i : Nat) => [(1, .pointer (some ⟨B1, 0, none⟩)), (28, vr), (29, .int .i64 (rf.length : Int)), (30, .int .i64 (i : Int))]) (fun (i : Nat) => [blk B1 44 [[ptr b 0], [vr], [vs]], blk b 204 [[v]], sl v 209 33 (A.map encIt)]) (fun (i : Nat) => fun S' => i ≤ rf.length ∧ ∀ j, j < i → 0 < (objF A (rf.getD j default).id).kind) (fun (i : Nat) => rf.length - i) 0 ⟨Nat.zero_le _, fun j h => absurd h (Nat.not_lt_zero _)⟩ (.cons rfl (by first | rfl | simp | (simp <;> omega)) (.cons rfl (by first | rfl | simp | (simp <;> omega)) (.cons rfl (by first | rfl | simp | (simp <;> omega)) (.cons rfl (by first | rfl | simp | (simp <;> omega)) .nil)))) (.cons T2 (Ent.Le.of (by first | rfl | simp | (simp <;> omega))) (.cons T0 (Ent.Le.of (by first | rfl | simp | (simp <;> omega))) (.cons T0 (Ent.Le.of (by first | rfl | simp | (simp <;> omega))) .nil))) ?_
        rintro i S9 hle9 ⟨k1, k2⟩
        replace hrf := hrf.mono hle9
        replace hsh := hsh.mono hle9
        replace hki := hki.mono hle9
        refine sq ?_
        refine rg ?_
        refine q (vLt rfl rfl) rfl ?_
        refine nil ?_
        refine thN ?_
        refine sq ?_
        refine cd rfl (fun hc => ?_) (fun hc => ?_) <;> try simp only [bls, beq_iff_eq, bne_iff_ne, Int.reduceToNat, List.length_map] at hc
        · skip
          have hi : i < rf.length := by omega
          have hk := kind_same hF hr (rf.getD i default).id
          refine sk ?_
          refine thN ?_
          refine sq ?_
          refine bk ?_
          refine sq ?_
          refine rg ?_
          refine q (vIxP sl26 rfl rfl hrf (by first | omega | (simp only [Int.toNat_natCast, Int.reduceToNat, List.length_append, List.length_cons, List.length_nil, List.length_map, bid_len]; omega) | (simp <;> omega))) rfl ?_
          refine q (vLdA ag37 rfl (rP hrf (gm (by first | omega | (simp only [Int.toNat_natCast, Int.reduceToNat, List.length_append, List.length_cons, List.length_nil, List.length_map, bid_len]; omega) | (simp <;> omega)))) (by simp)) rfl ?_
          refine l rfl (alloc ze37 rfl ?_)
          intro B4
          refine l rfl (store sz37 rfl rfl T0 (by simp) (.z (.c inferInstance inferInstance (.c inferInstance inferInstance .n))) ?_)
          refine nil ?_
          refine thN ?_
          refine sq ?_
          refine rg ?_
          refine q (vFa fa44_0 rfl) rfl ?_
          refine q (vLd sc42 rfl (rB1 T1 (.z (.c .n)))) rfl ?_
          refine q (vFa fa37_1 rfl) rfl ?_
          refine q (vLdA ag35 rfl (rB T0 (.s (.z (.c .n)))) (by simp)) rfl ?_
          refine l rfl (callP cf74 (Kind_spec _ hr hlt hne _) rfl (.cons T2 (.cons T2 .nil)) rfl ?_)
          refine q (vEq rfl rfl) rfl ?_
          refine nil ?_
          refine thN ?_
          refine cd rfl (fun hd => ?_) (fun hd => ?_) <;> try simp only [bls, beq_iff_eq, bne_iff_ne, Int.reduceToNat, List.length_map] at hd
          · skip
            have hno : ¬ RefsIn A rf := fun h9 => by
              have := h9 i hi
              simp only [Int.toNat_natCast, hk] at hd
              omega
            refine sq ?_
            refine rg ?_
            refine q (vAs rfl) rfl ?_
            refine nil ?_
            refine thN ?_
            refine rt ?_
            refine bkR ?_
            refine thR ?_
            refine thR ?_
            refine bkR ?_
            refine thR ?_
            refine ret rfl (.t rfl .nil) (.t T2 (.t T2 .nil)) ⟨by rw [wholeN, if_pos (by simpa using h1), if_pos (by simpa using h2), if_pos (by simpa using h3), if_neg hno]; rfl, rfl⟩
          · skip
            have hq : 0 < (objF A (rf.getD i default).id).kind := by
              simp only [Int.toNat_natCast, hk] at hd
              omega
            refine sk ?_
            refine bkN ?_
            refine thN ?_
            refine rg ?_
            refine q (vAdd rfl rfl (by first | omega | (simp only [Int.toNat_natCast, Int.reduceToNat, List.length_append, List.length_cons, List.length_nil, List.length_map, bid_len]; omega) | (simp <;> omega))) rfl ?_
            refine q (vMv rfl) rfl ?_
            refine nil ?_
            refine thN ?_
            refine back (i + 1) (Le.refl _) ⟨⟨by omega, below_succ k2 hq⟩, by omega⟩ (.cons rfl (by first | rfl | simp | (simp <;> omega)) (.cons rfl (by first | rfl | simp | (simp <;> omega)) (.cons rfl (by first | rfl | simp | (simp <;> omega)) (.cons rfl (by first | rfl | simp | (simp <;> omega)) .nil)))) (.cons T1 (Ent.Le.of (by first | rfl | simp | (simp <;> omega))) (.cons T1 (Ent.Le.of (by first | rfl | simp | (simp <;> omega))) (.cons T1 (Ent.Le.of (by first | rfl | simp | (simp <;> omega))) .nil)))
        · skip
          obtain rfl : i = rf.length := by omega
          refine xt ?_
          refine thX ?_
          refine thX ?_
          refine bkX ?_
          refine thN ?_
          refine sq ?_
          refine rg ?_
          refine q (vAs rfl) rfl ?_
          refine nil ?_
          refine thN ?_
          refine rt ?_
          refine ret rfl (.t rfl .nil) (.t T1 (.t T1 .nil)) ⟨by rw [wholeN, if_pos (by simpa using h1), if_pos (by simpa using h2), if_pos (by simpa using h3), if_pos (show RefsIn A rf from k2)]; rfl, rfl⟩
theorem keys_at {R : List RIt} {i : Nat} (h : i < R.length) : (keys (texts R)).getD i default = sumF (R.getD i default).t := by
  simp [keys, texts, List.getD, h]
theorem ref_Whole_spec {v vr vs : Value} {R : List RIt} {rf : List DRef} {sh : List BId} {S : Mem} (h : RS S v R) (hr : Rising (keys (texts R))) (hF : Fine (texts R)) (hlen : R.length < 10000) (hrf : PSl S vr 33 (rf.map encRf)) (hrn : ∀ r, r ∈ rf → r.name.length < 4294967296) (hrl : rf.length < 1073741824) (hsh : PSl S vs 32 (sh.map encId)) (hsl : sh.length < 1073741824) :
    Spec Tryz.prog 21 [ag [[v], [vr], [vs]]] S [] (fun S' r L' => r = .int .i64 (wholeN (texts R) rf sh : Nat) ∧ L' = []) := by
  have hpl := h.pl
  have hsc := hpl.sc
  have hsc1 := hrf.sc
  have hsc2 := hsh.sc
  have hRt : (texts R).length = R.length := List.length_map _
  refine enter Tryz.func21 rfl 74 rfl rfl (fun w0 => ?_)
  refine sq ?_
  refine rg ?_
  refine l rfl (box rfl rfl ?_)
  intro B1
  refine q (vAs rfl) rfl ?_
  refine nil ?_
  refine thN ?_
  refine sq ?_
  refine rg ?_
  refine q (vFa fa41_1 rfl) rfl ?_
  refine q (vLd sc26 rfl (rB1 T0 (.s (.z (.c .n))))) rfl ?_
  refine l rfl (callP cf75 (ref_refs_spec hrf hrn hrl) rfl .nil rfl ?_)
  refine q (vAs rfl) rfl ?_
  refine nil ?_
  refine thN ?_
  refine sq ?_
  refine sq ?_
  refine rg ?_
  refine q (vMv rfl) rfl ?_
  refine q (vNot rfl) rfl ?_
  refine nil ?_
  refine thN ?_
  refine cd rfl (fun h1 => ?_) (fun h1 => ?_) <;> try simp only [bls, beq_iff_eq, bne_iff_ne, Int.reduceToNat, List.length_map] at h1
  · skip
    refine sq ?_
    refine rg ?_
    refine q (vAs rfl) rfl ?_
    refine nil ?_
    refine thN ?_
    refine rt ?_
    refine thR ?_
    refine ret rfl (.t rfl .nil) .nil ⟨by rw [wholeN, if_neg (by simpa using h1)]; rfl, rfl⟩
  · skip
    refine sk ?_
    refine thN ?_
    refine sq ?_
    refine sq ?_
    refine rg ?_
    refine q (vAs rfl) rfl ?_
    refine nil ?_
    refine thN ?_
    refine bk ?_
    refine loop (ι := Nat) (fun (i : Nat) => [(1, .pointer (some ⟨B1, 0, none⟩)), (4, .int .i64 (i : Int))]) (fun (i : Nat) => [blk B1 41 [[v], [vr], [vs]]]) (fun (i : Nat) => fun S' => i ≤ sh.length ∧ ∀ j, j < i → (objF (texts R) (sh.getD j default)).kind = 3) (fun (i : Nat) => sh.length - i) 0 ⟨Nat.zero_le _, fun j h => absurd h (Nat.not_lt_zero _)⟩ (.cons rfl (by first | rfl | simp | (simp <;> omega)) (.cons rfl (by first | rfl | simp | (simp <;> omega)) .nil)) (.cons T0 (Ent.Le.of (by first | rfl | simp | (simp <;> omega))) .nil) ?_
    rintro i S3 hle3 ⟨k1, k2⟩
    replace h := h.mono hle3
    replace hpl := hpl.mono hle3
    replace hrf := hrf.mono hle3
    replace hsh := hsh.mono hle3
    refine sq ?_
    refine sq ?_
    refine rg ?_
    refine q (vMv rfl) rfl ?_
    refine q (vFa fa41_2 rfl) rfl ?_
    refine q (vLd sc27 rfl (rB1 T0 (.s (.s (.z (.c .n)))))) rfl ?_
    refine q (SrcOk.len (srcP hsh) Tryz.underlying27 rfl) rfl ?_
    refine q (vLt rfl rfl) rfl ?_
    refine nil ?_
    refine thN ?_
    refine cd rfl (fun hc => ?_) (fun hc => ?_) <;> try simp only [bls, beq_iff_eq, bne_iff_ne, Int.reduceToNat, List.length_map] at hc
    · skip
      have hi : i < sh.length := by omega
      refine sk ?_
      refine thN ?_
      refine sq ?_
      refine bk ?_
      refine sq ?_
      refine dr (.take 0 (.take 1 (.take 2 (.take 3 (.take 4 (.take 5 (.take 6 (.one 7 (.take 8 .done))))))))) wide (by decide +kernel) _ _ (.cons T0 .nil) ?_
      refine pT rfl (vFa fa41_0 rfl) rfl ?_
      refine pT rfl (vLdA ag30 rfl (rB T0 (.z (.c .n))) (by simp)) rfl ?_
      refine pT rfl (vFa fa41_2 rfl) rfl ?_
      refine pT rfl (vLd sc27 rfl (rB1 T0 (.s (.s (.z (.c .n)))))) rfl ?_
      refine pT rfl (vMv rfl) rfl ?_
      refine pT rfl (vIxP sl27 rfl rfl hsh (by first | omega | (simp only [Int.toNat_natCast, Int.reduceToNat, List.length_append, List.length_cons, List.length_nil, List.length_map, bid_len]; omega) | (simp <;> omega))) rfl ?_
      refine pT rfl (vLdA ag35 rfl (Rd.f1 (rP hsh (gm (by first | omega | (simp only [Int.toNat_natCast, Int.reduceToNat, List.length_append, List.length_cons, List.length_nil, List.length_map, bid_len]; omega) | (simp <;> omega))))) (by simp)) rfl ?_
      refine pO ?_
      refine opL rfl rfl (callP cf22 (ref_Kind_spec h hr _) rfl .nil rfl ?_)
      refine pK (Le.refl _) (.cons T0 .nil) ?_
      refine pT rfl (vNe rfl rfl) rfl ?_
      refine pDone ?_
      refine thN ?_
      refine cd rfl (fun hd => ?_) (fun hd => ?_) <;> try simp only [bls, beq_iff_eq, bne_iff_ne, Int.reduceToNat, List.length_map] at hd
      · skip
        have hno : ¬ ShalP (texts R) sh := fun h9 => by
          have k1 := h9.1 i hi
          simp only [objF] at k1
          omega
        refine sq ?_
        refine rg ?_
        refine q (vAs rfl) rfl ?_
        refine nil ?_
        refine thN ?_
        refine rt ?_
        refine bkR ?_
        refine thR ?_
        refine thR ?_
        refine bkR ?_
        refine thR ?_
        refine ret rfl (.t rfl .nil) .nil ⟨by rw [wholeN, if_pos (by simpa using h1), if_neg (by rw [shalB_not.2 hno]; simp)]; rfl, rfl⟩
      · skip
        have hq : (objF (texts R) (sh.getD i default)).kind = 3 := by
          simp only [objF]
          omega
        refine sk ?_
        refine bkN ?_
        refine thN ?_
        refine rg ?_
        refine q (vMv rfl) rfl ?_
        refine q (vAdd rfl rfl (by first | omega | (simp only [Int.toNat_natCast, Int.reduceToNat, List.length_append, List.length_cons, List.length_nil, List.length_map, bid_len]; omega) | (simp <;> omega))) rfl ?_
        refine q (vAs rfl) rfl ?_
        refine nil ?_
        refine thN ?_
        refine back (i + 1) (Le.refl _) ⟨⟨by omega, below_succ k2 hq⟩, by omega⟩ (.cons rfl (by first | rfl | simp | (simp <;> omega)) (.cons rfl (by first | rfl | simp | (simp <;> omega)) .nil)) (.cons T0 (Ent.Le.of (by first | rfl | simp | (simp <;> omega))) .nil)
    · skip
      obtain rfl : i = sh.length := by omega
      refine xt ?_
      refine thX ?_
      refine thX ?_
      refine bkX ?_
      refine thN ?_
      refine sq ?_
      refine rg ?_
      refine q (vFa fa41_2 rfl) rfl ?_
      refine q (vLd sc27 rfl (rB1 T0 (.s (.s (.z (.c .n)))))) rfl ?_
      refine l rfl (callP cf37 (Rise_spec hsh) rfl .nil rfl ?_)
      refine q (vAs rfl) rfl ?_
      refine nil ?_
      refine thN ?_
      refine sq ?_
      refine sq ?_
      refine rg ?_
      refine q (vMv rfl) rfl ?_
      refine q (vNot rfl) rfl ?_
      refine nil ?_
      refine thN ?_
      refine cd rfl (fun h2 => ?_) (fun h2 => ?_) <;> try simp only [bls, beq_iff_eq, bne_iff_ne, Int.reduceToNat, List.length_map] at h2
      · skip
        have hno : ¬ ShalP (texts R) sh := fun h9 => by
          simp [riseB] at h2
          exact h2 h9.2
        refine sq ?_
        refine rg ?_
        refine q (vAs rfl) rfl ?_
        refine nil ?_
        refine thN ?_
        refine rt ?_
        refine thR ?_
        refine ret rfl (.t rfl .nil) .nil ⟨by rw [wholeN, if_pos (by simpa using h1), if_neg (by rw [shalB_not.2 hno]; simp)]; rfl, rfl⟩
      · skip
        have hsP : ShalP (texts R) sh := ⟨k2, by simpa [riseB] using h2⟩
        refine sk ?_
        refine thN ?_
        refine sq ?_
        refine sq ?_
        refine rg ?_
        refine q (vAs rfl) rfl ?_
        refine nil ?_
        refine thN ?_
        refine bk ?_
        refine loop (ι := Nat) (fun (i : Nat) => [(1, .pointer (some ⟨B1, 0, none⟩)), (6, .int .i64 (i : Int))]) (fun (i : Nat) => [blk B1 41 [[v], [vr], [vs]]]) (fun (i : Nat) => fun S' => i ≤ R.length ∧ ∀ j, j < i → RightP (texts R) sh ((keys (texts R)).getD j default)) (fun (i : Nat) => R.length - i) 0 ⟨Nat.zero_le _, fun j h => absurd h (Nat.not_lt_zero _)⟩ (.cons rfl (by first | rfl | simp | (simp <;> omega)) (.cons rfl (by first | rfl | simp | (simp <;> omega)) .nil)) (.cons T0 (Ent.Le.of (by first | rfl | simp | (simp <;> omega))) .nil) ?_
        rintro i S4 hle4 ⟨j1, j2⟩
        replace h := h.mono hle4
        replace hpl := hpl.mono hle4
        replace hrf := hrf.mono hle4
        replace hsh := hsh.mono hle4
        refine sq ?_
        refine sq ?_
        refine rg ?_
        refine q (vMv rfl) rfl ?_
        refine q (vFa fa41_0 rfl) rfl ?_
        refine q (vFa fa30_0 rfl) rfl ?_
        refine q (vLd sc28 rfl (rB1 T0 (.z (.c .n)))) rfl ?_
        refine q (SrcOk.len (srcP hpl) Tryz.underlying28 rfl) rfl ?_
        refine q (vLt rfl rfl) rfl ?_
        refine nil ?_
        refine thN ?_
        refine cd rfl (fun hc3 => ?_) (fun hc3 => ?_) <;> try simp only [bls, beq_iff_eq, bne_iff_ne, Int.reduceToNat, List.length_map] at hc3
        · skip
          have hi : i < R.length := by omega
          have ek := keys_at hi
          refine sk ?_
          refine thN ?_
          refine sq ?_
          refine bk ?_
          refine sq ?_
          refine dr (.take 0 (.take 1 (.take 2 (.take 3 (.take 4 (.take 5 (.take 6 (.take 7 (.take 8 (.take 9 (.take 10 (.one 11 (.take 12 .done))))))))))))) wide (by decide +kernel) _ _ (.cons T0 .nil) ?_
          refine pT rfl (vFa fa41_0 rfl) rfl ?_
          refine pT rfl (vLdA ag30 rfl (rB T0 (.z (.c .n))) (by simp)) rfl ?_
          refine pT rfl (vFa fa41_0 rfl) rfl ?_
          refine pT rfl (vFa fa30_0 rfl) rfl ?_
          refine pT rfl (vLd sc28 rfl (rB1 T0 (.z (.c .n)))) rfl ?_
          refine pT rfl (vMv rfl) rfl ?_
          refine pT rfl (vIxP sl28 rfl rfl hpl (by first | omega | (simp only [Int.toNat_natCast, Int.reduceToNat, List.length_append, List.length_cons, List.length_nil, List.length_map, bid_len]; omega) | (simp <;> omega))) rfl ?_
          refine pT rfl (vFp fa131_0 rfl (rP hpl (gm (by first | omega | (simp only [Int.toNat_natCast, Int.reduceToNat, List.length_append, List.length_cons, List.length_nil, List.length_map, bid_len]; omega) | (simp <;> omega))))) rfl ?_
          refine pT rfl (vLdA ag35 rfl (Rd.at (rP hpl (gm (by first | omega | (simp only [Int.toNat_natCast, Int.reduceToNat, List.length_append, List.length_cons, List.length_nil, List.length_map, bid_len]; omega) | (simp <;> omega)))) (.z (.c .n))) (by simp)) rfl ?_
          refine pT rfl (vFa fa41_2 rfl) rfl ?_
          refine pT rfl (vLd sc27 rfl (rB1 T0 (.s (.s (.z (.c .n)))))) rfl ?_
          refine pO ?_
          refine opL rfl rfl (call cf70 (Right_spec h hr hF hsh _) rfl .nil rfl ?_)
          intro S1 r1 l1 hS1 hp1
          obtain ⟨rfl, rfl⟩ := hp1
          replace h := h.mono hS1
          replace hpl := hpl.mono hS1
          replace hrf := hrf.mono hS1
          replace hsh := hsh.mono hS1
          refine pK hS1 (.cons T0 .nil) ?_
          refine pT rfl (vAs rfl) rfl ?_
          refine pDone ?_
          refine thN ?_
          refine sq ?_
          refine rg ?_
          refine q (vMv rfl) rfl ?_
          refine q (vNot rfl) rfl ?_
          refine nil ?_
          refine thN ?_
          refine cd rfl (fun hd => ?_) (fun hd => ?_) <;> try simp only [bls, beq_iff_eq, bne_iff_ne, Int.reduceToNat, List.length_map] at hd
          · skip
            have hno : ¬ AllRight (texts R) sh (keys (texts R)) := fun h9 => by
              rw [rightB_not] at hd
              have := h9 _ (mem_getD (l := keys (texts R)) (i := i) (by simp; omega))
              rw [ek] at this
              exact hd this
            refine sq ?_
            refine rg ?_
            refine q (vAs rfl) rfl ?_
            refine nil ?_
            refine thN ?_
            refine rt ?_
            refine bkR ?_
            refine thR ?_
            refine thR ?_
            refine bkR ?_
            refine thR ?_
            refine ret rfl (.t rfl .nil) .nil ⟨by rw [wholeN, if_pos (by simpa using h1), if_pos (shalB_iff.2 hsP), if_neg (by rw [allRightB_not.2 hno]; simp)]; rfl, rfl⟩
          · skip
            have hq : RightP (texts R) sh ((keys (texts R)).getD i default) := by
              rw [ek, ← rightB_iff]; simpa using hd
            refine sk ?_
            refine bkN ?_
            refine thN ?_
            refine rg ?_
            refine q (vMv rfl) rfl ?_
            refine q (vAdd rfl rfl (by first | omega | (simp only [Int.toNat_natCast, Int.reduceToNat, List.length_append, List.length_cons, List.length_nil, List.length_map, bid_len]; omega) | (simp <;> omega))) rfl ?_
            refine q (vAs rfl) rfl ?_
            refine nil ?_
            refine thN ?_
            refine back (i + 1) (by assumption) ⟨⟨by omega, below_succ j2 hq⟩, by omega⟩ (.cons rfl (by first | rfl | simp | (simp <;> omega)) (.cons rfl (by first | rfl | simp | (simp <;> omega)) .nil)) (.cons T0 (Ent.Le.of (by first | rfl | simp | (simp <;> omega))) .nil)
        · skip
          obtain rfl : i = R.length := by omega
          have hall : AllRight (texts R) sh (keys (texts R)) := fun x hx => by
            obtain ⟨j, hj, rfl⟩ := getD_mem hx
            exact j2 j (by simpa using hj)
          refine xt ?_
          refine thX ?_
          refine thX ?_
          refine bkX ?_
          refine thN ?_
          refine sq ?_
          refine sq ?_
          refine rg ?_
          refine q (vAs rfl) rfl ?_
          refine nil ?_
          refine thN ?_
          refine bk ?_
          refine loop (ι := Nat) (fun (i : Nat) => [(1, .pointer (some ⟨B1, 0, none⟩)), (8, .int .i64 (i : Int))]) (fun (i : Nat) => [blk B1 41 [[v], [vr], [vs]]]) (fun (i : Nat) => fun S' => i ≤ rf.length ∧ ∀ j, j < i → 0 < (objF (texts R) (rf.getD j default).id).kind) (fun (i : Nat) => rf.length - i) 0 ⟨Nat.zero_le _, fun j h => absurd h (Nat.not_lt_zero _)⟩ (.cons rfl (by first | rfl | simp | (simp <;> omega)) (.cons rfl (by first | rfl | simp | (simp <;> omega)) .nil)) (.cons T0 (Ent.Le.of (by first | rfl | simp | (simp <;> omega))) .nil) ?_
          rintro i S6 hle6 ⟨m1, m2⟩
          replace h := h.mono hle6
          replace hpl := hpl.mono hle6
          replace hrf := hrf.mono hle6
          replace hsh := hsh.mono hle6
          refine sq ?_
          refine sq ?_
          refine rg ?_
          refine q (vMv rfl) rfl ?_
          refine q (vFa fa41_1 rfl) rfl ?_
          refine q (vLd sc26 rfl (rB1 T0 (.s (.z (.c .n))))) rfl ?_
          refine q (SrcOk.len (srcP hrf) Tryz.underlying26 rfl) rfl ?_
          refine q (vLt rfl rfl) rfl ?_
          refine nil ?_
          refine thN ?_
          refine cd rfl (fun hc4 => ?_) (fun hc4 => ?_) <;> try simp only [bls, beq_iff_eq, bne_iff_ne, Int.reduceToNat, List.length_map] at hc4
          · skip
            have hi : i < rf.length := by omega
            refine sk ?_
            refine thN ?_
            refine sq ?_
            refine bk ?_
            refine sq ?_
            refine dr (.take 0 (.take 1 (.take 2 (.take 3 (.take 4 (.take 5 (.take 6 (.take 7 (.one 8 (.take 9 .done)))))))))) wide (by decide +kernel) _ _ (.cons T0 .nil) ?_
            refine pT rfl (vFa fa41_0 rfl) rfl ?_
            refine pT rfl (vLdA ag30 rfl (rB T0 (.z (.c .n))) (by simp)) rfl ?_
            refine pT rfl (vFa fa41_1 rfl) rfl ?_
            refine pT rfl (vLd sc26 rfl (rB1 T0 (.s (.z (.c .n))))) rfl ?_
            refine pT rfl (vMv rfl) rfl ?_
            refine pT rfl (vIxP sl26 rfl rfl hrf (by first | omega | (simp only [Int.toNat_natCast, Int.reduceToNat, List.length_append, List.length_cons, List.length_nil, List.length_map, bid_len]; omega) | (simp <;> omega))) rfl ?_
            refine pT rfl (vFp fa37_1 rfl (rP hrf (gm (by first | omega | (simp only [Int.toNat_natCast, Int.reduceToNat, List.length_append, List.length_cons, List.length_nil, List.length_map, bid_len]; omega) | (simp <;> omega))))) rfl ?_
            refine pT rfl (vLdA ag35 rfl (Rd.at (rP hrf (gm (by first | omega | (simp only [Int.toNat_natCast, Int.reduceToNat, List.length_append, List.length_cons, List.length_nil, List.length_map, bid_len]; omega) | (simp <;> omega)))) (.s (.z (.c .n)))) (by simp)) rfl ?_
            refine pO ?_
            refine opL rfl rfl (callP cf22 (ref_Kind_spec h hr _) rfl .nil rfl ?_)
            refine pK (Le.refl _) (.cons T0 .nil) ?_
            refine pT rfl (vEq rfl rfl) rfl ?_
            refine pDone ?_
            refine thN ?_
            refine cd rfl (fun hd => ?_) (fun hd => ?_) <;> try simp only [bls, beq_iff_eq, bne_iff_ne, Int.reduceToNat, List.length_map] at hd
            · skip
              have hno : ¬ RefsIn (texts R) rf := fun h9 => by
                have := h9 i hi
                simp only [objF] at this
                omega
              refine sq ?_
              refine rg ?_
              refine q (vAs rfl) rfl ?_
              refine nil ?_
              refine thN ?_
              refine rt ?_
              refine bkR ?_
              refine thR ?_
              refine thR ?_
              refine bkR ?_
              refine thR ?_
              refine ret rfl (.t rfl .nil) .nil ⟨by rw [wholeN, if_pos (by simpa using h1), if_pos (shalB_iff.2 hsP), if_pos (allRightB_iff.2 hall), if_neg hno]; rfl, rfl⟩
            · skip
              have hq : 0 < (objF (texts R) (rf.getD i default).id).kind := by
                simp only [objF]
                omega
              refine sk ?_
              refine bkN ?_
              refine thN ?_
              refine rg ?_
              refine q (vMv rfl) rfl ?_
              refine q (vAdd rfl rfl (by first | omega | (simp only [Int.toNat_natCast, Int.reduceToNat, List.length_append, List.length_cons, List.length_nil, List.length_map, bid_len]; omega) | (simp <;> omega))) rfl ?_
              refine q (vAs rfl) rfl ?_
              refine nil ?_
              refine thN ?_
              refine back (i + 1) (Le.refl _) ⟨⟨by omega, below_succ m2 hq⟩, by omega⟩ (.cons rfl (by first | rfl | simp | (simp <;> omega)) (.cons rfl (by first | rfl | simp | (simp <;> omega)) .nil)) (.cons T0 (Ent.Le.of (by first | rfl | simp | (simp <;> omega))) .nil)
          · skip
            obtain rfl : i = rf.length := by omega
            refine xt ?_
            refine thX ?_
            refine thX ?_
            refine bkX ?_
            refine thN ?_
            refine sq ?_
            refine rg ?_
            refine q (vAs rfl) rfl ?_
            refine nil ?_
            refine thN ?_
            refine rt ?_
            refine ret rfl (.t rfl .nil) .nil ⟨by rw [wholeN, if_pos (by simpa using h1), if_pos (shalB_iff.2 hsP), if_pos (allRightB_iff.2 hall), if_pos (show RefsIn (texts R) rf from m2)]; rfl, rfl⟩
end Go.Proofs.YtjmigoikklkfdaaGreatDoor
namespace Go.Proofs.YtjmigoikklkfdaaGreatDoor
open Go
set_option linter.unusedVariables false
set_option linter.unusedSimpArgs false
set_option maxRecDepth 4000
def oneId (b : UInt8) : BId := ⟨b :: List.replicate 31 0, by simp⟩
def pickId (all : List BId) (b : UInt8) : BId := if all.length = 0 ∨ 200 ≤ b.toNat then oneId b else all.getD (all.length - 1 - b.toNat % all.length) default
def idsF (all : List BId) (nb : List UInt8) : List BId := nb.map (pickId all)
theorem vBuildId {P : Program} {S : Mem} {e : Env} {L : List Ent} {ty : TypeId} {T : TypeId} {x : Operand} {c : UInt8} {z : List Value} (hz : ZeTy P T [z]) (ha : ArTy P T 32 1) (hx : ev e x = some (u8v c)) (hz0 : z = encId zid := by rfl) : Val P S L e (.build T #[(0, x)]) ty (idv (oneId c)) :=
  fun a w d pos aft g hag _ => by
    obtain ⟨E, hu, hs⟩ := ha
    obtain ⟨v, hz1, hz2⟩ := hz w
    subst hz0
    have hr : (Instr.build T #[(0, u8v c)]).run P w = .ok (idv (oneId c)) w := by
      unfold Instr.build
      simp only [Sem.run_bind, hz1, Result.andThen_ok, run_underlying hu, hs w, hz2]
      rfl
    show (do pure (.value (← Instr.build T (#[(0, x)].map fun (x : Nat × Operand) => (x.1, a.eval x.2)))) : Sem Next).run P w = _
    have e1 : (#[(0, x)].map fun (x : Nat × Operand) => (x.1, a.eval x.2)) = #[(0, u8v c)] := by simp [hag.ev hx]
    rw [e1, Sem.run_bind, hr]; rfl
theorem idsF_next (all : List BId) (nb : List UInt8) (i : Nat) (h : i < nb.length) : (idsF all nb).take (i + 1) = (idsF all nb).take i ++ [pickId all (nb.getD i 0)] := by
  have h' : i < (idsF all nb).length := by rw [idsF, List.length_map]; exact h
  rw [take_next _ i h']
  congr 2
  simp [idsF, List.getD, h]
theorem Ids12_spec {va vn : Value} {all : List BId} {nb : List UInt8} {S : Mem} (ha : PSl S va 32 (all.map encId)) (hn : PSl S vn 1 (b1 nb)) (hnl : nb.length < 100000) (hal : all.length < 100000) :
    Spec Tryz.prog 15 [va, vn] S [] (fun S' r L' => PSl S' r 32 ((idsF all nb).map encId) ∧ L' = []) := by
  have hs1 := ha.sc
  have hs2 := hn.sc
  have hfl : (idsF all nb).length = nb.length := by rw [idsF, List.length_map]
  have hbl : (b1 nb).length = nb.length := by rw [b1, List.length_map]
  refine enter Tryz.func15 rfl 51 rfl rfl (fun w0 => ?_)
  refine sq ?_
  refine rg ?_
  refine q (vAs rfl) rfl ?_
  refine nil ?_
  refine thN ?_
  refine sq ?_
  refine rg ?_
  refine q (vAs rfl) rfl ?_
  refine nil ?_
  refine thN ?_
  refine sq ?_
  refine sq ?_
  refine rg ?_
  refine q (vAs rfl) rfl ?_
  refine nil ?_
  refine thN ?_
  refine bk ?_
  refine nilsl 35 32 ?_
  refine loop (ι := Nat × Value) (fun (p : Nat × Value) => [(0, va), (1, vn), (5, p.2), (6, .int .i64 (p.1 : Int))]) (fun (p : Nat × Value) => [sl p.2 35 32 (((idsF all nb).take p.1).map encId)]) (fun (p : Nat × Value) => fun S' => p.1 ≤ nb.length) (fun (p : Nat × Value) => nb.length - p.1) (0, .slice none 0 0) (Nat.zero_le _) (.cons rfl (by first | rfl | simp | (simp <;> omega)) (.cons rfl (by first | rfl | simp | (simp <;> omega)) (.cons rfl (by first | rfl | simp | (simp <;> omega)) (.cons rfl (by first | rfl | simp | (simp <;> omega)) .nil)))) (.cons T0 (Ent.Le.of (by first | rfl | simp | (simp <;> omega))) .nil) ?_
  rintro ⟨i, w3⟩ S3 hle3 h1
  replace ha := ha.mono hle3
  replace hn := hn.mono hle3
  dsimp only at h1 ⊢
  have htl : (((idsF all nb).take i).map encId).length = i := by rw [List.length_map, List.length_take, hfl]; omega
  refine sq ?_
  refine sq ?_
  refine rg ?_
  refine q (vMv rfl) rfl ?_
  refine q (vMv rfl) rfl ?_
  refine q (SrcOk.len (srcP hn) Tryz.underlying23 rfl) rfl ?_
  refine q (vLt rfl rfl) rfl ?_
  refine nil ?_
  refine thN ?_
  refine cd rfl (fun hd => ?_) (fun hd => ?_) <;> try simp only [bls, beq_iff_eq, bne_iff_ne, Int.reduceToNat, List.length_map] at hd
  · skip
    have hi : i < nb.length := by omega
    have e1 := idsF_next all nb i hi
    refine sk ?_
    refine thN ?_
    refine sq ?_
    refine bk ?_
    refine sq ?_
    refine rg ?_
    refine q (vMv rfl) rfl ?_
    refine q (SrcOk.len (srcP ha) Tryz.underlying27 rfl) rfl ?_
    refine q (vEq rfl rfl) rfl ?_
    refine q (vMv rfl) rfl ?_
    apply gOr 16 23 7
    · rfl
    · intro hb1 hX1
      have hc1 := hb1 ; try simp only [bls, beq_iff_eq, bne_iff_ne, Int.reduceToNat, List.length_map] at hc1
      refine qF ⟨_, _, rfl, rfl, rfl⟩ rfl ?_
      refine qF ⟨_, _, rfl, rfl, rfl⟩ rfl ?_
      refine qF ⟨_, _, rfl, rfl, rfl⟩ rfl ?_
      refine qF ⟨_, _, rfl, rfl, rfl⟩ rfl ?_
      refine qF ⟨_, _, rfl, rfl, rfl⟩ rfl ?_
      refine qF ⟨_, _, rfl, rfl, rfl⟩ rfl ?_
      refine q (vPkT rfl rfl) rfl ?_
      exact gOT 7 16 rfl rfl rfl rfl hb1 hX1
    · intro hb1 hX1
      have hc1 := hb1 ; try simp only [bls, beq_iff_eq, bne_iff_ne, Int.reduceToNat, List.length_map] at hc1
      refine qT ⟨_, rfl, rfl⟩ (vMv rfl) rfl ?_
      refine qT ⟨_, rfl, rfl⟩ (vMv rfl) rfl ?_
      refine qT ⟨_, rfl, rfl⟩ (vIxP sl23 rfl rfl hn (by first | omega | (simp only [Int.toNat_natCast, Int.reduceToNat, List.length_append, List.length_cons, List.length_nil, List.length_map, bid_len]; omega) | (simp <;> omega))) rfl ?_
      refine qT ⟨_, rfl, rfl⟩ (vLd sc5 rfl (rP hn (gm (by first | omega | (simp only [Int.toNat_natCast, Int.reduceToNat, List.length_append, List.length_cons, List.length_nil, List.length_map, bid_len]; omega) | (simp <;> omega))))) rfl ?_
      refine qT ⟨_, rfl, rfl⟩ (tCvI8 Tryz.underlying3 Tryz.underlying5 rfl) rfl ?_
      refine qT ⟨_, rfl, rfl⟩ (vGe rfl rfl) rfl ?_
      refine q (vPkF rfl rfl) rfl ?_
      exact gOF 7 16 rfl rfl rfl rfl hb1 hX1
    refine nil ?_
    refine thN ?_
    refine cd rfl (fun hq => ?_) (fun hq => ?_) <;> try simp only [bls, beq_iff_eq, bne_iff_ne, Int.reduceToNat, List.length_map] at hq
    · skip
      have e2 : pickId all (nb.getD i 0) = oneId (nb.getD i 0) := by
        rw [pickId, if_pos]
        have : nb.getD i default = nb.getD i 0 := rfl
        rw [← this]
        omega
      rw [e2] at e1
      refine rg ?_
      refine q (vMv rfl) rfl ?_
      refine q (vMv rfl) rfl ?_
      refine q (vMv rfl) rfl ?_
      refine q (vIxP sl23 rfl rfl hn (by first | omega | (simp only [Int.toNat_natCast, Int.reduceToNat, List.length_append, List.length_cons, List.length_nil, List.length_map, bid_len]; omega) | (simp <;> omega))) rfl ?_
      refine q (vLd sc5 rfl (rP hn (gm (by first | omega | (simp only [Int.toNat_natCast, Int.reduceToNat, List.length_append, List.length_cons, List.length_nil, List.length_map, bid_len]; omega) | (simp <;> omega))))) rfl ?_
      refine q (vBuildId ze35 ar35 rfl) rfl ?_
      refine l rfl (bslice sl27 ze35 (.cA rfl .nil) (by simp) rfl rfl rfl rfl ?_)
      intro B30
      refine l rfl (app ap27 rfl rfl T1 (srcO T0) (by first | omega | (simp only [Int.toNat_natCast, Int.reduceToNat, List.length_append, List.length_cons, List.length_nil, List.length_map, bid_len]; omega) | (simp <;> omega)) rfl ?_)
      intro v31 hv31
      refine q (vAs rfl) rfl ?_
      refine nil ?_
      refine bkN ?_
      refine thN ?_
      refine rg ?_
      refine q (vMv rfl) rfl ?_
      refine q (vAdd rfl rfl (by first | omega | (simp only [Int.toNat_natCast, Int.reduceToNat, List.length_append, List.length_cons, List.length_nil, List.length_map, bid_len]; omega) | (simp <;> omega))) rfl ?_
      refine q (vAs rfl) rfl ?_
      refine nil ?_
      refine thN ?_
      refine back ((i + 1, v31)) (Le.refl _) ⟨by dsimp only; omega, by dsimp only; omega⟩ (.cons rfl (by first | rfl | (simp only [e1, List.map_append, List.map_cons, List.map_nil, Int.toNat_natCast]; done) | (simp only [e1, List.map_append, List.map_cons, List.map_nil, Int.toNat_natCast]; rfl)) (.cons rfl (by first | rfl | (simp only [e1, List.map_append, List.map_cons, List.map_nil, Int.toNat_natCast]; done) | (simp only [e1, List.map_append, List.map_cons, List.map_nil, Int.toNat_natCast]; rfl)) (.cons rfl (by first | rfl | (simp only [e1, List.map_append, List.map_cons, List.map_nil, Int.toNat_natCast]; done) | (simp only [e1, List.map_append, List.map_cons, List.map_nil, Int.toNat_natCast]; rfl)) (.cons rfl (by first | rfl | (simp only [e1, List.map_append, List.map_cons, List.map_nil, Int.toNat_natCast]; done) | (simp only [e1, List.map_append, List.map_cons, List.map_nil, Int.toNat_natCast]; rfl)) .nil)))) (.cons T0 (Ent.Le.of (by first | rfl | (simp only [e1, List.map_append, List.map_cons, List.map_nil, Int.toNat_natCast]; done) | (simp only [e1, List.map_append, List.map_cons, List.map_nil, Int.toNat_natCast]; rfl))) .nil)
    · skip
      have hm0 : 0 ≤ ((nb[i]?.getD default).toNat : Int) % (all.length : Int) := Int.emod_nonneg _ (by omega)
      have hm1 : ((nb[i]?.getD default).toNat : Int) % (all.length : Int) < all.length := Int.emod_lt_of_pos _ (by omega)
      have e2 : pickId all (nb.getD i 0) = all.getD (((all.length : Int) - 1 - ((nb[i]?.getD default).toNat : Int) % (all.length : Int)).toNat) default := by
        rw [pickId, if_neg (by have : nb.getD i default = nb.getD i 0 := rfl; rw [← this]; omega)]
        congr 1
        have : nb.getD i 0 = nb[i]?.getD default := by rw [List.getD_eq_getElem?_getD]; rfl
        rw [this]
        omega
      rw [e2] at e1
      refine rg ?_
      refine q (vMv rfl) rfl ?_
      refine q (vMv rfl) rfl ?_
      refine q (vMv rfl) rfl ?_
      refine q (SrcOk.len (srcP ha) Tryz.underlying27 rfl) rfl ?_
      refine q (vSub rfl rfl (by first | omega | (simp only [Int.toNat_natCast, Int.reduceToNat, List.length_append, List.length_cons, List.length_nil, List.length_map, bid_len]; omega) | (simp <;> omega))) rfl ?_
      refine q (vMv rfl) rfl ?_
      refine q (vMv rfl) rfl ?_
      refine q (vIxP sl23 rfl rfl hn (by first | omega | (simp only [Int.toNat_natCast, Int.reduceToNat, List.length_append, List.length_cons, List.length_nil, List.length_map, bid_len]; omega) | (simp <;> omega))) rfl ?_
      refine q (vLd sc5 rfl (rP hn (gm (by first | omega | (simp only [Int.toNat_natCast, Int.reduceToNat, List.length_append, List.length_cons, List.length_nil, List.length_map, bid_len]; omega) | (simp <;> omega))))) rfl ?_
      refine q (tCvI8 Tryz.underlying3 Tryz.underlying5 rfl) rfl ?_
      refine q (vMv rfl) rfl ?_
      refine q (SrcOk.len (srcP ha) Tryz.underlying27 rfl) rfl ?_
      refine q (vRem rfl rfl (by first | omega | (simp only [Int.toNat_natCast, Int.reduceToNat, List.length_append, List.length_cons, List.length_nil, List.length_map, bid_len]; omega) | (simp <;> omega))) rfl ?_
      refine q (vSub rfl rfl (by first | omega | (simp only [Int.toNat_natCast, Int.reduceToNat, List.length_append, List.length_cons, List.length_nil, List.length_map, bid_len]; omega) | (simp <;> omega))) rfl ?_
      refine q (vIxP sl27 rfl rfl ha (by first | omega | (simp only [Int.toNat_natCast, Int.reduceToNat, List.length_append, List.length_cons, List.length_nil, List.length_map, bid_len]; omega) | (simp <;> omega))) rfl ?_
      refine q (vLdA ag35 rfl (Rd.f1 (rP ha (gm (by first | omega | (simp only [Int.toNat_natCast, Int.reduceToNat, List.length_append, List.length_cons, List.length_nil, List.length_map, bid_len]; omega) | (simp <;> omega))))) (by simp)) rfl ?_
      refine l rfl (bslice sl27 ze35 (.cA rfl .nil) (by simp) rfl rfl rfl rfl ?_)
      intro B48
      refine l rfl (app ap27 rfl rfl T1 (srcO T0) (by first | omega | (simp only [Int.toNat_natCast, Int.reduceToNat, List.length_append, List.length_cons, List.length_nil, List.length_map, bid_len]; omega) | (simp <;> omega)) rfl ?_)
      intro v49 hv49
      refine q (vAs rfl) rfl ?_
      refine nil ?_
      refine bkN ?_
      refine thN ?_
      refine rg ?_
      refine q (vMv rfl) rfl ?_
      refine q (vAdd rfl rfl (by first | omega | (simp only [Int.toNat_natCast, Int.reduceToNat, List.length_append, List.length_cons, List.length_nil, List.length_map, bid_len]; omega) | (simp <;> omega))) rfl ?_
      refine q (vAs rfl) rfl ?_
      refine nil ?_
      refine thN ?_
      refine back ((i + 1, v49)) (Le.refl _) ⟨by dsimp only; omega, by dsimp only; omega⟩ (.cons rfl (by first | rfl | (simp only [e1, List.map_append, List.map_cons, List.map_nil, Int.toNat_natCast, List.getD_eq_getElem?_getD, List.length_map]; done) | (simp only [e1, List.map_append, List.map_cons, List.map_nil, Int.toNat_natCast, List.getD_eq_getElem?_getD, List.length_map]; rfl)) (.cons rfl (by first | rfl | (simp only [e1, List.map_append, List.map_cons, List.map_nil, Int.toNat_natCast, List.getD_eq_getElem?_getD, List.length_map]; done) | (simp only [e1, List.map_append, List.map_cons, List.map_nil, Int.toNat_natCast, List.getD_eq_getElem?_getD, List.length_map]; rfl)) (.cons rfl (by first | rfl | (simp only [e1, List.map_append, List.map_cons, List.map_nil, Int.toNat_natCast, List.getD_eq_getElem?_getD, List.length_map]; done) | (simp only [e1, List.map_append, List.map_cons, List.map_nil, Int.toNat_natCast, List.getD_eq_getElem?_getD, List.length_map]; rfl)) (.cons rfl (by first | rfl | (simp only [e1, List.map_append, List.map_cons, List.map_nil, Int.toNat_natCast, List.getD_eq_getElem?_getD, List.length_map]; done) | (simp only [e1, List.map_append, List.map_cons, List.map_nil, Int.toNat_natCast, List.getD_eq_getElem?_getD, List.length_map]; rfl)) .nil)))) (.cons T0 (Ent.Le.of (by first | rfl | (simp only [e1, List.map_append, List.map_cons, List.map_nil, Int.toNat_natCast, List.getD_eq_getElem?_getD, List.length_map]; done) | (simp only [e1, List.map_append, List.map_cons, List.map_nil, Int.toNat_natCast, List.getD_eq_getElem?_getD, List.length_map]; rfl))) .nil)
  · skip
    have e1 : (idsF all nb).take i = idsF all nb := List.take_of_length_le (by rw [hfl]; omega)
    rw [e1]
    refine xt ?_
    refine thX ?_
    refine thX ?_
    refine bkX ?_
    refine thN ?_
    refine sq ?_
    refine rg ?_
    refine q (vMv rfl) rfl ?_
    refine q (vAs rfl) rfl ?_
    refine nil ?_
    refine thN ?_
    refine rt ?_
    refine pub T0 (fun S1 hS1 hO => ?_)
    replace ha := ha.mono hS1
    replace hn := hn.mono hS1
    refine ret rfl (.t rfl .nil) .nil ⟨hO, rfl⟩
theorem name_spec (n : Nat) (hn : n < 1000) (S : Mem) : Spec Tryz.prog 153 [.int .i64 (n : Int)] S [] (fun S' r L' => ∃ c : UInt8, r = str [c] ∧ L' = []) := by
  refine enter Tryz.func153 rfl 9 rfl rfl (fun w0 => ?_)
  refine sq ?_
  refine rg ?_
  refine q (vAs rfl) rfl ?_
  refine nil ?_
  refine thN ?_
  refine sq ?_
  refine rg ?_
  refine q (vMv rfl) rfl ?_
  refine q (vRem rfl rfl (by first | omega | (simp only [Int.toNat_natCast, Int.reduceToNat, List.length_append, List.length_cons, List.length_nil, List.length_map, bid_len]; omega) | (simp <;> omega))) rfl ?_
  refine q (vAdd rfl rfl (by first | omega | (simp only [Int.toNat_natCast, Int.reduceToNat, List.length_append, List.length_cons, List.length_nil, List.length_map, bid_len]; omega) | (simp <;> omega))) rfl ?_
  refine q (tCvU8 Tryz.underlying5 Tryz.underlying3 rfl) rfl ?_
  refine l rfl (bslice sl23 ze5 (.c1 rfl inferInstance .nil) (by simp) rfl rfl rfl rfl ?_)
  intro B7
  refine q (vToStr Tryz.underlying23 Tryz.underlying5 Tryz.underlying9 rfl (srcO T0) (.c .n)) rfl ?_
  refine q (vAs rfl) rfl ?_
  refine nil ?_
  refine thN ?_
  refine rt ?_
  refine ret rfl (.t rfl .nil) .nil ⟨_, rfl, rfl⟩
theorem pick_spec {v va : Value} {R : List RIt} {ids : List BId} {S : Mem} {E1 : Ent} (h : RS S v R) (hr : Rising (keys (texts R))) (ha : SrcOk S [E1] va 32 (ids.map encId)) (hal : ids.length < 100000) (n kd : Nat) (hn : n < 1000000) (hkd : kd < 100) :
    Spec Tryz.prog 152 [ag [[v]], va, .int .i64 (n : Int), .int .i64 (kd : Int)] S [E1] (fun S' r L' => ∃ x ok, r = .tuple [idv x, .bool ok].toArray ∧ L' = [E1]) := by
  have hpl := h.pl
  have hs0 := hpl.sc
  refine enter Tryz.func152 rfl 62 rfl rfl (fun w0 => ?_)
  refine sq ?_
  refine rg ?_
  refine l rfl (box rfl rfl ?_)
  intro B4
  refine l rfl (alloc ze35 rfl ?_)
  intro B8
  refine q (vAs rfl) rfl ?_
  refine nil ?_
  refine thN ?_
  refine sq ?_
  refine rg ?_
  refine q (vAs rfl) rfl ?_
  refine nil ?_
  refine thN ?_
  refine sq ?_
  refine sq ?_
  refine rg ?_
  refine q (vAs rfl) rfl ?_
  refine nil ?_
  refine thN ?_
  refine bk ?_
  refine nilsl 35 32 ?_
  refine loop (ι := Nat × Value × List BId) (fun (p : Nat × Value × List BId) => [(1, va), (2, .int .i64 (n : Int)), (3, .int .i64 (kd : Int)), (4, .pointer (some ⟨B4, 0, none⟩)), (8, .pointer (some ⟨B8, 0, none⟩)), (10, p.2.1), (11, .int .i64 (p.1 : Int))]) (fun (p : Nat × Value × List BId) => [E1, blk B4 30 [[v]], blk B8 35 [encId zid], sl p.2.1 35 32 (p.2.2.map encId)]) (fun (p : Nat × Value × List BId) => fun S' => p.1 ≤ ids.length ∧ p.2.2.length ≤ p.1) (fun (p : Nat × Value × List BId) => ids.length - p.1) (0, .slice none 0 0, []) ⟨Nat.zero_le _, Nat.zero_le _⟩ (.cons rfl (by first | rfl | simp | (simp <;> omega)) (.cons rfl (by first | rfl | simp | (simp <;> omega)) (.cons rfl (by first | rfl | simp | (simp <;> omega)) (.cons rfl (by first | rfl | simp | (simp <;> omega)) (.cons rfl (by first | rfl | simp | (simp <;> omega)) (.cons rfl (by first | rfl | simp | (simp <;> omega)) (.cons rfl (by first | rfl | simp | (simp <;> omega)) .nil))))))) (.cons T3 (Ent.Le.of (by first | rfl | simp | (simp <;> omega))) (.cons T2 (Ent.Le.of (by first | rfl | simp | (simp <;> omega))) (.cons T1 (Ent.Le.of (by first | rfl | simp | (simp <;> omega))) (.cons T0 (Ent.Le.of (by first | rfl | simp | (simp <;> omega))) .nil)))) ?_
  rintro ⟨i, w3, os⟩ S3 hle3 ⟨h1, h2⟩
  replace h := h.mono hle3
  replace hpl := hpl.mono hle3
  replace ha := ha.mono hle3
  dsimp only at h1 h2 ⊢
  refine sq ?_
  refine sq ?_
  refine rg ?_
  refine q (vMv rfl) rfl ?_
  refine q (vMv rfl) rfl ?_
  refine q (SrcOk.len (SrcOk.takes ha (.cons T0 .nil)) Tryz.underlying27 rfl) rfl ?_
  refine q (vLt rfl rfl) rfl ?_
  refine nil ?_
  refine thN ?_
  refine cd rfl (fun hd => ?_) (fun hd => ?_) <;> try simp only [bls, beq_iff_eq, bne_iff_ne, Int.reduceToNat, List.length_map] at hd
  · skip
    have hi : i < ids.length := by omega
    refine sk ?_
    refine thN ?_
    refine sq ?_
    refine bk ?_
    refine sq ?_
    refine dr (.take 0 (.take 1 (.take 2 (.take 3 (.take 4 (.one 5 (.take 6 .done))))))) wide (by decide +kernel) _ _ (.cons T0 (.cons T0 (.cons T0 (.cons T0 .nil)))) ?_
    refine pT rfl (vLdA ag30 rfl (rB T1 (.z (.c .n))) (by simp)) rfl ?_
    refine pT rfl (vMv rfl) rfl ?_
    refine pT rfl (vMv rfl) rfl ?_
    refine pT rfl (vIxSrc sl27 rfl rfl (SrcOk.takes ha (.cons T0 .nil)) (by first | omega | (simp only [Int.toNat_natCast, Int.reduceToNat, List.length_append, List.length_cons, List.length_nil, List.length_map, bid_len]; omega) | (simp <;> omega))) rfl ?_
    refine pT rfl (vLdA ag35 rfl (Rd.f1 (rSrc (SrcOk.takes ha (.cons T0 .nil)) (gm (by first | omega | (simp only [Int.toNat_natCast, Int.reduceToNat, List.length_append, List.length_cons, List.length_nil, List.length_map, bid_len]; omega) | (simp <;> omega))))) (by simp)) rfl ?_
    refine pO ?_
    refine opL rfl rfl (callP cf22 (ref_Kind_spec h hr _) rfl .nil rfl ?_)
    refine pK (Le.refl _) (.cons T0 (.cons T0 (.cons T0 (.cons T0 .nil)))) ?_
    refine pT rfl (vAs rfl) rfl ?_
    refine pDone ?_
    refine thN ?_
    refine sq ?_
    refine rg ?_
    refine q (vMv rfl) rfl ?_
    refine q (vMv rfl) rfl ?_
    refine q (vEq rfl rfl) rfl ?_
    refine q (vMv rfl) rfl ?_
    apply gOr 28 31 3
    · rfl
    · intro hb1 hX1
      have hc1 := hb1 ; try simp only [bls, beq_iff_eq, bne_iff_ne, Int.reduceToNat, List.length_map] at hc1
      refine qF ⟨_, _, rfl, rfl, rfl⟩ rfl ?_
      refine qF ⟨_, _, rfl, rfl, rfl⟩ rfl ?_
      refine q (vPkT rfl rfl) rfl ?_
      exact gOT 3 28 rfl rfl rfl rfl hb1 hX1
    · intro hb1 hX1
      have hc1 := hb1 ; try simp only [bls, beq_iff_eq, bne_iff_ne, Int.reduceToNat, List.length_map] at hc1
      refine qT ⟨_, rfl, rfl⟩ (vMv rfl) rfl ?_
      refine qT ⟨_, rfl, rfl⟩ (vEq rfl rfl) rfl ?_
      refine q (vPkF rfl rfl) rfl ?_
      exact gOF 3 28 rfl rfl rfl rfl hb1 hX1
    refine q (vMv rfl) rfl ?_
    apply gOr 32 39 7
    · rfl
    · intro hb2 hX2
      have hc2 := hb2 ; try simp only [bls, beq_iff_eq, bne_iff_ne, Int.reduceToNat, List.length_map] at hc2
      refine qF ⟨_, _, rfl, rfl, rfl⟩ rfl ?_
      refine qF ⟨_, _, rfl, rfl, rfl⟩ rfl ?_
      refine qF ⟨_, _, rfl, rfl, rfl⟩ rfl ?_
      refine qF ⟨_, _, rfl, rfl, rfl⟩ rfl ?_
      refine qF ⟨_, _, rfl, rfl, rfl⟩ rfl ?_
      refine qF ⟨_, _, rfl, rfl, rfl⟩ rfl ?_
      refine q (vPkT rfl rfl) rfl ?_
      exact gOT 7 32 rfl rfl rfl rfl hb2 hX2
    · intro hb2 hX2
      have hc2 := hb2 ; try simp only [bls, beq_iff_eq, bne_iff_ne, Int.reduceToNat, List.length_map] at hc2
      refine qT ⟨_, rfl, rfl⟩ (vMv rfl) rfl ?_
      refine qT ⟨_, rfl, rfl⟩ (vEq rfl rfl) rfl ?_
      refine qT ⟨_, rfl, rfl⟩ (vMv rfl) rfl ?_
      apply gAnd 35 38 3
      · rfl
      · intro hb3 hX3
        have hc3 := hb3 ; try simp only [bls, beq_iff_eq, bne_iff_ne, Int.reduceToNat, List.length_map] at hc3
        refine qT ⟨_, rfl, rfl⟩ (vMv rfl) rfl ?_
        refine qT ⟨_, rfl, rfl⟩ (vLt rfl rfl) rfl ?_
        refine qT ⟨_, rfl, rfl⟩ (vPkT rfl rfl) rfl ?_
        exact gTT 3 35 rfl rfl rfl rfl hb3 hX3
      · intro hb3 hX3
        have hc3 := hb3 ; try simp only [bls, beq_iff_eq, bne_iff_ne, Int.reduceToNat, List.length_map] at hc3
        refine qF ⟨_, _, rfl, rfl, rfl⟩ rfl ?_
        refine qF ⟨_, _, rfl, rfl, rfl⟩ rfl ?_
        refine qT ⟨_, rfl, rfl⟩ (vPkF rfl rfl) rfl ?_
        exact gTF 3 35 rfl rfl rfl rfl hb3 hX3
      refine q (vPkF rfl rfl) rfl ?_
      exact gOF 5 32 rfl rfl rfl rfl hb2 hX2
    refine nil ?_
    refine thN ?_
    refine cd rfl (fun hq => ?_) (fun hq => ?_) <;> try simp only [bls, beq_iff_eq, bne_iff_ne, Int.reduceToNat, List.length_map] at hq
    · skip
      have e1 : (os ++ [ids.getD i default]).map encId = os.map encId ++ [encId (ids.getD i default)] := by simp
      refine rg ?_
      refine q (vMv rfl) rfl ?_
      refine q (vMv rfl) rfl ?_
      refine q (vMv rfl) rfl ?_
      refine q (vIxSrc sl27 rfl rfl (SrcOk.takes ha (.cons T0 .nil)) (by first | omega | (simp only [Int.toNat_natCast, Int.reduceToNat, List.length_append, List.length_cons, List.length_nil, List.length_map, bid_len]; omega) | (simp <;> omega))) rfl ?_
      refine q (vLdA ag35 rfl (Rd.f1 (rSrc (SrcOk.takes ha (.cons T0 .nil)) (gm (by first | omega | (simp only [Int.toNat_natCast, Int.reduceToNat, List.length_append, List.length_cons, List.length_nil, List.length_map, bid_len]; omega) | (simp <;> omega))))) (by simp)) rfl ?_
      refine l rfl (bslice sl27 ze35 (.cA rfl .nil) (by simp) rfl rfl rfl rfl ?_)
      intro B45
      refine l rfl (app ap27 rfl rfl T4 (srcO T0) (by first | omega | (simp only [Int.toNat_natCast, Int.reduceToNat, List.length_append, List.length_cons, List.length_nil, List.length_map, bid_len]; omega) | (simp <;> omega)) rfl ?_)
      intro v46 hv46
      refine q (vAs rfl) rfl ?_
      refine nil ?_
      refine bkN ?_
      refine thN ?_
      refine rg ?_
      refine q (vMv rfl) rfl ?_
      refine q (vAdd rfl rfl (by first | omega | (simp only [Int.toNat_natCast, Int.reduceToNat, List.length_append, List.length_cons, List.length_nil, List.length_map, bid_len]; omega) | (simp <;> omega))) rfl ?_
      refine q (vAs rfl) rfl ?_
      refine nil ?_
      refine thN ?_
      refine back ((i + 1, v46, os ++ [ids.getD i default])) (Le.refl _) ⟨⟨by dsimp only; omega, by dsimp only; rw [List.length_append]; simp only [List.length_cons, List.length_nil]; omega⟩, by dsimp only; omega⟩ (.cons rfl (by first | rfl | (simp only [e1, Int.toNat_natCast]; done) | (simp only [e1, Int.toNat_natCast]; rfl)) (.cons rfl (by first | rfl | (simp only [e1, Int.toNat_natCast]; done) | (simp only [e1, Int.toNat_natCast]; rfl)) (.cons rfl (by first | rfl | (simp only [e1, Int.toNat_natCast]; done) | (simp only [e1, Int.toNat_natCast]; rfl)) (.cons rfl (by first | rfl | (simp only [e1, Int.toNat_natCast]; done) | (simp only [e1, Int.toNat_natCast]; rfl)) (.cons rfl (by first | rfl | (simp only [e1, Int.toNat_natCast]; done) | (simp only [e1, Int.toNat_natCast]; rfl)) (.cons rfl (by first | rfl | (simp only [e1, Int.toNat_natCast]; done) | (simp only [e1, Int.toNat_natCast]; rfl)) (.cons rfl (by first | rfl | (simp only [e1, Int.toNat_natCast]; done) | (simp only [e1, Int.toNat_natCast]; rfl)) .nil))))))) (.cons T2 (Ent.Le.of (by first | rfl | (simp only [e1, Int.toNat_natCast]; done) | (simp only [e1, Int.toNat_natCast]; rfl))) (.cons T2 (Ent.Le.of (by first | rfl | (simp only [e1, Int.toNat_natCast]; done) | (simp only [e1, Int.toNat_natCast]; rfl))) (.cons T2 (Ent.Le.of (by first | rfl | (simp only [e1, Int.toNat_natCast]; done) | (simp only [e1, Int.toNat_natCast]; rfl))) (.cons T0 (Ent.Le.of (by first | rfl | (simp only [e1, Int.toNat_natCast]; done) | (simp only [e1, Int.toNat_natCast]; rfl))) .nil))))
    · skip
      refine sk ?_
      refine bkN ?_
      refine thN ?_
      refine rg ?_
      refine q (vMv rfl) rfl ?_
      refine q (vAdd rfl rfl (by first | omega | (simp only [Int.toNat_natCast, Int.reduceToNat, List.length_append, List.length_cons, List.length_nil, List.length_map, bid_len]; omega) | (simp <;> omega))) rfl ?_
      refine q (vAs rfl) rfl ?_
      refine nil ?_
      refine thN ?_
      refine back ((i + 1, w3, os)) (Le.refl _) ⟨⟨by dsimp only; omega, by dsimp only; omega⟩, by dsimp only; omega⟩ (.cons rfl (by first | rfl | simp | (simp <;> omega)) (.cons rfl (by first | rfl | simp | (simp <;> omega)) (.cons rfl (by first | rfl | simp | (simp <;> omega)) (.cons rfl (by first | rfl | simp | (simp <;> omega)) (.cons rfl (by first | rfl | simp | (simp <;> omega)) (.cons rfl (by first | rfl | simp | (simp <;> omega)) (.cons rfl (by first | rfl | simp | (simp <;> omega)) .nil))))))) (.cons T0 (Ent.Le.of (by first | rfl | simp | (simp <;> omega))) (.cons T0 (Ent.Le.of (by first | rfl | simp | (simp <;> omega))) (.cons T0 (Ent.Le.of (by first | rfl | simp | (simp <;> omega))) (.cons T0 (Ent.Le.of (by first | rfl | simp | (simp <;> omega))) .nil))))
  · skip
    refine xt ?_
    refine thX ?_
    refine thX ?_
    refine bkX ?_
    refine thN ?_
    refine sq ?_
    refine sq ?_
    refine rg ?_
    refine q (vMv rfl) rfl ?_
    refine q (SrcOk.len (srcO T3) Tryz.underlying27 rfl) rfl ?_
    refine q (vEq rfl rfl) rfl ?_
    refine nil ?_
    refine thN ?_
    refine cd rfl (fun hq => ?_) (fun hq => ?_) <;> try simp only [bls, beq_iff_eq, bne_iff_ne, Int.reduceToNat, List.length_map] at hq
    · skip
      refine sq ?_
      refine rg ?_
      refine q (vBuildA0 ze35 ar35) rfl ?_
      refine l rfl (store sz35 rfl rfl T2 (by simp) (.z (.c inferInstance inferInstance .n)) ?_)
      refine q (vAs rfl) rfl ?_
      refine nil ?_
      refine thN ?_
      refine rt ?_
      refine thR ?_
      refine ret rfl (.c ag35 rfl (rB T0 (.z (.c .n))) (by simp) (.t rfl .nil)) (.t T1 .nil) ⟨zid, false, rfl, rfl⟩
    · skip
      have hm0 : 0 ≤ (n : Int) % (os.length : Int) := Int.emod_nonneg _ (by omega)
      have hm1 : (n : Int) % (os.length : Int) < os.length := Int.emod_lt_of_pos _ (by omega)
      refine sk ?_
      refine thN ?_
      refine sq ?_
      refine rg ?_
      refine q (vMv rfl) rfl ?_
      refine q (vMv rfl) rfl ?_
      refine q (SrcOk.len (srcO T3) Tryz.underlying27 rfl) rfl ?_
      refine q (vSub rfl rfl (by first | omega | (simp only [Int.toNat_natCast, Int.reduceToNat, List.length_append, List.length_cons, List.length_nil, List.length_map, bid_len]; omega) | (simp <;> omega))) rfl ?_
      refine q (vMv rfl) rfl ?_
      refine q (vMv rfl) rfl ?_
      refine q (SrcOk.len (srcO T3) Tryz.underlying27 rfl) rfl ?_
      refine q (vRem rfl rfl (by first | omega | (simp only [Int.toNat_natCast, Int.reduceToNat, List.length_append, List.length_cons, List.length_nil, List.length_map, bid_len]; omega) | (simp <;> omega))) rfl ?_
      refine q (vSub rfl rfl (by first | omega | (simp only [Int.toNat_natCast, Int.reduceToNat, List.length_append, List.length_cons, List.length_nil, List.length_map, bid_len]; omega) | (simp <;> omega))) rfl ?_
      refine q (vIxO sl27 rfl rfl T3 (by first | omega | (simp only [Int.toNat_natCast, Int.reduceToNat, List.length_append, List.length_cons, List.length_nil, List.length_map, bid_len]; omega) | (simp <;> omega))) rfl ?_
      refine q (vLdA ag35 rfl (Rd.f1 (rO T3 (gm (by first | omega | (simp only [Int.toNat_natCast, Int.reduceToNat, List.length_append, List.length_cons, List.length_nil, List.length_map, bid_len]; omega) | (simp <;> omega))))) (by simp)) rfl ?_
      refine l rfl (store sz35 rfl rfl T2 (by simp) (.z (.c inferInstance inferInstance .n)) ?_)
      refine q (vAs rfl) rfl ?_
      refine nil ?_
      refine thN ?_
      refine rt ?_
      refine ret rfl (.c ag35 rfl (rB T0 (.z (.c .n))) (by simp) (.t rfl .nil)) (.t T1 .nil) ⟨_, true, rfl, rfl⟩
end Go.Proofs.YtjmigoikklkfdaaGreatDoor
namespace Go.Proofs.YtjmigoikklkfdaaGreatDoor
open Go
set_option linter.unusedVariables false
set_option linter.unusedSimpArgs false
set_option maxRecDepth 4000
structure DSeed where
  kind : UInt8
  refs : List UInt8
  time : Nat
  text : List UInt8
  vr : Value
instance : Inhabited DSeed := ⟨⟨0, [], 0, [], .slice none 0 0⟩⟩
abbrev segsSd (x : DSeed) : List (List Value) := [[u8v x.kind], [x.vr], [.int .u16 (x.time : Int)], [str x.text]]
def PX (S : Mem) (v : Value) (m : Nat) (xs : List (List Value)) : Prop := PSl S v m xs ∨ (xs = [] ∧ ∃ a c, v = .slice a 0 c)
theorem PX.mono {S S' : Mem} {v : Value} {m : Nat} {xs : List (List Value)} (h : PX S v m xs) (l : Le S S') : PX S' v m xs := h.imp (fun h => h.mono l) id
theorem PX.sc {S : Mem} {v : Value} {m : Nat} {xs : List (List Value)} (h : PX S v m xs) : Sc v := by
  rcases h with h | ⟨_, a, c, rfl⟩
  · exact h.sc
  · exact ⟨rfl⟩
theorem PX.psl {S : Mem} {v : Value} {m : Nat} {xs : List (List Value)} (h : PX S v m xs) (hn : 0 < xs.length) : PSl S v m xs := by
  rcases h with h | ⟨rfl, _⟩
  · exact h
  · cases hn
theorem vLenX {P : Program} {S : Mem} {e : Env} {L : List Ent} {ty : TypeId} {T E m x v xs tys} (ht : P.underlying T = some (.slice E)) (hx : ev e x = some v) (hp : PX S v m xs) : Val P S L e (.call ⟨.builtin .len, [x].toArray, (T :: tys).toArray⟩) ty (.int .i64 xs.length) := by
  rcases hp with hp | ⟨rfl, a, c, rfl⟩
  · exact vLenP ht hx hp
  · intro ac w d pos aft g ha hc
    simp [execOp, resolve, invoke, builtin, Builtin.len_, ha.ev hx, run_underlying ht, goInt]
structure SeedIn (S : Mem) (x : DSeed) : Prop where
  r : PX S x.vr 1 (b1 x.refs)
  t : x.time < 65536
  tb : x.text.length ≤ 9223372036854775807
theorem SeedIn.mono {S S' x} (h : SeedIn S x) (l : Le S S') : SeedIn S' x := ⟨h.r.mono l, h.t, h.tb⟩
structure SeedOk (S : Mem) (x : DSeed) : Prop where
  r : PX S x.vr 1 (b1 x.refs)
  t : x.time < 65536
  rl : x.refs.length < 100000
  tl : x.text.length < 100000
theorem SeedOk.mono {S S' x} (h : SeedOk S x) (l : Le S S') : SeedOk S' x := ⟨h.r.mono l, h.t, h.rl, h.tl⟩
theorem small_z : Small zobj := ⟨by decide, by decide, by decide, by decide, by decide, fun j => by simp [zobj]; decide⟩
theorem small_d (s : List UInt8) (h : s.length < 100000) : Small { zobj with kind := 1, data := s } :=
  ⟨by show s.length < _; omega, by show ([] : List UInt8).length < _; decide, by show ([] : List UInt8).length < _; decide, by show ([] : List BId).length < _; decide, by show ([] : List DEnt).length < _; decide, fun j => by simp [zobj]; decide⟩
theorem pickN {v va : Value} {R : List RIt} {ids : List BId} {S : Mem} {E1 : Ent} (h : RS S v R) (hr : Rising (keys (texts R))) (ha : SrcOk S [E1] va 32 (ids.map encId)) (hal : ids.length < 100000) (n : Nat) (hn : n < 1000000) (k : Int) (hk : 0 ≤ k ∧ k < 100) :
    Spec Tryz.prog 152 [ag [[v]], va, .int .i64 (n : Int), .int .i64 k] S [E1] (fun S' r L' => ∃ x ok, r = .tuple [idv x, .bool ok].toArray ∧ L' = [E1]) := by
  obtain ⟨m, rfl⟩ := Int.eq_ofNat_of_zero_le hk.1
  exact pick_spec h hr ha hal n m hn (by omega)
theorem pickC {v va : Value} {R : List RIt} {ids : List BId} {S : Mem} {E1 : Ent} (h : RS S v R) (hr : Rising (keys (texts R))) (ha : SrcOk S [E1] va 32 (ids.map encId)) (hal : ids.length < 100000) (c : UInt8) (k : Int) (hk : 0 ≤ k ∧ k < 100) :
    Spec Tryz.prog 152 [ag [[v]], va, .int .i64 (c.toNat : Int), .int .i64 k] S [E1] (fun S' r L' => ∃ x ok, r = .tuple [idv x, .bool ok].toArray ∧ L' = [E1]) :=
  pickN h hr ha hal c.toNat (by have := c.toNat_lt; omega) k hk
theorem make1_spec {v va : Value} {R : List RIt} {ids : List BId} {x : DSeed} {S : Mem} {E1 : Ent} (h : RS S v R) (hr : Rising (keys (texts R))) (ha : SrcOk S [E1] va 32 (ids.map encId)) (hal : ids.length < 100000) (hx : SeedOk S x) :
    Spec Tryz.prog 114 [ag [[v]], va, ag (segsSd x)] S [E1] (fun S' r L' => ∃ o ve vp, r = objv o ve vp ∧ Small o ∧ ObjIn S' o ve vp ∧ L' = [E1]) := by
  have hpl := h.pl
  have hxr := hx.r
  have hs0 := hpl.sc
  have hs2 := hxr.sc
  have hxt := hx.t
  have hxl := hx.rl
  have hxtl := hx.tl
  have hbl : (b1 x.refs).length = x.refs.length := by rw [b1, List.length_map]
  refine enter Tryz.func114 rfl 166 rfl rfl (fun w0 => ?_)
  refine sq ?_
  refine rg ?_
  refine l rfl (box rfl rfl ?_)
  intro B3
  refine l rfl (box rfl rfl ?_)
  intro B5
  refine l rfl (alloc ze77 rfl ?_)
  intro B6
  refine nil ?_
  refine thN ?_
  refine sq ?_
  refine sq ?_
  refine rg ?_
  refine q (vFa fa200_0 rfl) rfl ?_
  refine q (vLd sc5 rfl (rB1 T1 (.z (.c .n)))) rfl ?_
  refine q (vRemU8 rfl rfl (by first | omega | (simp only [Int.toNat_natCast, Int.reduceToNat, List.length_append, List.length_cons, List.length_nil, List.length_map, bid_len]; omega) | (simp <;> omega))) rfl ?_
  refine nil ?_
  refine thN ?_
  refine bk ?_
  refine sq ?_
  refine rg ?_
  refine q (vEq rfl rfl) rfl ?_
  refine q (vAs rfl) rfl ?_
  refine nil ?_
  refine thN ?_
  refine cd rfl (fun hk => ?_) (fun hk => ?_) <;> try simp only [bls, beq_iff_eq, bne_iff_ne, Int.reduceToNat, List.length_map] at hk
  · skip
    refine sq ?_
    refine rg ?_
    refine q (vBuild st77 (.cons rfl rfl inferInstance (by simp) (.z (.c inferInstance inferInstance .n)) .nil)) rfl ?_
    refine l rfl (alloc ze77 rfl ?_)
    intro B7
    refine l rfl (store sz77 rfl rfl T0 (by simp) (.z (.c inferInstance inferInstance (.c inferInstance inferInstance (.c inferInstance inferInstance (.c inferInstance inferInstance (.c inferInstance inferInstance (.c inferInstance inferInstance (.c inferInstance inferInstance (.c inferInstance inferInstance (.c inferInstance inferInstance (.c inferInstance inferInstance .n))))))))))) ?_)
    refine nil ?_
    refine thN ?_
    refine sq ?_
    refine sq ?_
    refine rg ?_
    refine q (vAs rfl) rfl ?_
    refine nil ?_
    refine thN ?_
    refine bk ?_
    refine nilsl 247 34 ?_
    refine loop (ι := Nat × Value × List DEnt) (fun (p : Nat × Value × List DEnt) => [(1, va), (3, .pointer (some ⟨B3, 0, none⟩)), (5, .pointer (some ⟨B5, 0, none⟩)), (6, .pointer (some ⟨B6, 0, none⟩)), (7, .pointer (some ⟨B7, 0, none⟩)), (8, .int .i64 (p.1 : Int))]) (fun (p : Nat × Value × List DEnt) => [E1, blk B7 77 (segsO { zobj with kind := 2 } p.2.1 (.slice none 0 0)), blk B6 77 (segsO zobj (.slice none 0 0) (.slice none 0 0)), blk B5 200 (segsSd x), blk B3 30 [[v]], sl p.2.1 247 34 (p.2.2.map encE)]) (fun (p : Nat × Value × List DEnt) => fun S' => p.1 ≤ x.refs.length ∧ p.2.2.length ≤ p.1 ∧ p.1 ≤ 5 ∧ ∀ e, e ∈ p.2.2 → e.name.length ≤ 1) (fun (p : Nat × Value × List DEnt) => x.refs.length - p.1) (0, .slice none 0 0, []) ⟨Nat.zero_le _, Nat.zero_le _, by decide, by simp⟩ (.cons rfl (by first | rfl | simp | (simp <;> omega)) (.cons rfl (by first | rfl | simp | (simp <;> omega)) (.cons rfl (by first | rfl | simp | (simp <;> omega)) (.cons rfl (by first | rfl | simp | (simp <;> omega)) (.cons rfl (by first | rfl | simp | (simp <;> omega)) (.cons rfl (by first | rfl | simp | (simp <;> omega)) .nil)))))) (.cons T5 (Ent.Le.of (by first | rfl | simp | (simp <;> omega))) (.cons T1 (Ent.Le.of (by first | rfl | simp | (simp <;> omega))) (.cons T1 (Ent.Le.of (by first | rfl | simp | (simp <;> omega))) (.cons T1 (Ent.Le.of (by first | rfl | simp | (simp <;> omega))) (.cons T1 (Ent.Le.of (by first | rfl | simp | (simp <;> omega))) (.cons T0 (Ent.Le.of (by first | rfl | simp | (simp <;> omega))) .nil)))))) ?_
    rintro ⟨i, ve, es⟩ S3 hle3 ⟨h1, h2, h2b, h2c⟩
    replace h := h.mono hle3
    replace hpl := hpl.mono hle3
    replace ha := ha.mono hle3
    replace hxr := hxr.mono hle3
    dsimp only at h1 h2 h2b h2c ⊢
    refine sq ?_
    refine sq ?_
    refine rg ?_
    refine q (vMv rfl) rfl ?_
    refine q (vFa fa200_1 rfl) rfl ?_
    refine q (vLd sc23 rfl (rB1 T3 (.s (.z (.c .n))))) rfl ?_
    refine q (vLenX Tryz.underlying23 rfl hxr) rfl ?_
    refine q (vLt rfl rfl) rfl ?_
    refine q (vMv rfl) rfl ?_
    apply gAnd 31 34 3
    · rfl
    · intro hb1 hX1
      have hc1 := hb1 ; try simp only [bls, beq_iff_eq, bne_iff_ne, Int.reduceToNat, List.length_map] at hc1
      refine qT ⟨_, rfl, rfl⟩ (vMv rfl) rfl ?_
      refine qT ⟨_, rfl, rfl⟩ (vLt rfl rfl) rfl ?_
      refine q (vPkT rfl rfl) rfl ?_
      exact gTT 3 31 rfl rfl rfl rfl hb1 hX1
    · intro hb1 hX1
      have hc1 := hb1 ; try simp only [bls, beq_iff_eq, bne_iff_ne, Int.reduceToNat, List.length_map] at hc1
      refine qF ⟨_, _, rfl, rfl, rfl⟩ rfl ?_
      refine qF ⟨_, _, rfl, rfl, rfl⟩ rfl ?_
      refine q (vPkF rfl rfl) rfl ?_
      exact gTF 3 31 rfl rfl rfl rfl hb1 hX1
    refine nil ?_
    refine thN ?_
    refine cd rfl (fun hd => ?_) (fun hd => ?_) <;> try simp only [bls, beq_iff_eq, bne_iff_ne, Int.reduceToNat, List.length_map] at hd
    · skip
      have hi : i < x.refs.length := by omega
      have hi5 : i < 5 := by omega
      have hxq := hxr.psl (by omega)
      refine sk ?_
      refine thN ?_
      refine sq ?_
      refine bk ?_
      refine sq ?_
      refine dr (.take 0 (.take 1 (.take 2 (.take 3 (.take 4 (.take 5 (.take 6 (.take 7 (.two 8 12 (.take 9 (.take 10 (.take 11 (.one 12 (.one 13 (.take 14 .done)))))) (.one 8 (.take 9 (.take 10 (.take 11 (.one 13 (.take 14 .done))))))))))))))) wide (by decide +kernel) _ _ (.cons T0 (.cons T0 (.cons T0 (.cons T0 (.cons T0 (.cons T0 .nil)))))) ?_
      refine pT rfl (vLdA ag30 rfl (rB T4 (.z (.c .n))) (by simp)) rfl ?_
      refine pT rfl (vMv rfl) rfl ?_
      refine pT rfl (vFa fa200_1 rfl) rfl ?_
      refine pT rfl (id (vLd sc23 rfl (rB1 T3 (.s (.z (.c .n)))))) rfl ?_
      refine pT rfl (vMv rfl) rfl ?_
      refine pT rfl (vIxP sl23 rfl rfl hxq (by first | omega | (simp only [Int.toNat_natCast, Int.reduceToNat, List.length_append, List.length_cons, List.length_nil, List.length_map, bid_len]; omega) | (simp <;> omega))) rfl ?_
      refine pT rfl (vLd sc5 rfl (rP hxq (gm (by first | omega | (simp only [Int.toNat_natCast, Int.reduceToNat, List.length_append, List.length_cons, List.length_nil, List.length_map, bid_len]; omega) | (simp <;> omega))))) rfl ?_
      refine pT rfl (tCvI8 Tryz.underlying3 Tryz.underlying5 rfl) rfl ?_
      refine meet (ι := BId × Bool × Nat) (.one 13 (.take 14 .done)) (fun (q : BId × Bool × Nat) => [(1, va), (3, .pointer (some ⟨B3, 0, none⟩)), (5, .pointer (some ⟨B5, 0, none⟩)), (6, .pointer (some ⟨B6, 0, none⟩)), (7, .pointer (some ⟨B7, 0, none⟩)), (8, .int .i64 (i : Int)), (9, .pointer (some ⟨q.2.2, 0, none⟩)), (37, .tuple [idv q.1, .bool q.2.1].toArray), (47, idv q.1), (48, .bool q.2.1)]) (fun (q : BId × Bool × Nat) => [E1, blk B7 77 (segsO { zobj with kind := 2 } ve (.slice none 0 0)), blk B6 77 (segsO zobj (.slice none 0 0) (.slice none 0 0)), blk B5 200 (segsSd x), blk B3 30 [[v]], sl ve 247 34 (es.map encE), blk q.2.2 35 [encId zid]]) (fun (q : BId × Bool × Nat) => fun S' => True) ?_ ?_
      · intro key0
        refine pO2 ?_ ?_
        · refine opL rfl rfl (call cf152 (pickC h hr ha hal _ 9 (by decide)) rfl (.cons T0 .nil) rfl ?_)
          intro S1 r1 l1 hS1 hp1
          obtain ⟨y, ok, rfl, rfl⟩ := hp1
          replace h := h.mono hS1
          replace hpl := hpl.mono hS1
          replace ha := ha.mono hS1
          replace hxr := hxr.mono hS1
          replace hxq := hxq.mono hS1
          refine pK hS1 (.cons T0 (.cons T0 (.cons T0 (.cons T0 (.cons T0 (.cons T0 .nil)))))) ?_
          refine pT rfl (vMv rfl) rfl ?_
          refine pT rfl (vEx rfl rfl) rfl ?_
          refine pT rfl (vEx rfl rfl) rfl ?_
          refine pO ?_
          refine opL rfl rfl (alloc ze35 rfl ?_)
          intro B9
          refine pK hS1 (.cons T1 (.cons T1 (.cons T1 (.cons T1 (.cons T1 (.cons T1 .nil)))))) ?_
          exact toKey key0 ((y, ok, B9)) (by assumption) trivial (.cons rfl (by first | rfl | simp | (simp <;> omega)) (.cons rfl (by first | rfl | simp | (simp <;> omega)) (.cons rfl (by first | rfl | simp | (simp <;> omega)) (.cons rfl (by first | rfl | simp | (simp <;> omega)) (.cons rfl (by first | rfl | simp | (simp <;> omega)) (.cons rfl (by first | rfl | simp | (simp <;> omega)) (.cons rfl (by first | rfl | simp | (simp <;> omega)) (.cons rfl (by first | rfl | simp | (simp <;> omega)) (.cons rfl (by first | rfl | simp | (simp <;> omega)) (.cons rfl (by first | rfl | simp | (simp <;> omega)) .nil)))))))))) (.cons T1 (Ent.Le.of (by first | rfl | simp | (simp <;> omega))) (.cons T1 (Ent.Le.of (by first | rfl | simp | (simp <;> omega))) (.cons T1 (Ent.Le.of (by first | rfl | simp | (simp <;> omega))) (.cons T1 (Ent.Le.of (by first | rfl | simp | (simp <;> omega))) (.cons T1 (Ent.Le.of (by first | rfl | simp | (simp <;> omega))) (.cons T1 (Ent.Le.of (by first | rfl | simp | (simp <;> omega))) (.cons T0 (Ent.Le.of (by first | rfl | simp | (simp <;> omega))) .nil)))))))
        · refine opL rfl rfl (alloc ze35 rfl ?_)
          intro B9
          refine pK (Le.refl _) (.cons T1 (.cons T1 (.cons T1 (.cons T1 (.cons T1 (.cons T1 .nil)))))) ?_
          refine pO ?_
          refine opL rfl rfl (call cf152 (pickC h hr ha hal _ 9 (by decide)) rfl (.cons T1 .nil) rfl ?_)
          intro S1 r1 l1 hS1 hp1
          obtain ⟨y, ok, rfl, rfl⟩ := hp1
          replace h := h.mono hS1
          replace hpl := hpl.mono hS1
          replace ha := ha.mono hS1
          replace hxr := hxr.mono hS1
          replace hxq := hxq.mono hS1
          refine pK hS1 (.cons T0 (.cons T1 (.cons T1 (.cons T1 (.cons T1 (.cons T1 .nil)))))) ?_
          refine pT rfl (vMv rfl) rfl ?_
          refine pT rfl (vEx rfl rfl) rfl ?_
          refine pT rfl (vEx rfl rfl) rfl ?_
          exact toKey key0 ((y, ok, B9)) (by assumption) trivial (.cons rfl (by first | rfl | simp | (simp <;> omega)) (.cons rfl (by first | rfl | simp | (simp <;> omega)) (.cons rfl (by first | rfl | simp | (simp <;> omega)) (.cons rfl (by first | rfl | simp | (simp <;> omega)) (.cons rfl (by first | rfl | simp | (simp <;> omega)) (.cons rfl (by first | rfl | simp | (simp <;> omega)) (.cons rfl (by first | rfl | simp | (simp <;> omega)) (.cons rfl (by first | rfl | simp | (simp <;> omega)) (.cons rfl (by first | rfl | simp | (simp <;> omega)) (.cons rfl (by first | rfl | simp | (simp <;> omega)) .nil)))))))))) (.cons T0 (Ent.Le.of (by first | rfl | simp | (simp <;> omega))) (.cons T1 (Ent.Le.of (by first | rfl | simp | (simp <;> omega))) (.cons T1 (Ent.Le.of (by first | rfl | simp | (simp <;> omega))) (.cons T1 (Ent.Le.of (by first | rfl | simp | (simp <;> omega))) (.cons T1 (Ent.Le.of (by first | rfl | simp | (simp <;> omega))) (.cons T1 (Ent.Le.of (by first | rfl | simp | (simp <;> omega))) (.cons T0 (Ent.Le.of (by first | rfl | simp | (simp <;> omega))) .nil)))))))
      rintro ⟨y, ok, B9⟩ S9 hle9 _
      replace h := h.mono hle9
      replace hpl := hpl.mono hle9
      replace ha := ha.mono hle9
      replace hxr := hxr.mono hle9
      replace hxq := hxq.mono hle9
      dsimp only
      refine pO ?_
      refine opL rfl rfl (store sz35 rfl rfl (.s T5) (by simp) (.z (.c inferInstance inferInstance .n)) ?_)
      refine pK hle9 (.cons T1 (.cons T1 (.cons T1 (.cons T1 (.cons T1 (.cons T1 .nil)))))) ?_
      refine pT rfl (vAs rfl) rfl ?_
      refine pDone ?_
      refine thN ?_
      refine sq ?_
      refine rg ?_
      refine q (vMv rfl) rfl ?_
      refine nil ?_
      refine thN ?_
      refine cd rfl (fun hok => ?_) (fun hok => ?_) <;> try simp only [bls, beq_iff_eq, bne_iff_ne, Int.reduceToNat, List.length_map] at hok
      · skip
        refine dr (.take 0 (.take 1 (.take 2 (.take 4 (.take 5 (.take 7 (.one 3 (.one 6 (.take 8 (.one 9 (.one 10 (.take 11 (.last 12))))))))))))) wide (by decide +kernel) _ _ (.cons T0 (.cons T0 (.cons T0 (.cons T0 (.cons T0 (.cons T0 .nil)))))) ?_
        refine pT rfl (vFa fa77_2 rfl) rfl ?_
        refine pT rfl (vLd sc74 rfl (rB1 T2 (.s (.s (.z (.c .n)))))) rfl ?_
        refine pT rfl (vMv rfl) rfl ?_
        refine pT rfl (vLdA ag30 rfl (rB T5 (.z (.c .n))) (by simp)) rfl ?_
        refine pT rfl (vLdA ag35 rfl (rB T0 (.z (.c .n))) (by simp)) rfl ?_
        refine pT rfl (vLdA ag35 rfl (rB T0 (.z (.c .n))) (by simp)) rfl ?_
        refine pO ?_
        refine opL rfl rfl (call cf153 (name_spec i (by omega) _) rfl .nil rfl ?_)
        intro S51 r51 l51 hS51 hp51
        obtain ⟨c, rfl, rfl⟩ := hp51
        replace h := h.mono hS51
        replace hpl := hpl.mono hS51
        replace ha := ha.mono hS51
        replace hxr := hxr.mono hS51
        replace hxq := hxq.mono hS51
        refine pK hS51 (.cons T0 (.cons T0 (.cons T0 (.cons T0 (.cons T0 (.cons T0 .nil)))))) ?_
        refine pO ?_
        refine opL rfl rfl (callP cf22 (ref_Kind_spec h hr _) rfl .nil rfl ?_)
        refine pK hS51 (.cons T0 (.cons T0 (.cons T0 (.cons T0 (.cons T0 (.cons T0 .nil)))))) ?_
        refine pT rfl (vBuild st247 (.cons rfl rfl inferInstance (by simp) (.z (.c inferInstance inferInstance .n)) (.cons rfl rfl inferInstance (by simp) (.s (.z (.c inferInstance inferInstance .n))) (.cons rfl rfl inferInstance (by simp) (.s (.s (.z (.c inferInstance inferInstance .n)))) .nil)))) rfl ?_
        refine pO ?_
        refine opL rfl rfl (bslice sl74 ze247 (.cons rfl inferInstance .nil) (by simp) rfl rfl rfl rfl ?_)
        intro B59
        refine pK hS51 (.cons T1 (.cons T1 (.cons T1 (.cons T1 (.cons T1 (.cons T1 .nil)))))) ?_
        refine pO ?_
        refine opL rfl rfl (app ap74 rfl rfl (.s (.s T5)) (srcO T0) (by first | omega | (simp only [Int.toNat_natCast, Int.reduceToNat, List.length_append, List.length_cons, List.length_nil, List.length_map, bid_len]; omega) | (simp <;> omega)) rfl ?_)
        intro v60 hv60
        refine pK hS51 (.cons T2 (.cons T2 (.cons T2 (.cons T2 (.cons T2 (.cons T2 .nil)))))) ?_
        refine pT rfl (vFa fa77_2 rfl) rfl ?_
        refine pL ?_
        refine opL rfl rfl (store sz74 rfl rfl T4 (by simp) (.s (.s (.z (.c inferInstance inferInstance .n)))) ?_)
        refine bkN ?_
        refine thN ?_
        refine rg ?_
        refine q (vMv rfl) rfl ?_
        refine q (vAdd rfl rfl (by first | omega | (simp only [Int.toNat_natCast, Int.reduceToNat, List.length_append, List.length_cons, List.length_nil, List.length_map, bid_len]; omega) | (simp <;> omega))) rfl ?_
        refine q (vAs rfl) rfl ?_
        refine nil ?_
        refine thN ?_
        have h2d : ∀ e, e ∈ es ++ [⟨[c], (dO (getF (texts R) y)).kind, y⟩] → e.name.length ≤ 1 := fun e he => by
          rcases List.mem_append.1 he with he | he
          · exact h2c e he
          · rw [List.mem_singleton.1 he]; exact Nat.le_refl 1
        refine back ((i + 1, v60, es ++ [⟨[c], (dO (getF (texts R) y)).kind, y⟩])) (hle9.trans (by assumption)) ⟨⟨by dsimp only; omega, by dsimp only; simp only [List.length_append, List.length_cons, List.length_nil]; omega, by dsimp only; omega, h2d⟩, by dsimp only; omega⟩ (.cons rfl (by first | rfl | (simp only [List.map_append, List.map_cons, List.map_nil]; done) | (simp only [List.map_append, List.map_cons, List.map_nil]; rfl)) (.cons rfl (by first | rfl | (simp only [List.map_append, List.map_cons, List.map_nil]; done) | (simp only [List.map_append, List.map_cons, List.map_nil]; rfl)) (.cons rfl (by first | rfl | (simp only [List.map_append, List.map_cons, List.map_nil]; done) | (simp only [List.map_append, List.map_cons, List.map_nil]; rfl)) (.cons rfl (by first | rfl | (simp only [List.map_append, List.map_cons, List.map_nil]; done) | (simp only [List.map_append, List.map_cons, List.map_nil]; rfl)) (.cons rfl (by first | rfl | (simp only [List.map_append, List.map_cons, List.map_nil]; done) | (simp only [List.map_append, List.map_cons, List.map_nil]; rfl)) (.cons rfl (by first | rfl | (simp only [List.map_append, List.map_cons, List.map_nil]; done) | (simp only [List.map_append, List.map_cons, List.map_nil]; rfl)) .nil)))))) (.cons T4 (Ent.Le.of (by first | rfl | (simp only [List.map_append, List.map_cons, List.map_nil]; done) | (simp only [List.map_append, List.map_cons, List.map_nil]; rfl))) (.cons T0 (Ent.Le.of (by first | rfl | (simp only [List.map_append, List.map_cons, List.map_nil]; done) | (simp only [List.map_append, List.map_cons, List.map_nil]; rfl))) (.cons T3 (Ent.Le.of (by first | rfl | (simp only [List.map_append, List.map_cons, List.map_nil]; done) | (simp only [List.map_append, List.map_cons, List.map_nil]; rfl))) (.cons T3 (Ent.Le.of (by first | rfl | (simp only [List.map_append, List.map_cons, List.map_nil]; done) | (simp only [List.map_append, List.map_cons, List.map_nil]; rfl))) (.cons T3 (Ent.Le.of (by first | rfl | (simp only [List.map_append, List.map_cons, List.map_nil]; done) | (simp only [List.map_append, List.map_cons, List.map_nil]; rfl))) (.cons T0 (Ent.Le.of (by first | rfl | (simp only [List.map_append, List.map_cons, List.map_nil]; done) | (simp only [List.map_append, List.map_cons, List.map_nil]; rfl))) .nil))))))
      · skip
        refine sk ?_
        refine bkN ?_
        refine thN ?_
        refine rg ?_
        refine q (vMv rfl) rfl ?_
        refine q (vAdd rfl rfl (by first | omega | (simp only [Int.toNat_natCast, Int.reduceToNat, List.length_append, List.length_cons, List.length_nil, List.length_map, bid_len]; omega) | (simp <;> omega))) rfl ?_
        refine q (vAs rfl) rfl ?_
        refine nil ?_
        refine thN ?_
        refine back ((i + 1, ve, es)) hle9 ⟨⟨by dsimp only; omega, by dsimp only; omega, by dsimp only; omega, h2c⟩, by dsimp only; omega⟩ (.cons rfl (by first | rfl | simp | (simp <;> omega)) (.cons rfl (by first | rfl | simp | (simp <;> omega)) (.cons rfl (by first | rfl | simp | (simp <;> omega)) (.cons rfl (by first | rfl | simp | (simp <;> omega)) (.cons rfl (by first | rfl | simp | (simp <;> omega)) (.cons rfl (by first | rfl | simp | (simp <;> omega)) .nil)))))) (.cons T1 (Ent.Le.of (by first | rfl | simp | (simp <;> omega))) (.cons T1 (Ent.Le.of (by first | rfl | simp | (simp <;> omega))) (.cons T1 (Ent.Le.of (by first | rfl | simp | (simp <;> omega))) (.cons T1 (Ent.Le.of (by first | rfl | simp | (simp <;> omega))) (.cons T1 (Ent.Le.of (by first | rfl | simp | (simp <;> omega))) (.cons T1 (Ent.Le.of (by first | rfl | simp | (simp <;> omega))) .nil))))))
    · skip
      have hsm : Small { zobj with kind := 2, entries := es } := ⟨by show ([] : List UInt8).length < _; decide, by show ([] : List UInt8).length < _; decide, by show ([] : List UInt8).length < _; decide, by show ([] : List BId).length < _; decide, by show es.length < _; omega, fun j => by
        show (es.getD j default).name.length < _
        rcases Nat.lt_or_ge j es.length with h9 | h9
        · have h8 : es.getD j default ∈ es := by rw [List.getD_eq_getElem?_getD, List.getElem?_eq_getElem h9]; exact List.getElem_mem h9
          have := h2c _ h8; omega
        · rw [List.getD_eq_getElem?_getD, List.getElem?_eq_none h9]; decide⟩
      refine pub T5 (fun S52 hS52 hE => ?_)
      replace h := h.mono hS52
      replace hpl := hpl.mono hS52
      replace ha := ha.mono hS52
      replace hxr := hxr.mono hS52
      have hsE := hE.sc
      refine xt ?_
      refine thX ?_
      refine thX ?_
      refine bkX ?_
      refine thN ?_
      refine sq ?_
      refine rg ?_
      refine q (vLdA ag77 rfl (rB T1 (.z (.c (.c (.c (.c (.c (.c (.c (.c (.c (.c .n)))))))))))) (by simp)) rfl ?_
      refine l rfl (store sz77 rfl rfl T2 (by simp) (.z (.c inferInstance inferInstance (.c inferInstance inferInstance (.c inferInstance inferInstance (.c inferInstance inferInstance (.c inferInstance inferInstance (.c inferInstance inferInstance (.c inferInstance inferInstance (.c inferInstance inferInstance (.c inferInstance inferInstance (.c inferInstance inferInstance .n))))))))))) ?_)
      refine nil ?_
      refine thN ?_
      refine rt ?_
      refine bkR ?_
      refine thR ?_
      refine ret rfl (.c ag77 rfl (rB T0 (.z (.c (.c (.c (.c (.c (.c (.c (.c (.c (.c .n)))))))))))) (by simp) .nil) (.t T1 .nil) ⟨{ zobj with kind := 2, entries := es }, ve, .slice none 0 0, rfl, hsm, ⟨hE, PSl.nil⟩, rfl⟩
  · skip
    refine sq ?_
    refine rg ?_
    refine q (vEq rfl rfl) rfl ?_
    refine q (vAs rfl) rfl ?_
    refine nil ?_
    refine thN ?_
    refine cd rfl (fun hk2 => ?_) (fun hk2 => ?_) <;> try simp only [bls, beq_iff_eq, bne_iff_ne, Int.reduceToNat, List.length_map] at hk2
    · skip
      refine sq ?_
      refine rg ?_
      refine q (vLdA ag30 rfl (rB T2 (.z (.c .n))) (by simp)) rfl ?_
      refine q (vMv rfl) rfl ?_
      refine q (vFa fa200_2 rfl) rfl ?_
      refine q (vLd sc198 rfl (rB1 T1 (.s (.s (.z (.c .n)))))) rfl ?_
      refine q (vCvI Tryz.underlying3 Tryz.underlying198 rfl (by first | omega | (simp only [Int.toNat_natCast, Int.reduceToNat, List.length_append, List.length_cons, List.length_nil, List.length_map, bid_len]; omega) | (simp <;> omega))) rfl ?_
      refine l rfl (call cf152 (pickN h hr ha hal x.time (by omega) 2 (by decide)) rfl (.cons T3 .nil) rfl ?_)
      intro S53 r53 l53 hS53 hp53
      obtain ⟨yt, okt, rfl, rfl⟩ := hp53
      replace h := h.mono hS53
      replace hpl := hpl.mono hS53
      replace ha := ha.mono hS53
      replace hxr := hxr.mono hS53
      refine q (vMv rfl) rfl ?_
      refine q (vEx rfl rfl) rfl ?_
      refine q (vEx rfl rfl) rfl ?_
      refine l rfl (alloc ze35 rfl ?_)
      intro B11
      refine l rfl (store sz35 rfl rfl T0 (by simp) (.z (.c inferInstance inferInstance .n)) ?_)
      refine q (vAs rfl) rfl ?_
      refine nil ?_
      refine thN ?_
      refine sq ?_
      refine sq ?_
      refine rg ?_
      refine q (vMv rfl) rfl ?_
      refine q (vNot rfl) rfl ?_
      refine nil ?_
      refine thN ?_
      refine cd rfl (fun hot => ?_) (fun hot => ?_) <;> try simp only [bls, beq_iff_eq, bne_iff_ne, Int.reduceToNat, List.length_map] at hot
      · skip
        refine sq ?_
        refine rg ?_
        refine q (vBuild st77 .nil) rfl ?_
        refine l rfl (store sz77 rfl rfl T2 (by simp) (.z (.c inferInstance inferInstance (.c inferInstance inferInstance (.c inferInstance inferInstance (.c inferInstance inferInstance (.c inferInstance inferInstance (.c inferInstance inferInstance (.c inferInstance inferInstance (.c inferInstance inferInstance (.c inferInstance inferInstance (.c inferInstance inferInstance .n))))))))))) ?_)
        refine nil ?_
        refine thN ?_
        refine rt ?_
        refine thR ?_
        refine bkR ?_
        refine thR ?_
        refine ret rfl (.c ag77 rfl (rB T0 (.z (.c (.c (.c (.c (.c (.c (.c (.c (.c (.c .n)))))))))))) (by simp) .nil) (.t T2 .nil) ⟨zobj, .slice none 0 0, .slice none 0 0, rfl, small_z, ⟨PSl.nil, PSl.nil⟩, rfl⟩
      · skip
        refine sk ?_
        refine thN ?_
        refine sq ?_
        refine rg ?_
        refine q (vLdA ag35 rfl (rB T0 (.z (.c .n))) (by simp)) rfl ?_
        refine q (vFa fa200_2 rfl) rfl ?_
        refine q (vLd sc198 rfl (rB1 T3 (.s (.s (.z (.c .n)))))) rfl ?_
        refine q (tCvU32 Tryz.underlying75 Tryz.underlying198 rfl) rfl ?_
        refine q (vFa fa200_3 rfl) rfl ?_
        refine q (vLd sc9 rfl (rB1 T3 (.s (.s (.s (.z (.c .n))))))) rfl ?_
        refine q (vBuild st77 (.cons rfl rfl inferInstance (by simp) (.z (.c inferInstance inferInstance .n)) (.cons rfl rfl inferInstance (by simp) (.s (.s (.s (.z (.c inferInstance inferInstance .n))))) (.cons rfl rfl inferInstance (by simp) (.s (.s (.s (.n (n := 32) inferInstance (.s (.z (.c inferInstance inferInstance .n))))))) (.cons rfl rfl inferInstance (by simp) (.s (.s (.s (.n (n := 32) inferInstance (.s (.s (.z (.c inferInstance inferInstance .n)))))))) .nil))))) rfl ?_
        refine l rfl (alloc ze77 rfl ?_)
        intro B13
        refine l rfl (store sz77 rfl rfl T0 (by simp) (.z (.c inferInstance inferInstance (.c inferInstance inferInstance (.c inferInstance inferInstance (.c inferInstance inferInstance (.c inferInstance inferInstance (.c inferInstance inferInstance (.c inferInstance inferInstance (.c inferInstance inferInstance (.c inferInstance inferInstance (.c inferInstance inferInstance .n))))))))))) ?_)
        refine nil ?_
        refine thN ?_
        refine sq ?_
        refine sq ?_
        refine rg ?_
        refine q (vAs rfl) rfl ?_
        refine nil ?_
        refine thN ?_
        refine bk ?_
        refine nilsl 35 32 ?_
        refine loop (ι := Nat × Value × List BId) (fun (p : Nat × Value × List BId) => [(1, va), (3, .pointer (some ⟨B3, 0, none⟩)), (5, .pointer (some ⟨B5, 0, none⟩)), (6, .pointer (some ⟨B6, 0, none⟩)), (13, .pointer (some ⟨B13, 0, none⟩)), (14, .int .i64 (p.1 : Int))]) (fun (p : Nat × Value × List BId) => [E1, blk B13 77 (segsO { zobj with kind := 3, tree := yt, time := UInt32.ofNat x.time, text := x.text } (.slice none 0 0) p.2.1), blk B6 77 (segsO zobj (.slice none 0 0) (.slice none 0 0)), blk B5 200 (segsSd x), blk B3 30 [[v]], sl p.2.1 35 32 (p.2.2.map encId)]) (fun (p : Nat × Value × List BId) => fun S' => p.1 ≤ x.refs.length ∧ p.2.2.length ≤ p.1 ∧ p.1 ≤ 4) (fun (p : Nat × Value × List BId) => x.refs.length - p.1) (0, .slice none 0 0, []) ⟨Nat.zero_le _, Nat.zero_le _, by decide⟩ (.cons rfl (by first | rfl | simp | (simp <;> omega)) (.cons rfl (by first | rfl | simp | (simp <;> omega)) (.cons rfl (by first | rfl | simp | (simp <;> omega)) (.cons rfl (by first | rfl | simp | (simp <;> omega)) (.cons rfl (by first | rfl | simp | (simp <;> omega)) (.cons rfl (by first | rfl | simp | (simp <;> omega)) .nil)))))) (.cons T3 (Ent.Le.of (by first | rfl | simp | (simp <;> omega))) (.cons T1 (Ent.Le.of (by first | rfl | simp | (simp <;> omega))) (.cons T2 (Ent.Le.of (by first | rfl | simp | (simp <;> omega))) (.cons T2 (Ent.Le.of (by first | rfl | simp | (simp <;> omega))) (.cons T2 (Ent.Le.of (by first | rfl | simp | (simp <;> omega))) (.cons T0 (Ent.Le.of (by first | rfl | simp | (simp <;> omega))) .nil)))))) ?_
        rintro ⟨i, vp, ps⟩ S3 hle3 ⟨h1, h2, h2b⟩
        replace h := h.mono hle3
        replace hpl := hpl.mono hle3
        replace ha := ha.mono hle3
        replace hxr := hxr.mono hle3
        dsimp only at h1 h2 h2b ⊢
        refine sq ?_
        refine sq ?_
        refine rg ?_
        refine q (vMv rfl) rfl ?_
        refine q (vFa fa200_1 rfl) rfl ?_
        refine q (vLd sc23 rfl (rB1 T3 (.s (.z (.c .n))))) rfl ?_
        refine q (vLenX Tryz.underlying23 rfl hxr) rfl ?_
        refine q (vLt rfl rfl) rfl ?_
        refine q (vMv rfl) rfl ?_
        apply gAnd 89 92 3
        · rfl
        · intro hb2 hX2
          have hc2 := hb2 ; try simp only [bls, beq_iff_eq, bne_iff_ne, Int.reduceToNat, List.length_map] at hc2
          refine qT ⟨_, rfl, rfl⟩ (vMv rfl) rfl ?_
          refine qT ⟨_, rfl, rfl⟩ (vLt rfl rfl) rfl ?_
          refine q (vPkT rfl rfl) rfl ?_
          exact gTT 3 89 rfl rfl rfl rfl hb2 hX2
        · intro hb2 hX2
          have hc2 := hb2 ; try simp only [bls, beq_iff_eq, bne_iff_ne, Int.reduceToNat, List.length_map] at hc2
          refine qF ⟨_, _, rfl, rfl, rfl⟩ rfl ?_
          refine qF ⟨_, _, rfl, rfl, rfl⟩ rfl ?_
          refine q (vPkF rfl rfl) rfl ?_
          exact gTF 3 89 rfl rfl rfl rfl hb2 hX2
        refine nil ?_
        refine thN ?_
        refine cd rfl (fun hd => ?_) (fun hd => ?_) <;> try simp only [bls, beq_iff_eq, bne_iff_ne, Int.reduceToNat, List.length_map] at hd
        · skip
          have hi : i < x.refs.length := by omega
          have hi5 : i < 4 := by omega
          have hxq := hxr.psl (by omega)
          refine sk ?_
          refine thN ?_
          refine sq ?_
          refine bk ?_
          refine sq ?_
          refine dr (.take 0 (.take 1 (.take 2 (.take 3 (.take 4 (.take 5 (.take 6 (.take 7 (.two 8 12 (.take 9 (.take 10 (.take 11 (.one 12 (.one 13 (.take 14 .done)))))) (.one 8 (.take 9 (.take 10 (.take 11 (.one 13 (.take 14 .done))))))))))))))) wide (by decide +kernel) _ _ (.cons T0 (.cons T0 (.cons T0 (.cons T0 (.cons T0 (.cons T0 .nil)))))) ?_
          refine pT rfl (vLdA ag30 rfl (rB T4 (.z (.c .n))) (by simp)) rfl ?_
          refine pT rfl (vMv rfl) rfl ?_
          refine pT rfl (vFa fa200_1 rfl) rfl ?_
          refine pT rfl (id (vLd sc23 rfl (rB1 T3 (.s (.z (.c .n)))))) rfl ?_
          refine pT rfl (vMv rfl) rfl ?_
          refine pT rfl (vIxP sl23 rfl rfl hxq (by first | omega | (simp only [Int.toNat_natCast, Int.reduceToNat, List.length_append, List.length_cons, List.length_nil, List.length_map, bid_len]; omega) | (simp <;> omega))) rfl ?_
          refine pT rfl (vLd sc5 rfl (rP hxq (gm (by first | omega | (simp only [Int.toNat_natCast, Int.reduceToNat, List.length_append, List.length_cons, List.length_nil, List.length_map, bid_len]; omega) | (simp <;> omega))))) rfl ?_
          refine pT rfl (tCvI8 Tryz.underlying3 Tryz.underlying5 rfl) rfl ?_
          refine meet (ι := BId × Bool × Nat) (.one 13 (.take 14 .done)) (fun (q : BId × Bool × Nat) => [(1, va), (3, .pointer (some ⟨B3, 0, none⟩)), (5, .pointer (some ⟨B5, 0, none⟩)), (6, .pointer (some ⟨B6, 0, none⟩)), (13, .pointer (some ⟨B13, 0, none⟩)), (14, .int .i64 (i : Int)), (15, .pointer (some ⟨q.2.2, 0, none⟩)), (95, .tuple [idv q.1, .bool q.2.1].toArray), (105, idv q.1), (106, .bool q.2.1)]) (fun (q : BId × Bool × Nat) => [E1, blk B13 77 (segsO { zobj with kind := 3, tree := yt, time := UInt32.ofNat x.time, text := x.text } (.slice none 0 0) vp), blk B6 77 (segsO zobj (.slice none 0 0) (.slice none 0 0)), blk B5 200 (segsSd x), blk B3 30 [[v]], sl vp 35 32 (ps.map encId), blk q.2.2 35 [encId zid]]) (fun (q : BId × Bool × Nat) => fun S' => True) ?_ ?_
          · intro key53
            refine pO2 ?_ ?_
            · refine opL rfl rfl (call cf152 (pickC h hr ha hal _ 3 (by decide)) rfl (.cons T0 .nil) rfl ?_)
              intro S54 r54 l54 hS54 hp54
              obtain ⟨y, ok, rfl, rfl⟩ := hp54
              replace h := h.mono hS54
              replace hpl := hpl.mono hS54
              replace ha := ha.mono hS54
              replace hxr := hxr.mono hS54
              replace hxq := hxq.mono hS54
              refine pK hS54 (.cons T0 (.cons T0 (.cons T0 (.cons T0 (.cons T0 (.cons T0 .nil)))))) ?_
              refine pT rfl (vMv rfl) rfl ?_
              refine pT rfl (vEx rfl rfl) rfl ?_
              refine pT rfl (vEx rfl rfl) rfl ?_
              refine pO ?_
              refine opL rfl rfl (alloc ze35 rfl ?_)
              intro B15
              refine pK hS54 (.cons T1 (.cons T1 (.cons T1 (.cons T1 (.cons T1 (.cons T1 .nil)))))) ?_
              exact toKey key53 ((y, ok, B15)) (by assumption) trivial (.cons rfl (by first | rfl | simp | (simp <;> omega)) (.cons rfl (by first | rfl | simp | (simp <;> omega)) (.cons rfl (by first | rfl | simp | (simp <;> omega)) (.cons rfl (by first | rfl | simp | (simp <;> omega)) (.cons rfl (by first | rfl | simp | (simp <;> omega)) (.cons rfl (by first | rfl | simp | (simp <;> omega)) (.cons rfl (by first | rfl | simp | (simp <;> omega)) (.cons rfl (by first | rfl | simp | (simp <;> omega)) (.cons rfl (by first | rfl | simp | (simp <;> omega)) (.cons rfl (by first | rfl | simp | (simp <;> omega)) .nil)))))))))) (.cons T1 (Ent.Le.of (by first | rfl | simp | (simp <;> omega))) (.cons T1 (Ent.Le.of (by first | rfl | simp | (simp <;> omega))) (.cons T1 (Ent.Le.of (by first | rfl | simp | (simp <;> omega))) (.cons T1 (Ent.Le.of (by first | rfl | simp | (simp <;> omega))) (.cons T1 (Ent.Le.of (by first | rfl | simp | (simp <;> omega))) (.cons T1 (Ent.Le.of (by first | rfl | simp | (simp <;> omega))) (.cons T0 (Ent.Le.of (by first | rfl | simp | (simp <;> omega))) .nil)))))))
            · refine opL rfl rfl (alloc ze35 rfl ?_)
              intro B15
              refine pK (Le.refl _) (.cons T1 (.cons T1 (.cons T1 (.cons T1 (.cons T1 (.cons T1 .nil)))))) ?_
              refine pO ?_
              refine opL rfl rfl (call cf152 (pickC h hr ha hal _ 3 (by decide)) rfl (.cons T1 .nil) rfl ?_)
              intro S54 r54 l54 hS54 hp54
              obtain ⟨y, ok, rfl, rfl⟩ := hp54
              replace h := h.mono hS54
              replace hpl := hpl.mono hS54
              replace ha := ha.mono hS54
              replace hxr := hxr.mono hS54
              replace hxq := hxq.mono hS54
              refine pK hS54 (.cons T0 (.cons T1 (.cons T1 (.cons T1 (.cons T1 (.cons T1 .nil)))))) ?_
              refine pT rfl (vMv rfl) rfl ?_
              refine pT rfl (vEx rfl rfl) rfl ?_
              refine pT rfl (vEx rfl rfl) rfl ?_
              exact toKey key53 ((y, ok, B15)) (by assumption) trivial (.cons rfl (by first | rfl | simp | (simp <;> omega)) (.cons rfl (by first | rfl | simp | (simp <;> omega)) (.cons rfl (by first | rfl | simp | (simp <;> omega)) (.cons rfl (by first | rfl | simp | (simp <;> omega)) (.cons rfl (by first | rfl | simp | (simp <;> omega)) (.cons rfl (by first | rfl | simp | (simp <;> omega)) (.cons rfl (by first | rfl | simp | (simp <;> omega)) (.cons rfl (by first | rfl | simp | (simp <;> omega)) (.cons rfl (by first | rfl | simp | (simp <;> omega)) (.cons rfl (by first | rfl | simp | (simp <;> omega)) .nil)))))))))) (.cons T0 (Ent.Le.of (by first | rfl | simp | (simp <;> omega))) (.cons T1 (Ent.Le.of (by first | rfl | simp | (simp <;> omega))) (.cons T1 (Ent.Le.of (by first | rfl | simp | (simp <;> omega))) (.cons T1 (Ent.Le.of (by first | rfl | simp | (simp <;> omega))) (.cons T1 (Ent.Le.of (by first | rfl | simp | (simp <;> omega))) (.cons T1 (Ent.Le.of (by first | rfl | simp | (simp <;> omega))) (.cons T0 (Ent.Le.of (by first | rfl | simp | (simp <;> omega))) .nil)))))))
          rintro ⟨y, ok, B15⟩ S9 hle9 _
          replace h := h.mono hle9
          replace hpl := hpl.mono hle9
          replace ha := ha.mono hle9
          replace hxr := hxr.mono hle9
          replace hxq := hxq.mono hle9
          dsimp only
          refine pO ?_
          refine opL rfl rfl (store sz35 rfl rfl (.s T5) (by simp) (.z (.c inferInstance inferInstance .n)) ?_)
          refine pK hle9 (.cons T1 (.cons T1 (.cons T1 (.cons T1 (.cons T1 (.cons T1 .nil)))))) ?_
          refine pT rfl (vAs rfl) rfl ?_
          refine pDone ?_
          refine thN ?_
          refine sq ?_
          refine rg ?_
          refine q (vMv rfl) rfl ?_
          refine q (vMv rfl) rfl ?_
          apply gAnd 108 114 6
          · rfl
          · intro hb3 hX3
            have hc3 := hb3 ; try simp only [bls, beq_iff_eq, bne_iff_ne, Int.reduceToNat, List.length_map] at hc3
            refine qT ⟨_, rfl, rfl⟩ (vFa fa77_4 rfl) rfl ?_
            refine qT ⟨_, rfl, rfl⟩ (vLd sc27 rfl (rB1 T2 (.s (.s (.s (.n (n := 32) inferInstance (.z (.c .n)))))))) rfl ?_
            refine qT ⟨_, rfl, rfl⟩ (SrcOk.len (srcO (.s T5)) Tryz.underlying27 rfl) rfl ?_
            refine qT ⟨_, rfl, rfl⟩ (vMv rfl) rfl ?_
            refine qT ⟨_, rfl, rfl⟩ (vEq rfl rfl) rfl ?_
            refine q (vPkT rfl rfl) rfl ?_
            exact gTT 6 108 rfl rfl rfl rfl hb3 hX3
          · intro hb3 hX3
            have hc3 := hb3 ; try simp only [bls, beq_iff_eq, bne_iff_ne, Int.reduceToNat, List.length_map] at hc3
            refine qF ⟨_, _, rfl, rfl, rfl⟩ rfl ?_
            refine qF ⟨_, _, rfl, rfl, rfl⟩ rfl ?_
            refine qF ⟨_, _, rfl, rfl, rfl⟩ rfl ?_
            refine qF ⟨_, _, rfl, rfl, rfl⟩ rfl ?_
            refine qF ⟨_, _, rfl, rfl, rfl⟩ rfl ?_
            refine q (vPkF rfl rfl) rfl ?_
            exact gTF 6 108 rfl rfl rfl rfl hb3 hX3
          refine nil ?_
          refine thN ?_
          refine cd rfl (fun hok => ?_) (fun hok => ?_) <;> try simp only [bls, beq_iff_eq, bne_iff_ne, Int.reduceToNat, List.length_map] at hok
          · skip
            refine rg ?_
            refine q (vFa fa77_4 rfl) rfl ?_
            refine q (vLd sc27 rfl (rB1 T2 (.s (.s (.s (.n (n := 32) inferInstance (.z (.c .n)))))))) rfl ?_
            refine q (vLdA ag35 rfl (rB T0 (.z (.c .n))) (by simp)) rfl ?_
            refine l rfl (bslice sl27 ze35 (.cA rfl .nil) (by simp) rfl rfl rfl rfl ?_)
            intro B118
            refine l rfl (app ap27 rfl rfl (.s (.s T5)) (srcO T0) (by first | omega | (simp only [Int.toNat_natCast, Int.reduceToNat, List.length_append, List.length_cons, List.length_nil, List.length_map, bid_len]; omega) | (simp <;> omega)) rfl ?_)
            intro v119 hv119
            refine q (vFa fa77_4 rfl) rfl ?_
            refine l rfl (store sz27 rfl rfl T4 (by simp) (.s (.s (.s (.n (n := 32) inferInstance (.z (.c inferInstance inferInstance .n)))))) ?_)
            refine nil ?_
            refine bkN ?_
            refine thN ?_
            refine rg ?_
            refine q (vMv rfl) rfl ?_
            refine q (vAdd rfl rfl (by first | omega | (simp only [Int.toNat_natCast, Int.reduceToNat, List.length_append, List.length_cons, List.length_nil, List.length_map, bid_len]; omega) | (simp <;> omega))) rfl ?_
            refine q (vAs rfl) rfl ?_
            refine nil ?_
            refine thN ?_
            refine back ((i + 1, v119, ps ++ [y])) hle9 ⟨⟨by dsimp only; omega, by dsimp only; simp only [List.length_append, List.length_cons, List.length_nil]; omega, by dsimp only; omega⟩, by dsimp only; omega⟩ (.cons rfl (by first | rfl | (simp only [List.map_append, List.map_cons, List.map_nil]; done) | (simp only [List.map_append, List.map_cons, List.map_nil]; rfl)) (.cons rfl (by first | rfl | (simp only [List.map_append, List.map_cons, List.map_nil]; done) | (simp only [List.map_append, List.map_cons, List.map_nil]; rfl)) (.cons rfl (by first | rfl | (simp only [List.map_append, List.map_cons, List.map_nil]; done) | (simp only [List.map_append, List.map_cons, List.map_nil]; rfl)) (.cons rfl (by first | rfl | (simp only [List.map_append, List.map_cons, List.map_nil]; done) | (simp only [List.map_append, List.map_cons, List.map_nil]; rfl)) (.cons rfl (by first | rfl | (simp only [List.map_append, List.map_cons, List.map_nil]; done) | (simp only [List.map_append, List.map_cons, List.map_nil]; rfl)) (.cons rfl (by first | rfl | (simp only [List.map_append, List.map_cons, List.map_nil]; done) | (simp only [List.map_append, List.map_cons, List.map_nil]; rfl)) .nil)))))) (.cons T4 (Ent.Le.of (by first | rfl | (simp only [List.map_append, List.map_cons, List.map_nil]; done) | (simp only [List.map_append, List.map_cons, List.map_nil]; rfl))) (.cons T0 (Ent.Le.of (by first | rfl | (simp only [List.map_append, List.map_cons, List.map_nil]; done) | (simp only [List.map_append, List.map_cons, List.map_nil]; rfl))) (.cons T3 (Ent.Le.of (by first | rfl | (simp only [List.map_append, List.map_cons, List.map_nil]; done) | (simp only [List.map_append, List.map_cons, List.map_nil]; rfl))) (.cons T3 (Ent.Le.of (by first | rfl | (simp only [List.map_append, List.map_cons, List.map_nil]; done) | (simp only [List.map_append, List.map_cons, List.map_nil]; rfl))) (.cons T3 (Ent.Le.of (by first | rfl | (simp only [List.map_append, List.map_cons, List.map_nil]; done) | (simp only [List.map_append, List.map_cons, List.map_nil]; rfl))) (.cons T0 (Ent.Le.of (by first | rfl | (simp only [List.map_append, List.map_cons, List.map_nil]; done) | (simp only [List.map_append, List.map_cons, List.map_nil]; rfl))) .nil))))))
          · skip
            refine sk ?_
            refine bkN ?_
            refine thN ?_
            refine rg ?_
            refine q (vMv rfl) rfl ?_
            refine q (vAdd rfl rfl (by first | omega | (simp only [Int.toNat_natCast, Int.reduceToNat, List.length_append, List.length_cons, List.length_nil, List.length_map, bid_len]; omega) | (simp <;> omega))) rfl ?_
            refine q (vAs rfl) rfl ?_
            refine nil ?_
            refine thN ?_
            refine back ((i + 1, vp, ps)) hle9 ⟨⟨by dsimp only; omega, by dsimp only; omega, by dsimp only; omega⟩, by dsimp only; omega⟩ (.cons rfl (by first | rfl | simp | (simp <;> omega)) (.cons rfl (by first | rfl | simp | (simp <;> omega)) (.cons rfl (by first | rfl | simp | (simp <;> omega)) (.cons rfl (by first | rfl | simp | (simp <;> omega)) (.cons rfl (by first | rfl | simp | (simp <;> omega)) (.cons rfl (by first | rfl | simp | (simp <;> omega)) .nil)))))) (.cons T1 (Ent.Le.of (by first | rfl | simp | (simp <;> omega))) (.cons T1 (Ent.Le.of (by first | rfl | simp | (simp <;> omega))) (.cons T1 (Ent.Le.of (by first | rfl | simp | (simp <;> omega))) (.cons T1 (Ent.Le.of (by first | rfl | simp | (simp <;> omega))) (.cons T1 (Ent.Le.of (by first | rfl | simp | (simp <;> omega))) (.cons T1 (Ent.Le.of (by first | rfl | simp | (simp <;> omega))) .nil))))))
        · skip
          have hsm : Small { zobj with kind := 3, tree := yt, time := UInt32.ofNat x.time, text := x.text, parents := ps } := ⟨by show ([] : List UInt8).length < _; decide, by show x.text.length < _; omega, by show ([] : List UInt8).length < _; decide, by show ps.length < _; omega, by show ([] : List DEnt).length < _; decide, fun j => by simp [zobj]; decide⟩
          refine pub T5 (fun S104 hS104 hE => ?_)
          replace h := h.mono hS104
          replace hpl := hpl.mono hS104
          replace ha := ha.mono hS104
          replace hxr := hxr.mono hS104
          have hsE := hE.sc
          refine xt ?_
          refine thX ?_
          refine thX ?_
          refine bkX ?_
          refine thN ?_
          refine sq ?_
          refine rg ?_
          refine q (vLdA ag77 rfl (rB T1 (.z (.c (.c (.c (.c (.c (.c (.c (.c (.c (.c .n)))))))))))) (by simp)) rfl ?_
          refine l rfl (store sz77 rfl rfl T2 (by simp) (.z (.c inferInstance inferInstance (.c inferInstance inferInstance (.c inferInstance inferInstance (.c inferInstance inferInstance (.c inferInstance inferInstance (.c inferInstance inferInstance (.c inferInstance inferInstance (.c inferInstance inferInstance (.c inferInstance inferInstance (.c inferInstance inferInstance .n))))))))))) ?_)
          refine nil ?_
          refine thN ?_
          refine rt ?_
          refine bkR ?_
          refine thR ?_
          refine ret rfl (.c ag77 rfl (rB T0 (.z (.c (.c (.c (.c (.c (.c (.c (.c (.c (.c .n)))))))))))) (by simp) .nil) (.t T1 .nil) ⟨{ zobj with kind := 3, tree := yt, time := UInt32.ofNat x.time, text := x.text, parents := ps }, .slice none 0 0, vp, rfl, hsm, ⟨PSl.nil, hE⟩, rfl⟩
    · skip
      refine sq ?_
      refine rg ?_
      refine q (vEq rfl rfl) rfl ?_
      refine q (vAs rfl) rfl ?_
      refine nil ?_
      refine thN ?_
      refine cd rfl (fun hk3 => ?_) (fun hk3 => ?_) <;> try simp only [bls, beq_iff_eq, bne_iff_ne, Int.reduceToNat, List.length_map] at hk3
      · skip
        refine sq ?_
        refine sq ?_
        refine rg ?_
        refine q (vFa fa200_1 rfl) rfl ?_
        refine q (vLd sc23 rfl (rB1 T1 (.s (.z (.c .n))))) rfl ?_
        refine q (vLenX Tryz.underlying23 rfl hxr) rfl ?_
        refine q (vEq rfl rfl) rfl ?_
        refine nil ?_
        refine thN ?_
        refine cd rfl (fun hk4 => ?_) (fun hk4 => ?_) <;> try simp only [bls, beq_iff_eq, bne_iff_ne, Int.reduceToNat, List.length_map] at hk4
        · skip
          refine sq ?_
          refine rg ?_
          refine q (vBuild st77 .nil) rfl ?_
          refine l rfl (store sz77 rfl rfl T0 (by simp) (.z (.c inferInstance inferInstance (.c inferInstance inferInstance (.c inferInstance inferInstance (.c inferInstance inferInstance (.c inferInstance inferInstance (.c inferInstance inferInstance (.c inferInstance inferInstance (.c inferInstance inferInstance (.c inferInstance inferInstance (.c inferInstance inferInstance .n))))))))))) ?_)
          refine nil ?_
          refine thN ?_
          refine rt ?_
          refine thR ?_
          refine bkR ?_
          refine thR ?_
          refine ret rfl (.c ag77 rfl (rB T0 (.z (.c (.c (.c (.c (.c (.c (.c (.c (.c (.c .n)))))))))))) (by simp) .nil) (.t T3 .nil) ⟨zobj, .slice none 0 0, .slice none 0 0, rfl, small_z, ⟨PSl.nil, PSl.nil⟩, rfl⟩
        · skip
          have hi0 : 0 < x.refs.length := by omega
          have hxq := hxr.psl (by omega)
          refine sk ?_
          refine thN ?_
          refine sq ?_
          refine dr (.take 0 (.take 1 (.take 2 (.take 3 (.take 4 (.take 5 (.take 6 (.two 7 11 (.take 8 (.take 9 (.take 10 (.one 11 (.one 12 (.take 13 .done)))))) (.one 7 (.take 8 (.take 9 (.take 10 (.one 12 (.take 13 .done)))))))))))))) wide (by decide +kernel) _ _ (.cons T0 (.cons T0 (.cons T0 (.cons T0 .nil)))) ?_
          refine pT rfl (vLdA ag30 rfl (rB T2 (.z (.c .n))) (by simp)) rfl ?_
          refine pT rfl (vMv rfl) rfl ?_
          refine pT rfl (vFa fa200_1 rfl) rfl ?_
          refine pT rfl (id (vLd sc23 rfl (rB1 T1 (.s (.z (.c .n)))))) rfl ?_
          refine pT rfl (vIxP sl23 rfl rfl hxq (by first | omega | (simp only [Int.toNat_natCast, Int.reduceToNat, List.length_append, List.length_cons, List.length_nil, List.length_map, bid_len]; omega) | (simp <;> omega))) rfl ?_
          refine pT rfl (vLd sc5 rfl (rP hxq (gm (by first | omega | (simp only [Int.toNat_natCast, Int.reduceToNat, List.length_append, List.length_cons, List.length_nil, List.length_map, bid_len]; omega) | (simp <;> omega))))) rfl ?_
          refine pT rfl (tCvI8 Tryz.underlying3 Tryz.underlying5 rfl) rfl ?_
          refine meet (ι := BId × Bool × Nat) (.one 12 (.take 13 .done)) (fun (q : BId × Bool × Nat) => [(1, va), (3, .pointer (some ⟨B3, 0, none⟩)), (5, .pointer (some ⟨B5, 0, none⟩)), (6, .pointer (some ⟨B6, 0, none⟩)), (17, .pointer (some ⟨q.2.2, 0, none⟩)), (129, .tuple [idv q.1, .bool q.2.1].toArray), (138, idv q.1), (139, .bool q.2.1)]) (fun (q : BId × Bool × Nat) => [E1, blk B6 77 (segsO zobj (.slice none 0 0) (.slice none 0 0)), blk B5 200 (segsSd x), blk B3 30 [[v]], blk q.2.2 35 [encId zid]]) (fun (q : BId × Bool × Nat) => fun S' => True) ?_ ?_
          · intro key104
            refine pO2 ?_ ?_
            · refine opL rfl rfl (call cf152 (pickC h hr ha hal _ 0 (by decide)) rfl (.cons T3 .nil) rfl ?_)
              intro S105 r105 l105 hS105 hp105
              obtain ⟨y, ok, rfl, rfl⟩ := hp105
              replace h := h.mono hS105
              replace hpl := hpl.mono hS105
              replace ha := ha.mono hS105
              replace hxr := hxr.mono hS105
              replace hxq := hxq.mono hS105
              refine pK hS105 (.cons T1 (.cons T1 (.cons T1 (.cons T0 .nil)))) ?_
              refine pT rfl (vMv rfl) rfl ?_
              refine pT rfl (vEx rfl rfl) rfl ?_
              refine pT rfl (vEx rfl rfl) rfl ?_
              refine pO ?_
              refine opL rfl rfl (alloc ze35 rfl ?_)
              intro B17
              refine pK hS105 (.cons T2 (.cons T2 (.cons T2 (.cons T1 .nil)))) ?_
              exact toKey key104 ((y, ok, B17)) (by assumption) trivial (.cons rfl (by first | rfl | simp | (simp <;> omega)) (.cons rfl (by first | rfl | simp | (simp <;> omega)) (.cons rfl (by first | rfl | simp | (simp <;> omega)) (.cons rfl (by first | rfl | simp | (simp <;> omega)) (.cons rfl (by first | rfl | simp | (simp <;> omega)) (.cons rfl (by first | rfl | simp | (simp <;> omega)) (.cons rfl (by first | rfl | simp | (simp <;> omega)) (.cons rfl (by first | rfl | simp | (simp <;> omega)) .nil)))))))) (.cons T1 (Ent.Le.of (by first | rfl | simp | (simp <;> omega))) (.cons T1 (Ent.Le.of (by first | rfl | simp | (simp <;> omega))) (.cons T1 (Ent.Le.of (by first | rfl | simp | (simp <;> omega))) (.cons T1 (Ent.Le.of (by first | rfl | simp | (simp <;> omega))) (.cons T0 (Ent.Le.of (by first | rfl | simp | (simp <;> omega))) .nil)))))
            · refine opL rfl rfl (alloc ze35 rfl ?_)
              intro B17
              refine pK (Le.refl _) (.cons T1 (.cons T1 (.cons T1 (.cons T1 .nil)))) ?_
              refine pO ?_
              refine opL rfl rfl (call cf152 (pickC h hr ha hal _ 0 (by decide)) rfl (.cons T4 .nil) rfl ?_)
              intro S105 r105 l105 hS105 hp105
              obtain ⟨y, ok, rfl, rfl⟩ := hp105
              replace h := h.mono hS105
              replace hpl := hpl.mono hS105
              replace ha := ha.mono hS105
              replace hxr := hxr.mono hS105
              replace hxq := hxq.mono hS105
              refine pK hS105 (.cons T2 (.cons T2 (.cons T2 (.cons T0 .nil)))) ?_
              refine pT rfl (vMv rfl) rfl ?_
              refine pT rfl (vEx rfl rfl) rfl ?_
              refine pT rfl (vEx rfl rfl) rfl ?_
              exact toKey key104 ((y, ok, B17)) (by assumption) trivial (.cons rfl (by first | rfl | simp | (simp <;> omega)) (.cons rfl (by first | rfl | simp | (simp <;> omega)) (.cons rfl (by first | rfl | simp | (simp <;> omega)) (.cons rfl (by first | rfl | simp | (simp <;> omega)) (.cons rfl (by first | rfl | simp | (simp <;> omega)) (.cons rfl (by first | rfl | simp | (simp <;> omega)) (.cons rfl (by first | rfl | simp | (simp <;> omega)) (.cons rfl (by first | rfl | simp | (simp <;> omega)) .nil)))))))) (.cons T0 (Ent.Le.of (by first | rfl | simp | (simp <;> omega))) (.cons T1 (Ent.Le.of (by first | rfl | simp | (simp <;> omega))) (.cons T1 (Ent.Le.of (by first | rfl | simp | (simp <;> omega))) (.cons T1 (Ent.Le.of (by first | rfl | simp | (simp <;> omega))) (.cons T0 (Ent.Le.of (by first | rfl | simp | (simp <;> omega))) .nil)))))
          rintro ⟨y, ok, B17⟩ S9 hle9 _
          replace h := h.mono hle9
          replace hpl := hpl.mono hle9
          replace ha := ha.mono hle9
          replace hxr := hxr.mono hle9
          replace hxq := hxq.mono hle9
          dsimp only
          refine pO ?_
          refine opL rfl rfl (store sz35 rfl rfl T4 (by simp) (.z (.c inferInstance inferInstance .n)) ?_)
          refine pK hle9 (.cons T2 (.cons T2 (.cons T2 (.cons T1 .nil)))) ?_
          refine pT rfl (vAs rfl) rfl ?_
          refine pDone ?_
          refine thN ?_
          refine sq ?_
          refine sq ?_
          refine rg ?_
          refine q (vMv rfl) rfl ?_
          refine q (vNot rfl) rfl ?_
          refine nil ?_
          refine thN ?_
          refine cd rfl (fun hok => ?_) (fun hok => ?_) <;> try simp only [bls, beq_iff_eq, bne_iff_ne, Int.reduceToNat, List.length_map] at hok
          · skip
            refine sq ?_
            refine rg ?_
            refine q (vBuild st77 .nil) rfl ?_
            refine l rfl (store sz77 rfl rfl T2 (by simp) (.z (.c inferInstance inferInstance (.c inferInstance inferInstance (.c inferInstance inferInstance (.c inferInstance inferInstance (.c inferInstance inferInstance (.c inferInstance inferInstance (.c inferInstance inferInstance (.c inferInstance inferInstance (.c inferInstance inferInstance (.c inferInstance inferInstance .n))))))))))) ?_)
            refine nil ?_
            refine thN ?_
            refine rt ?_
            refine thR ?_
            refine bkR ?_
            refine thR ?_
            refine ret rfl (.c ag77 rfl (rB T0 (.z (.c (.c (.c (.c (.c (.c (.c (.c (.c (.c .n)))))))))))) (by simp) .nil) (.t T2 .nil) ⟨zobj, .slice none 0 0, .slice none 0 0, rfl, small_z, ⟨PSl.nil, PSl.nil⟩, rfl⟩
          · skip
            refine sk ?_
            refine thN ?_
            refine sq ?_
            refine rg ?_
            refine q (vLdA ag30 rfl (rB T4 (.z (.c .n))) (by simp)) rfl ?_
            refine q (vLdA ag35 rfl (rB T0 (.z (.c .n))) (by simp)) rfl ?_
            refine l rfl (callP cf22 (ref_Kind_spec h hr _) rfl .nil rfl ?_)
            refine q (vAs rfl) rfl ?_
            refine nil ?_
            refine thN ?_
            refine join (ι := Nat) (fun (k : Nat) => [(6, .pointer (some ⟨B6, 0, none⟩)), (17, .pointer (some ⟨B17, 0, none⟩)), (19, .int .i64 (k : Int))]) (fun (k : Nat) => [E1, blk B6 77 (segsO zobj (.slice none 0 0) (.slice none 0 0)), blk B17 35 [encId y]]) (fun (k : Nat) => fun S' => True) ?_ ?_
            · skip
              refine sq ?_
              refine rg ?_
              refine q (vFa fa200_1 rfl) rfl ?_
              refine q (vLd sc23 rfl (rB1 T3 (.s (.z (.c .n))))) rfl ?_
              refine q (vLenX Tryz.underlying23 rfl hxr) rfl ?_
              refine q (vGt rfl rfl) rfl ?_
              refine q (vMv rfl) rfl ?_
              apply gAnd 150 156 6
              · rfl
              · intro hb4 hX4
                have hc4 := hb4 ; try simp only [bls, beq_iff_eq, bne_iff_ne, Int.reduceToNat, List.length_map] at hc4
                refine qT ⟨_, rfl, rfl⟩ (vFa fa200_1 rfl) rfl ?_
                refine qT ⟨_, rfl, rfl⟩ (id (vLd sc23 rfl (rB1 T3 (.s (.z (.c .n)))))) rfl ?_
                refine qT ⟨_, rfl, rfl⟩ (vIxP sl23 rfl rfl hxq (by first | omega | (simp only [Int.toNat_natCast, Int.reduceToNat, List.length_append, List.length_cons, List.length_nil, List.length_map, bid_len]; omega) | (simp <;> omega))) rfl ?_
                refine qT ⟨_, rfl, rfl⟩ (vLd sc5 rfl (rP hxq (gm (by first | omega | (simp only [Int.toNat_natCast, Int.reduceToNat, List.length_append, List.length_cons, List.length_nil, List.length_map, bid_len]; omega) | (simp <;> omega))))) rfl ?_
                refine qT ⟨_, rfl, rfl⟩ (vEq rfl rfl) rfl ?_
                refine q (vPkT rfl rfl) rfl ?_
                exact gTT 6 150 rfl rfl rfl rfl hb4 hX4
              · intro hb4 hX4
                have hc4 := hb4 ; try simp only [bls, beq_iff_eq, bne_iff_ne, Int.reduceToNat, List.length_map] at hc4
                refine qF ⟨_, _, rfl, rfl, rfl⟩ rfl ?_
                refine qF ⟨_, _, rfl, rfl, rfl⟩ rfl ?_
                refine qF ⟨_, _, rfl, rfl, rfl⟩ rfl ?_
                refine qF ⟨_, _, rfl, rfl, rfl⟩ rfl ?_
                refine qF ⟨_, _, rfl, rfl, rfl⟩ rfl ?_
                refine q (vPkF rfl rfl) rfl ?_
                exact gTF 6 150 rfl rfl rfl rfl hb4 hX4
              refine nil ?_
              refine thN ?_
              refine cd rfl (fun h5 => ?_) (fun h5 => ?_) <;> try simp only [bls, beq_iff_eq, bne_iff_ne, Int.reduceToNat, List.length_map] at h5
              · skip
                refine rg ?_
                refine q (vMv rfl) rfl ?_
                refine q (vRem rfl rfl (by first | omega | (simp only [Int.toNat_natCast, Int.reduceToNat, List.length_append, List.length_cons, List.length_nil, List.length_map, bid_len]; omega) | (simp <;> omega))) rfl ?_
                refine q (vAdd rfl rfl (by first | omega | (simp only [Int.toNat_natCast, Int.reduceToNat, List.length_append, List.length_cons, List.length_nil, List.length_map, bid_len]; omega) | (simp <;> omega))) rfl ?_
                refine q (vAs rfl) rfl ?_
                refine nil ?_
                refine thN ?_
                refine back (1 + (dO (getF (texts R) y)).kind % 4) (Le.refl _) trivial (.cons rfl (by first | rfl | (push_cast; rfl) | (simp; done)) (.cons rfl (by first | rfl | (push_cast; rfl) | (simp; done)) (.cons rfl (by first | rfl | (push_cast; rfl) | (simp; done)) .nil))) (.cons T1 (Ent.Le.of (by first | rfl | (push_cast; rfl) | (simp; done))) (.cons T1 (Ent.Le.of (by first | rfl | (push_cast; rfl) | (simp; done))) (.cons T0 (Ent.Le.of (by first | rfl | (push_cast; rfl) | (simp; done))) .nil)))
              · skip
                refine sk ?_
                refine thN ?_
                refine back ((dO (getF (texts R) y)).kind) (Le.refl _) trivial (.cons rfl (by first | rfl | simp | (simp <;> omega)) (.cons rfl (by first | rfl | simp | (simp <;> omega)) (.cons rfl (by first | rfl | simp | (simp <;> omega)) .nil))) (.cons T1 (Ent.Le.of (by first | rfl | simp | (simp <;> omega))) (.cons T1 (Ent.Le.of (by first | rfl | simp | (simp <;> omega))) (.cons T0 (Ent.Le.of (by first | rfl | simp | (simp <;> omega))) .nil)))
            · rintro k S10 hle10 _
              replace h := h.mono hle10
              replace hpl := hpl.mono hle10
              replace ha := ha.mono hle10
              replace hxr := hxr.mono hle10
              replace hxq := hxq.mono hle10
              have hsm : Small { zobj with kind := 4, target := y, of := k, name := [116] } := ⟨by show ([] : List UInt8).length < _; decide, by show ([] : List UInt8).length < _; decide, by show ([116] : List UInt8).length < _; decide, by show ([] : List BId).length < _; decide, by show ([] : List DEnt).length < _; decide, fun j => by simp [zobj]; decide⟩
              refine sq ?_
              refine rg ?_
              refine q (vLdA ag35 rfl (rB T2 (.z (.c .n))) (by simp)) rfl ?_
              refine q (vMv rfl) rfl ?_
              refine q (vBuild st77 (.cons rfl rfl inferInstance (by simp) (.z (.c inferInstance inferInstance .n)) (.cons rfl rfl inferInstance (by simp) (.s (.s (.s (.n (n := 32) inferInstance (.s (.s (.s (.z (.c inferInstance inferInstance .n))))))))) (.cons rfl rfl inferInstance (by simp) (.s (.s (.s (.n (n := 32) inferInstance (.s (.s (.s (.n (n := 32) inferInstance (.z (.c inferInstance inferInstance .n)))))))))) (.cons rfl rfl inferInstance (by simp) (.s (.s (.s (.n (n := 32) inferInstance (.s (.s (.s (.n (n := 32) inferInstance (.s (.z (.c inferInstance inferInstance .n))))))))))) .nil))))) rfl ?_
              refine l rfl (store sz77 rfl rfl T1 (by simp) (.z (.c inferInstance inferInstance (.c inferInstance inferInstance (.c inferInstance inferInstance (.c inferInstance inferInstance (.c inferInstance inferInstance (.c inferInstance inferInstance (.c inferInstance inferInstance (.c inferInstance inferInstance (.c inferInstance inferInstance (.c inferInstance inferInstance .n))))))))))) ?_)
              refine nil ?_
              refine thN ?_
              refine rt ?_
              refine bkR ?_
              refine thR ?_
              refine ret rfl (.c ag77 rfl (rB T0 (.z (.c (.c (.c (.c (.c (.c (.c (.c (.c (.c .n)))))))))))) (by simp) .nil) (.t T1 .nil) ⟨{ zobj with kind := 4, target := y, of := k, name := [116] }, .slice none 0 0, .slice none 0 0, rfl, hsm, ⟨PSl.nil, PSl.nil⟩, rfl⟩
      · skip
        refine sk ?_
        refine bkN ?_
        refine thN ?_
        refine sq ?_
        refine rg ?_
        refine q (vFa fa200_3 rfl) rfl ?_
        refine q (vLd sc9 rfl (rB1 T1 (.s (.s (.s (.z (.c .n))))))) rfl ?_
        refine q (vBuild st77 (.cons rfl rfl inferInstance (by simp) (.z (.c inferInstance inferInstance .n)) (.cons rfl rfl inferInstance (by simp) (.s (.z (.c inferInstance inferInstance .n))) .nil))) rfl ?_
        refine l rfl (store sz77 rfl rfl T0 (by simp) (.z (.c inferInstance inferInstance (.c inferInstance inferInstance (.c inferInstance inferInstance (.c inferInstance inferInstance (.c inferInstance inferInstance (.c inferInstance inferInstance (.c inferInstance inferInstance (.c inferInstance inferInstance (.c inferInstance inferInstance (.c inferInstance inferInstance .n))))))))))) ?_)
        refine nil ?_
        refine thN ?_
        refine rt ?_
        refine ret rfl (.c ag77 rfl (rB T0 (.z (.c (.c (.c (.c (.c (.c (.c (.c (.c (.c .n)))))))))))) (by simp) .nil) (.t T3 .nil) ⟨{ zobj with kind := 1, data := x.text }, .slice none 0 0, .slice none 0 0, rfl, small_d _ hxtl, ⟨PSl.nil, PSl.nil⟩, rfl⟩
end Go.Proofs.YtjmigoikklkfdaaGreatDoor
