/- Part of a proof: the last of these texts says what is proved. -/
import Derived.Test.YtjmigoikklkfdaaGreatDoorCtA3
namespace Go.Proofs.YtjmigoikklkfdaaGreatDoor
open Go
set_option linter.unusedVariables false
set_option linter.unusedSimpArgs false
set_option maxRecDepth 4000
theorem u8_ofNat_toNat (n : Nat) (h : n < 256) : (UInt8.ofNat n).toNat = n := by simp; omega
theorem u8_ofNat_self (c : UInt8) : UInt8.ofNat c.toNat = c := by simp
theorem vput_small {n : Nat} (h : n < 128) : vput n = [UInt8.ofNat n] := by rw [vput, dif_pos h]
theorem vput_big {n : Nat} (h : ¬ n < 128) : vput n = UInt8.ofNat (128 + n % 128) :: vput (n / 128) := by rw [vput, dif_neg h]
theorem vput_pos (n : Nat) : 0 < (vput n).length := by
  unfold vput; split <;> simp
theorem vval_cons (c : UInt8) (s : List UInt8) : ∀ j, vval (c :: s) (j + 1) = c.toNat % 128 + 128 * vval s j
  | 0 => by simp [vval]
  | j + 1 => by
    rw [vval, vval_cons c s j, vval, Nat.pow_succ]
    have : (c :: s).getD (j + 1) 0 = s.getD j 0 := by simp
    rw [this, Nat.mul_add, Nat.add_assoc]
    congr 2
    generalize (s.getD j 0).toNat % 128 = d
    generalize 128 ^ j = e
    rw [Nat.mul_comm e 128, Nat.mul_left_comm]
theorem vrun_put (r : List UInt8) : ∀ (k n m : Nat), n ≤ k → (vput n).length ≤ m + 1 → vrun m (vput n ++ r) = (vput n).length - 1 := by
  intro k
  induction k with
  | zero =>
    intro n m h h2
    obtain rfl : n = 0 := by omega
    rw [vput_small (by decide)]
    cases m <;> simp [vrun]
  | succ k ih =>
    intro n m h h2
    by_cases hn : n < 128
    · rw [vput_small hn]
      cases m with
      | zero => simp [vrun]
      | succ m =>
        have : ¬ 128 ≤ (UInt8.ofNat n).toNat := by rw [u8_ofNat_toNat n (by omega)]; omega
        simp only [List.cons_append, List.nil_append, vrun, if_neg this, List.length_singleton]
    · rw [vput_big hn] at h2 ⊢
      have hp := vput_pos (n / 128)
      simp only [List.length_cons] at h2
      cases m with
      | zero => omega
      | succ m =>
        have : 128 ≤ (UInt8.ofNat (128 + n % 128)).toNat := by rw [u8_ofNat_toNat _ (by omega)]; omega
        simp only [List.cons_append, vrun, if_pos this, List.length_cons]
        rw [ih (n / 128) m (by omega) (by omega)]
        omega
theorem vval_put (r : List UInt8) : ∀ (k n : Nat), n ≤ k → vval (vput n ++ r) (vput n).length = n := by
  intro k
  induction k with
  | zero =>
    intro n h
    obtain rfl : n = 0 := by omega
    rw [vput_small (by decide)]; simp [vval]
  | succ k ih =>
    intro n h
    by_cases hn : n < 128
    · rw [vput_small hn]
      simp only [List.cons_append, List.nil_append, List.length_singleton]
      rw [vval_cons, u8_ofNat_toNat n (by omega)]; simp [vval]; omega
    · rw [vput_big hn, List.cons_append, List.length_cons, vval_cons, ih (n / 128) (by omega), u8_ofNat_toNat _ (by omega)]
      omega
theorem vput_last (r : List UInt8) : ∀ (k n : Nat), n ≤ k → 0 < n → ((vput n ++ r).getD ((vput n).length - 1) 0).toNat ≠ 0 := by
  intro k
  induction k with
  | zero => intro n h h2; omega
  | succ k ih =>
    intro n h h2
    by_cases hn : n < 128
    · rw [vput_small hn]
      simp only [List.length_singleton, Nat.sub_self, List.cons_append, List.getD_cons_zero]
      rw [u8_ofNat_toNat n (by omega)]; omega
    · have hp := vput_pos (n / 128)
      have := ih (n / 128) (by omega) (by omega)
      rw [vput_big hn, List.cons_append, List.length_cons]
      obtain ⟨j, hj⟩ : ∃ j, (vput (n / 128)).length = j + 1 := ⟨(vput (n / 128)).length - 1, by omega⟩
      rw [hj] at this ⊢
      simpa using this
theorem vget_put {n : Nat} (hn : n < 18446744073709551616) (r : List UInt8) : vget (vput n ++ r) = some (n, (vput n).length) := by
  have hl := vput_len10 n hn
  have hp := vput_pos n
  have h1 := vrun_put r n n 10 (Nat.le_refl _) (by omega)
  have h2 := vval_put r n n (Nat.le_refl _)
  unfold vget
  rw [h1, if_neg (by rw [List.length_append]; omega), if_neg, show (vput n).length - 1 + 1 = (vput n).length by omega, h2]
  rintro (⟨h3, h4⟩ | ⟨h3, h4⟩)
  · have h5 : (vput n).length = 9 + 1 := by omega
    rw [h5, vval] at h2
    have h6 := vrun_lo 10 (vput n ++ r) (by omega) (by rw [List.length_append]; omega)
    rw [h1, h3] at h6
    have h7 : 2 * 128 ^ 9 ≤ ((vput n ++ r).getD 9 0).toNat % 128 * 128 ^ 9 := Nat.mul_le_mul_right _ (by omega)
    omega
  · have : 0 < n := by
      rcases Nat.eq_zero_or_pos n with h | h
      · subst h; rw [vput_small (by decide)] at h3; simp at h3
      · exact h
    exact vput_last r n n (Nat.le_refl _) this h4
theorem put_of_vval : ∀ (j : Nat) (s : List UInt8), j < s.length → (∀ i, i < j → 128 ≤ (s.getD i 0).toNat) → (s.getD j 0).toNat < 128 → (0 < j → (s.getD j 0).toNat ≠ 0) → vput (vval s (j + 1)) = s.take (j + 1)
  | 0, [], h, _, _, _ => by simp at h
  | 0, c :: s, _, _, h, _ => by
    have h' : c.toNat < 128 := by simpa using h
    rw [vval_cons]
    have : c.toNat % 128 + 128 * vval s 0 = c.toNat := by simp [vval]; omega
    rw [this, vput_small h']; simp
  | j + 1, [], h, _, _, _ => by simp at h
  | j + 1, c :: s, h, h1, h2, h3 => by
    have hc : 128 ≤ c.toNat := by simpa using h1 0 (by omega)
    have hc2 := c.toNat_lt
    have e0 : (c :: s).getD (j + 1) 0 = s.getD j 0 := by simp
    rw [e0] at h2 h3
    have hne := h3 (by omega)
    have ih := put_of_vval j s (by simpa using h) (fun i hi => by simpa using h1 (i + 1) (by omega)) h2 (fun _ => hne)
    have hpos : 1 ≤ vval s (j + 1) := by
      rw [vval]
      have h4 : 1 * 1 ≤ (s.getD j 0).toNat % 128 * 128 ^ j := Nat.mul_le_mul (by omega) (Nat.pow_pos (by decide))
      omega
    rw [vval_cons]
    generalize vval s (j + 1) = v at *
    rw [vput_big (by omega), show (c.toNat % 128 + 128 * v) / 128 = v by omega, ih, show 128 + (c.toNat % 128 + 128 * v) % 128 = c.toNat by omega, u8_ofNat_self, List.take_succ_cons]
theorem vget_sound {s : List UInt8} {n k : Nat} (h : vget s = some (n, k)) : s = vput n ++ s.drop k ∧ k = (vput n).length := by
  unfold vget at h
  split at h
  · cases h
  · split at h
    · cases h
    · rename_i h1 h2
      simp only [Option.some.injEq, Prod.mk.injEq] at h
      obtain ⟨rfl, rfl⟩ := h
      have h3 := put_of_vval (vrun 10 s) s (by omega) (vrun_hi 10 s) (vrun_lo 10 s (by omega) (by omega)) (fun h4 h5 => h2 (.inr ⟨h4, h5⟩))
      rw [h3]
      refine ⟨(List.take_append_drop _ _).symm, ?_⟩
      rw [List.length_take]; omega
theorem vtake_text {t : List UInt8} (ht : t.length < 18446744073709551616) (r : List UInt8) : vtake (vtext t ++ r) = some (t, (vtext t).length) := by
  unfold vtake vtext
  rw [List.append_assoc, vget_put ht]
  simp only [List.length_append]
  rw [if_neg (by omega), List.drop_left' rfl, List.take_left' rfl]
theorem vtake_sound {s t : List UInt8} {k : Nat} (h : vtake s = some (t, k)) : s = vtext t ++ s.drop k ∧ k = (vtext t).length := by
  unfold vtake at h
  rcases hg : vget s with _ | ⟨n, j⟩
  · rw [hg] at h; cases h
  · rw [hg] at h
    dsimp only at h
    split at h
    · cases h
    · rename_i hl
      simp only [Option.some.injEq, Prod.mk.injEq] at h
      obtain ⟨rfl, rfl⟩ := h
      obtain ⟨h1, h2⟩ := vget_sound hg
      have hb := vget_bound hg
      have h3 : ((s.drop j).take n).length = n := by rw [List.length_take, List.length_drop]; omega
      unfold vtext
      rw [h3]
      refine ⟨?_, by rw [List.length_append, h3, ← h2]⟩
      have h4 : s.drop j = (s.drop j).take n ++ s.drop (j + n) := by rw [← List.drop_drop, List.take_append_drop]
      rw [List.append_assoc, ← h4]; exact h1
theorem takeD_text {t : List UInt8} (ht : t.length < 18446744073709551616) (r : List UInt8) : takeD (vtext t ++ r) = (t, (vtext t).length) := by
  unfold takeD; rw [vtake_text ht]; rfl
theorem getD2_put {n : Nat} (hn : n < 18446744073709551616) (r : List UInt8) : getD2 (vput n ++ r) = (n, (vput n).length) := by
  unfold getD2; rw [vget_put hn]; rfl
theorem idOf_app (i : BId) (r : List UInt8) : idOf (i.val ++ r) = i := by
  apply Subtype.ext
  show ((i.val ++ r) ++ List.replicate 32 0).take 32 = i.val
  rw [List.append_assoc, List.take_left' i.2]
theorem idOf_self (i : BId) : idOf i.val = i := by have := idOf_app i []; rwa [List.append_nil] at this
theorem idOf_val {s : List UInt8} (h : s.length = 32) : (idOf s).val = s := by
  show (s ++ List.replicate 32 0).take 32 = s
  rw [List.take_left' h]
theorem rBytes_app (b r : List UInt8) {n : Nat} (h : b.length = n) : rBytes (b ++ r, false) n = (b, (r, false)) := by
  unfold rBytes
  rw [if_neg (by rintro (h1 | h1); cases h1; simp only [List.length_append] at h1; omega), List.take_left' h, List.drop_left' h]
theorem rKind_app (c : UInt8) (r : List UInt8) : rKind (c :: r, false) = (c.toNat, (r, false)) := by
  have := rBytes_app [c] r (n := 1) rfl
  unfold rKind
  rw [show (c :: r, false) = ([c] ++ r, false) from rfl, this]; simp
theorem rText_app {t : List UInt8} (ht : t.length < 18446744073709551616) (r : List UInt8) : rText (vtext t ++ r, false) = (t, (r, false)) := by
  unfold rText
  rw [vtake_text ht]
  simp only [Bool.false_eq_true, if_false]
  rw [List.drop_left' rfl]
theorem rNum_app {n : Nat} (hn : n < 18446744073709551616) (r : List UInt8) : rNum (vput n ++ r, false) = (n, (r, false)) := by
  unfold rNum
  rw [vget_put hn]
  simp only [Bool.false_eq_true, if_false]
  rw [List.drop_left' rfl]
theorem rId_app (i : BId) (r : List UInt8) : rId (i.val ++ r, false) = (i, (r, false)) := by
  unfold rId
  rw [rBytes_app i.val r i.2, idOf_self]
theorem rBytes_sound {r : Rdr} {n : Nat} (h : (rBytes r n).2.2 = false) : r.2 = false ∧ r.1 = (rBytes r n).1 ++ (rBytes r n).2.1 ∧ (rBytes r n).1.length = n := by
  unfold rBytes at h ⊢
  split at h
  · cases h
  · rename_i hn
    rw [if_neg hn]
    have h1 : ¬ r.1.length < n := fun x => hn (.inr x)
    refine ⟨?_, (List.take_append_drop n r.1).symm, by rw [List.length_take]; omega⟩
    cases hb : r.2 with
    | false => rfl
    | true => exact absurd (.inl hb) hn
theorem rKind_sound {r : Rdr} (h : (rKind r).2.2 = false) : r.2 = false ∧ r.1 = UInt8.ofNat (rKind r).1 :: (rKind r).2.1 := by
  obtain ⟨h1, h2, h3⟩ := rBytes_sound (r := r) (n := 1) h
  refine ⟨h1, ?_⟩
  have h4 : (rBytes r 1).2.2 = false := h
  have e2 : (rKind r).2.1 = (rBytes r 1).2.1 := rfl
  unfold rKind
  rw [h4]
  match hm : (rBytes r 1).1, h3 with
  | [c], _ => rw [hm] at h2; simpa using h2
theorem rId_sound {r : Rdr} (h : (rId r).2.2 = false) : r.2 = false ∧ r.1 = (rId r).1.val ++ (rId r).2.1 := by
  obtain ⟨h1, h2, h3⟩ := rBytes_sound (r := r) (n := 32) h
  refine ⟨h1, ?_⟩
  show r.1 = (idOf (rBytes r 32).1).val ++ (rBytes r 32).2.1
  rw [idOf_val h3]; exact h2
theorem rText_sound {r : Rdr} (h : (rText r).2.2 = false) : r.2 = false ∧ r.1 = vtext (rText r).1 ++ (rText r).2.1 := by
  unfold rText at h ⊢
  rcases hg : vtake r.1 with _ | ⟨t, k⟩
  · rw [hg] at h; cases h
  · rw [hg] at h
    dsimp only at h ⊢
    split at h
    · cases h
    · rename_i hb
      rw [if_neg hb]
      exact ⟨by simpa using hb, (vtake_sound hg).1⟩
theorem rNum_sound {r : Rdr} (h : (rNum r).2.2 = false) : r.2 = false ∧ r.1 = vput (rNum r).1 ++ (rNum r).2.1 := by
  unfold rNum at h ⊢
  rcases hg : vget r.1 with _ | ⟨t, k⟩
  · rw [hg] at h; cases h
  · rw [hg] at h
    dsimp only at h ⊢
    split at h
    · cases h
    · rename_i hb
      rw [if_neg hb]
      exact ⟨by simpa using hb, (vget_sound hg).1⟩
def EntFit (x : DEnt) : Prop := x.kind < 256 ∧ x.name.length < 18446744073709551616
theorem encEnt_len (x : DEnt) : 33 ≤ (encEnt x).length := by
  simp only [encEnt, List.length_append, bid_len, List.length_cons]; omega
theorem vents_cons (x : DEnt) (l : List DEnt) : vents (x :: l) = encEnt x ++ vents l := by simp [vents]
theorem vids_cons (x : BId) (l : List BId) : vids (x :: l) = x.val ++ vids l := by simp [vids]
theorem pEnts_enc : ∀ (l : List DEnt) (n : Nat), (∀ x, x ∈ l → EntFit x) → (vents l).length ≤ n → pEnts n (vents l, false) = (l, ([], false))
  | [], n, _, _ => pEnts_end n _ (.inr rfl)
  | x :: l, n, h, hn => by
    have hx := h x (List.mem_cons_self ..)
    have h33 := encEnt_len x
    rw [vents_cons, List.length_append] at hn
    obtain ⟨m, rfl⟩ : ∃ m, n = m + 1 := ⟨n - 1, by omega⟩
    have ih := pEnts_enc l m (fun y hy => h y (List.mem_cons_of_mem _ hy)) (by omega)
    have e1 : (vents (x :: l), false) = ((UInt8.ofNat x.kind :: (vtext x.name ++ (x.id.val ++ vents l)), false) : Rdr) := by rw [vents_cons, encEnt]; simp
    rw [e1, pEnts, if_neg (by simp), rKind_app, rText_app hx.2, rId_app, ih, u8_ofNat_toNat _ hx.1]
theorem gTree_enc : ∀ (l : List DEnt) (n : Nat), (∀ x, x ∈ l → EntFit x) → l.length ≤ n → gTree n (vents l) = l
  | [], n, _, _ => gTree_nil n
  | x :: l, n, h, hn => by
    have hx := h x (List.mem_cons_self ..)
    simp only [List.length_cons] at hn
    obtain ⟨m, rfl⟩ : ∃ m, n = m + 1 := ⟨n - 1, by omega⟩
    have ih := gTree_enc l m (fun y hy => h y (List.mem_cons_of_mem _ hy)) (by omega)
    have e1 : vents (x :: l) = UInt8.ofNat x.kind :: (vtext x.name ++ (x.id.val ++ vents l)) := by rw [vents_cons, encEnt]; simp
    have e2 : (UInt8.ofNat x.kind :: (vtext x.name ++ (x.id.val ++ vents l))).drop (1 + (vtext x.name).length) = x.id.val ++ vents l := by
      rw [Nat.add_comm, List.drop_succ_cons, List.drop_left' rfl]
    rw [e1, gTree, if_neg (by simp), List.drop_succ_cons, List.drop_zero, takeD_text hx.2]
    dsimp only
    rw [e2, idOf_app, List.drop_left' x.id.2, ih, List.getD_cons_zero, u8_ofNat_toNat _ hx.1]
theorem pIds_enc (r : List UInt8) : ∀ (l : List BId), pIds l.length (vids l ++ r, false) = (l, (r, false))
  | [] => rfl
  | x :: l => by
    have ih := pIds_enc r l
    rw [vids_cons, List.append_assoc, List.length_cons, pIds, if_neg (by simp), rId_app, ih]
theorem gIds_enc (r : List UInt8) : ∀ (l : List BId), gIds l.length (vids l ++ r) = l
  | [] => rfl
  | x :: l => by
    have ih := gIds_enc r l
    rw [vids_cons, List.append_assoc, List.length_cons, gIds, idOf_app, List.drop_left' x.2, ih]
theorem pEnts_sound : ∀ (n : Nat) (r : Rdr), (pEnts n r).2.2 = false → (pEnts n r).2.1 = [] → r.2 = false ∧ r.1 = vents (pEnts n r).1
  | 0, r, h, h2 => ⟨h, h2⟩
  | n + 1, r, h, h2 => by
    unfold pEnts at h h2 ⊢
    split at h
    · rename_i hc
      rw [if_pos hc] at h2 ⊢
      exact ⟨h, h2⟩
    · rename_i hc
      rw [if_neg hc] at h2 ⊢
      obtain ⟨h3, h4⟩ := pEnts_sound n _ h h2
      obtain ⟨h5, h6⟩ := rId_sound h3
      obtain ⟨h7, h8⟩ := rText_sound h5
      obtain ⟨h9, h10⟩ := rKind_sound h7
      refine ⟨h9, ?_⟩
      rw [vents_cons, encEnt]
      dsimp only
      rw [← h4, List.append_assoc, ← h6, List.append_assoc, ← h8]
      exact h10
theorem pIds_sound : ∀ (n : Nat) (r : Rdr), (pIds n r).2.2 = false → r.2 = false ∧ r.1 = vids (pIds n r).1 ++ (pIds n r).2.1 ∧ (pIds n r).1.length = n
  | 0, r, h => ⟨h, rfl, rfl⟩
  | n + 1, r, h => by
    unfold pIds at h ⊢
    split at h
    · rename_i hc; rw [hc] at h; cases h
    · rename_i hc
      rw [if_neg hc]
      obtain ⟨h3, h4, h5⟩ := pIds_sound n _ h
      obtain ⟨h6, h7⟩ := rId_sound h3
      refine ⟨h6, ?_, by dsimp only; rw [List.length_cons, h5]⟩
      rw [vids_cons]
      dsimp only
      rw [List.append_assoc, ← h4]; exact h7
theorem cap_false {c : Bool} {r : Rdr} (h : (cap c r).2 = false) : r.2 = false ∧ c = false ∧ (cap c r).1 = r.1 := by
  unfold cap at h ⊢
  simp only [Bool.or_eq_false_iff] at h
  exact ⟨h.1, h.2, rfl⟩
theorem cap_no {r : Rdr} {c : Bool} (h : c = false) : cap c r = r := by unfold cap; rw [h, Bool.or_false]
theorem u32_lt (x : UInt32) : x.toNat < 18446744073709551616 := by have := x.toNat_lt; omega
theorem vbody1 {o : DObj} (h : May o) (hk : o.kind = 1) : vbody o = o.data ∧ o = { zobj with kind := 1, data := o.data } := by
  have h1 := h.tree (by omega); have h2 := h.com (by omega); have h3 := h.tag (by omega)
  obtain ⟨a1, a2, a3, a4⟩ := h2
  obtain ⟨b1, b2, b3⟩ := h3
  have ht : o.time = 0 := UInt32.toNat_inj.1 (by simpa using a3)
  cases o
  simp only at *
  subst hk h1 a1 a2 ht a4 b1 b2 b3
  simp [vbody, zobj]
theorem vbody2 {o : DObj} (h : May o) (hk : o.kind = 2) : vbody o = vents o.entries ∧ o = { zobj with kind := 2, entries := o.entries } := by
  have h1 := h.blob (by omega); have h2 := h.com (by omega); have h3 := h.tag (by omega)
  obtain ⟨a1, a2, a3, a4⟩ := h2
  obtain ⟨b1, b2, b3⟩ := h3
  have ht : o.time = 0 := UInt32.toNat_inj.1 (by simpa using a3)
  cases o
  simp only at *
  subst hk h1 a1 a2 ht a4 b1 b2 b3
  simp [vbody, zobj]
theorem vbody3 {o : DObj} (h : May o) (hk : o.kind = 3) : vbody o = vcom o ∧ o = { zobj with kind := 3, tree := o.tree, parents := o.parents, time := o.time, text := o.text } := by
  have h1 := h.blob (by omega); have h2 := h.tree (by omega); have h3 := h.tag (by omega)
  obtain ⟨b1, b2, b3⟩ := h3
  cases o
  simp only at *
  subst hk h1 h2 b1 b2 b3
  simp [vbody, zobj]
theorem vbody4 {o : DObj} (h : May o) (hk : o.kind = 4) : vbody o = vtag o ∧ o = { zobj with kind := 4, target := o.target, of := o.of, name := o.name } := by
  have h1 := h.blob (by omega); have h2 := h.tree (by omega); have h3 := h.com (by omega)
  obtain ⟨a1, a2, a3, a4⟩ := h3
  have ht : o.time = 0 := UInt32.toNat_inj.1 (by simpa using a3)
  cases o
  simp only at *
  subst hk h1 h2 a1 a2 ht a4
  simp [vbody, zobj]
theorem May.fit {o : DObj} (h : May o) : ∀ x, x ∈ o.entries → EntFit x := by
  intro x hx
  obtain ⟨i, hi, rfl⟩ := List.getElem_of_mem hx
  obtain ⟨⟨_, _, h1⟩, _, h2, _⟩ := h.ents i hi
  have e : o.entries.getD i default = o.entries[i] := by simp [List.getD, hi]
  rw [e] at h1 h2
  exact ⟨by omega, by omega⟩
theorem pCom_enc {o : DObj} (h : o.parents.length ≤ 8) (ht : o.text.length < 18446744073709551616) (k : Nat) : pCom k (vcom o, false) = ({ zobj with kind := k, tree := o.tree, parents := o.parents, time := o.time, text := o.text }, ([], false)) := by
  have e0 : vcom o = o.tree.val ++ (vput o.parents.length ++ (vids o.parents ++ (vput o.time.toNat ++ vtext o.text))) := by simp [vcom]
  have e1 : rId (vcom o, false) = (o.tree, (vput o.parents.length ++ (vids o.parents ++ (vput o.time.toNat ++ vtext o.text)), false)) := by rw [e0, rId_app]
  have e2 : rNum (rId (vcom o, false)).2 = (o.parents.length, (vids o.parents ++ (vput o.time.toNat ++ vtext o.text), false)) := by rw [e1, rNum_app (by omega)]
  have e3 : pComA (vcom o, false) = (vids o.parents ++ (vput o.time.toNat ++ vtext o.text), false) := by
    rw [pComA, cap_no, e2]; rw [e2]; simp; omega
  have e4 : pComB (vcom o, false) = (o.parents, (vput o.time.toNat ++ vtext o.text, false)) := by
    rw [pComB, e3, e2, pIds_enc]
  have e5 : rNum (pComB (vcom o, false)).2 = (o.time.toNat, (vtext o.text, false)) := by rw [e4, rNum_app (u32_lt _)]
  have e6 : pComC (vcom o, false) = (vtext o.text, false) := by
    have := o.time.toNat_lt
    rw [pComC, cap_no, e5]; rw [e5]; simp; omega
  have e7 : rText (vtext o.text, false) = (o.text, ([], false)) := by have := rText_app ht []; rwa [List.append_nil] at this
  rw [pCom, e1, e5, e6, e7, e4]; simp
theorem gCom_enc {o : DObj} (h : o.parents.length ≤ 8) (ht : o.text.length < 18446744073709551616) (k : Nat) : gCom k (vcom o) = { zobj with kind := k, tree := o.tree, parents := o.parents, time := o.time, text := o.text } := by
  have e0 : vcom o = o.tree.val ++ (vput o.parents.length ++ (vids o.parents ++ (vput o.time.toNat ++ vtext o.text))) := by simp [vcom]
  have e1 : (vcom o).drop 32 = vput o.parents.length ++ (vids o.parents ++ (vput o.time.toNat ++ vtext o.text)) := by rw [e0, List.drop_left' o.tree.2]
  have e2 : getD2 ((vcom o).drop 32) = (o.parents.length, (vput o.parents.length).length) := by rw [e1, getD2_put (by omega)]
  have e3 : gComN (vcom o) = o.parents.length := by rw [gComN, e2]; show min o.parents.length 9 = _; omega
  have e4 : gComP (vcom o) = vids o.parents ++ (vput o.time.toNat ++ vtext o.text) := by rw [gComP, e2, e1, List.drop_left' rfl]
  have e5 : gComT (vcom o) = vput o.time.toNat ++ vtext o.text := by rw [gComT, e3, e4, List.drop_left' (vids_len _)]
  have e6 : getD2 (gComT (vcom o)) = (o.time.toNat, (vput o.time.toNat).length) := by rw [e5, getD2_put (u32_lt _)]
  have e7 : takeD ((gComT (vcom o)).drop (getD2 (gComT (vcom o))).2) = (o.text, (vtext o.text).length) := by
    rw [e6, e5, List.drop_left' rfl]
    have := takeD_text ht []; rwa [List.append_nil] at this
  have e8 : idOf (vcom o) = o.tree := by rw [e0, idOf_app]
  have e9 : UInt32.ofNat (o.time.toNat % 4294967296) = o.time := by
    have := o.time.toNat_lt
    rw [Nat.mod_eq_of_lt (by omega)]; simp
  rw [gCom, e7, e6, e3, e4, e8, gIds_enc, e9]
theorem pTag_enc {o : DObj} (h : o.of < 256) (ht : o.name.length < 18446744073709551616) (k : Nat) : pTag k (vtag o, false) = ({ zobj with kind := k, of := o.of, target := o.target, name := o.name }, ([], false)) := by
  have e0 : vtag o = UInt8.ofNat o.of :: (o.target.val ++ vtext o.name) := by simp [vtag]
  have e7 : rText (vtext o.name, false) = (o.name, ([], false)) := by have := rText_app ht []; rwa [List.append_nil] at this
  rw [pTag, e0, rKind_app, rId_app, e7, u8_ofNat_toNat _ h]
theorem gTag_enc {o : DObj} (h : o.of < 256) (ht : o.name.length < 18446744073709551616) (k : Nat) : gTag k (vtag o) = { zobj with kind := k, of := o.of, target := o.target, name := o.name } := by
  have e0 : vtag o = UInt8.ofNat o.of :: (o.target.val ++ vtext o.name) := by simp [vtag]
  have e7 : takeD (vtext o.name) = (o.name, (vtext o.name).length) := by have := takeD_text ht []; rwa [List.append_nil] at this
  rw [gTag, e0, List.drop_succ_cons, List.drop_zero, idOf_app, List.drop_left' o.target.2, e7, List.getD_cons_zero, u8_ofNat_toNat _ h]
theorem pBody_enc {o : DObj} (h : May o) (hz : Small o) : pBody o.kind (vbody o, false) = (o, ([], false)) := by
  have k1 := h.k1; have k4 := h.k4
  unfold pBody
  by_cases h2 : o.kind = 2
  · obtain ⟨e1, e2⟩ := vbody2 h h2
    rw [if_pos h2, e1, pTree, h2, pEnts_enc o.entries _ h.fit (Nat.le_refl _), ← e2]
  · by_cases h3 : o.kind = 3
    · obtain ⟨e1, e2⟩ := vbody3 h h3
      rw [if_neg h2, if_pos h3, e1, pCom_enc h.np (by have := hz.text; omega), h3, ← e2]
    · by_cases h4 : o.kind = 4
      · obtain ⟨e1, e2⟩ := vbody4 h h4
        have := h.tag4 h4
        rw [if_neg h2, if_neg h3, if_pos h4, e1, pTag_enc (by omega) (by have := hz.name; omega), h4]
        rw [show ({ zobj with kind := 4, of := o.of, target := o.target, name := o.name } : DObj) = { zobj with kind := 4, target := o.target, of := o.of, name := o.name } from rfl, ← e2]
      · have h1 : o.kind = 1 := by omega
        obtain ⟨e1, e2⟩ := vbody1 h h1
        have e3 := rBytes_app o.data [] (n := o.data.length) rfl
        rw [List.append_nil] at e3
        rw [if_neg h2, if_neg h3, if_neg h4, e1, pBlob, e3, h1, ← e2]
theorem gObj_enc {o : DObj} (h : May o) (hz : Small o) : gObj o.kind (vbody o) = o := by
  have k1 := h.k1; have k4 := h.k4
  unfold gObj
  by_cases h1 : o.kind = 1
  · obtain ⟨e1, e2⟩ := vbody1 h h1
    rw [if_pos h1, e1, h1, ← e2]
  · by_cases h2 : o.kind = 2
    · obtain ⟨e1, e2⟩ := vbody2 h h2
      rw [if_neg h1, if_pos h2, e1, gTree_enc o.entries 65 h.fit (by have := h.ne; omega), h2, ← e2]
    · by_cases h3 : o.kind = 3
      · obtain ⟨e1, e2⟩ := vbody3 h h3
        rw [if_neg h1, if_neg h2, if_pos h3, e1, gCom_enc h.np (by have := hz.text; omega), h3, ← e2]
      · have h4 : o.kind = 4 := by omega
        obtain ⟨e1, e2⟩ := vbody4 h h4
        have := h.tag4 h4
        rw [if_neg h1, if_neg h2, if_neg h3, if_pos h4, e1, gTag_enc (by omega) (by have := hz.name; omega), h4]
        rw [show ({ zobj with kind := 4, of := o.of, target := o.target, name := o.name } : DObj) = { zobj with kind := 4, target := o.target, of := o.of, name := o.name } from rfl, ← e2]
theorem pBody_sound {k : Nat} {r : Rdr} (h1 : (pBody k r).2.2 = false) (h2 : (pBody k r).2.1 = []) (hm : May (pBody k r).1) : r.2 = false ∧ (pBody k r).1.kind = k ∧ r.1 = vbody (pBody k r).1 := by
  unfold pBody at h1 h2 hm ⊢
  by_cases k2 : k = 2
  · rw [if_pos k2] at h1 h2 hm ⊢
    subst k2
    obtain ⟨a1, a2⟩ := pEnts_sound r.1.length r h1 h2
    exact ⟨a1, rfl, by rw [(vbody2 hm rfl).1]; exact a2⟩
  · by_cases k3 : k = 3
    · rw [if_neg k2, if_pos k3] at h1 h2 hm ⊢
      subst k3
      obtain ⟨a1, a2⟩ := rText_sound (r := pComC r) h1
      obtain ⟨b1, b2, b3⟩ := cap_false (r := (rNum (pComB r).2).2) a1
      obtain ⟨c1, c2⟩ := rNum_sound b1
      obtain ⟨d1, d2, d3⟩ := pIds_sound _ _ c1
      obtain ⟨f1, f2, f3⟩ := cap_false (r := (rNum (rId r).2).2) d1
      obtain ⟨g1, g2⟩ := rNum_sound f1
      obtain ⟨i1, i2⟩ := rId_sound g1
      refine ⟨i1, rfl, ?_⟩
      rw [(vbody3 hm rfl).1, vcom]
      have t1 : (UInt32.ofNat (rNum (pComB r).2).1).toNat = (rNum (pComB r).2).1 := by
        have : (rNum (pComB r).2).1 ≤ 4294967295 := by simpa using b2
        simp; omega
      have p1 : (pComB r).1.length = (rNum (rId r).2).1 := d3
      show r.1 = (rId r).1.val ++ vput (pComB r).1.length ++ vids (pComB r).1 ++ vput (UInt32.ofNat (rNum (pComB r).2).1).toNat ++ vtext (rText (pComC r)).1
      have h3 : (rText (pComC r)).2.1 = [] := h2
      rw [h3, List.append_nil] at a2
      have j1 : (pComC r).1 = (rNum (pComB r).2).2.1 := b3
      have j2 : (pComA r).1 = (rNum (rId r).2).2.1 := f3
      have d2' : (pComA r).1 = vids (pComB r).1 ++ (pComB r).2.1 := d2
      rw [t1, p1, ← a2, j1, List.append_assoc, ← c2, List.append_assoc, ← d2', j2, List.append_assoc, ← g2]
      exact i2
    · by_cases k4 : k = 4
      · rw [if_neg k2, if_neg k3, if_pos k4] at h1 h2 hm ⊢
        subst k4
        obtain ⟨a1, a2⟩ := rText_sound (r := (rId (rKind r).2).2) h1
        obtain ⟨b1, b2⟩ := rId_sound a1
        obtain ⟨c1, c2⟩ := rKind_sound b1
        refine ⟨c1, rfl, ?_⟩
        rw [(vbody4 hm rfl).1, vtag]
        show r.1 = [UInt8.ofNat (rKind r).1] ++ (rId (rKind r).2).1.val ++ vtext (rText (rId (rKind r).2).2).1
        have h3 : (rText (rId (rKind r).2).2).2.1 = [] := h2
        rw [h3, List.append_nil] at a2
        rw [← a2, List.append_assoc, ← b2]
        exact c2
      · rw [if_neg k2, if_neg k3, if_neg k4] at h1 h2 hm ⊢
        obtain ⟨a1, a2, a3⟩ := rBytes_sound (r := r) (n := r.1.length) h1
        have kk : k = 1 := by have := hm.k1; have := hm.k4; simp only [pBlob] at *; omega
        subst kk
        refine ⟨a1, rfl, ?_⟩
        rw [(vbody1 hm rfl).1]
        show r.1 = (rBytes r r.1.length).1
        have h3 : (rBytes r r.1.length).2.1 = [] := h2
        rw [h3, List.append_nil] at a2
        exact a2
theorem encOk_iff {o : DObj} : encOk o = true ↔ May o ∧ (venc o).length ≤ 4096 := by simp [encOk, mayB_iff]
theorem venc_drop (o : DObj) : (venc o).drop 1 = vtext (vbody o) := by simp [venc]
theorem venc_get {o : DObj} (h : May o) : ((venc o).getD 0 0).toNat = o.kind := by
  have := h.k4
  simp only [venc, List.cons_append, List.nil_append, List.getD_cons_zero]
  exact u8_ofNat_toNat _ (by omega)
theorem venc_guess {o : DObj} (h : May o) (hz : Small o) : guess (venc o) = o := by
  have hb := vbody_len hz h
  have e1 : takeD ((venc o).drop 1) = (vbody o, (vtext (vbody o)).length) := by
    rw [venc_drop]
    have := takeD_text (t := vbody o) (by omega) []; rwa [List.append_nil] at this
  have hp : (vtext (vbody o)).length ≠ 0 := by have := vput_pos (vbody o).length; simp only [vtext, List.length_append]; omega
  rw [guess, e1, if_neg hp, venc_get h, gObj_enc h hz]
theorem venc_parse {o : DObj} (h : May o) (hz : Small o) : pParse (venc o) = (o, ([], false)) := by
  have hb := vbody_len hz h
  have e1 : vtake ((venc o).drop 1) = some (vbody o, (vtext (vbody o)).length) := by
    rw [venc_drop]
    have := vtake_text (t := vbody o) (by omega) []; rwa [List.append_nil] at this
  unfold pParse
  rw [e1]
  dsimp only
  rw [venc_drop, if_pos (by simp), venc_get h, pBody_enc h hz]
theorem dOk_iff {s : List UInt8} : dOk s = true ↔ ∃ o, May o ∧ Small o ∧ (venc o).length ≤ 4096 ∧ s = venc o := by
  constructor
  · intro h
    simp only [dOk, Bool.and_eq_true, decide_eq_true_eq, Bool.not_eq_true', mayB_iff] at h
    obtain ⟨⟨hs, hl⟩, ⟨h1, h2⟩, h3⟩ := h
    have hl4 : (s.drop 1).length ≤ 4096 := by rw [List.length_drop]; omega
    unfold pParse at h1 h2 h3
    rcases hg : vtake (s.drop 1) with _ | ⟨t, k⟩
    · rw [hg] at h1; cases h1
    · rw [hg] at h1 h2 h3
      dsimp only at h1 h2 h3
      split at h1
      · rename_i hk
        rw [if_pos hk] at h2 h3
        obtain ⟨a1, a2, a3⟩ := pBody_sound h1 h2 h3
        obtain ⟨b1, b2⟩ := vtake_sound hg
        rw [hk, List.append_nil] at b1
        have e : s = venc (pBody (s.getD 0 0).toNat (t, false)).1 := by
          rw [venc, a2, ← a3, ← b1]
          cases s with
          | nil => exact absurd rfl hs
          | cons c s => simp
        have hz : Small (pBody (s.getD 0 0).toNat (t, false)).1 := by
          apply pBody_small
          have := congrArg List.length b1
          simp only [vtext, List.length_append] at this
          dsimp only; omega
        exact ⟨_, h3, hz, by rw [← e]; exact hl, e⟩
      · cases h1
  · rintro ⟨o, hm, hz, hl, rfl⟩
    have hp := venc_parse hm hz
    have hne : venc o ≠ [] := by simp [venc]
    simp [dOk, hp, hne, hl, mayB_iff.2 hm]
theorem decOk_iff {s : List UInt8} (hs : s.length < 1073741824) : decOk s = true ↔ ∃ o, May o ∧ Small o ∧ (venc o).length ≤ 4096 ∧ s = venc o := by
  constructor
  · intro h
    simp only [decOk, Bool.and_eq_true, decide_eq_true_eq] at h
    obtain ⟨⟨h1, h2⟩, h3⟩ := h
    have h4 := encOk_iff.1 h1
    refine ⟨guess s, h4.1, guess_small s hs, h4.2, ?_⟩
    rw [encS, if_pos h1] at h2
    exact h2.symm
  · rintro ⟨o, hm, hz, hl, rfl⟩
    have hg := venc_guess hm hz
    have hne : venc o ≠ [] := by simp [venc]
    have he := encOk_iff.2 ⟨hm, hl⟩
    simp [decOk, hg, he, encS, hne]
theorem dec_same {s : List UInt8} (hs : s.length < 1073741824) : dOk s = decOk s ∧ dO s = decO s := by
  have h : dOk s = decOk s := by rw [Bool.eq_iff_iff, dOk_iff, decOk_iff hs]
  refine ⟨h, ?_⟩
  unfold dO decO
  rw [← h]
  split
  · rename_i h1
    obtain ⟨o, hm, hz, hl, rfl⟩ := dOk_iff.1 h1
    rw [venc_parse hm hz, venc_guess hm hz]
  · rfl
theorem dec_kind {s : List UInt8} (h : dOk s = true) : (dO s).kind = (s.getD 0 0).toNat ∧ May (dO s) ∧ Small (dO s) ∧ s = venc (dO s) ∧ s.length ≤ 4096 := by
  obtain ⟨o, hm, hz, hl, rfl⟩ := dOk_iff.1 h
  have : dO (venc o) = o := by rw [dO, if_pos h, venc_parse hm hz]
  rw [this]
  exact ⟨(venc_get hm).symm, hm, hz, rfl, hl⟩
end Go.Proofs.YtjmigoikklkfdaaGreatDoor
namespace Go.Proofs.YtjmigoikklkfdaaGreatDoor
open Go
set_option linter.unusedVariables false
set_option linter.unusedSimpArgs false
set_option maxRecDepth 4000
structure RIt where
  t : List UInt8
  ve : Value
  vp : Value
instance : Inhabited RIt := ⟨⟨[], .slice none 0 0, .slice none 0 0⟩⟩
noncomputable abbrev segsR (t : List UInt8) (o : DObj) (ve vp : Value) : List (List Value) := [encId (sumF t), [str t], [.int .i64 (o.kind : Int)], [str o.data], [ve], encId o.tree, [vp], [u32v o.time], [str o.text], encId o.target, [.int .i64 (o.of : Int)], [str o.name]]
noncomputable abbrev encR (x : RIt) : List Value := (segsR x.t (dO x.t) x.ve x.vp).flatten
abbrev texts (R : List RIt) : List (List UInt8) := R.map (·.t)
structure RS (S : Mem) (v : Value) (R : List RIt) : Prop where
  pl : PSl S v 105 (R.map encR)
  ob : ∀ x, x ∈ R → ObjIn S (dO x.t) x.ve x.vp
theorem RS.mono {S S' v R} (h : RS S v R) (l : Le S S') : RS S' v R := ⟨h.pl.mono l, fun x hx => (h.ob x hx).mono l⟩
noncomputable def atF (A : List (List UInt8)) (x : BId) : Int := if x ∈ keys A then (low x (keys A) : Nat) else -1
theorem low_at {A : List (List UInt8)} (hr : Rising (keys A)) {i : Nat} (hi : i < A.length) : low (sumF (A.getD i default)) (keys A) = i := by
  have hp : ((keys A).map idN).Pairwise (· < ·) := List.pairwise_map.2 hr
  have hk : ∀ k, (hk : k < A.length) → ((keys A).map idN).getD k 0 = idN (sumF (A.getD k default)) := fun k hk => by simp [List.getD, hk]
  refine lowN_unique _ _ _ (by simp; omega) (fun k hki => ?_) (fun _ => by rw [hk i hi]; exact Nat.le_refl _)
  have h6 := List.pairwise_iff_getElem.1 hp k i (by simp; omega) (by simp; omega) hki
  have e1 : ((keys A).map idN).getD k 0 = ((keys A).map idN)[k]'(by simp; omega) := by simp [List.getD, show k < A.length by omega]
  have e2 : ((keys A).map idN).getD i 0 = ((keys A).map idN)[i]'(by simp; omega) := by simp [List.getD, hi]
  rw [← hk i hi, e1, e2]; exact h6
theorem key_mem {A : List (List UInt8)} {i : Nat} (hi : i < A.length) : sumF (A.getD i default) ∈ keys A := by
  have e : A.getD i default = A[i] := by simp [List.getD, hi]
  rw [e]; exact List.mem_map_of_mem (List.getElem_mem hi)
theorem texts_get {R : List RIt} {i : Nat} (hi : i < R.length) : (texts R).getD i default = (R.getD i default).t := by simp [List.getD, hi]
theorem At_spec {v : Value} {R : List RIt} {S : Mem} (h : RS S v R) (hr : Rising (keys (texts R))) (x : BId) : PureL Tryz.prog 76 [ag [[v]], idv x] S [] (.int .i64 (atF (texts R) x)) := by
  have hl := h.pl
  have hsc := hl.sc
  have hlen := hl.mlen
  refine enter Tryz.func76 rfl 22 rfl rfl (fun w0 => ?_)
  refine sq ?_
  refine rg ?_
  refine l rfl (box rfl rfl ?_)
  intro B2
  refine l rfl (box rfl rfl ?_)
  intro B3
  refine q (vAs rfl) rfl ?_
  refine nil ?_
  refine thN ?_
  refine sq ?_
  refine sq ?_
  refine rg ?_
  refine q (vAs rfl) rfl ?_
  refine nil ?_
  refine thN ?_
  refine bk ?_
  refine loop (ι := Nat) (fun (i : Nat) => [(2, .pointer (some ⟨B2, 0, none⟩)), (3, .pointer (some ⟨B3, 0, none⟩)), (5, .int .i64 (i : Int))]) (fun (i : Nat) => [blk B2 30 [[v]], blk B3 35 [encId x]]) (fun (i : Nat) => fun S' => i ≤ R.length ∧ ∀ j, j < i → sumF (R.getD j default).t ≠ x) (fun (i : Nat) => R.length - i) 0 ⟨Nat.zero_le _, fun j h => absurd h (Nat.not_lt_zero _)⟩ (.cons rfl (by first | rfl | simp | (simp <;> omega)) (.cons rfl (by first | rfl | simp | (simp <;> omega)) (.cons rfl (by first | rfl | simp | (simp <;> omega)) .nil))) (.cons T1 (Ent.Le.of (by first | rfl | simp | (simp <;> omega))) (.cons T0 (Ent.Le.of (by first | rfl | simp | (simp <;> omega))) .nil)) ?_
  rintro i S2 hle2 ⟨h1, h2⟩
  replace hl := hl.mono hle2
  refine sq ?_
  refine sq ?_
  refine rg ?_
  refine q (vMv rfl) rfl ?_
  refine q (vFa fa30_0 rfl) rfl ?_
  refine q (vLd sc28 rfl (rB1 T0 (.z (.c .n)))) rfl ?_
  refine q (SrcOk.len (srcP hl) Tryz.underlying28 rfl) rfl ?_
  refine q (vLt rfl rfl) rfl ?_
  refine nil ?_
  refine thN ?_
  refine cd rfl (fun hc => ?_) (fun hc => ?_) <;> try simp only [bls, beq_iff_eq, bne_iff_ne, Int.reduceToNat, List.length_map] at hc
  · skip
    have hi : i < R.length := by omega
    refine sk ?_
    refine thN ?_
    refine sq ?_
    refine bk ?_
    refine sq ?_
    refine dr (.take 0 (.take 1 (.take 2 (.take 3 (.take 4 (.take 5 (.take 6 (.take 7 .done)))))))) wide (by decide +kernel) _ _ (.cons T0 (.cons T0 .nil)) ?_
    refine pT rfl (vFa fa30_0 rfl) rfl ?_
    refine pT rfl (vLd sc28 rfl (rB1 T0 (.z (.c .n)))) rfl ?_
    refine pT rfl (vMv rfl) rfl ?_
    refine pT rfl (vIxP sl28 rfl rfl hl (by first | omega | (simp only [Int.toNat_natCast, Int.reduceToNat, List.length_append, List.length_cons, List.length_nil, List.length_map, bid_len]; omega) | (simp <;> omega))) rfl ?_
    refine pT rfl (vFp fa131_0 rfl (rP hl (gm (by first | omega | (simp only [Int.toNat_natCast, Int.reduceToNat, List.length_append, List.length_cons, List.length_nil, List.length_map, bid_len]; omega) | (simp <;> omega))))) rfl ?_
    refine pT rfl (vLdA ag35 rfl (Rd.at (rP hl (gm (by first | omega | (simp only [Int.toNat_natCast, Int.reduceToNat, List.length_append, List.length_cons, List.length_nil, List.length_map, bid_len]; omega) | (simp <;> omega)))) (.z (.c .n))) (by simp)) rfl ?_
    refine pT rfl (vLdA ag35 rfl (rB T1 (.z (.c .n))) (by simp)) rfl ?_
    refine pT rfl (vEqA id35 rfl rfl) rfl ?_
    refine pDone ?_
    refine thN ?_
    refine cd rfl (fun hd => ?_) (fun hd => ?_) <;> try simp only [bls, beq_iff_eq, bne_iff_ne, Int.reduceToNat, List.length_map] at hd
    · skip
      refine sq ?_
      refine rg ?_
      refine q (vMv rfl) rfl ?_
      refine q (vAs rfl) rfl ?_
      refine nil ?_
      refine thN ?_
      refine rt ?_
      refine bkR ?_
      refine thR ?_
      refine thR ?_
      refine bkR ?_
      refine thR ?_
      have hd' : sumF (R.getD i default).t = x := by simpa using hd
      have e1 : atF (texts R) x = i := by
        have h5 := low_at hr (i := i) (by rw [List.length_map]; exact hi)
        have h6 := key_mem (A := texts R) (i := i) (by rw [List.length_map]; exact hi)
        rw [texts_get hi, hd'] at h5 h6
        rw [atF, if_pos h6, h5]
      refine retP rfl (.t rfl .nil) .nil ⟨by rw [e1]; rfl, rfl, rfl⟩
    · skip
      refine sk ?_
      refine bkN ?_
      refine thN ?_
      refine rg ?_
      refine q (vMv rfl) rfl ?_
      refine q (vAdd rfl rfl (by first | omega | (simp only [Int.toNat_natCast, Int.reduceToNat, List.length_append, List.length_cons, List.length_nil, List.length_map, bid_len]; omega) | (simp <;> omega))) rfl ?_
      refine q (vAs rfl) rfl ?_
      refine nil ?_
      refine thN ?_
      refine back (i + 1) (Le.refl _) ⟨⟨by omega, below_succ h2 (by simpa using hd)⟩, by omega⟩ (.cons rfl (by first | rfl | simp | (simp <;> omega)) (.cons rfl (by first | rfl | simp | (simp <;> omega)) (.cons rfl (by first | rfl | simp | (simp <;> omega)) .nil))) (.cons T0 (Ent.Le.of (by first | rfl | simp | (simp <;> omega))) (.cons T0 (Ent.Le.of (by first | rfl | simp | (simp <;> omega))) .nil))
  · skip
    refine xt ?_
    refine thX ?_
    refine thX ?_
    refine bkX ?_
    refine thN ?_
    refine sq ?_
    refine rg ?_
    refine q (vAs rfl) rfl ?_
    refine nil ?_
    refine thN ?_
    refine rt ?_
    have e1 : atF (texts R) x = -1 := by
      rw [atF, if_neg]
      intro hm
      obtain ⟨t, ht, rfl⟩ := List.mem_map.1 hm
      obtain ⟨y, hy, rfl⟩ := List.mem_map.1 ht
      obtain ⟨j, hj, rfl⟩ := List.getElem_of_mem hy
      have := h2 j (by omega)
      simp [List.getD, hj] at this
    refine retP rfl (.t rfl .nil) .nil ⟨by rw [e1]; rfl, rfl, rfl⟩
theorem Has_spec {v : Value} {R : List RIt} {S : Mem} (h : RS S v R) (hr : Rising (keys (texts R))) (x : BId) : PureL Tryz.prog 27 [ag [[v]], idv x] S [] (.bool (decide (x ∈ keys (texts R)))) := by
  have hsc := h.pl.sc
  refine enter Tryz.func27 rfl 9 rfl rfl (fun w0 => ?_)
  refine sq ?_
  refine rg ?_
  refine l rfl (box rfl rfl ?_)
  intro B2
  refine l rfl (box rfl rfl ?_)
  intro B3
  refine q (vAs rfl) rfl ?_
  refine nil ?_
  refine thN ?_
  refine sq ?_
  refine rg ?_
  refine q (vLdA ag30 rfl (rB T1 (.z (.c .n))) (by simp)) rfl ?_
  refine q (vLdA ag35 rfl (rB T0 (.z (.c .n))) (by simp)) rfl ?_
  refine l rfl (callP cf76 (At_spec h hr _) rfl .nil rfl ?_)
  refine q (vGe rfl rfl) rfl ?_
  refine q (vAs rfl) rfl ?_
  refine nil ?_
  refine thN ?_
  refine rt ?_
  have e1 : decide ((0 : Int) ≤ atF (texts R) x) = decide (x ∈ keys (texts R)) := by
    unfold atF; split
    · rename_i h2; exact (decide_eq_true (by omega)).trans (decide_eq_true h2).symm
    · rename_i h2; exact (decide_eq_false (by omega)).trans (decide_eq_false h2).symm
  refine retP rfl (.t rfl .nil) .nil ⟨by rw [e1]; rfl, rfl, rfl⟩
theorem ref_Kind_spec {v : Value} {R : List RIt} {S : Mem} (h : RS S v R) (hr : Rising (keys (texts R))) (x : BId) : PureL Tryz.prog 22 [ag [[v]], idv x] S [] (.int .i64 ((dO (getF (texts R) x)).kind : Nat)) := by
  have hz : dO [] = zobj := by
    have : dOk [] = false := by simp [dOk]
    simp [dO, this]
  have hl := h.pl
  have hsc := hl.sc
  have hlen := hl.mlen
  refine enter Tryz.func22 rfl 18 rfl rfl (fun w0 => ?_)
  refine sq ?_
  refine rg ?_
  refine l rfl (box rfl rfl ?_)
  intro B2
  refine l rfl (box rfl rfl ?_)
  intro B3
  refine q (vAs rfl) rfl ?_
  refine nil ?_
  refine thN ?_
  refine sq ?_
  refine rg ?_
  refine q (vLdA ag30 rfl (rB T1 (.z (.c .n))) (by simp)) rfl ?_
  refine q (vLdA ag35 rfl (rB T0 (.z (.c .n))) (by simp)) rfl ?_
  refine l rfl (callP cf76 (At_spec h hr _) rfl .nil rfl ?_)
  refine q (vAs rfl) rfl ?_
  refine nil ?_
  refine thN ?_
  refine sq ?_
  refine sq ?_
  refine rg ?_
  refine q (vMv rfl) rfl ?_
  refine q (vLt rfl rfl) rfl ?_
  refine nil ?_
  refine thN ?_
  refine cd rfl (fun hc => ?_) (fun hc => ?_) <;> try simp only [bls, beq_iff_eq, bne_iff_ne, Int.reduceToNat, List.length_map] at hc
  · skip
    refine sq ?_
    refine rg ?_
    refine q (vAs rfl) rfl ?_
    refine nil ?_
    refine thN ?_
    refine rt ?_
    refine thR ?_
    have e1 : x ∉ keys (texts R) := fun hm => by rw [atF, if_pos hm] at hc; omega
    refine retP rfl (.t rfl .nil) .nil ⟨by rw [getF, if_neg e1, hz]; rfl, rfl, rfl⟩
  · skip
    have hm : x ∈ keys (texts R) := by
      rcases Classical.em (x ∈ keys (texts R)) with hm | hm
      · exact hm
      · rw [atF, if_neg hm] at hc; omega
    have hlt := low_lt hr hm
    rw [List.length_map] at hlt
    have e1 : atF (texts R) x = (low x (keys (texts R)) : Nat) := by rw [atF, if_pos hm]
    rw [e1]
    refine sk ?_
    refine thN ?_
    refine sq ?_
    refine rg ?_
    refine q (vFa fa30_0 rfl) rfl ?_
    refine q (vLd sc28 rfl (rB1 T1 (.z (.c .n)))) rfl ?_
    refine q (vMv rfl) rfl ?_
    refine q (vIxP sl28 rfl rfl hl (by first | omega | (simp only [Int.toNat_natCast, Int.reduceToNat, List.length_append, List.length_cons, List.length_nil, List.length_map, bid_len]; omega) | (simp <;> omega))) rfl ?_
    refine q (vFp fa131_2 rfl (rP hl (gm (by first | omega | (simp only [Int.toNat_natCast, Int.reduceToNat, List.length_append, List.length_cons, List.length_nil, List.length_map, bid_len]; omega) | (simp <;> omega))))) rfl ?_
    refine q (vFp fa77_0 rfl (Rd.at (rP hl (gm (by first | omega | (simp only [Int.toNat_natCast, Int.reduceToNat, List.length_append, List.length_cons, List.length_nil, List.length_map, bid_len]; omega) | (simp <;> omega)))) (.n (n := 32) inferInstance (.s (.z (.c (.c (.c (.c (.c (.c (.c (.c (.c (.c .n))))))))))))))) rfl ?_
    refine q (vLd sc3 rfl (Rd.at1 (Rd.at (rP hl (gm (by first | omega | (simp only [Int.toNat_natCast, Int.reduceToNat, List.length_append, List.length_cons, List.length_nil, List.length_map, bid_len]; omega) | (simp <;> omega)))) (.n (n := 32) inferInstance (.s (.z (.c (.c (.c (.c (.c (.c (.c (.c (.c (.c .n)))))))))))))) (.z (.c .n)))) rfl ?_
    refine q (vAs rfl) rfl ?_
    refine nil ?_
    refine thN ?_
    refine rt ?_
    refine retP rfl (.t rfl .nil) .nil ⟨by rw [getF, if_pos hm, texts_get hlt]; rfl, rfl, rfl⟩
theorem ref_Object_spec {v : Value} {R : List RIt} {S : Mem} (h : RS S v R) (hr : Rising (keys (texts R))) (x : BId) :
    Spec Tryz.prog 39 [ag [[v]], idv x] S [] (fun S' r L' => ∃ ve vp, r = objv (dO (getF (texts R) x)) ve vp ∧ ObjIn S' (dO (getF (texts R) x)) ve vp ∧ L' = []) := by
  have hz : dO [] = zobj := by
    have : dOk [] = false := by simp [dOk]
    simp [dO, this]
  have hl := h.pl
  have hsc := hl.sc
  have hlen := hl.mlen
  refine enter Tryz.func39 rfl 18 rfl rfl (fun w0 => ?_)
  refine sq ?_
  refine rg ?_
  refine l rfl (box rfl rfl ?_)
  intro B2
  refine l rfl (box rfl rfl ?_)
  intro B3
  refine l rfl (alloc ze77 rfl ?_)
  intro B4
  refine nil ?_
  refine thN ?_
  refine sq ?_
  refine rg ?_
  refine q (vLdA ag30 rfl (rB T2 (.z (.c .n))) (by simp)) rfl ?_
  refine q (vLdA ag35 rfl (rB T1 (.z (.c .n))) (by simp)) rfl ?_
  refine l rfl (callP cf76 (At_spec h hr _) rfl .nil rfl ?_)
  refine q (vAs rfl) rfl ?_
  refine nil ?_
  refine thN ?_
  refine sq ?_
  refine sq ?_
  refine rg ?_
  refine q (vMv rfl) rfl ?_
  refine q (vLt rfl rfl) rfl ?_
  refine nil ?_
  refine thN ?_
  refine cd rfl (fun hc => ?_) (fun hc => ?_) <;> try simp only [bls, beq_iff_eq, bne_iff_ne, Int.reduceToNat, List.length_map] at hc
  · skip
    refine sq ?_
    refine rg ?_
    refine q (vBuild st77 .nil) rfl ?_
    refine l rfl (store sz77 rfl rfl T0 (by simp) (.z (.c inferInstance inferInstance (.c inferInstance inferInstance (.c inferInstance inferInstance (.c inferInstance inferInstance (.c inferInstance inferInstance (.c inferInstance inferInstance (.c inferInstance inferInstance (.c inferInstance inferInstance (.c inferInstance inferInstance (.c inferInstance inferInstance .n))))))))))) ?_)
    refine nil ?_
    refine thN ?_
    refine rt ?_
    refine thR ?_
    have e1 : x ∉ keys (texts R) := fun hm => by rw [atF, if_pos hm] at hc; omega
    have e2 : dO (getF (texts R) x) = zobj := by rw [getF, if_neg e1, hz]
    refine ret rfl (.c ag77 rfl (rB T0 (.z (.c (.c (.c (.c (.c (.c (.c (.c (.c (.c .n)))))))))))) (by simp) .nil) .nil ⟨.slice none 0 0, .slice none 0 0, by rw [e2]; rfl, by rw [e2]; exact ⟨PSl.nil, PSl.nil⟩, rfl⟩
  · skip
    have hm : x ∈ keys (texts R) := by
      rcases Classical.em (x ∈ keys (texts R)) with hm | hm
      · exact hm
      · rw [atF, if_neg hm] at hc; omega
    have hlt := low_lt hr hm
    rw [List.length_map] at hlt
    have e1 : atF (texts R) x = (low x (keys (texts R)) : Nat) := by rw [atF, if_pos hm]
    rw [e1]
    have hmem : R.getD (low x (keys (texts R))) default ∈ R := by
      have e : R.getD (low x (keys (texts R))) default = R[low x (keys (texts R))] := by rw [List.getD_eq_getElem?_getD, List.getElem?_eq_getElem hlt]; rfl
      rw [e]; exact List.getElem_mem hlt
    have hob := h.ob _ hmem
    have hs1 : Sc (R.getD ((low x (keys (texts R)) : Nat) : Int).toNat default).ve := hob.e.sc
    have hs2 : Sc (R.getD ((low x (keys (texts R)) : Nat) : Int).toNat default).vp := hob.p.sc
    refine sk ?_
    refine thN ?_
    refine sq ?_
    refine rg ?_
    refine q (vFa fa30_0 rfl) rfl ?_
    refine q (vLd sc28 rfl (rB1 T2 (.z (.c .n)))) rfl ?_
    refine q (vMv rfl) rfl ?_
    refine q (vIxP sl28 rfl rfl hl (by first | omega | (simp only [Int.toNat_natCast, Int.reduceToNat, List.length_append, List.length_cons, List.length_nil, List.length_map, bid_len]; omega) | (simp <;> omega))) rfl ?_
    refine q (vFp fa131_2 rfl (rP hl (gm (by first | omega | (simp only [Int.toNat_natCast, Int.reduceToNat, List.length_append, List.length_cons, List.length_nil, List.length_map, bid_len]; omega) | (simp <;> omega))))) rfl ?_
    refine q (vLdA ag77 rfl (Rd.at (rP hl (gm (by first | omega | (simp only [Int.toNat_natCast, Int.reduceToNat, List.length_append, List.length_cons, List.length_nil, List.length_map, bid_len]; omega) | (simp <;> omega)))) (.n (n := 32) inferInstance (.s (.z (.c (.c (.c (.c (.c (.c (.c (.c (.c (.c .n)))))))))))))) (by simp)) rfl ?_
    refine l rfl (store sz77 rfl rfl T0 (by simp) (.z (.c inferInstance inferInstance (.c inferInstance inferInstance (.c inferInstance inferInstance (.c inferInstance inferInstance (.c inferInstance inferInstance (.c inferInstance inferInstance (.c inferInstance inferInstance (.c inferInstance inferInstance (.c inferInstance inferInstance (.c inferInstance inferInstance .n))))))))))) ?_)
    refine nil ?_
    refine thN ?_
    refine rt ?_
    have e2 : getF (texts R) x = (R.getD (low x (keys (texts R))) default).t := by rw [getF, if_pos hm, texts_get hlt]
    refine ret rfl (.c ag77 rfl (rB T0 (.z (.c (.c (.c (.c (.c (.c (.c (.c (.c (.c .n)))))))))))) (by simp) .nil) .nil ⟨_, _, by rw [e2]; rfl, by rw [e2]; exact hob, rfl⟩
end Go.Proofs.YtjmigoikklkfdaaGreatDoor
namespace Go.Proofs.YtjmigoikklkfdaaGreatDoor
open Go
set_option linter.unusedVariables false
set_option linter.unusedSimpArgs false
set_option maxRecDepth 4000
theorem ref_Decode_spec' (s : List UInt8) (hs : s.length < 1073741824) (S : Mem) :
    Spec Tryz.prog 63 [str s] S [] (fun S' v L' => ∃ ve vp, v = .tuple [objv (dO s) ve vp, .bool (dOk s)].toArray ∧ ObjIn S' (dO s) ve vp ∧ L' = []) := by
  obtain ⟨e1, e2⟩ := dec_same hs
  rw [e1, e2]
  exact ref_Decode_spec s hs S
def outR (R : List RIt) (y : RIt) (l i : Nat) : List RIt := if i ≤ l then R.take i else R.take l ++ [y] ++ (R.drop l).take (i - l)
theorem outR_lo {R : List RIt} {y : RIt} {l i : Nat} (h : i < l) (hi : i < R.length) : outR R y l (i + 1) = outR R y l i ++ [R.getD i default] := by
  rw [outR, outR, if_pos (by omega), if_pos (by omega), take_next R i hi]
theorem outR_at {R : List RIt} {y : RIt} {l : Nat} (hi : l < R.length) : outR R y l (l + 1) = outR R y l l ++ [y] ++ [R.getD l default] := by
  rw [outR, outR, if_neg (by omega), if_pos (by omega), show l + 1 - l = 0 + 1 by omega, take_next _ 0 (by rw [List.length_drop]; omega)]
  simp
theorem outR_hi {R : List RIt} {y : RIt} {l i : Nat} (h : l < i) (hi : i < R.length) : outR R y l (i + 1) = outR R y l i ++ [R.getD i default] := by
  rw [outR, outR, if_neg (by omega), if_neg (by omega), show i + 1 - l = (i - l) + 1 by omega, take_next _ (i - l) (by rw [List.length_drop]; omega)]
  have e : (R.drop l).getD (i - l) default = R.getD i default := by
    simp only [List.getD_eq_getElem?_getD, List.getElem?_drop]
    congr 2; omega
  rw [e, List.append_assoc _ _ [R.getD i default]]
theorem outR_len {R : List RIt} {y : RIt} {l i : Nat} (hl : l ≤ R.length) (hi : i ≤ R.length) : (outR R y l i).length ≤ i + 1 := by
  unfold outR; split
  · rw [List.length_take]; omega
  · simp only [List.length_append, List.length_take, List.length_drop, List.length_cons, List.length_nil]; omega
theorem idLt_low {R : List RIt} {x : BId} (hr : Rising (keys (texts R))) (hx : x ∉ keys (texts R)) {i : Nat} (hi : i < R.length) : idLt x (sumF (R.getD i default).t) = decide (low x (keys (texts R)) ≤ i) := by
  have hp : ((keys (texts R)).map idN).Pairwise (· < ·) := List.pairwise_map.2 hr
  have hk : ((keys (texts R)).map idN).getD i 0 = idN (sumF (R.getD i default).t) := by simp [List.getD, hi]
  unfold idLt
  rw [Bool.eq_iff_iff, decide_eq_true_eq, decide_eq_true_eq]
  constructor
  · intro h
    rcases Nat.lt_or_ge i (low x (keys (texts R))) with h2 | h2
    · have := lowN_lt (idN x) ((keys (texts R)).map idN) i h2
      rw [hk] at this; omega
    · exact h2
  · intro h
    have h3 := lowN_ge (idN x) ((keys (texts R)).map idN) i hp h (by rw [List.length_map, List.length_map, List.length_map]; exact hi)
    rw [hk] at h3
    have hm : sumF (R.getD i default).t ∈ keys (texts R) := by
      have := key_mem (A := texts R) (i := i) (by rw [List.length_map]; exact hi)
      rwa [texts_get hi] at this
    have : idN x ≠ idN (sumF (R.getD i default).t) := fun h4 => hx (by rw [idN_inj h4]; exact hm)
    omega
theorem With_spec {v : Value} {R : List RIt} {S : Mem} (h : RS S v R) (hr : Rising (keys (texts R))) (hlen : R.length < 1000000) (t : List UInt8) (ht : t.length < 1073741824) :
    Spec Tryz.prog 78 [ag [[v]], str t] S [] (fun S' r L' => ∃ v' R', r = .tuple [ag [[v']], idv (if dOk t = true then sumF t else zid), .bool (dOk t)].toArray ∧ RS S' v' R' ∧ texts R' = putF (texts R) t ∧ L' = []) := by
  have hl := h.pl
  have hsc := hl.sc
  refine enter Tryz.func78 rfl 78 rfl rfl (fun w0 => ?_)
  refine sq ?_
  refine rg ?_
  refine l rfl (box rfl rfl ?_)
  intro B2
  refine l rfl (alloc ze30 rfl ?_)
  intro B4
  refine l rfl (alloc ze35 rfl ?_)
  intro B5
  refine q (vAs rfl) rfl ?_
  refine nil ?_
  refine thN ?_
  refine sq ?_
  refine rg ?_
  refine q (vMv rfl) rfl ?_
  refine l rfl (call cf63 (ref_Decode_spec' _ ht _) rfl .nil rfl ?_)
  intro S1 r1 l1 hS1 hp1
  obtain ⟨ve, vp, rfl, hi, rfl⟩ := hp1
  replace hl := hl.mono hS1
  replace h := h.mono hS1
  have he := hi.e
  have hp := hi.p
  have hs0 := he.sc
  have hs1 := hp.sc
  refine q (vMv rfl) rfl ?_
  refine q (vEx rfl rfl) rfl ?_
  refine q (vEx rfl rfl) rfl ?_
  refine l rfl (alloc ze77 rfl ?_)
  intro B7
  refine l rfl (store sz77 rfl rfl T0 (by simp) (.z (.c inferInstance inferInstance (.c inferInstance inferInstance (.c inferInstance inferInstance (.c inferInstance inferInstance (.c inferInstance inferInstance (.c inferInstance inferInstance (.c inferInstance inferInstance (.c inferInstance inferInstance (.c inferInstance inferInstance (.c inferInstance inferInstance .n))))))))))) ?_)
  refine q (vAs rfl) rfl ?_
  refine nil ?_
  refine thN ?_
  refine sq ?_
  refine sq ?_
  refine rg ?_
  refine q (vMv rfl) rfl ?_
  refine q (vNot rfl) rfl ?_
  refine nil ?_
  refine thN ?_
  refine cd rfl (fun hc => ?_) (fun hc => ?_) <;> try simp only [bls, beq_iff_eq, bne_iff_ne, Int.reduceToNat, List.length_map] at hc
  · skip
    refine sq ?_
    refine rg ?_
    refine q (vLdA ag30 rfl (rB T3 (.z (.c .n))) (by simp)) rfl ?_
    refine q (vBuildA0 ze35 ar35) rfl ?_
    refine l rfl (store sz30 rfl rfl T2 (by simp) (.z (.c inferInstance inferInstance .n)) ?_)
    refine l rfl (store sz35 rfl rfl T2 (by simp) (.z (.c inferInstance inferInstance .n)) ?_)
    refine q (vAs rfl) rfl ?_
    refine nil ?_
    refine thN ?_
    refine rt ?_
    refine thR ?_
    refine ret rfl (.c ag30 rfl (rB T1 (.z (.c .n))) (by simp) (.c ag35 rfl (rB T0 (.z (.c .n))) (by simp) (.t rfl .nil))) .nil ⟨v, R, by simp [pack, hc], h, by rw [putF, hc]; rfl, rfl⟩
  · skip
    refine sk ?_
    refine thN ?_
    refine sq ?_
    refine rg ?_
    refine q (vMv rfl) rfl ?_
    refine l rfl (callP cf62 (ref_Sum_spec _ (by first | omega | (simp only [Int.toNat_natCast, Int.reduceToNat, List.length_append, List.length_cons, List.length_nil, List.length_map, bid_len]; omega) | (simp <;> omega)) _) rfl .nil rfl ?_)
    refine l rfl (alloc ze35 rfl ?_)
    intro B9
    refine l rfl (store sz35 rfl rfl T0 (by simp) (.z (.c inferInstance inferInstance .n)) ?_)
    refine nil ?_
    refine thN ?_
    refine sq ?_
    refine sq ?_
    refine rg ?_
    refine q (vLdA ag30 rfl (rB T4 (.z (.c .n))) (by simp)) rfl ?_
    refine q (vLdA ag35 rfl (rB T0 (.z (.c .n))) (by simp)) rfl ?_
    refine l rfl (callP cf76 (At_spec h hr _) rfl .nil rfl ?_)
    refine q (vGe rfl rfl) rfl ?_
    refine nil ?_
    refine thN ?_
    refine cd rfl (fun hd => ?_) (fun hd => ?_) <;> try simp only [bls, beq_iff_eq, bne_iff_ne, Int.reduceToNat, List.length_map] at hd
    · skip
      have hm : sumF t ∈ keys (texts R) := by
        rcases Classical.em (sumF t ∈ keys (texts R)) with hm | hm
        · exact hm
        · rw [atF, if_neg hm] at hd; omega
      refine sq ?_
      refine dr (.take 0 (.take 1 (.one 2 (.one 3 (.take 4 .done))))) wide (by decide +kernel) _ _ (.cons T0 (.cons T0 (.cons T2 .nil))) ?_
      refine pT rfl (vLdA ag30 rfl (rB T2 (.z (.c .n))) (by simp)) rfl ?_
      refine pT rfl (vLdA ag35 rfl (rB T0 (.z (.c .n))) (by simp)) rfl ?_
      refine pO ?_
      refine opL rfl rfl (store sz30 rfl rfl T3 (by simp) (.z (.c inferInstance inferInstance .n)) ?_)
      refine pK (Le.refl _) (.cons T1 (.cons T1 (.cons T2 .nil))) ?_
      refine pO ?_
      refine opL rfl rfl (store sz35 rfl rfl T3 (by simp) (.z (.c inferInstance inferInstance .n)) ?_)
      refine pK (Le.refl _) (.cons T2 (.cons T2 (.cons T2 .nil))) ?_
      refine pT rfl (vAs rfl) rfl ?_
      refine pDone ?_
      refine thN ?_
      refine rt ?_
      refine thR ?_
      refine ret rfl (.c ag30 rfl (rB T1 (.z (.c .n))) (by simp) (.c ag35 rfl (rB T0 (.z (.c .n))) (by simp) (.t rfl .nil))) .nil ⟨v, R, by simp [pack, hc], h, by rw [putF, if_pos hc, if_pos hm], rfl⟩
    · skip
      have hm : sumF t ∉ keys (texts R) := fun hm => by rw [atF, if_pos hm] at hd; omega
      have hlow := low_le (sumF t) (texts R)
      rw [List.length_map] at hlow
      have hcmp := fun i (hi : i < R.length) => idLt_low hr hm hi
      generalize hL : low (sumF t) (keys (texts R)) = lw at hlow hcmp
      refine sk ?_
      refine thN ?_
      refine sq ?_
      refine rg ?_
      refine q (vAs rfl) rfl ?_
      refine nil ?_
      refine thN ?_
      refine sq ?_
      refine rg ?_
      refine q (vAs rfl) rfl ?_
      refine nil ?_
      refine thN ?_
      refine sq ?_
      refine sq ?_
      refine rg ?_
      refine q (vAs rfl) rfl ?_
      refine nil ?_
      refine thN ?_
      refine bk ?_
      refine nilsl 131 105 ?_
      refine loop (ι := Nat × Value) (fun (p : Nat × Value) => [(1, str t), (2, .pointer (some ⟨B2, 0, none⟩)), (4, .pointer (some ⟨B4, 0, none⟩)), (5, .pointer (some ⟨B5, 0, none⟩)), (7, .pointer (some ⟨B7, 0, none⟩)), (9, .pointer (some ⟨B9, 0, none⟩)), (10, p.2), (11, .bool (decide (lw < p.1))), (12, .int .i64 (p.1 : Int))]) (fun (p : Nat × Value) => [blk B2 30 [[v]], blk B4 30 [[.slice none 0 0]], blk B5 35 [encId zid], blk B7 77 (segsO (dO t) ve vp), blk B9 35 [encId (sumF t)], sl p.2 131 105 ((outR R ⟨t, ve, vp⟩ lw p.1).map encR)]) (fun (p : Nat × Value) => fun S' => p.1 ≤ R.length) (fun (p : Nat × Value) => R.length - p.1) (0, .slice none 0 0) (Nat.zero_le _) (.cons rfl (by first | rfl | simp | (simp <;> omega)) (.cons rfl (by first | rfl | simp | (simp <;> omega)) (.cons rfl (by first | rfl | simp | (simp <;> omega)) (.cons rfl (by first | rfl | simp | (simp <;> omega)) (.cons rfl (by first | rfl | simp | (simp <;> omega)) (.cons rfl (by first | rfl | simp | (simp <;> omega)) (.cons rfl (by first | rfl | simp | (simp <;> omega)) (.cons rfl (by first | rfl | simp | (simp <;> omega)) (.cons rfl (by first | rfl | simp | (simp <;> omega)) .nil))))))))) (.cons T5 (Ent.Le.of (by first | rfl | simp | (simp <;> omega))) (.cons T4 (Ent.Le.of (by first | rfl | simp | (simp <;> omega))) (.cons T3 (Ent.Le.of (by first | rfl | simp | (simp <;> omega))) (.cons T2 (Ent.Le.of (by first | rfl | simp | (simp <;> omega))) (.cons T1 (Ent.Le.of (by first | rfl | simp | (simp <;> omega))) (.cons T0 (Ent.Le.of (by first | rfl | simp | (simp <;> omega))) .nil)))))) ?_
      rintro ⟨i, vo⟩ S2 hle2 h1
      replace hl := hl.mono hle2
      replace h := h.mono hle2
      replace he := he.mono hle2
      replace hp := hp.mono hle2
      dsimp only at h1 ⊢
      refine sq ?_
      refine sq ?_
      refine rg ?_
      refine q (vMv rfl) rfl ?_
      refine q (vFa fa30_0 rfl) rfl ?_
      refine q (vLd sc28 rfl (rB1 T0 (.z (.c .n)))) rfl ?_
      refine q (SrcOk.len (srcP hl) Tryz.underlying28 rfl) rfl ?_
      refine q (vLt rfl rfl) rfl ?_
      refine nil ?_
      refine thN ?_
      refine cd rfl (fun he2 => ?_) (fun he2 => ?_) <;> try simp only [bls, beq_iff_eq, bne_iff_ne, Int.reduceToNat, List.length_map] at he2
      · skip
        have hi' : i < R.length := by omega
        have hob := h.ob _ (show R.getD i default ∈ R by rw [List.getD_eq_getElem?_getD, List.getElem?_eq_getElem hi']; exact List.getElem_mem hi')
        have hq1 : Sc (R.getD (i : Int).toNat default).ve := hob.e.sc
        have hq2 : Sc (R.getD (i : Int).toNat default).vp := hob.p.sc
        have hol := outR_len (y := ⟨t, ve, vp⟩) hlow h1
        have hcm := hcmp i hi'
        refine sk ?_
        refine thN ?_
        refine sq ?_
        refine bk ?_
        refine sq ?_
        refine dr (.take 0 (.take 1 (.take 2 (.take 3 (.take 4 (.take 5 (.take 6 (.one 7 (.take 8 .done))))))))) wide (by decide +kernel) _ _ (.cons T0 (.cons T0 (.cons T0 (.cons T0 (.cons T0 (.cons T0 .nil)))))) ?_
        refine pT rfl (vLdA ag35 rfl (rB T4 (.z (.c .n))) (by simp)) rfl ?_
        refine pT rfl (vFa fa30_0 rfl) rfl ?_
        refine pT rfl (vLd sc28 rfl (rB1 T0 (.z (.c .n)))) rfl ?_
        refine pT rfl (vMv rfl) rfl ?_
        refine pT rfl (vIxP sl28 rfl rfl hl (by first | omega | (simp only [Int.toNat_natCast, Int.reduceToNat, List.length_append, List.length_cons, List.length_nil, List.length_map, bid_len]; omega) | (simp <;> omega))) rfl ?_
        refine pT rfl (vFp fa131_0 rfl (rP hl (gm (by first | omega | (simp only [Int.toNat_natCast, Int.reduceToNat, List.length_append, List.length_cons, List.length_nil, List.length_map, bid_len]; omega) | (simp <;> omega))))) rfl ?_
        refine pT rfl (vLdA ag35 rfl (Rd.at (rP hl (gm (by first | omega | (simp only [Int.toNat_natCast, Int.reduceToNat, List.length_append, List.length_cons, List.length_nil, List.length_map, bid_len]; omega) | (simp <;> omega)))) (.z (.c .n))) (by simp)) rfl ?_
        refine pO ?_
        refine opL rfl rfl (callP cf68 (ref_Less_spec _ _ _) rfl .nil rfl ?_)
        refine pK (Le.refl _) (.cons T0 (.cons T0 (.cons T0 (.cons T0 (.cons T0 (.cons T0 .nil)))))) ?_
        refine pT rfl (vAs rfl) rfl ?_
        refine pDone ?_
        refine thN ?_
        refine sq ?_
        refine sq ?_
        refine rg ?_
        refine q (vMv rfl) rfl ?_
        refine q (vNot rfl) rfl ?_
        refine q (vMv rfl) rfl ?_
        apply gAnd 48 50 2
        · rfl
        · intro hb1 hX1
          have hc1 := hb1 ; try simp only [bls, beq_iff_eq, bne_iff_ne, Int.reduceToNat, List.length_map] at hc1
          refine qT ⟨_, rfl, rfl⟩ (vMv rfl) rfl ?_
          refine q (vPkT rfl rfl) rfl ?_
          exact gTT 2 48 rfl rfl rfl rfl hb1 hX1
        · intro hb1 hX1
          have hc1 := hb1 ; try simp only [bls, beq_iff_eq, bne_iff_ne, Int.reduceToNat, List.length_map] at hc1
          refine qF ⟨_, _, rfl, rfl, rfl⟩ rfl ?_
          refine q (vPkF rfl rfl) rfl ?_
          exact gTF 2 48 rfl rfl rfl rfl hb1 hX1
        refine nil ?_
        refine thN ?_
        refine cd rfl (fun hf => ?_) (fun hf => ?_) <;> try simp only [bls, beq_iff_eq, bne_iff_ne, Int.reduceToNat, List.length_map] at hf
        · skip
          have hil : i = lw := by
            have h3 := hf.2
            rw [hcm, decide_eq_true_eq] at h3
            omega
          subst hil
          refine sq ?_
          refine rg ?_
          refine q (vMv rfl) rfl ?_
          refine q (vLdA ag35 rfl (rB T4 (.z (.c .n))) (by simp)) rfl ?_
          refine q (vMv rfl) rfl ?_
          refine q (vLdA ag77 rfl (rB T3 (.z (.c (.c (.c (.c (.c (.c (.c (.c (.c (.c .n)))))))))))) (by simp)) rfl ?_
          refine q (vBuild st131 (.cons rfl rfl inferInstance (by simp) (.z (.c inferInstance inferInstance .n)) (.cons rfl rfl inferInstance (by simp) (.n (n := 32) inferInstance (.z (.c inferInstance inferInstance .n))) (.cons rfl rfl inferInstance (by simp) (.n (n := 32) inferInstance (.s (.z (.c inferInstance inferInstance (.c inferInstance inferInstance (.c inferInstance inferInstance (.c inferInstance inferInstance (.c inferInstance inferInstance (.c inferInstance inferInstance (.c inferInstance inferInstance (.c inferInstance inferInstance (.c inferInstance inferInstance (.c inferInstance inferInstance .n))))))))))))) .nil)))) rfl ?_
          refine l rfl (bslice sl28 ze131 (.cons rfl inferInstance .nil) (by simp) rfl rfl rfl rfl ?_)
          intro B56
          refine l rfl (app ap28 rfl rfl (.s T5) (srcO T0) (by first | omega | (simp only [Int.toNat_natCast, Int.reduceToNat, List.length_append, List.length_cons, List.length_nil, List.length_map, bid_len]; omega) | (simp <;> omega)) rfl ?_)
          intro v57 hv57
          refine q (vAs rfl) rfl ?_
          refine nil ?_
          refine thN ?_
          refine rg ?_
          refine q (vAs rfl) rfl ?_
          refine nil ?_
          refine thN ?_
          refine rg ?_
          refine q (vMv rfl) rfl ?_
          refine q (vFa fa30_0 rfl) rfl ?_
          refine q (vLd sc28 rfl (rB1 T2 (.z (.c .n)))) rfl ?_
          refine q (vMv rfl) rfl ?_
          refine q (vIxP sl28 rfl rfl hl (by first | omega | (simp only [Int.toNat_natCast, Int.reduceToNat, List.length_append, List.length_cons, List.length_nil, List.length_map, bid_len]; omega) | (simp <;> omega))) rfl ?_
          refine q (vLdA ag131 rfl (rP hl (gm (by first | omega | (simp only [Int.toNat_natCast, Int.reduceToNat, List.length_append, List.length_cons, List.length_nil, List.length_map, bid_len]; omega) | (simp <;> omega)))) (by simp)) rfl ?_
          refine l rfl (bslice sl28 ze131 (.cons rfl inferInstance .nil) (by simp) rfl rfl rfl rfl ?_)
          intro B64
          refine l rfl (app ap28 rfl rfl T1 (srcO T0) (by first | omega | (simp only [Int.toNat_natCast, Int.reduceToNat, List.length_append, List.length_cons, List.length_nil, List.length_map, bid_len]; omega) | (simp <;> omega)) rfl ?_)
          intro v65 hv65
          refine q (vAs rfl) rfl ?_
          refine nil ?_
          refine bkN ?_
          refine thN ?_
          refine rg ?_
          refine q (vMv rfl) rfl ?_
          refine q (vAdd rfl rfl (by first | omega | (simp only [Int.toNat_natCast, Int.reduceToNat, List.length_append, List.length_cons, List.length_nil, List.length_map, bid_len]; omega) | (simp <;> omega))) rfl ?_
          refine q (vAs rfl) rfl ?_
          refine nil ?_
          refine thN ?_
          have e1 := outR_at (y := ⟨t, ve, vp⟩) hi'
          refine back ((i + 1, v65)) (Le.refl _) ⟨by dsimp only; omega, by dsimp only; omega⟩ (.cons rfl (by first | rfl | (rw [e1]; simp; done) | (congr 1; exact (decide_eq_true (by omega)).symm)) (.cons rfl (by first | rfl | (rw [e1]; simp; done) | (congr 1; exact (decide_eq_true (by omega)).symm)) (.cons rfl (by first | rfl | (rw [e1]; simp; done) | (congr 1; exact (decide_eq_true (by omega)).symm)) (.cons rfl (by first | rfl | (rw [e1]; simp; done) | (congr 1; exact (decide_eq_true (by omega)).symm)) (.cons rfl (by first | rfl | (rw [e1]; simp; done) | (congr 1; exact (decide_eq_true (by omega)).symm)) (.cons rfl (by first | rfl | (rw [e1]; simp; done) | (congr 1; exact (decide_eq_true (by omega)).symm)) (.cons rfl (by first | rfl | (rw [e1]; simp; done) | (congr 1; exact (decide_eq_true (by omega)).symm)) (.cons rfl (by first | rfl | (rw [e1]; simp; done) | (congr 1; exact (decide_eq_true (by omega)).symm)) (.cons rfl (by first | rfl | (rw [e1]; simp; done) | (congr 1; exact (decide_eq_true (by omega)).symm)) .nil))))))))) (.cons T3 (Ent.Le.of (by first | rfl | (rw [e1]; simp; done) | (congr 1; exact (decide_eq_true (by omega)).symm))) (.cons T3 (Ent.Le.of (by first | rfl | (rw [e1]; simp; done) | (congr 1; exact (decide_eq_true (by omega)).symm))) (.cons T3 (Ent.Le.of (by first | rfl | (rw [e1]; simp; done) | (congr 1; exact (decide_eq_true (by omega)).symm))) (.cons T3 (Ent.Le.of (by first | rfl | (rw [e1]; simp; done) | (congr 1; exact (decide_eq_true (by omega)).symm))) (.cons T3 (Ent.Le.of (by first | rfl | (rw [e1]; simp; done) | (congr 1; exact (decide_eq_true (by omega)).symm))) (.cons T0 (Ent.Le.of (by first | rfl | (rw [e1]; simp; done) | (congr 1; exact (decide_eq_true (by omega)).symm))) .nil))))))
        · skip
          have hil : i ≠ lw := fun h => by
            subst h
            rw [hcm] at hf
            simp at hf
          refine sk ?_
          refine thN ?_
          refine rg ?_
          refine q (vMv rfl) rfl ?_
          refine q (vFa fa30_0 rfl) rfl ?_
          refine q (vLd sc28 rfl (rB1 T0 (.z (.c .n)))) rfl ?_
          refine q (vMv rfl) rfl ?_
          refine q (vIxP sl28 rfl rfl hl (by first | omega | (simp only [Int.toNat_natCast, Int.reduceToNat, List.length_append, List.length_cons, List.length_nil, List.length_map, bid_len]; omega) | (simp <;> omega))) rfl ?_
          refine q (vLdA ag131 rfl (rP hl (gm (by first | omega | (simp only [Int.toNat_natCast, Int.reduceToNat, List.length_append, List.length_cons, List.length_nil, List.length_map, bid_len]; omega) | (simp <;> omega)))) (by simp)) rfl ?_
          refine l rfl (bslice sl28 ze131 (.cons rfl inferInstance .nil) (by simp) rfl rfl rfl rfl ?_)
          intro B64
          refine l rfl (app ap28 rfl rfl (.s T5) (srcO T0) (by first | omega | (simp only [Int.toNat_natCast, Int.reduceToNat, List.length_append, List.length_cons, List.length_nil, List.length_map, bid_len]; omega) | (simp <;> omega)) rfl ?_)
          intro v65 hv65
          refine q (vAs rfl) rfl ?_
          refine nil ?_
          refine bkN ?_
          refine thN ?_
          refine rg ?_
          refine q (vMv rfl) rfl ?_
          refine q (vAdd rfl rfl (by first | omega | (simp only [Int.toNat_natCast, Int.reduceToNat, List.length_append, List.length_cons, List.length_nil, List.length_map, bid_len]; omega) | (simp <;> omega))) rfl ?_
          refine q (vAs rfl) rfl ?_
          refine nil ?_
          refine thN ?_
          have e1 : outR R ⟨t, ve, vp⟩ lw (i + 1) = outR R ⟨t, ve, vp⟩ lw i ++ [R.getD i default] := by
            rcases Nat.lt_or_ge i lw with h | h
            · exact outR_lo h hi'
            · exact outR_hi (by omega) hi'
          refine back ((i + 1, v65)) (Le.refl _) ⟨by dsimp only; omega, by dsimp only; omega⟩ (.cons rfl (by first | rfl | (rw [e1]; simp; done) | (congr 1; rw [decide_eq_decide]; omega)) (.cons rfl (by first | rfl | (rw [e1]; simp; done) | (congr 1; rw [decide_eq_decide]; omega)) (.cons rfl (by first | rfl | (rw [e1]; simp; done) | (congr 1; rw [decide_eq_decide]; omega)) (.cons rfl (by first | rfl | (rw [e1]; simp; done) | (congr 1; rw [decide_eq_decide]; omega)) (.cons rfl (by first | rfl | (rw [e1]; simp; done) | (congr 1; rw [decide_eq_decide]; omega)) (.cons rfl (by first | rfl | (rw [e1]; simp; done) | (congr 1; rw [decide_eq_decide]; omega)) (.cons rfl (by first | rfl | (rw [e1]; simp; done) | (congr 1; rw [decide_eq_decide]; omega)) (.cons rfl (by first | rfl | (rw [e1]; simp; done) | (congr 1; rw [decide_eq_decide]; omega)) (.cons rfl (by first | rfl | (rw [e1]; simp; done) | (congr 1; rw [decide_eq_decide]; omega)) .nil))))))))) (.cons T2 (Ent.Le.of (by first | rfl | (rw [e1]; simp; done) | (congr 1; rw [decide_eq_decide]; omega))) (.cons T2 (Ent.Le.of (by first | rfl | (rw [e1]; simp; done) | (congr 1; rw [decide_eq_decide]; omega))) (.cons T2 (Ent.Le.of (by first | rfl | (rw [e1]; simp; done) | (congr 1; rw [decide_eq_decide]; omega))) (.cons T2 (Ent.Le.of (by first | rfl | (rw [e1]; simp; done) | (congr 1; rw [decide_eq_decide]; omega))) (.cons T2 (Ent.Le.of (by first | rfl | (rw [e1]; simp; done) | (congr 1; rw [decide_eq_decide]; omega))) (.cons T0 (Ent.Le.of (by first | rfl | (rw [e1]; simp; done) | (congr 1; rw [decide_eq_decide]; omega))) .nil))))))
      · skip
        have hi' : i = R.length := by omega
        subst hi'
        have hol := outR_len (y := ⟨t, ve, vp⟩) hlow (Nat.le_refl _)
        have hR' : ∀ R', R' = R.take lw ++ [⟨t, ve, vp⟩] ++ R.drop lw → texts R' = putF (texts R) t := by
          rintro R' rfl
          rw [putF, if_pos hc, if_neg hm, hL]
          simp
        have hO' : ∀ R', R' = R.take lw ++ [⟨t, ve, vp⟩] ++ R.drop lw → ∀ S', Le S2 S' → ∀ x, x ∈ R' → ObjIn S' (dO x.t) x.ve x.vp := by
          rintro R' rfl S' hS x hx
          simp only [List.mem_append, List.mem_singleton] at hx
          rcases hx with (hx | rfl) | hx
          · exact (h.ob x (List.mem_of_mem_take hx)).mono hS
          · exact ⟨he.mono hS, hp.mono hS⟩
          · exact (h.ob x (List.mem_of_mem_drop hx)).mono hS
        refine xt ?_
        refine thX ?_
        refine thX ?_
        refine bkX ?_
        refine thN ?_
        refine sq ?_
        refine sq ?_
        refine rg ?_
        refine q (vMv rfl) rfl ?_
        refine q (vNot rfl) rfl ?_
        refine nil ?_
        refine thN ?_
        refine cd rfl (fun hg => ?_) (fun hg => ?_) <;> try simp only [bls, beq_iff_eq, bne_iff_ne, Int.reduceToNat, List.length_map] at hg
        · skip
          have hlR : lw = R.length := by omega
          refine rg ?_
          refine q (vMv rfl) rfl ?_
          refine q (vLdA ag35 rfl (rB T4 (.z (.c .n))) (by simp)) rfl ?_
          refine q (vMv rfl) rfl ?_
          refine q (vLdA ag77 rfl (rB T3 (.z (.c (.c (.c (.c (.c (.c (.c (.c (.c (.c .n)))))))))))) (by simp)) rfl ?_
          refine q (vBuild st131 (.cons rfl rfl inferInstance (by simp) (.z (.c inferInstance inferInstance .n)) (.cons rfl rfl inferInstance (by simp) (.n (n := 32) inferInstance (.z (.c inferInstance inferInstance .n))) (.cons rfl rfl inferInstance (by simp) (.n (n := 32) inferInstance (.s (.z (.c inferInstance inferInstance (.c inferInstance inferInstance (.c inferInstance inferInstance (.c inferInstance inferInstance (.c inferInstance inferInstance (.c inferInstance inferInstance (.c inferInstance inferInstance (.c inferInstance inferInstance (.c inferInstance inferInstance (.c inferInstance inferInstance .n))))))))))))) .nil)))) rfl ?_
          refine l rfl (bslice sl28 ze131 (.cons rfl inferInstance .nil) (by simp) rfl rfl rfl rfl ?_)
          intro B73
          refine l rfl (app ap28 rfl rfl (.s T5) (srcO T0) (by first | omega | (simp only [Int.toNat_natCast, Int.reduceToNat, List.length_append, List.length_cons, List.length_nil, List.length_map, bid_len]; omega) | (simp <;> omega)) rfl ?_)
          intro v74 hv74
          refine q (vAs rfl) rfl ?_
          refine nil ?_
          refine thN ?_
          refine sq ?_
          refine dr (.take 0 (.take 1 (.take 2 (.one 3 (.one 4 (.take 5 .done)))))) wide (by decide +kernel) _ _ (.cons T0 (.cons T0 (.cons T0 (.cons T2 (.cons T2 .nil))))) ?_
          refine pT rfl (vMv rfl) rfl ?_
          refine pT rfl (vBuild st30 (.cons rfl rfl inferInstance (by simp) (.z (.c inferInstance inferInstance .n)) .nil)) rfl ?_
          refine pT rfl (vLdA ag35 rfl (rB T4 (.z (.c .n))) (by simp)) rfl ?_
          refine pO ?_
          refine opL rfl rfl (store sz30 rfl rfl T3 (by simp) (.z (.c inferInstance inferInstance .n)) ?_)
          refine pK (Le.refl _) (.cons T1 (.cons T1 (.cons T1 (.cons T2 (.cons T2 .nil))))) ?_
          refine pO ?_
          refine opL rfl rfl (store sz35 rfl rfl T4 (by simp) (.z (.c inferInstance inferInstance .n)) ?_)
          refine pK (Le.refl _) (.cons T2 (.cons T2 (.cons T2 (.cons T2 (.cons T2 .nil))))) ?_
          refine pT rfl (vAs rfl) rfl ?_
          refine pDone ?_
          refine thN ?_
          refine rt ?_
          refine pub T2 (fun S2 hS2 hO => ?_)
          replace hl := hl.mono hS2
          replace h := h.mono hS2
          replace he := he.mono hS2
          replace hp := hp.mono hS2
          have e1 : outR R ⟨t, ve, vp⟩ lw R.length ++ [⟨t, ve, vp⟩] = R.take lw ++ [⟨t, ve, vp⟩] ++ R.drop lw := by
            rw [outR, if_pos (by omega), hlR, List.drop_length, List.append_nil]
          have e2 : (outR R ⟨t, ve, vp⟩ lw R.length).map encR ++ [encR (⟨t, ve, vp⟩ : RIt)] = (R.take lw ++ [(⟨t, ve, vp⟩ : RIt)] ++ R.drop lw).map encR := by rw [← e1]; simp
          refine ret rfl (.c ag30 rfl (rB T1 (.z (.c .n))) (by simp) (.c ag35 rfl (rB T0 (.z (.c .n))) (by simp) (.t rfl .nil))) .nil ⟨v74, R.take lw ++ [⟨t, ve, vp⟩] ++ R.drop lw, by simp [pack, hc], ⟨by rw [← e2]; exact hO, hO' _ rfl _ (by assumption)⟩, hR' _ rfl, rfl⟩
        · skip
          refine pub T5 (fun S3 hS3 hO => ?_)
          replace hl := hl.mono hS3
          replace h := h.mono hS3
          replace he := he.mono hS3
          replace hp := hp.mono hS3
          have hso := hO.sc
          have e1 : outR R ⟨t, ve, vp⟩ lw R.length = R.take lw ++ [⟨t, ve, vp⟩] ++ R.drop lw := by
            have e0 : (R.drop lw).take (R.length - lw) = R.drop lw := List.take_of_length_le (by rw [List.length_drop]; exact Nat.le_refl _)
            rw [outR, if_neg (by omega), e0]
          rw [e1] at hO
          refine sk ?_
          refine thN ?_
          refine sq ?_
          refine dr (.take 0 (.take 1 (.take 2 (.one 3 (.one 4 (.take 5 .done)))))) wide (by decide +kernel) _ _ (.cons T0 (.cons T2 (.cons T2 .nil))) ?_
          refine pT rfl (vMv rfl) rfl ?_
          refine pT rfl (vBuild st30 (.cons rfl rfl inferInstance (by simp) (.z (.c inferInstance inferInstance .n)) .nil)) rfl ?_
          refine pT rfl (vLdA ag35 rfl (rB T2 (.z (.c .n))) (by simp)) rfl ?_
          refine pO ?_
          refine opL rfl rfl (store sz30 rfl rfl T1 (by simp) (.z (.c inferInstance inferInstance .n)) ?_)
          refine pK (Le.refl _) (.cons T1 (.cons T2 (.cons T2 .nil))) ?_
          refine pO ?_
          refine opL rfl rfl (store sz35 rfl rfl T2 (by simp) (.z (.c inferInstance inferInstance .n)) ?_)
          refine pK (Le.refl _) (.cons T2 (.cons T2 (.cons T2 .nil))) ?_
          refine pT rfl (vAs rfl) rfl ?_
          refine pDone ?_
          refine thN ?_
          refine rt ?_
          refine ret rfl (.c ag30 rfl (rB T1 (.z (.c .n))) (by simp) (.c ag35 rfl (rB T0 (.z (.c .n))) (by simp) (.t rfl .nil))) .nil ⟨vo, R.take lw ++ [⟨t, ve, vp⟩] ++ R.drop lw, by simp [pack, hc], ⟨hO, hO' _ rfl _ (by assumption)⟩, hR' _ rfl, rfl⟩
end Go.Proofs.YtjmigoikklkfdaaGreatDoor
namespace Go.Proofs.YtjmigoikklkfdaaGreatDoor
open Go
set_option linter.unusedVariables false
set_option linter.unusedSimpArgs false
set_option maxRecDepth 4000
theorem ids_In_spec {v : Value} {ids : List BId} {S : Mem} (hl : PSl S v 32 (ids.map encId)) (x : BId) : PureL Tryz.prog 38 [v, idv x] S [] (.bool (decide (x ∈ ids))) := by
  have hlen := hl.mlen
  refine enter Tryz.func38 rfl 18 rfl rfl (fun w0 => ?_)
  refine sq ?_
  refine rg ?_
  refine l rfl (box rfl rfl ?_)
  intro B3
  refine q (vAs rfl) rfl ?_
  refine nil ?_
  refine thN ?_
  refine sq ?_
  refine sq ?_
  refine rg ?_
  refine q (vAs rfl) rfl ?_
  refine nil ?_
  refine thN ?_
  refine bk ?_
  refine loop (ι := Nat) (fun (i : Nat) => [(0, v), (3, .pointer (some ⟨B3, 0, none⟩)), (5, .int .i64 (i : Int))]) (fun (i : Nat) => [blk B3 35 [encId x]]) (fun (i : Nat) => fun S' => i ≤ ids.length ∧ ∀ j, j < i → ids.getD j default ≠ x) (fun (i : Nat) => ids.length - i) 0 ⟨Nat.zero_le _, fun j h => absurd h (Nat.not_lt_zero _)⟩ (.cons rfl (by first | rfl | simp | (simp <;> omega)) (.cons rfl (by first | rfl | simp | (simp <;> omega)) (.cons rfl (by first | rfl | simp | (simp <;> omega)) .nil))) (.cons T0 (Ent.Le.of (by first | rfl | simp | (simp <;> omega))) .nil) ?_
  rintro i S2 hle2 ⟨h1, h2⟩
  replace hl := hl.mono hle2
  refine sq ?_
  refine sq ?_
  refine rg ?_
  refine q (vMv rfl) rfl ?_
  refine q (vMv rfl) rfl ?_
  refine q (SrcOk.len (srcP hl) Tryz.underlying27 rfl) rfl ?_
  refine q (vLt rfl rfl) rfl ?_
  refine nil ?_
  refine thN ?_
  refine cd rfl (fun hc => ?_) (fun hc => ?_) <;> try simp only [bls, beq_iff_eq, bne_iff_ne, Int.reduceToNat, List.length_map] at hc
  · skip
    have hi : i < ids.length := by omega
    refine sk ?_
    refine thN ?_
    refine sq ?_
    refine bk ?_
    refine sq ?_
    refine dr (.take 0 (.take 1 (.take 2 (.take 3 (.take 4 (.take 5 .done)))))) wide (by decide +kernel) _ _ (.cons T0 .nil) ?_
    refine pT rfl (vMv rfl) rfl ?_
    refine pT rfl (vMv rfl) rfl ?_
    refine pT rfl (vIxP sl27 rfl rfl hl (by first | omega | (simp only [Int.toNat_natCast, Int.reduceToNat, List.length_append, List.length_cons, List.length_nil, List.length_map, bid_len]; omega) | (simp <;> omega))) rfl ?_
    refine pT rfl (vLdA ag35 rfl (Rd.f1 (rP hl (gm (by first | omega | (simp only [Int.toNat_natCast, Int.reduceToNat, List.length_append, List.length_cons, List.length_nil, List.length_map, bid_len]; omega) | (simp <;> omega))))) (by simp)) rfl ?_
    refine pT rfl (vLdA ag35 rfl (rB T0 (.z (.c .n))) (by simp)) rfl ?_
    refine pT rfl (vEqA id35 rfl rfl) rfl ?_
    refine pDone ?_
    refine thN ?_
    refine cd rfl (fun hd => ?_) (fun hd => ?_) <;> try simp only [bls, beq_iff_eq, bne_iff_ne, Int.reduceToNat, List.length_map] at hd
    · skip
      refine sq ?_
      refine rg ?_
      refine q (vAs rfl) rfl ?_
      refine nil ?_
      refine thN ?_
      refine rt ?_
      refine bkR ?_
      refine thR ?_
      refine thR ?_
      refine bkR ?_
      refine thR ?_
      have hm : x ∈ ids := by
        have hd' : ids.getD i default = x := by simpa using hd
        rw [← hd', List.getD_eq_getElem?_getD, List.getElem?_eq_getElem hi]; exact List.getElem_mem hi
      refine retP rfl (.t rfl .nil) .nil ⟨by rw [decide_eq_true hm]; rfl, rfl, rfl⟩
    · skip
      refine sk ?_
      refine bkN ?_
      refine thN ?_
      refine rg ?_
      refine q (vMv rfl) rfl ?_
      refine q (vAdd rfl rfl (by first | omega | (simp only [Int.toNat_natCast, Int.reduceToNat, List.length_append, List.length_cons, List.length_nil, List.length_map, bid_len]; omega) | (simp <;> omega))) rfl ?_
      refine q (vAs rfl) rfl ?_
      refine nil ?_
      refine thN ?_
      refine back (i + 1) (Le.refl _) ⟨⟨by omega, below_succ h2 (by simpa using hd)⟩, by omega⟩ (.cons rfl (by first | rfl | simp | (simp <;> omega)) (.cons rfl (by first | rfl | simp | (simp <;> omega)) (.cons rfl (by first | rfl | simp | (simp <;> omega)) .nil))) (.cons T0 (Ent.Le.of (by first | rfl | simp | (simp <;> omega))) .nil)
  · skip
    refine xt ?_
    refine thX ?_
    refine thX ?_
    refine bkX ?_
    refine thN ?_
    refine sq ?_
    refine rg ?_
    refine q (vAs rfl) rfl ?_
    refine nil ?_
    refine thN ?_
    refine rt ?_
    have hm : x ∉ ids := by
      intro hm
      obtain ⟨j, hj, rfl⟩ := List.getElem_of_mem hm
      exact h2 j (by omega) (by rw [List.getD_eq_getElem?_getD, List.getElem?_eq_getElem hj]; rfl)
    refine retP rfl (.t rfl .nil) .nil ⟨by rw [decide_eq_false hm]; rfl, rfl, rfl⟩
noncomputable def riseB (l : List BId) : Bool := @decide (Rising l) (Classical.propDecidable _)
theorem rising_iff {l : List BId} : Rising l ↔ ∀ i, i < l.length → 0 < i → idN (l.getD (i - 1) default) < idN (l.getD i default) := by
  constructor
  · intro h i hi h0
    have := List.pairwise_iff_getElem.1 h (i - 1) i (by omega) hi (by omega)
    rw [List.getD_eq_getElem?_getD, List.getD_eq_getElem?_getD, List.getElem?_eq_getElem hi, List.getElem?_eq_getElem (by omega : i - 1 < l.length)]
    exact this
  · intro h
    have key : ∀ n i, (hi : i + n < l.length) → 0 < n → idN (l.getD i default) < idN (l.getD (i + n) default) := by
      intro n
      induction n with
      | zero => intro i hi h0; omega
      | succ n ih =>
        intro i hi _
        have h1 := h (i + n + 1) (by omega) (by omega)
        rw [show i + n + 1 - 1 = i + n by omega] at h1
        rcases Nat.eq_zero_or_pos n with h2 | h2
        · subst h2; simpa using h1
        · have := ih i (by omega) h2
          rw [show i + (n + 1) = i + n + 1 by omega]; omega
    refine List.pairwise_iff_getElem.2 (fun i j hi hj hij => ?_)
    have := key (j - i) i (by omega) (by omega)
    rw [show i + (j - i) = j by omega, List.getD_eq_getElem?_getD, List.getD_eq_getElem?_getD, List.getElem?_eq_getElem hi, List.getElem?_eq_getElem hj] at this
    exact this
theorem Rise_spec {v : Value} {ids : List BId} {S : Mem} (hl : PSl S v 32 (ids.map encId)) : PureL Tryz.prog 37 [v] S [] (.bool (riseB ids)) := by
  have hlen := hl.mlen
  refine enter Tryz.func37 rfl 21 rfl rfl (fun w0 => ?_)
  refine sq ?_
  refine rg ?_
  refine q (vAs rfl) rfl ?_
  refine nil ?_
  refine thN ?_
  refine sq ?_
  refine sq ?_
  refine rg ?_
  refine q (vAs rfl) rfl ?_
  refine nil ?_
  refine thN ?_
  refine bk ?_
  refine loop (ι := Nat) (fun (i : Nat) => [(0, v), (3, .int .i64 ((i + 1 : Nat) : Int))]) (fun (i : Nat) => []) (fun (i : Nat) => fun S' => (i + 1 ≤ ids.length ∨ i = 0) ∧ ∀ j, j < i + 1 → 0 < j → idN (ids.getD (j - 1) default) < idN (ids.getD j default)) (fun (i : Nat) => ids.length - i) 0 ⟨.inr rfl, fun j h h0 => by omega⟩ (.cons rfl (by first | rfl | simp | (simp <;> omega)) (.cons rfl (by first | rfl | simp | (simp <;> omega)) .nil)) .nil ?_
  rintro i S2 hle2 ⟨h1, h2⟩
  replace hl := hl.mono hle2
  refine sq ?_
  refine sq ?_
  refine rg ?_
  refine q (vMv rfl) rfl ?_
  refine q (vMv rfl) rfl ?_
  refine q (SrcOk.len (srcP hl) Tryz.underlying27 rfl) rfl ?_
  refine q (vLt rfl rfl) rfl ?_
  refine nil ?_
  refine thN ?_
  refine cd rfl (fun hc => ?_) (fun hc => ?_) <;> try simp only [bls, beq_iff_eq, bne_iff_ne, Int.reduceToNat, List.length_map] at hc
  · skip
    have hi : i + 1 < ids.length := by omega
    have n1 : (((i + 1 : Nat) : Int) - 1).toNat = i := by omega
    refine sk ?_
    refine thN ?_
    refine sq ?_
    refine bk ?_
    refine sq ?_
    refine dr (.take 0 (.take 1 (.take 2 (.take 3 (.take 4 (.take 5 (.take 6 (.take 7 (.take 8 (.one 9 (.take 10 .done))))))))))) wide (by decide +kernel) _ _ .nil ?_
    refine pT rfl (vMv rfl) rfl ?_
    refine pT rfl (vMv rfl) rfl ?_
    refine pT rfl (vSub rfl rfl (by first | omega | (simp only [Int.toNat_natCast, Int.reduceToNat, List.length_append, List.length_cons, List.length_nil, List.length_map, bid_len]; omega) | (simp <;> omega))) rfl ?_
    refine pT rfl (vIxP sl27 rfl rfl hl (by first | omega | (simp only [Int.toNat_natCast, Int.reduceToNat, List.length_append, List.length_cons, List.length_nil, List.length_map, bid_len]; omega) | (simp <;> omega))) rfl ?_
    refine pT rfl (vLdA ag35 rfl (Rd.f1 (rP hl (gm (by first | omega | (simp only [Int.toNat_natCast, Int.reduceToNat, List.length_append, List.length_cons, List.length_nil, List.length_map, bid_len]; omega) | (simp <;> omega))))) (by simp)) rfl ?_
    refine pT rfl (vMv rfl) rfl ?_
    refine pT rfl (vMv rfl) rfl ?_
    refine pT rfl (vIxP sl27 rfl rfl hl (by first | omega | (simp only [Int.toNat_natCast, Int.reduceToNat, List.length_append, List.length_cons, List.length_nil, List.length_map, bid_len]; omega) | (simp <;> omega))) rfl ?_
    refine pT rfl (vLdA ag35 rfl (Rd.f1 (rP hl (gm (by first | omega | (simp only [Int.toNat_natCast, Int.reduceToNat, List.length_append, List.length_cons, List.length_nil, List.length_map, bid_len]; omega) | (simp <;> omega))))) (by simp)) rfl ?_
    refine pO ?_
    refine opL rfl rfl (callP cf68 (ref_Less_spec _ _ _) rfl .nil rfl ?_)
    refine pK (Le.refl _) .nil ?_
    refine pT rfl (vNot rfl) rfl ?_
    refine pDone ?_
    refine thN ?_
    refine cd rfl (fun hd => ?_) (fun hd => ?_) <;> try simp only [bls, beq_iff_eq, bne_iff_ne, Int.reduceToNat, List.length_map] at hd
    · skip
      refine sq ?_
      refine rg ?_
      refine q (vAs rfl) rfl ?_
      refine nil ?_
      refine thN ?_
      refine rt ?_
      refine bkR ?_
      refine thR ?_
      refine thR ?_
      refine bkR ?_
      refine thR ?_
      have hm : ¬ Rising ids := by
        intro hr
        have := rising_iff.1 hr (i + 1) hi (by omega)
        simp only [n1, Int.toNat_natCast, idLt, decide_eq_false_iff_not] at hd
        exact hd this
      refine retP rfl (.t rfl .nil) .nil ⟨by simp [pack, riseB, hm], rfl, rfl⟩
    · skip
      refine sk ?_
      refine bkN ?_
      refine thN ?_
      refine rg ?_
      refine q (vMv rfl) rfl ?_
      refine q (vAdd rfl rfl (by first | omega | (simp only [Int.toNat_natCast, Int.reduceToNat, List.length_append, List.length_cons, List.length_nil, List.length_map, bid_len]; omega) | (simp <;> omega))) rfl ?_
      refine q (vAs rfl) rfl ?_
      refine nil ?_
      refine thN ?_
      have h3 : idN (ids.getD i default) < idN (ids.getD (i + 1) default) := by
        simp only [n1, Int.toNat_natCast, idLt, decide_eq_true_eq] at hd
        exact hd
      refine back (i + 1) (Le.refl _) ⟨⟨.inl (by omega), fun j hj h0 => ?_⟩, by omega⟩ (.cons rfl (by first | rfl | simp | (simp <;> omega)) (.cons rfl (by first | rfl | simp | (simp <;> omega)) .nil)) .nil
      rcases Nat.lt_or_ge j (i + 1) with h | h
      · exact h2 j h h0
      · obtain rfl : j = i + 1 := by omega
        exact h3
  · skip
    refine xt ?_
    refine thX ?_
    refine thX ?_
    refine bkX ?_
    refine thN ?_
    refine sq ?_
    refine rg ?_
    refine q (vAs rfl) rfl ?_
    refine nil ?_
    refine thN ?_
    refine rt ?_
    have hm : Rising ids := rising_iff.2 (fun j hj h0 => h2 j (by omega) h0)
    refine retP rfl (.t rfl .nil) .nil ⟨by simp [pack, riseB, hm], rfl, rfl⟩
theorem Less_spec (a b : BId) (S : Mem) : PureL Tryz.prog 119 [idv a, idv b] S [] (.bool (idLt a b)) := by
  refine enter Tryz.func119 rfl 10 rfl rfl (fun w0 => ?_)
  refine sq ?_
  refine rg ?_
  refine l rfl (box rfl rfl ?_)
  intro B2
  refine l rfl (box rfl rfl ?_)
  intro B3
  refine q (vAs rfl) rfl ?_
  refine nil ?_
  refine thN ?_
  refine sq ?_
  refine dr (.take 0 (.take 1 (.take 2 (.take 3 (.take 4 (.take 5 .done)))))) wide (by decide +kernel) _ _ (.cons T0 (.cons T0 .nil)) ?_
  refine pT rfl (vSlA ar35 rfl ) rfl ?_
  refine pT rfl (vToStr Tryz.underlying23 Tryz.underlying5 Tryz.underlying9 rfl (srcRd (rB1 T1 (.z (.c .n))) (by first | exact bid_len _ | simp)) .b) rfl ?_
  refine pT rfl (vSlA ar35 rfl ) rfl ?_
  refine pT rfl (vToStr Tryz.underlying23 Tryz.underlying5 Tryz.underlying9 rfl (srcRd (rB1 T0 (.z (.c .n))) (by first | exact bid_len _ | simp)) .b) rfl ?_
  refine pT rfl (vLtS rfl rfl) rfl ?_
  refine pT rfl (vAs rfl) rfl ?_
  refine pDone ?_
  refine thN ?_
  refine rt ?_
  refine retP rfl (.t rfl .nil) .nil ⟨by rw [bytesLess_id]; rfl, rfl, rfl⟩
abbrev encL (x : BId × Nat) : List Value := [encId x.1, [.int .i64 (x.2 : Int)]].flatten
instance : Inhabited (BId × Nat) := ⟨(zid, 0)⟩
def lk2 (o : DObj) : List (BId × Nat) := if o.kind = 2 then o.entries.map (fun e => (e.id, e.kind)) else []
def lk3 (o : DObj) : List (BId × Nat) := if o.kind = 3 then (o.tree, 2) :: o.parents.map (fun p => (p, 3)) else []
def lk4 (o : DObj) : List (BId × Nat) := if o.kind = 4 then [(o.target, o.of)] else []
def linksF (o : DObj) : List (BId × Nat) := lk2 o ++ lk3 o ++ lk4 o
theorem lk2_next (o : DObj) (h : o.kind = 2) (i : Nat) (hi : i < o.entries.length) : (lk2 o).take (i + 1) = (lk2 o).take i ++ [((o.entries.getD i default).id, (o.entries.getD i default).kind)] := by
  rw [lk2, if_pos h, take_next _ i (by rw [List.length_map]; exact hi)]
  congr 2
  simp [List.getD, hi]
theorem lk3_next (o : DObj) (h : o.kind = 3) (i : Nat) (hi : i < o.parents.length) : (lk3 o).take (i + 2) = (lk3 o).take (i + 1) ++ [(o.parents.getD i default, 3)] := by
  rw [lk3, if_pos h, take_next _ (i + 1) (by rw [List.length_cons, List.length_map]; omega)]
  congr 2
  simp [List.getD, hi]
theorem ref_Links_spec {o : DObj} {ve vp : Value} {S : Mem} (hz : Small o) (hi : ObjIn S o ve vp) :
    Spec Tryz.prog 154 [objv o ve vp] S [] (fun S' r L' => PSl S' r 33 ((linksF o).map encL) ∧ L' = []) := by
  have he := hi.e
  have hp := hi.p
  have hs0 := he.sc
  have hs1 := hp.sc
  obtain ⟨z1, z2, z3, z4, z5, z6⟩ := hz
  refine enter Tryz.func154 rfl 69 rfl rfl (fun w0 => ?_)
  refine sq ?_
  refine rg ?_
  refine l rfl (box rfl rfl ?_)
  intro B1
  refine q (vAs rfl) rfl ?_
  refine nil ?_
  refine thN ?_
  refine sq ?_
  refine rg ?_
  refine q (vAs rfl) rfl ?_
  refine nil ?_
  refine thN ?_
  refine nilsl 151 33 ?_
  refine join (ι := Value) (fun (w : Value) => [(1, .pointer (some ⟨B1, 0, none⟩)), (3, w)]) (fun (w : Value) => [blk B1 77 (segsO o ve vp), sl w 151 33 ((lk2 o).map encL)]) (fun (w : Value) => fun S' => True) ?_ ?_
  · skip
    refine sq ?_
    refine rg ?_
    refine q (vFa fa77_0 rfl) rfl ?_
    refine q (vLd sc3 rfl (rB1 T1 (.z (.c .n)))) rfl ?_
    refine q (vEq rfl rfl) rfl ?_
    refine nil ?_
    refine thN ?_
    refine cd rfl (fun hc => ?_) (fun hc => ?_) <;> try simp only [bls, beq_iff_eq, bne_iff_ne, Int.reduceToNat, List.length_map] at hc
    · skip
      have hk : o.kind = 2 := by omega
      have h2l : (lk2 o).length = o.entries.length := by rw [lk2, if_pos hk, List.length_map]
      refine sq ?_
      refine rg ?_
      refine q (vAs rfl) rfl ?_
      refine nil ?_
      refine thN ?_
      refine bk ?_
      refine loop (ι := Nat × Value) (fun (p : Nat × Value) => [(1, .pointer (some ⟨B1, 0, none⟩)), (3, p.2), (4, .int .i64 (p.1 : Int))]) (fun (p : Nat × Value) => [blk B1 77 (segsO o ve vp), sl p.2 151 33 (((lk2 o).take p.1).map encL)]) (fun (p : Nat × Value) => fun S' => p.1 ≤ o.entries.length) (fun (p : Nat × Value) => o.entries.length - p.1) (0, .slice none 0 0) (Nat.zero_le _) (.cons rfl (by first | rfl | simp | (simp <;> omega)) (.cons rfl (by first | rfl | simp | (simp <;> omega)) (.cons rfl (by first | rfl | simp | (simp <;> omega)) .nil))) (.cons T1 (Ent.Le.of (by first | rfl | simp | (simp <;> omega))) (.cons T0 (Ent.Le.of (by first | rfl | simp | (simp <;> omega))) .nil)) ?_
      rintro ⟨i, w3⟩ S3 hle3 h1
      replace he := he.mono hle3
      replace hp := hp.mono hle3
      dsimp only at h1 ⊢
      have htl : (((lk2 o).take i).map encL).length = i := by rw [List.length_map, List.length_take, h2l]; omega
      refine sq ?_
      refine sq ?_
      refine rg ?_
      refine q (vMv rfl) rfl ?_
      refine q (vFa fa77_2 rfl) rfl ?_
      refine q (vLd sc74 rfl (rB1 T0 (.s (.s (.z (.c .n)))))) rfl ?_
      refine q (SrcOk.len (srcP he) Tryz.underlying74 rfl) rfl ?_
      refine q (vLt rfl rfl) rfl ?_
      refine nil ?_
      refine thN ?_
      refine cd rfl (fun hd => ?_) (fun hd => ?_) <;> try simp only [bls, beq_iff_eq, bne_iff_ne, Int.reduceToNat, List.length_map] at hd
      · skip
        have e1 := lk2_next o hk i (by omega)
        refine sk ?_
        refine thN ?_
        refine sq ?_
        refine bk ?_
        refine dr (.take 0 (.take 1 (.take 2 (.take 3 (.take 4 (.take 5 (.take 6 (.take 7 (.take 8 (.take 9 (.take 10 (.take 11 (.take 12 (.take 13 (.one 14 (.one 15 (.take 16 .done))))))))))))))))) wide (by decide +kernel) _ _ (.cons T0 .nil) ?_
        refine pT rfl (vMv rfl) rfl ?_
        refine pT rfl (vFa fa77_2 rfl) rfl ?_
        refine pT rfl (vLd sc74 rfl (rB1 T0 (.s (.s (.z (.c .n)))))) rfl ?_
        refine pT rfl (vMv rfl) rfl ?_
        refine pT rfl (vIxP sl74 rfl rfl he (by first | omega | (simp only [Int.toNat_natCast, Int.reduceToNat, List.length_append, List.length_cons, List.length_nil, List.length_map, bid_len]; omega) | (simp <;> omega))) rfl ?_
        refine pT rfl (vFp fa247_2 rfl (rP he (gm (by first | omega | (simp only [Int.toNat_natCast, Int.reduceToNat, List.length_append, List.length_cons, List.length_nil, List.length_map, bid_len]; omega) | (simp <;> omega))))) rfl ?_
        refine pT rfl (vLdA ag35 rfl (Rd.at (rP he (gm (by first | omega | (simp only [Int.toNat_natCast, Int.reduceToNat, List.length_append, List.length_cons, List.length_nil, List.length_map, bid_len]; omega) | (simp <;> omega)))) (.s (.s (.z (.c .n))))) (by simp)) rfl ?_
        refine pT rfl (vFa fa77_2 rfl) rfl ?_
        refine pT rfl (vLd sc74 rfl (rB1 T0 (.s (.s (.z (.c .n)))))) rfl ?_
        refine pT rfl (vMv rfl) rfl ?_
        refine pT rfl (vIxP sl74 rfl rfl he (by first | omega | (simp only [Int.toNat_natCast, Int.reduceToNat, List.length_append, List.length_cons, List.length_nil, List.length_map, bid_len]; omega) | (simp <;> omega))) rfl ?_
        refine pT rfl (vFp fa247_1 rfl (rP he (gm (by first | omega | (simp only [Int.toNat_natCast, Int.reduceToNat, List.length_append, List.length_cons, List.length_nil, List.length_map, bid_len]; omega) | (simp <;> omega))))) rfl ?_
        refine pT rfl (vLd sc3 rfl (Rd.at1 (rP he (gm (by first | omega | (simp only [Int.toNat_natCast, Int.reduceToNat, List.length_append, List.length_cons, List.length_nil, List.length_map, bid_len]; omega) | (simp <;> omega)))) (.s (.z (.c .n))))) rfl ?_
        refine pT rfl (vBuild st151 (.cons rfl rfl inferInstance (by simp) (.z (.c inferInstance inferInstance .n)) (.cons rfl rfl inferInstance (by simp) (.n (n := 32) inferInstance (.z (.c inferInstance inferInstance .n))) .nil))) rfl ?_
        refine pO ?_
        refine opL rfl rfl (bslice sl148 ze151 (.cons rfl inferInstance .nil) (by simp) rfl rfl rfl rfl ?_)
        intro B30
        refine pK (Le.refl _) (.cons T1 .nil) ?_
        refine pO ?_
        refine opL rfl rfl (app ap148 rfl rfl T2 (srcO T0) (by first | omega | (simp only [Int.toNat_natCast, Int.reduceToNat, List.length_append, List.length_cons, List.length_nil, List.length_map, bid_len]; omega) | (simp <;> omega)) rfl ?_)
        intro v31 hv31
        refine pK (Le.refl _) (.cons T2 .nil) ?_
        refine pT rfl (vAs rfl) rfl ?_
        refine pDone ?_
        refine bkN ?_
        refine thN ?_
        refine rg ?_
        refine q (vMv rfl) rfl ?_
        refine q (vAdd rfl rfl (by first | omega | (simp only [Int.toNat_natCast, Int.reduceToNat, List.length_append, List.length_cons, List.length_nil, List.length_map, bid_len]; omega) | (simp <;> omega))) rfl ?_
        refine q (vAs rfl) rfl ?_
        refine nil ?_
        refine thN ?_
        refine back ((i + 1, v31)) (Le.refl _) ⟨by dsimp only; omega, by dsimp only; omega⟩ (.cons rfl (by first | rfl | (simp only [e1, List.map_append, List.map_cons, List.map_nil, Int.toNat_natCast]; done) | (simp only [e1, List.map_append, List.map_cons, List.map_nil, Int.toNat_natCast]; rfl)) (.cons rfl (by first | rfl | (simp only [e1, List.map_append, List.map_cons, List.map_nil, Int.toNat_natCast]; done) | (simp only [e1, List.map_append, List.map_cons, List.map_nil, Int.toNat_natCast]; rfl)) (.cons rfl (by first | rfl | (simp only [e1, List.map_append, List.map_cons, List.map_nil, Int.toNat_natCast]; done) | (simp only [e1, List.map_append, List.map_cons, List.map_nil, Int.toNat_natCast]; rfl)) .nil))) (.cons T2 (Ent.Le.of (by first | rfl | (simp only [e1, List.map_append, List.map_cons, List.map_nil, Int.toNat_natCast]; done) | (simp only [e1, List.map_append, List.map_cons, List.map_nil, Int.toNat_natCast]; rfl))) (.cons T0 (Ent.Le.of (by first | rfl | (simp only [e1, List.map_append, List.map_cons, List.map_nil, Int.toNat_natCast]; done) | (simp only [e1, List.map_append, List.map_cons, List.map_nil, Int.toNat_natCast]; rfl))) .nil))
      · skip
        have e1 : (lk2 o).take i = lk2 o := List.take_of_length_le (by rw [h2l]; omega)
        rw [e1]
        refine xt ?_
        refine thX ?_
        refine thX ?_
        refine bkX ?_
        refine thN ?_
        refine back (w3) hle3 trivial (.cons rfl (by first | rfl | simp | (simp <;> omega)) (.cons rfl (by first | rfl | simp | (simp <;> omega)) .nil)) (.cons T0 (Ent.Le.of (by first | rfl | simp | (simp <;> omega))) (.cons T0 (Ent.Le.of (by first | rfl | simp | (simp <;> omega))) .nil))
    · skip
      have e1 : lk2 o = [] := by rw [lk2, if_neg (by omega)]
      rw [e1]
      refine sk ?_
      refine thN ?_
      refine back (.slice none 0 0) (Le.refl _) trivial (.cons rfl (by first | rfl | simp | (simp <;> omega)) (.cons rfl (by first | rfl | simp | (simp <;> omega)) .nil)) (.cons T1 (Ent.Le.of (by first | rfl | simp | (simp <;> omega))) (.cons T0 (Ent.Le.of (by first | rfl | simp | (simp <;> omega))) .nil))
  · rintro w2 S2 hle2 _
    replace he := he.mono hle2
    replace hp := hp.mono hle2
    have l2 : (lk2 o).length ≤ o.entries.length := by unfold lk2; split <;> simp
    have l3 : (lk3 o).length ≤ o.parents.length + 1 := by unfold lk3; split <;> simp
    have l4 : (lk4 o).length ≤ 1 := by unfold lk4; split <;> simp
    refine join (ι := Value) (fun (w : Value) => [(1, .pointer (some ⟨B1, 0, none⟩)), (3, w)]) (fun (w : Value) => [blk B1 77 (segsO o ve vp), sl w 151 33 ((lk2 o ++ lk3 o).map encL)]) (fun (w : Value) => fun S' => True) ?_ ?_
    · skip
      refine sq ?_
      refine rg ?_
      refine q (vFa fa77_0 rfl) rfl ?_
      refine q (vLd sc3 rfl (rB1 T0 (.z (.c .n)))) rfl ?_
      refine q (vEq rfl rfl) rfl ?_
      refine nil ?_
      refine thN ?_
      refine cd rfl (fun hc => ?_) (fun hc => ?_) <;> try simp only [bls, beq_iff_eq, bne_iff_ne, Int.reduceToNat, List.length_map] at hc
      · skip
        have hk : o.kind = 3 := by omega
        have h3l : (lk3 o).length = o.parents.length + 1 := by rw [lk3, if_pos hk]; simp
        have e0 : (lk3 o).take 1 = [(o.tree, 2)] := by rw [lk3, if_pos hk]; rfl
        refine sq ?_
        refine rg ?_
        refine q (vMv rfl) rfl ?_
        refine q (vFa fa77_3 rfl) rfl ?_
        refine q (vLdA ag35 rfl (rB T0 (.s (.s (.s (.z (.c .n)))))) (by simp)) rfl ?_
        refine q (vBuild st151 (.cons rfl rfl inferInstance (by simp) (.z (.c inferInstance inferInstance .n)) (.cons rfl rfl inferInstance (by simp) (.n (n := 32) inferInstance (.z (.c inferInstance inferInstance .n))) .nil))) rfl ?_
        refine l rfl (bslice sl148 ze151 (.cons rfl inferInstance .nil) (by simp) rfl rfl rfl rfl ?_)
        intro B39
        refine l rfl (app ap148 rfl rfl T2 (srcO T0) (by first | omega | (simp only [Int.toNat_natCast, Int.reduceToNat, List.length_append, List.length_cons, List.length_nil, List.length_map, bid_len]; omega) | (simp <;> omega)) rfl ?_)
        intro v40 hv40
        refine q (vAs rfl) rfl ?_
        refine nil ?_
        refine thN ?_
        refine sq ?_
        refine rg ?_
        refine q (vAs rfl) rfl ?_
        refine nil ?_
        refine thN ?_
        refine bk ?_
        refine loop (ι := Nat × Value) (fun (p : Nat × Value) => [(1, .pointer (some ⟨B1, 0, none⟩)), (3, p.2), (5, .int .i64 (p.1 : Int))]) (fun (p : Nat × Value) => [blk B1 77 (segsO o ve vp), sl p.2 151 33 ((lk2 o ++ (lk3 o).take (p.1 + 1)).map encL)]) (fun (p : Nat × Value) => fun S' => p.1 ≤ o.parents.length) (fun (p : Nat × Value) => o.parents.length - p.1) (0, v40) (Nat.zero_le _) (.cons rfl (by first | rfl | simp | (simp <;> omega)) (.cons rfl (by first | rfl | simp | (simp <;> omega)) (.cons rfl (by first | rfl | simp | (simp <;> omega)) .nil))) (.cons T2 (Ent.Le.of (by first | rfl | (simp only [e0, List.map_append, List.map_cons, List.map_nil]; done) | (simp only [e0, List.map_append, List.map_cons, List.map_nil]; rfl))) (.cons T0 (Ent.Le.of (by first | rfl | (simp only [e0, List.map_append, List.map_cons, List.map_nil]; done) | (simp only [e0, List.map_append, List.map_cons, List.map_nil]; rfl))) .nil)) ?_
        rintro ⟨i, w3⟩ S3 hle3 h1
        replace he := he.mono hle3
        replace hp := hp.mono hle3
        dsimp only at h1 ⊢
        have htl : ((lk2 o ++ (lk3 o).take (i + 1)).map encL).length ≤ o.entries.length + i + 1 := by rw [List.length_map, List.length_append, List.length_take, h3l]; omega
        refine sq ?_
        refine sq ?_
        refine rg ?_
        refine q (vMv rfl) rfl ?_
        refine q (vFa fa77_4 rfl) rfl ?_
        refine q (vLd sc27 rfl (rB1 T0 (.s (.s (.s (.n (n := 32) inferInstance (.z (.c .n)))))))) rfl ?_
        refine q (SrcOk.len (srcP hp) Tryz.underlying27 rfl) rfl ?_
        refine q (vLt rfl rfl) rfl ?_
        refine nil ?_
        refine thN ?_
        refine cd rfl (fun hd => ?_) (fun hd => ?_) <;> try simp only [bls, beq_iff_eq, bne_iff_ne, Int.reduceToNat, List.length_map] at hd
        · skip
          have e1 := lk3_next o hk i (by omega)
          refine sk ?_
          refine thN ?_
          refine sq ?_
          refine bk ?_
          refine rg ?_
          refine q (vMv rfl) rfl ?_
          refine q (vFa fa77_4 rfl) rfl ?_
          refine q (vLd sc27 rfl (rB1 T0 (.s (.s (.s (.n (n := 32) inferInstance (.z (.c .n)))))))) rfl ?_
          refine q (vMv rfl) rfl ?_
          refine q (vIxP sl27 rfl rfl hp (by first | omega | (simp only [Int.toNat_natCast, Int.reduceToNat, List.length_append, List.length_cons, List.length_nil, List.length_map, bid_len]; omega) | (simp <;> omega))) rfl ?_
          refine q (vLdA ag35 rfl (Rd.f1 (rP hp (gm (by first | omega | (simp only [Int.toNat_natCast, Int.reduceToNat, List.length_append, List.length_cons, List.length_nil, List.length_map, bid_len]; omega) | (simp <;> omega))))) (by simp)) rfl ?_
          refine q (vBuild st151 (.cons rfl rfl inferInstance (by simp) (.z (.c inferInstance inferInstance .n)) (.cons rfl rfl inferInstance (by simp) (.n (n := 32) inferInstance (.z (.c inferInstance inferInstance .n))) .nil))) rfl ?_
          refine l rfl (bslice sl148 ze151 (.cons rfl inferInstance .nil) (by simp) rfl rfl rfl rfl ?_)
          intro B55
          refine l rfl (app ap148 rfl rfl T2 (srcO T0) (by first | omega | (simp only [Int.toNat_natCast, Int.reduceToNat, List.length_append, List.length_cons, List.length_nil, List.length_map, bid_len]; omega) | (simp <;> omega)) rfl ?_)
          intro v56 hv56
          refine q (vAs rfl) rfl ?_
          refine nil ?_
          refine bkN ?_
          refine thN ?_
          refine rg ?_
          refine q (vMv rfl) rfl ?_
          refine q (vAdd rfl rfl (by first | omega | (simp only [Int.toNat_natCast, Int.reduceToNat, List.length_append, List.length_cons, List.length_nil, List.length_map, bid_len]; omega) | (simp <;> omega))) rfl ?_
          refine q (vAs rfl) rfl ?_
          refine nil ?_
          refine thN ?_
          refine back ((i + 1, v56)) (Le.refl _) ⟨by dsimp only; omega, by dsimp only; omega⟩ (.cons rfl (by first | rfl | (simp only [e1, List.map_append, List.map_cons, List.map_nil, Int.toNat_natCast, List.append_assoc]; done) | (simp only [e1, List.map_append, List.map_cons, List.map_nil, Int.toNat_natCast, List.append_assoc]; rfl) | (simp only [e1, List.map_append, List.map_cons, List.map_nil, Int.toNat_natCast, ← List.append_assoc]; rfl)) (.cons rfl (by first | rfl | (simp only [e1, List.map_append, List.map_cons, List.map_nil, Int.toNat_natCast, List.append_assoc]; done) | (simp only [e1, List.map_append, List.map_cons, List.map_nil, Int.toNat_natCast, List.append_assoc]; rfl) | (simp only [e1, List.map_append, List.map_cons, List.map_nil, Int.toNat_natCast, ← List.append_assoc]; rfl)) (.cons rfl (by first | rfl | (simp only [e1, List.map_append, List.map_cons, List.map_nil, Int.toNat_natCast, List.append_assoc]; done) | (simp only [e1, List.map_append, List.map_cons, List.map_nil, Int.toNat_natCast, List.append_assoc]; rfl) | (simp only [e1, List.map_append, List.map_cons, List.map_nil, Int.toNat_natCast, ← List.append_assoc]; rfl)) .nil))) (.cons T2 (Ent.Le.of (by first | rfl | (simp only [e1, List.map_append, List.map_cons, List.map_nil, Int.toNat_natCast, List.append_assoc]; done) | (simp only [e1, List.map_append, List.map_cons, List.map_nil, Int.toNat_natCast, List.append_assoc]; rfl) | (simp only [e1, List.map_append, List.map_cons, List.map_nil, Int.toNat_natCast, ← List.append_assoc]; rfl))) (.cons T0 (Ent.Le.of (by first | rfl | (simp only [e1, List.map_append, List.map_cons, List.map_nil, Int.toNat_natCast, List.append_assoc]; done) | (simp only [e1, List.map_append, List.map_cons, List.map_nil, Int.toNat_natCast, List.append_assoc]; rfl) | (simp only [e1, List.map_append, List.map_cons, List.map_nil, Int.toNat_natCast, ← List.append_assoc]; rfl))) .nil))
        · skip
          have e1 : (lk3 o).take (i + 1) = lk3 o := List.take_of_length_le (by rw [h3l]; omega)
          rw [e1]
          refine xt ?_
          refine thX ?_
          refine thX ?_
          refine bkX ?_
          refine thN ?_
          refine back (w3) hle3 trivial (.cons rfl (by first | rfl | simp | (simp <;> omega)) (.cons rfl (by first | rfl | simp | (simp <;> omega)) .nil)) (.cons T0 (Ent.Le.of (by first | rfl | simp | (simp <;> omega))) (.cons T0 (Ent.Le.of (by first | rfl | simp | (simp <;> omega))) .nil))
      · skip
        have e1 : lk3 o = [] := by rw [lk3, if_neg (by omega)]
        rw [e1, List.append_nil]
        refine sk ?_
        refine thN ?_
        refine back (w2) (Le.refl _) trivial (.cons rfl (by first | rfl | simp | (simp <;> omega)) (.cons rfl (by first | rfl | simp | (simp <;> omega)) .nil)) (.cons T0 (Ent.Le.of (by first | rfl | simp | (simp <;> omega))) (.cons T0 (Ent.Le.of (by first | rfl | simp | (simp <;> omega))) .nil))
    · rintro w4 S4 hle4 _
      replace he := he.mono hle4
      replace hp := hp.mono hle4
      have htl : ((lk2 o ++ lk3 o).map encL).length ≤ o.entries.length + o.parents.length + 1 := by rw [List.length_map, List.length_append]; omega
      refine sq ?_
      refine sq ?_
      refine rg ?_
      refine q (vFa fa77_0 rfl) rfl ?_
      refine q (vLd sc3 rfl (rB1 T0 (.z (.c .n)))) rfl ?_
      refine q (vEq rfl rfl) rfl ?_
      refine nil ?_
      refine thN ?_
      refine cd rfl (fun hc => ?_) (fun hc => ?_) <;> try simp only [bls, beq_iff_eq, bne_iff_ne, Int.reduceToNat, List.length_map] at hc
      · skip
        have e1 : lk4 o = [(o.target, o.of)] := by rw [lk4, if_pos (by omega)]
        refine rg ?_
        refine q (vMv rfl) rfl ?_
        refine q (vFa fa77_7 rfl) rfl ?_
        refine q (vLdA ag35 rfl (rB T0 (.s (.s (.s (.n (n := 32) inferInstance (.s (.s (.s (.z (.c .n)))))))))) (by simp)) rfl ?_
        refine q (vFa fa77_8 rfl) rfl ?_
        refine q (vLd sc3 rfl (rB1 T0 (.s (.s (.s (.n (n := 32) inferInstance (.s (.s (.s (.n (n := 32) inferInstance (.z (.c .n)))))))))))) rfl ?_
        refine q (vBuild st151 (.cons rfl rfl inferInstance (by simp) (.z (.c inferInstance inferInstance .n)) (.cons rfl rfl inferInstance (by simp) (.n (n := 32) inferInstance (.z (.c inferInstance inferInstance .n))) .nil))) rfl ?_
        refine l rfl (bslice sl148 ze151 (.cons rfl inferInstance .nil) (by simp) rfl rfl rfl rfl ?_)
        intro B66
        refine l rfl (app ap148 rfl rfl T2 (srcO T0) (by first | omega | (simp only [Int.toNat_natCast, Int.reduceToNat, List.length_append, List.length_cons, List.length_nil, List.length_map, bid_len]; omega) | (simp <;> omega)) rfl ?_)
        intro v67 hv67
        refine q (vAs rfl) rfl ?_
        refine nil ?_
        refine thN ?_
        refine sq ?_
        refine rg ?_
        refine q (vMv rfl) rfl ?_
        refine q (vAs rfl) rfl ?_
        refine nil ?_
        refine thN ?_
        refine rt ?_
        refine pub T0 (fun S1 hS1 hO => ?_)
        replace he := he.mono hS1
        replace hp := hp.mono hS1
        have e2 : (linksF o).map encL = (lk2 o ++ lk3 o).map encL ++ [encL (o.target, o.of)] := by rw [linksF, e1, List.map_append]; rfl
        refine ret rfl (.t rfl .nil) .nil ⟨by rw [e2]; exact hO, rfl⟩
      · skip
        have e1 : lk4 o = [] := by rw [lk4, if_neg (by omega)]
        have e2 : linksF o = lk2 o ++ lk3 o := by rw [linksF, e1, List.append_nil]
        refine sk ?_
        refine thN ?_
        refine sq ?_
        refine rg ?_
        refine q (vMv rfl) rfl ?_
        refine q (vAs rfl) rfl ?_
        refine nil ?_
        refine thN ?_
        refine rt ?_
        refine pub T1 (fun S2 hS2 hO => ?_)
        replace he := he.mono hS2
        replace hp := hp.mono hS2
        refine ret rfl (.t rfl .nil) .nil ⟨by rw [e2]; exact hO, rfl⟩
end Go.Proofs.YtjmigoikklkfdaaGreatDoor
namespace Go.Proofs.YtjmigoikklkfdaaGreatDoor
open Go
set_option linter.unusedVariables false
set_option linter.unusedSimpArgs false
set_option maxRecDepth 4000
theorem linksF2 {o : DObj} (h : o.kind = 2) : linksF o = lk2 o := by rw [linksF, lk3, lk4, if_neg (by omega), if_neg (by omega)]; simp
theorem linksF3 {o : DObj} (h : o.kind = 3) : linksF o = lk3 o := by rw [linksF, lk2, lk4, if_neg (by omega), if_neg (by omega)]; simp
theorem linksF4 {o : DObj} (h : o.kind = 4) : linksF o = lk4 o := by rw [linksF, lk2, lk3, if_neg (by omega), if_neg (by omega)]; simp
theorem linksF0 {o : DObj} (h : o.kind ≠ 2 ∧ o.kind ≠ 3 ∧ o.kind ≠ 4) : linksF o = [] := by rw [linksF, lk2, lk3, lk4, if_neg h.1, if_neg h.2.1, if_neg h.2.2]; rfl
theorem Links_spec {o : DObj} {ve vp : Value} {S : Mem} (hz : Small o) (hi : ObjIn S o ve vp) :
    Spec Tryz.prog 115 [objv o ve vp] S [] (fun S' r L' => PSl S' r 33 ((linksF o).map encL) ∧ L' = []) := by
  have he := hi.e
  have hp := hi.p
  have hs0 := he.sc
  have hs1 := hp.sc
  obtain ⟨z1, z2, z3, z4, z5, z6⟩ := hz
  refine enter Tryz.func115 rfl 60 rfl rfl (fun w0 => ?_)
  refine sq ?_
  refine rg ?_
  refine l rfl (box rfl rfl ?_)
  intro B1
  refine q (vAs rfl) rfl ?_
  refine nil ?_
  refine thN ?_
  refine sq ?_
  refine rg ?_
  refine q (vAs rfl) rfl ?_
  refine nil ?_
  refine thN ?_
  refine sq ?_
  refine sq ?_
  refine rg ?_
  refine q (vFa fa77_0 rfl) rfl ?_
  refine q (vLd sc3 rfl (rB1 T0 (.z (.c .n)))) rfl ?_
  refine nil ?_
  refine thN ?_
  refine bk ?_
  refine sq ?_
  refine rg ?_
  refine q (vEq rfl rfl) rfl ?_
  refine q (vAs rfl) rfl ?_
  refine nil ?_
  refine thN ?_
  refine cd rfl (fun hc => ?_) (fun hc => ?_) <;> try simp only [bls, beq_iff_eq, bne_iff_ne, Int.reduceToNat, List.length_map] at hc
  · skip
    have hk : o.kind = 2 := by omega
    have h2l : (lk2 o).length = o.entries.length := by rw [lk2, if_pos hk, List.length_map]
    refine sq ?_
    refine rg ?_
    refine q (vFa fa77_2 rfl) rfl ?_
    refine q (vLd sc74 rfl (rB1 T0 (.s (.s (.z (.c .n)))))) rfl ?_
    refine q (SrcOk.len (srcP he) Tryz.underlying74 rfl) rfl ?_
    refine q (vMv rfl) rfl ?_
    refine nil ?_
    refine thN ?_
    refine bk ?_
    refine nilsl 151 33 ?_
    refine loop (ι := Nat × Value) (fun (p : Nat × Value) => [(3, p.2), (13, ve), (14, .int .i64 (o.entries.length : Int)), (15, .int .i64 (p.1 : Int))]) (fun (p : Nat × Value) => [sl p.2 151 33 (((lk2 o).take p.1).map encL)]) (fun (p : Nat × Value) => fun S' => p.1 ≤ o.entries.length) (fun (p : Nat × Value) => o.entries.length - p.1) (0, .slice none 0 0) (Nat.zero_le _) (.cons rfl (by first | rfl | simp | (simp <;> omega)) (.cons rfl (by first | rfl | simp | (simp <;> omega)) (.cons rfl (by first | rfl | simp | (simp <;> omega)) (.cons rfl (by first | rfl | simp | (simp <;> omega)) .nil)))) (.cons T0 (Ent.Le.of (by first | rfl | simp | (simp <;> omega))) .nil) ?_
    rintro ⟨i, w3⟩ S3 hle3 h1
    replace he := he.mono hle3
    replace hp := hp.mono hle3
    dsimp only at h1 ⊢
    have htl : (((lk2 o).take i).map encL).length = i := by rw [List.length_map, List.length_take, h2l]; omega
    refine sq ?_
    refine rg ?_
    refine q (vLt rfl rfl) rfl ?_
    refine nil ?_
    refine thN ?_
    refine sq ?_
    refine cd rfl (fun hd => ?_) (fun hd => ?_) <;> try simp only [bls, beq_iff_eq, bne_iff_ne, Int.reduceToNat, List.length_map] at hd
    · skip
      have e1 := lk2_next o hk i (by omega)
      refine sk ?_
      refine thN ?_
      refine sq ?_
      refine bk ?_
      refine sq ?_
      refine rg ?_
      refine q (vIxP sl74 rfl rfl he (by first | omega | (simp only [Int.toNat_natCast, Int.reduceToNat, List.length_append, List.length_cons, List.length_nil, List.length_map, bid_len]; omega) | (simp <;> omega))) rfl ?_
      refine q (vLdA ag247 rfl (rP he (gm (by first | omega | (simp only [Int.toNat_natCast, Int.reduceToNat, List.length_append, List.length_cons, List.length_nil, List.length_map, bid_len]; omega) | (simp <;> omega)))) (by simp)) rfl ?_
      refine l rfl (alloc ze247 rfl ?_)
      intro B5
      refine l rfl (store sz247 rfl rfl T0 (by simp) (.z (.c inferInstance inferInstance (.c inferInstance inferInstance (.c inferInstance inferInstance .n)))) ?_)
      refine nil ?_
      refine thN ?_
      refine rg ?_
      refine q (vMv rfl) rfl ?_
      refine q (vFa fa247_2 rfl) rfl ?_
      refine q (vLdA ag35 rfl (rB T0 (.s (.s (.z (.c .n))))) (by simp)) rfl ?_
      refine q (vFa fa247_1 rfl) rfl ?_
      refine q (vLd sc3 rfl (rB1 T0 (.s (.z (.c .n))))) rfl ?_
      refine q (vBuild st151 (.cons rfl rfl inferInstance (by simp) (.z (.c inferInstance inferInstance .n)) (.cons rfl rfl inferInstance (by simp) (.n (n := 32) inferInstance (.z (.c inferInstance inferInstance .n))) .nil))) rfl ?_
      refine l rfl (bslice sl148 ze151 (.cons rfl inferInstance .nil) (by simp) rfl rfl rfl rfl ?_)
      intro B25
      refine l rfl (app ap148 rfl rfl T2 (srcO T0) (by first | omega | (simp only [Int.toNat_natCast, Int.reduceToNat, List.length_append, List.length_cons, List.length_nil, List.length_map, bid_len]; omega) | (simp <;> omega)) rfl ?_)
      intro v26 hv26
      refine q (vAs rfl) rfl ?_
      refine nil ?_
      refine bkN ?_
      refine thN ?_
      refine rg ?_
      refine q (vAdd rfl rfl (by first | omega | (simp only [Int.toNat_natCast, Int.reduceToNat, List.length_append, List.length_cons, List.length_nil, List.length_map, bid_len]; omega) | (simp <;> omega))) rfl ?_
      refine q (vMv rfl) rfl ?_
      refine nil ?_
      refine thN ?_
      refine back ((i + 1, v26)) (Le.refl _) ⟨by dsimp only; omega, by dsimp only; omega⟩ (.cons rfl (by first | rfl | (simp only [e1, List.map_append, List.map_cons, List.map_nil, Int.toNat_natCast]; done) | (simp only [e1, List.map_append, List.map_cons, List.map_nil, Int.toNat_natCast]; rfl)) (.cons rfl (by first | rfl | (simp only [e1, List.map_append, List.map_cons, List.map_nil, Int.toNat_natCast]; done) | (simp only [e1, List.map_append, List.map_cons, List.map_nil, Int.toNat_natCast]; rfl)) (.cons rfl (by first | rfl | (simp only [e1, List.map_append, List.map_cons, List.map_nil, Int.toNat_natCast]; done) | (simp only [e1, List.map_append, List.map_cons, List.map_nil, Int.toNat_natCast]; rfl)) (.cons rfl (by first | rfl | (simp only [e1, List.map_append, List.map_cons, List.map_nil, Int.toNat_natCast]; done) | (simp only [e1, List.map_append, List.map_cons, List.map_nil, Int.toNat_natCast]; rfl)) .nil)))) (.cons T0 (Ent.Le.of (by first | rfl | (simp only [e1, List.map_append, List.map_cons, List.map_nil, Int.toNat_natCast]; done) | (simp only [e1, List.map_append, List.map_cons, List.map_nil, Int.toNat_natCast]; rfl))) .nil)
    · skip
      have e1 : (lk2 o).take i = lk2 o := List.take_of_length_le (by rw [h2l]; omega)
      rw [e1]
      refine xt ?_
      refine thX ?_
      refine thX ?_
      refine bkX ?_
      refine bkN ?_
      refine thN ?_
      refine sq ?_
      refine rg ?_
      refine q (vMv rfl) rfl ?_
      refine q (vAs rfl) rfl ?_
      refine nil ?_
      refine thN ?_
      refine rt ?_
      refine pub T0 (fun S1 hS1 hO => ?_)
      replace he := he.mono hS1
      replace hp := hp.mono hS1
      refine ret rfl (.t rfl .nil) .nil ⟨by rw [linksF2 hk]; exact hO, rfl⟩
  · skip
    refine sq ?_
    refine rg ?_
    refine q (vEq rfl rfl) rfl ?_
    refine q (vAs rfl) rfl ?_
    refine nil ?_
    refine thN ?_
    refine cd rfl (fun hd => ?_) (fun hd => ?_) <;> try simp only [bls, beq_iff_eq, bne_iff_ne, Int.reduceToNat, List.length_map] at hd
    · skip
      have hk : o.kind = 3 := by omega
      have h3l : (lk3 o).length = o.parents.length + 1 := by rw [lk3, if_pos hk]; simp
      have e0 : (lk3 o).take 1 = [(o.tree, 2)] := by rw [lk3, if_pos hk]; rfl
      refine sq ?_
      refine rg ?_
      refine q (vMv rfl) rfl ?_
      refine q (vFa fa77_3 rfl) rfl ?_
      refine q (vLdA ag35 rfl (rB T0 (.s (.s (.s (.z (.c .n)))))) (by simp)) rfl ?_
      refine q (vBuild st151 (.cons rfl rfl inferInstance (by simp) (.z (.c inferInstance inferInstance .n)) (.cons rfl rfl inferInstance (by simp) (.n (n := 32) inferInstance (.z (.c inferInstance inferInstance .n))) .nil))) rfl ?_
      refine l rfl (bslice sl148 ze151 (.cons rfl inferInstance .nil) (by simp) rfl rfl rfl rfl ?_)
      intro B34
      refine nilsl 151 33 ?_
      refine l rfl (app ap148 rfl rfl T0 (srcO T1) (by first | omega | (simp only [Int.toNat_natCast, Int.reduceToNat, List.length_append, List.length_cons, List.length_nil, List.length_map, bid_len]; omega) | (simp <;> omega)) rfl ?_)
      intro v35 hv35
      refine q (vAs rfl) rfl ?_
      refine nil ?_
      refine thN ?_
      refine sq ?_
      refine rg ?_
      refine q (vFa fa77_4 rfl) rfl ?_
      refine q (vLd sc27 rfl (rB1 T2 (.s (.s (.s (.n (n := 32) inferInstance (.z (.c .n)))))))) rfl ?_
      refine q (SrcOk.len (srcP hp) Tryz.underlying27 rfl) rfl ?_
      refine q (vMv rfl) rfl ?_
      refine nil ?_
      refine thN ?_
      refine bk ?_
      refine loop (ι := Nat × Value) (fun (p : Nat × Value) => [(3, p.2), (37, vp), (38, .int .i64 (o.parents.length : Int)), (39, .int .i64 (p.1 : Int))]) (fun (p : Nat × Value) => [sl p.2 151 33 (((lk3 o).take (p.1 + 1)).map encL)]) (fun (p : Nat × Value) => fun S' => p.1 ≤ o.parents.length) (fun (p : Nat × Value) => o.parents.length - p.1) (0, v35) (Nat.zero_le _) (.cons rfl (by first | rfl | simp | (simp <;> omega)) (.cons rfl (by first | rfl | simp | (simp <;> omega)) (.cons rfl (by first | rfl | simp | (simp <;> omega)) (.cons rfl (by first | rfl | simp | (simp <;> omega)) .nil)))) (.cons T0 (Ent.Le.of (by first | rfl | (simp only [e0, List.map_append, List.map_cons, List.map_nil]; done) | (simp only [e0, List.map_append, List.map_cons, List.map_nil]; rfl))) .nil) ?_
      rintro ⟨i, w3⟩ S3 hle3 h1
      replace he := he.mono hle3
      replace hp := hp.mono hle3
      dsimp only at h1 ⊢
      have htl : (((lk3 o).take (i + 1)).map encL).length ≤ i + 1 := by rw [List.length_map, List.length_take]; omega
      refine sq ?_
      refine rg ?_
      refine q (vLt rfl rfl) rfl ?_
      refine nil ?_
      refine thN ?_
      refine sq ?_
      refine cd rfl (fun hd2 => ?_) (fun hd2 => ?_) <;> try simp only [bls, beq_iff_eq, bne_iff_ne, Int.reduceToNat, List.length_map] at hd2
      · skip
        have e1 := lk3_next o hk i (by omega)
        refine sk ?_
        refine thN ?_
        refine sq ?_
        refine bk ?_
        refine sq ?_
        refine rg ?_
        refine q (vIxP sl27 rfl rfl hp (by first | omega | (simp only [Int.toNat_natCast, Int.reduceToNat, List.length_append, List.length_cons, List.length_nil, List.length_map, bid_len]; omega) | (simp <;> omega))) rfl ?_
        refine q (vLdA ag35 rfl (Rd.f1 (rP hp (gm (by first | omega | (simp only [Int.toNat_natCast, Int.reduceToNat, List.length_append, List.length_cons, List.length_nil, List.length_map, bid_len]; omega) | (simp <;> omega))))) (by simp)) rfl ?_
        refine l rfl (alloc ze35 rfl ?_)
        intro B7
        refine l rfl (store sz35 rfl rfl T0 (by simp) (.z (.c inferInstance inferInstance .n)) ?_)
        refine nil ?_
        refine thN ?_
        refine rg ?_
        refine q (vMv rfl) rfl ?_
        refine q (vLdA ag35 rfl (rB T0 (.z (.c .n))) (by simp)) rfl ?_
        refine q (vBuild st151 (.cons rfl rfl inferInstance (by simp) (.z (.c inferInstance inferInstance .n)) (.cons rfl rfl inferInstance (by simp) (.n (n := 32) inferInstance (.z (.c inferInstance inferInstance .n))) .nil))) rfl ?_
        refine l rfl (bslice sl148 ze151 (.cons rfl inferInstance .nil) (by simp) rfl rfl rfl rfl ?_)
        intro B46
        refine l rfl (app ap148 rfl rfl T2 (srcO T0) (by first | omega | (simp only [Int.toNat_natCast, Int.reduceToNat, List.length_append, List.length_cons, List.length_nil, List.length_map, bid_len]; omega) | (simp <;> omega)) rfl ?_)
        intro v47 hv47
        refine q (vAs rfl) rfl ?_
        refine nil ?_
        refine bkN ?_
        refine thN ?_
        refine rg ?_
        refine q (vAdd rfl rfl (by first | omega | (simp only [Int.toNat_natCast, Int.reduceToNat, List.length_append, List.length_cons, List.length_nil, List.length_map, bid_len]; omega) | (simp <;> omega))) rfl ?_
        refine q (vMv rfl) rfl ?_
        refine nil ?_
        refine thN ?_
        refine back ((i + 1, v47)) (Le.refl _) ⟨by dsimp only; omega, by dsimp only; omega⟩ (.cons rfl (by first | rfl | (simp only [e1, List.map_append, List.map_cons, List.map_nil, Int.toNat_natCast, List.append_assoc]; done) | (simp only [e1, List.map_append, List.map_cons, List.map_nil, Int.toNat_natCast]; rfl)) (.cons rfl (by first | rfl | (simp only [e1, List.map_append, List.map_cons, List.map_nil, Int.toNat_natCast, List.append_assoc]; done) | (simp only [e1, List.map_append, List.map_cons, List.map_nil, Int.toNat_natCast]; rfl)) (.cons rfl (by first | rfl | (simp only [e1, List.map_append, List.map_cons, List.map_nil, Int.toNat_natCast, List.append_assoc]; done) | (simp only [e1, List.map_append, List.map_cons, List.map_nil, Int.toNat_natCast]; rfl)) (.cons rfl (by first | rfl | (simp only [e1, List.map_append, List.map_cons, List.map_nil, Int.toNat_natCast, List.append_assoc]; done) | (simp only [e1, List.map_append, List.map_cons, List.map_nil, Int.toNat_natCast]; rfl)) .nil)))) (.cons T0 (Ent.Le.of (by first | rfl | (simp only [e1, List.map_append, List.map_cons, List.map_nil, Int.toNat_natCast, List.append_assoc]; done) | (simp only [e1, List.map_append, List.map_cons, List.map_nil, Int.toNat_natCast]; rfl))) .nil)
      · skip
        have e1 : (lk3 o).take (i + 1) = lk3 o := List.take_of_length_le (by rw [h3l]; omega)
        rw [e1]
        refine xt ?_
        refine thX ?_
        refine thX ?_
        refine bkX ?_
        refine bkN ?_
        refine thN ?_
        refine sq ?_
        refine rg ?_
        refine q (vMv rfl) rfl ?_
        refine q (vAs rfl) rfl ?_
        refine nil ?_
        refine thN ?_
        refine rt ?_
        refine pub T0 (fun S2 hS2 hO => ?_)
        replace he := he.mono hS2
        replace hp := hp.mono hS2
        refine ret rfl (.t rfl .nil) .nil ⟨by rw [linksF3 hk]; exact hO, rfl⟩
    · skip
      refine sq ?_
      refine rg ?_
      refine q (vEq rfl rfl) rfl ?_
      refine q (vAs rfl) rfl ?_
      refine nil ?_
      refine thN ?_
      refine cd rfl (fun he4 => ?_) (fun he4 => ?_) <;> try simp only [bls, beq_iff_eq, bne_iff_ne, Int.reduceToNat, List.length_map] at he4
      · skip
        have hk : o.kind = 4 := by omega
        refine rg ?_
        refine q (vMv rfl) rfl ?_
        refine q (vFa fa77_7 rfl) rfl ?_
        refine q (vLdA ag35 rfl (rB T0 (.s (.s (.s (.n (n := 32) inferInstance (.s (.s (.s (.z (.c .n)))))))))) (by simp)) rfl ?_
        refine q (vFa fa77_8 rfl) rfl ?_
        refine q (vLd sc3 rfl (rB1 T0 (.s (.s (.s (.n (n := 32) inferInstance (.s (.s (.s (.n (n := 32) inferInstance (.z (.c .n)))))))))))) rfl ?_
        refine q (vBuild st151 (.cons rfl rfl inferInstance (by simp) (.z (.c inferInstance inferInstance .n)) (.cons rfl rfl inferInstance (by simp) (.n (n := 32) inferInstance (.z (.c inferInstance inferInstance .n))) .nil))) rfl ?_
        refine l rfl (bslice sl148 ze151 (.cons rfl inferInstance .nil) (by simp) rfl rfl rfl rfl ?_)
        intro B57
        refine nilsl 151 33 ?_
        refine l rfl (app ap148 rfl rfl T0 (srcO T1) (by first | omega | (simp only [Int.toNat_natCast, Int.reduceToNat, List.length_append, List.length_cons, List.length_nil, List.length_map, bid_len]; omega) | (simp <;> omega)) rfl ?_)
        intro v58 hv58
        refine q (vAs rfl) rfl ?_
        refine nil ?_
        refine bkN ?_
        refine thN ?_
        refine sq ?_
        refine rg ?_
        refine q (vMv rfl) rfl ?_
        refine q (vAs rfl) rfl ?_
        refine nil ?_
        refine thN ?_
        refine rt ?_
        refine pub T0 (fun S3 hS3 hO => ?_)
        replace he := he.mono hS3
        replace hp := hp.mono hS3
        have e2 : (linksF o).map encL = [encL (o.target, o.of)] := by rw [linksF4 hk, lk4, if_pos hk]; rfl
        refine ret rfl (.t rfl .nil) .nil ⟨by rw [e2]; exact hO, rfl⟩
      · skip
        refine sk ?_
        refine bkN ?_
        refine thN ?_
        refine sq ?_
        refine rg ?_
        refine q (vMv rfl) rfl ?_
        refine q (vAs rfl) rfl ?_
        refine nil ?_
        refine thN ?_
        refine rt ?_
        refine ret rfl (.t rfl .nil) .nil ⟨by rw [linksF0 ⟨by omega, by omega, by omega⟩]; exact PSl.nil, rfl⟩
theorem dO_small {t : List UInt8} : Small (dO t) := by
  by_cases h : dOk t = true
  · exact (dec_kind h).2.2.1
  · have : dO t = zobj := by rw [dO, if_neg h]
    rw [this]
    exact ⟨by decide, by decide, by decide, by decide, by decide, fun i => by simp [zobj]; decide⟩
theorem ref_SLinks_spec {v : Value} {R : List RIt} {S : Mem} (h : RS S v R) (hr : Rising (keys (texts R))) (x : BId) :
    Spec Tryz.prog 116 [ag [[v]], idv x] S [] (fun S' r L' => PSl S' r 33 ((linksF (dO (getF (texts R) x))).map encL) ∧ L' = []) := by
  have hsc := h.pl.sc
  refine enter Tryz.func116 rfl 9 rfl rfl (fun w0 => ?_)
  refine sq ?_
  refine rg ?_
  refine l rfl (box rfl rfl ?_)
  intro B2
  refine l rfl (box rfl rfl ?_)
  intro B3
  refine q (vAs rfl) rfl ?_
  refine nil ?_
  refine thN ?_
  refine sq ?_
  refine rg ?_
  refine q (vLdA ag30 rfl (rB T1 (.z (.c .n))) (by simp)) rfl ?_
  refine q (vLdA ag35 rfl (rB T0 (.z (.c .n))) (by simp)) rfl ?_
  refine l rfl (call cf39 (ref_Object_spec h hr x) rfl .nil rfl ?_)
  intro S1 r1 l1 hS1 hp1
  obtain ⟨ve, vp, rfl, hi, rfl⟩ := hp1
  replace h := h.mono hS1
  have he := hi.e
  have hp := hi.p
  have hs0 := he.sc
  have hs1 := hp.sc
  refine l rfl (call cf154 (ref_Links_spec dO_small hi) rfl .nil rfl ?_)
  intro S2 r2 l2 hS2 hp2
  obtain ⟨hO, rfl⟩ := hp2
  replace h := h.mono hS2
  replace he := he.mono hS2
  replace hp := hp.mono hS2
  refine q (vAs rfl) rfl ?_
  refine nil ?_
  refine thN ?_
  refine rt ?_
  refine ret rfl (.t rfl .nil) .nil ⟨hO, rfl⟩
def insF (out : List BId) (x : BId) : List BId := if x ∈ out then out else out.take (low x out) ++ [x] ++ out.drop (low x out)
def sortF (ids : List BId) : List BId := ids.foldl insF []
theorem low_leL (x : BId) (out : List BId) : low x out ≤ out.length := by
  have := lowN_le (idN x) (out.map idN); rwa [List.length_map] at this
theorem insF_rising {out : List BId} (x : BId) (hr : Rising out) : Rising (insF out x) := by
  unfold insF
  split
  · exact hr
  · rename_i hn
    have hp : (out.map idN).Pairwise (· < ·) := List.pairwise_map.2 hr
    have hle := low_leL x out
    have h1 : ∀ a, a ∈ out.take (low x out) → idN a < idN x := by
      intro a ha
      obtain ⟨i, hi, rfl⟩ := List.getElem_of_mem ha
      rw [List.length_take] at hi
      have := lowN_lt (idN x) (out.map idN) i (by show i < low x out; omega)
      have e2 : (out.map idN).getD i 0 = idN (out.take (low x out))[i] := by
        have : i < out.length := by omega
        simp [List.getD, this]
      rw [e2] at this; exact this
    have h2 : ∀ a, a ∈ out.drop (low x out) → idN x < idN a := by
      intro a ha
      obtain ⟨i, hi, rfl⟩ := List.getElem_of_mem ha
      have hi' : low x out + i < out.length := by rw [List.length_drop] at hi; omega
      have := lowN_ge (idN x) (out.map idN) (low x out + i) hp (by show low x out ≤ _; omega) (by rw [List.length_map]; exact hi')
      have e2 : (out.map idN).getD (low x out + i) 0 = idN (out.drop (low x out))[i] := by simp [List.getD, hi']
      rw [e2] at this
      have hne : x ≠ (out.drop (low x out))[i] := fun h => hn (by
        have := List.mem_of_mem_drop ha
        rwa [← h] at this)
      have : idN x ≠ idN (out.drop (low x out))[i] := fun h => hne (idN_inj h)
      omega
    rw [List.append_assoc]
    refine List.pairwise_append.2 ⟨hr.sublist (List.take_sublist _ _), List.pairwise_cons.2 ⟨h2, hr.sublist (List.drop_sublist _ _)⟩, ?_⟩
    intro a ha c hc
    rcases List.mem_cons.1 hc with rfl | hc
    · exact h1 a ha
    · exact Nat.lt_trans (h1 a ha) (h2 c hc)
theorem insF_mem {out : List BId} {x y : BId} : y ∈ insF out x ↔ y ∈ out ∨ y = x := by
  unfold insF
  split
  · rename_i h
    exact ⟨.inl, fun h2 => h2.elim id (fun e => e ▸ h)⟩
  · have e : y ∈ out ↔ y ∈ out.take (low x out) ∨ y ∈ out.drop (low x out) := by
      conv => lhs; rw [← List.take_append_drop (low x out) out]
      rw [List.mem_append]
    simp only [List.mem_append, List.mem_singleton, e]
    constructor
    · rintro ((h | h) | h)
      · exact .inl (.inl h)
      · exact .inr h
      · exact .inl (.inr h)
    · rintro ((h | h) | h)
      · exact .inl (.inl h)
      · exact .inr h
      · exact .inl (.inr h)
theorem insF_len (out : List BId) (x : BId) : (insF out x).length ≤ out.length + 1 := by
  unfold insF; split
  · omega
  · simp only [List.length_append, List.length_take, List.length_drop, List.length_cons, List.length_nil]; omega
theorem foldIns_rising : ∀ (ids out : List BId), Rising out → Rising (ids.foldl insF out)
  | [], out, h => h
  | x :: ids, out, h => foldIns_rising ids _ (insF_rising x h)
theorem foldIns_mem {y : BId} : ∀ (ids out : List BId), y ∈ ids.foldl insF out ↔ y ∈ out ∨ y ∈ ids
  | [], out => by simp
  | x :: ids, out => by
    rw [List.foldl_cons, foldIns_mem ids, insF_mem, List.mem_cons]
    constructor
    · rintro ((h | h) | h)
      · exact .inl h
      · exact .inr (.inl h)
      · exact .inr (.inr h)
    · rintro (h | h | h)
      · exact .inl (.inl h)
      · exact .inl (.inr h)
      · exact .inr h
theorem foldIns_len : ∀ (ids out : List BId), (ids.foldl insF out).length ≤ out.length + ids.length
  | [], out => by simp
  | x :: ids, out => by
    have := foldIns_len ids (insF out x)
    have := insF_len out x
    rw [List.foldl_cons, List.length_cons]; omega
theorem sortF_rising (ids : List BId) : Rising (sortF ids) := foldIns_rising ids [] .nil
theorem sortF_mem {ids : List BId} {y : BId} : y ∈ sortF ids ↔ y ∈ ids := by rw [sortF, foldIns_mem]; simp
theorem sortF_len (ids : List BId) : (sortF ids).length ≤ ids.length := by have := foldIns_len ids []; simpa [sortF] using this
theorem sortF_next (ids : List BId) (i : Nat) (h : i < ids.length) : sortF (ids.take (i + 1)) = insF (sortF (ids.take i)) (ids.getD i default) := by
  rw [take_next ids i h, sortF, sortF, List.foldl_append]; rfl
theorem low_stop {out : List BId} {x : BId} (hr : Rising out) {n : Nat} (hn : n ≤ out.length) (h1 : ∀ k, n ≤ k → k < out.length → idN x < idN (out.getD k default)) (h2 : n = 0 ∨ idN (out.getD (n - 1) default) < idN x) : x ∉ out ∧ low x out = n := by
  have hg : ∀ k, (hk : k < out.length) → out.getD k default = out[k] := fun k hk => by rw [List.getD_eq_getElem?_getD, List.getElem?_eq_getElem hk]; rfl
  have hlt : ∀ k, k < n → idN (out.getD k default) < idN x := by
    intro k hk
    rcases h2 with h2 | h2
    · omega
    · rcases Nat.lt_or_ge k (n - 1) with h3 | h3
      · have := List.pairwise_iff_getElem.1 hr k (n - 1) (by omega) (by omega) h3
        rw [hg (n - 1) (by omega)] at h2
        rw [hg k (by omega)]; omega
      · have : k = n - 1 := by omega
        subst this; exact h2
  constructor
  · intro hm
    obtain ⟨k, hk, rfl⟩ := List.getElem_of_mem hm
    rcases Nat.lt_or_ge k n with h3 | h3
    · have := hlt k h3; rw [hg k hk] at this; omega
    · have := h1 k h3 hk; rw [hg k hk] at this; omega
  · refine lowN_unique _ _ _ (by rw [List.length_map]; exact hn) (fun k hk => ?_) (fun h => ?_)
    · have e : (out.map idN).getD k 0 = idN (out.getD k default) := by rw [hg k (by omega)]; simp [List.getD, show k < out.length by omega]
      rw [e]; exact hlt k hk
    · rw [List.length_map] at h
      have e : (out.map idN).getD n 0 = idN (out.getD n default) := by rw [hg n h]; simp [List.getD, h]
      rw [e]; exact Nat.le_of_lt (h1 n (Nat.le_refl _) h)
theorem Sorted_spec {v : Value} {ids : List BId} {S : Mem} (hl : PSl S v 32 (ids.map encId)) (hb : ids.length < 1073741824) :
    Spec Tryz.prog 17 [v] S [] (fun S' r L' => PSl S' r 32 ((sortF ids).map encId) ∧ L' = []) := by
  refine enter Tryz.func17 rfl 60 rfl rfl (fun w0 => ?_)
  refine sq ?_
  refine rg ?_
  refine q (vAs rfl) rfl ?_
  refine nil ?_
  refine thN ?_
  refine sq ?_
  refine rg ?_
  refine q (vAs rfl) rfl ?_
  refine nil ?_
  refine thN ?_
  refine sq ?_
  refine sq ?_
  refine rg ?_
  refine q (vAs rfl) rfl ?_
  refine nil ?_
  refine thN ?_
  refine bk ?_
  refine nilsl 35 32 ?_
  refine loop (ι := Nat × Value) (fun (p : Nat × Value) => [(0, v), (3, p.2), (4, .int .i64 (p.1 : Int))]) (fun (p : Nat × Value) => [sl p.2 35 32 ((sortF (ids.take p.1)).map encId)]) (fun (p : Nat × Value) => fun S' => p.1 ≤ ids.length) (fun (p : Nat × Value) => ids.length - p.1) (0, .slice none 0 0) (Nat.zero_le _) (.cons rfl (by first | rfl | simp | (simp <;> omega)) (.cons rfl (by first | rfl | simp | (simp <;> omega)) (.cons rfl (by first | rfl | simp | (simp <;> omega)) .nil))) (.cons T0 (Ent.Le.of (by first | rfl | simp | (simp <;> omega))) .nil) ?_
  rintro ⟨i, w⟩ S2 hle2 h1
  replace hl := hl.mono hle2
  dsimp only at h1 ⊢
  have hso := sortF_len (ids.take i)
  rw [List.length_take] at hso
  have hri := sortF_rising (ids.take i)
  refine sq ?_
  refine sq ?_
  refine rg ?_
  refine q (vMv rfl) rfl ?_
  refine q (vMv rfl) rfl ?_
  refine q (SrcOk.len (srcP hl) Tryz.underlying27 rfl) rfl ?_
  refine q (vLt rfl rfl) rfl ?_
  refine nil ?_
  refine thN ?_
  refine cd rfl (fun hc => ?_) (fun hc => ?_) <;> try simp only [bls, beq_iff_eq, bne_iff_ne, Int.reduceToNat, List.length_map] at hc
  · skip
    have hi : i < ids.length := by omega
    have hnx := sortF_next ids i hi
    generalize sortF (ids.take i) = out at hso hri hnx
    obtain ⟨x, hx⟩ : ∃ x, ids.getD (i : Int).toNat default = x := ⟨_, rfl⟩
    have hx' : ids.getD i default = x := hx
    rw [hx'] at hnx
    refine sk ?_
    refine thN ?_
    refine sq ?_
    refine bk ?_
    refine sq ?_
    refine rg ?_
    refine q (vMv rfl) rfl ?_
    refine q (SrcOk.len (srcO T0) Tryz.underlying27 rfl) rfl ?_
    refine q (vAs rfl) rfl ?_
    refine nil ?_
    refine thN ?_
    refine sq ?_
    refine bk ?_
    refine loop (ι := Nat) (fun (n : Nat) => [(0, v), (3, w), (4, .int .i64 (i : Int)), (5, .int .i64 (n : Int))]) (fun (n : Nat) => [sl w 35 32 (out.map encId)]) (fun (n : Nat) => fun S' => n ≤ out.length ∧ ∀ k, n ≤ k → k < out.length → idN x < idN (out.getD k default)) (fun (n : Nat) => n) out.length ⟨Nat.le_refl _, fun k h h2 => by omega⟩ (.cons rfl (by first | rfl | simp | (simp <;> omega)) (.cons rfl (by first | rfl | simp | (simp <;> omega)) (.cons rfl (by first | rfl | simp | (simp <;> omega)) (.cons rfl (by first | rfl | simp | (simp <;> omega)) .nil)))) (.cons T0 (Ent.Le.of (by first | rfl | simp | (simp <;> omega))) .nil) ?_
    rintro n S3 hle3 ⟨h2, h3⟩
    replace hl := hl.mono hle3
    refine sq ?_
    refine sq ?_
    refine dr (.take 0 (.take 1 (.take 2 (.take 3 (.take 4 (.take 5 (.take 6 (.take 7 (.take 8 (.take 9 (.take 10 (.take 11 (.one 12 (.take 13 .done)))))))))))))) wide (by decide +kernel) _ _ (.cons T0 .nil) ?_
    refine pT rfl (vMv rfl) rfl ?_
    refine pT rfl (vGt rfl rfl) rfl ?_
    refine pT rfl (vMv rfl) rfl ?_
    apply pAnd 16 27 11
    · rfl
    · intro hb1 hX1
      have hc1 := hb1 ; try simp only [bls, beq_iff_eq, bne_iff_ne, Int.reduceToNat, List.length_map] at hc1
      refine pTT rfl ⟨_, rfl, rfl⟩ (vMv rfl) rfl ?_
      refine pTT rfl ⟨_, rfl, rfl⟩ (vMv rfl) rfl ?_
      refine pTT rfl ⟨_, rfl, rfl⟩ (vIxP sl27 rfl rfl hl (by first | omega | (simp only [Int.toNat_natCast, Int.reduceToNat, List.length_append, List.length_cons, List.length_nil, List.length_map, bid_len]; omega) | (simp <;> omega))) rfl ?_
      refine pTT rfl ⟨_, rfl, rfl⟩ (vLdA ag35 rfl (Rd.f1 (rP hl (gm (by first | omega | (simp only [Int.toNat_natCast, Int.reduceToNat, List.length_append, List.length_cons, List.length_nil, List.length_map, bid_len]; omega) | (simp <;> omega))))) (by simp)) rfl ?_
      refine pTT rfl ⟨_, rfl, rfl⟩ (vMv rfl) rfl ?_
      refine pTT rfl ⟨_, rfl, rfl⟩ (vMv rfl) rfl ?_
      refine pTT rfl ⟨_, rfl, rfl⟩ (vSub rfl rfl (by first | omega | (simp only [Int.toNat_natCast, Int.reduceToNat, List.length_append, List.length_cons, List.length_nil, List.length_map, bid_len]; omega) | (simp <;> omega))) rfl ?_
      refine pTT rfl ⟨_, rfl, rfl⟩ (vIxO sl27 rfl rfl T0 (by first | omega | (simp only [Int.toNat_natCast, Int.reduceToNat, List.length_append, List.length_cons, List.length_nil, List.length_map, bid_len]; omega) | (simp <;> omega))) rfl ?_
      refine pTT rfl ⟨_, rfl, rfl⟩ (vLdA ag35 rfl (Rd.f1 (rO T0 (gm (by first | omega | (simp only [Int.toNat_natCast, Int.reduceToNat, List.length_append, List.length_cons, List.length_nil, List.length_map, bid_len]; omega) | (simp <;> omega))))) (by simp)) rfl ?_
      refine pO ?_
      refine opT rfl rfl ⟨_, rfl, rfl⟩ (callP cf68 (ref_Less_spec _ _ _) rfl .nil rfl ?_)
      refine pK (Le.refl _) (.cons T0 .nil) ?_
      refine pT rfl (vPkT rfl rfl) rfl ?_
      exact gTT 11 16 rfl rfl rfl rfl hb1 hX1
    · intro hb1 hX1
      have hc1 := hb1 ; try simp only [bls, beq_iff_eq, bne_iff_ne, Int.reduceToNat, List.length_map] at hc1
      refine pTF rfl ⟨_, _, rfl, rfl, rfl⟩ rfl ?_
      refine pTF rfl ⟨_, _, rfl, rfl, rfl⟩ rfl ?_
      refine pTF rfl ⟨_, _, rfl, rfl, rfl⟩ rfl ?_
      refine pTF rfl ⟨_, _, rfl, rfl, rfl⟩ rfl ?_
      refine pTF rfl ⟨_, _, rfl, rfl, rfl⟩ rfl ?_
      refine pTF rfl ⟨_, _, rfl, rfl, rfl⟩ rfl ?_
      refine pTF rfl ⟨_, _, rfl, rfl, rfl⟩ rfl ?_
      refine pTF rfl ⟨_, _, rfl, rfl, rfl⟩ rfl ?_
      refine pTF rfl ⟨_, _, rfl, rfl, rfl⟩ rfl ?_
      refine pO ?_
      refine opF rfl ⟨_, _, rfl, rfl, rfl⟩ rfl ?_
      refine pK (Le.refl _) (.cons T0 .nil) ?_
      refine pT rfl (vPkF rfl rfl) rfl ?_
      exact gTF 11 16 rfl rfl rfl rfl hb1 hX1
    refine pDone ?_
    refine thN ?_
    refine cd rfl (fun hd => ?_) (fun hd => ?_) <;> try simp only [bls, beq_iff_eq, bne_iff_ne, Int.reduceToNat, List.length_map] at hd
    · skip
      have n1 : ((n : Int) - 1).toNat = n - 1 := by omega
      refine sk ?_
      refine thN ?_
      refine bk ?_
      refine rg ?_
      refine q (vMv rfl) rfl ?_
      refine q (vSub rfl rfl (by first | omega | (simp only [Int.toNat_natCast, Int.reduceToNat, List.length_append, List.length_cons, List.length_nil, List.length_map, bid_len]; omega) | (simp <;> omega))) rfl ?_
      refine q (vAs rfl) rfl ?_
      refine nil ?_
      refine bkN ?_
      refine thN ?_
      have h4 : idN x < idN (out.getD (n - 1) default) := by
        have := hd.2
        simp only [n1, idLt, decide_eq_true_eq] at this
        rwa [hx'] at this
      refine back (n - 1) (Le.refl _) ⟨⟨by omega, fun k hk hk2 => ?_⟩, by omega⟩ (.cons rfl (by first | rfl | (congr 1; omega)) (.cons rfl (by first | rfl | (congr 1; omega)) (.cons rfl (by first | rfl | (congr 1; omega)) (.cons rfl (by first | rfl | (congr 1; omega)) .nil)))) (.cons T0 (Ent.Le.of (by first | rfl | (congr 1; omega))) .nil)
      rcases Nat.lt_or_ge k n with h5 | h5
      · obtain rfl : k = n - 1 := by omega
        exact h4
      · exact h3 k h5 hk2
    · skip
      have hstop : n = 0 ∨ ¬ idN x < idN (out.getD (n - 1) default) := by
        rcases hd with hd | hd
        · exact .inl (by omega)
        · rcases Nat.eq_zero_or_pos n with h0 | h0
          · exact .inl h0
          · refine .inr ?_
            have n1 : ((n : Int) - 1).toNat = n - 1 := by omega
            simp only [n1, idLt, decide_eq_false_iff_not] at hd
            rwa [hx'] at hd
      refine xt ?_
      refine thX ?_
      refine thX ?_
      refine bkX ?_
      refine thN ?_
      refine sq ?_
      refine dr (.take 0 (.take 1 (.take 2 (.take 3 (.take 4 (.take 5 (.take 6 (.take 7 (.take 8 (.take 9 (.take 10 (.take 11 (.take 12 (.take 13 .done)))))))))))))) wide (by decide +kernel) _ _ (.cons T0 .nil) ?_
      refine pT rfl (vMv rfl) rfl ?_
      refine pT rfl (vEq rfl rfl) rfl ?_
      refine pT rfl (vMv rfl) rfl ?_
      apply pOr 32 43 11
      · rfl
      · intro hb2 hX2
        have hc2 := hb2 ; try simp only [bls, beq_iff_eq, bne_iff_ne, Int.reduceToNat, List.length_map] at hc2
        refine pTF rfl ⟨_, _, rfl, rfl, rfl⟩ rfl ?_
        refine pTF rfl ⟨_, _, rfl, rfl, rfl⟩ rfl ?_
        refine pTF rfl ⟨_, _, rfl, rfl, rfl⟩ rfl ?_
        refine pTF rfl ⟨_, _, rfl, rfl, rfl⟩ rfl ?_
        refine pTF rfl ⟨_, _, rfl, rfl, rfl⟩ rfl ?_
        refine pTF rfl ⟨_, _, rfl, rfl, rfl⟩ rfl ?_
        refine pTF rfl ⟨_, _, rfl, rfl, rfl⟩ rfl ?_
        refine pTF rfl ⟨_, _, rfl, rfl, rfl⟩ rfl ?_
        refine pTF rfl ⟨_, _, rfl, rfl, rfl⟩ rfl ?_
        refine pTF rfl ⟨_, _, rfl, rfl, rfl⟩ rfl ?_
        refine pT rfl (vPkT rfl rfl) rfl ?_
        exact gOT 11 32 rfl rfl rfl rfl hb2 hX2
      · intro hb2 hX2
        have hc2 := hb2 ; try simp only [bls, beq_iff_eq, bne_iff_ne, Int.reduceToNat, List.length_map] at hc2
        refine pTT rfl ⟨_, rfl, rfl⟩ (vMv rfl) rfl ?_
        refine pTT rfl ⟨_, rfl, rfl⟩ (vMv rfl) rfl ?_
        refine pTT rfl ⟨_, rfl, rfl⟩ (vSub rfl rfl (by first | omega | (simp only [Int.toNat_natCast, Int.reduceToNat, List.length_append, List.length_cons, List.length_nil, List.length_map, bid_len]; omega) | (simp <;> omega))) rfl ?_
        refine pTT rfl ⟨_, rfl, rfl⟩ (vIxO sl27 rfl rfl T0 (by first | omega | (simp only [Int.toNat_natCast, Int.reduceToNat, List.length_append, List.length_cons, List.length_nil, List.length_map, bid_len]; omega) | (simp <;> omega))) rfl ?_
        refine pTT rfl ⟨_, rfl, rfl⟩ (vLdA ag35 rfl (Rd.f1 (rO T0 (gm (by first | omega | (simp only [Int.toNat_natCast, Int.reduceToNat, List.length_append, List.length_cons, List.length_nil, List.length_map, bid_len]; omega) | (simp <;> omega))))) (by simp)) rfl ?_
        refine pTT rfl ⟨_, rfl, rfl⟩ (vMv rfl) rfl ?_
        refine pTT rfl ⟨_, rfl, rfl⟩ (vMv rfl) rfl ?_
        refine pTT rfl ⟨_, rfl, rfl⟩ (vIxP sl27 rfl rfl hl (by first | omega | (simp only [Int.toNat_natCast, Int.reduceToNat, List.length_append, List.length_cons, List.length_nil, List.length_map, bid_len]; omega) | (simp <;> omega))) rfl ?_
        refine pTT rfl ⟨_, rfl, rfl⟩ (vLdA ag35 rfl (Rd.f1 (rP hl (gm (by first | omega | (simp only [Int.toNat_natCast, Int.reduceToNat, List.length_append, List.length_cons, List.length_nil, List.length_map, bid_len]; omega) | (simp <;> omega))))) (by simp)) rfl ?_
        refine pTT rfl ⟨_, rfl, rfl⟩ (vNeA id35 rfl rfl) rfl ?_
        refine pT rfl (vPkF rfl rfl) rfl ?_
        exact gOF 11 32 rfl rfl rfl rfl hb2 hX2
      refine pDone ?_
      refine thN ?_
      refine cd rfl (fun he => ?_) (fun he => ?_) <;> try simp only [bls, beq_iff_eq, bne_iff_ne, Int.reduceToNat, List.length_map] at he
      · skip
        have hlo : x ∉ out ∧ low x out = n := by
          refine low_stop hri h2 h3 ?_
          rcases Nat.eq_zero_or_pos n with h0 | h0
          · exact .inl h0
          · refine .inr ?_
            rcases hstop with h6 | h6
            · omega
            · have hne : out.getD (n - 1) default ≠ x := by
                rcases he with he | he
                · omega
                · have n1 : ((n : Int) - 1).toNat = n - 1 := by omega
                  rw [n1, hx'] at he
                  exact he
              have : idN (out.getD (n - 1) default) ≠ idN x := fun h7 => hne (idN_inj h7)
              omega
        have hins : insF out x = out.take n ++ [x] ++ out.drop n := by rw [insF, if_neg hlo.1, hlo.2]
        refine dr (.take 1 (.take 2 (.take 3 (.take 5 (.take 6 (.take 7 (.take 8 (.take 11 (.take 12 (.take 13 (.two 0 9 (.two 4 9 (.one 9 (.one 10 (.one 14 (.take 15 .done)))) (.one 4 (.one 10 (.one 14 (.take 15 .done))))) (.one 0 (.one 4 (.one 10 (.one 14 (.take 15 .done)))))))))))))))) wide (by decide +kernel) _ _ (.cons T0 .nil) ?_
        refine pT rfl (vMv rfl) rfl ?_
        refine pT rfl (vMv rfl) rfl ?_
        refine pT rfl (vSli sl27 rfl (srcO T0) rfl ⟨_, rfl⟩ (by first | omega | (simp only [Int.toNat_natCast, Int.reduceToNat, List.length_append, List.length_cons, List.length_nil, List.length_map, bid_len]; omega) | (simp <;> omega))) rfl ?_
        refine pT rfl (vMv rfl) rfl ?_
        refine pT rfl (vMv rfl) rfl ?_
        refine pT rfl (vIxP sl27 rfl rfl hl (by first | omega | (simp only [Int.toNat_natCast, Int.reduceToNat, List.length_append, List.length_cons, List.length_nil, List.length_map, bid_len]; omega) | (simp <;> omega))) rfl ?_
        refine pT rfl (vLdA ag35 rfl (Rd.f1 (rP hl (gm (by first | omega | (simp only [Int.toNat_natCast, Int.reduceToNat, List.length_append, List.length_cons, List.length_nil, List.length_map, bid_len]; omega) | (simp <;> omega))))) (by simp)) rfl ?_
        refine pT rfl (vMv rfl) rfl ?_
        refine pT rfl (vMv rfl) rfl ?_
        refine pT rfl (vSli sl27 rfl (srcO T0) ⟨_, rfl⟩ rfl (by first | omega | (simp only [Int.toNat_natCast, Int.reduceToNat, List.length_append, List.length_cons, List.length_nil, List.length_map, bid_len]; omega) | (simp <;> omega))) rfl ?_
        simp only [hx]
        refine meet (ι := Value × Nat) (.one 10 (.one 14 (.take 15 .done))) (fun (p : Value × Nat) => [(0, v), (3, w), (4, .int .i64 (i : Int)), (5, .int .i64 (n : Int)), (48, p.1), (53, .slice (some ⟨p.2, 0, none⟩) 1 1), (57, vsub w n (out.map encId).length 32)]) (fun (p : Value × Nat) => [sl w 35 32 (out.map encId), sl p.1 35 32 ((out.map encId).take n), sl (.slice (some ⟨p.2, 0, none⟩) 1 1) 35 32 [encId x]]) (fun (p : Value × Nat) => fun S' => True) ?_ ?_
        · intro key0
          refine pO2 ?_ ?_
          · refine opL rfl rfl (bslice sl27 ze35 .nil (by simp) rfl rfl rfl rfl ?_)
            intro B44
            refine pK (Le.refl _) (.cons T1 .nil) ?_
            refine pO2 ?_ ?_
            · refine opL rfl rfl (app ap27 rfl rfl T0 (SrcOk.sub (srcO T1) (by first | omega | (simp only [Int.toNat_natCast, Int.reduceToNat, List.length_append, List.length_cons, List.length_nil, List.length_map, bid_len]; omega) | (simp <;> omega)) (by first | omega | (simp only [Int.toNat_natCast, Int.reduceToNat, List.length_append, List.length_cons, List.length_nil, List.length_map, bid_len]; omega) | (simp <;> omega))) (by first | omega | (simp only [Int.toNat_natCast, Int.reduceToNat, List.length_append, List.length_cons, List.length_nil, List.length_map, bid_len]; omega) | (simp <;> omega)) rfl ?_)
              intro v48 hv48
              refine pK (Le.refl _) (.cons T1 .nil) ?_
              refine pO ?_
              refine opL rfl rfl (bslice sl27 ze35 (.cA rfl .nil) (by simp) rfl rfl rfl rfl ?_)
              intro B53
              refine pK (Le.refl _) (.cons T2 .nil) ?_
              exact toKey key0 ((v48, B53)) (Le.refl _) trivial (.cons rfl (by first | rfl | (simp; done)) (.cons rfl (by first | rfl | (simp; done)) (.cons rfl (by first | rfl | (simp; done)) (.cons rfl (by first | rfl | (simp; done)) (.cons rfl (by first | rfl | (simp; done)) (.cons rfl (by first | rfl | (simp; done)) (.cons rfl (by first | rfl | (simp; done)) .nil))))))) (.cons T2 (Ent.Le.of (by first | rfl | (simp; done))) (.cons T1 (Ent.Le.of (by first | rfl | (simp; done))) (.cons T0 (Ent.Le.of (by first | rfl | (simp; done))) .nil)))
            · refine opL rfl rfl (bslice sl27 ze35 (.cA rfl .nil) (by simp) rfl rfl rfl rfl ?_)
              intro B53
              refine pK (Le.refl _) (.cons T2 .nil) ?_
              refine pO ?_
              refine opL rfl rfl (app ap27 rfl rfl T1 (SrcOk.sub (srcO T2) (by first | omega | (simp only [Int.toNat_natCast, Int.reduceToNat, List.length_append, List.length_cons, List.length_nil, List.length_map, bid_len]; omega) | (simp <;> omega)) (by first | omega | (simp only [Int.toNat_natCast, Int.reduceToNat, List.length_append, List.length_cons, List.length_nil, List.length_map, bid_len]; omega) | (simp <;> omega))) (by first | omega | (simp only [Int.toNat_natCast, Int.reduceToNat, List.length_append, List.length_cons, List.length_nil, List.length_map, bid_len]; omega) | (simp <;> omega)) rfl ?_)
              intro v48 hv48
              refine pK (Le.refl _) (.cons T2 .nil) ?_
              exact toKey key0 ((v48, B53)) (Le.refl _) trivial (.cons rfl (by first | rfl | (simp; done)) (.cons rfl (by first | rfl | (simp; done)) (.cons rfl (by first | rfl | (simp; done)) (.cons rfl (by first | rfl | (simp; done)) (.cons rfl (by first | rfl | (simp; done)) (.cons rfl (by first | rfl | (simp; done)) (.cons rfl (by first | rfl | (simp; done)) .nil))))))) (.cons T2 (Ent.Le.of (by first | rfl | (simp; done))) (.cons T0 (Ent.Le.of (by first | rfl | (simp; done))) (.cons T0 (Ent.Le.of (by first | rfl | (simp; done))) .nil)))
          · refine opL rfl rfl (bslice sl27 ze35 (.cA rfl .nil) (by simp) rfl rfl rfl rfl ?_)
            intro B53
            refine pK (Le.refl _) (.cons T1 .nil) ?_
            refine pO ?_
            refine opL rfl rfl (bslice sl27 ze35 .nil (by simp) rfl rfl rfl rfl ?_)
            intro B44
            refine pK (Le.refl _) (.cons T2 .nil) ?_
            refine pO ?_
            refine opL rfl rfl (app ap27 rfl rfl T0 (SrcOk.sub (srcO T2) (by first | omega | (simp only [Int.toNat_natCast, Int.reduceToNat, List.length_append, List.length_cons, List.length_nil, List.length_map, bid_len]; omega) | (simp <;> omega)) (by first | omega | (simp only [Int.toNat_natCast, Int.reduceToNat, List.length_append, List.length_cons, List.length_nil, List.length_map, bid_len]; omega) | (simp <;> omega))) (by first | omega | (simp only [Int.toNat_natCast, Int.reduceToNat, List.length_append, List.length_cons, List.length_nil, List.length_map, bid_len]; omega) | (simp <;> omega)) rfl ?_)
            intro v48 hv48
            refine pK (Le.refl _) (.cons T2 .nil) ?_
            exact toKey key0 ((v48, B53)) (Le.refl _) trivial (.cons rfl (by first | rfl | (simp; done)) (.cons rfl (by first | rfl | (simp; done)) (.cons rfl (by first | rfl | (simp; done)) (.cons rfl (by first | rfl | (simp; done)) (.cons rfl (by first | rfl | (simp; done)) (.cons rfl (by first | rfl | (simp; done)) (.cons rfl (by first | rfl | (simp; done)) .nil))))))) (.cons T2 (Ent.Le.of (by first | rfl | (simp; done))) (.cons T0 (Ent.Le.of (by first | rfl | (simp; done))) (.cons T0 (Ent.Le.of (by first | rfl | (simp; done))) .nil)))
        rintro ⟨w48, B53⟩ S9 hle9 _
        replace hl := hl.mono hle9
        dsimp only
        refine pO ?_
        refine opL rfl rfl (app ap27 rfl rfl T1 (srcO T2) (by first | omega | (simp only [Int.toNat_natCast, Int.reduceToNat, List.length_append, List.length_cons, List.length_nil, List.length_map, bid_len]; omega) | (simp <;> omega)) rfl ?_)
        intro v54 hv54
        refine pK hle9 (.cons T1 .nil) ?_
        refine pO ?_
        refine opL rfl rfl (app ap27 rfl rfl T0 (SrcOk.sub (srcO T1) (by first | omega | (simp only [Int.toNat_natCast, Int.reduceToNat, List.length_append, List.length_cons, List.length_nil, List.length_map, bid_len]; omega) | (simp <;> omega)) (by first | omega | (simp only [Int.toNat_natCast, Int.reduceToNat, List.length_append, List.length_cons, List.length_nil, List.length_map, bid_len]; omega) | (simp <;> omega))) (by first | omega | (simp only [Int.toNat_natCast, Int.reduceToNat, List.length_append, List.length_cons, List.length_nil, List.length_map, bid_len]; omega) | (simp <;> omega)) rfl ?_)
        intro v58 hv58
        refine pK hle9 (.cons T1 .nil) ?_
        refine pT rfl (vAs rfl) rfl ?_
        refine pDone ?_
        refine bkN ?_
        refine thN ?_
        refine rg ?_
        refine q (vMv rfl) rfl ?_
        refine q (vAdd rfl rfl (by first | omega | (simp only [Int.toNat_natCast, Int.reduceToNat, List.length_append, List.length_cons, List.length_nil, List.length_map, bid_len]; omega) | (simp <;> omega))) rfl ?_
        refine q (vAs rfl) rfl ?_
        refine nil ?_
        refine thN ?_
        have e3 : ((out.map encId).drop n).take ((out.map encId).length - n) = (out.drop n).map encId := by rw [List.take_of_length_le (by rw [List.length_drop]; exact Nat.le_refl _), List.map_drop]
        refine back ((i + 1, v58)) (hle3.trans hle9) ⟨by dsimp only; omega, by dsimp only; omega⟩ (.cons rfl (by first | rfl | (dsimp only; rw [hnx, hins, e3]; simp only [List.map_append, List.map_take, List.map_cons, List.map_nil]; done)) (.cons rfl (by first | rfl | (dsimp only; rw [hnx, hins, e3]; simp only [List.map_append, List.map_take, List.map_cons, List.map_nil]; done)) (.cons rfl (by first | rfl | (dsimp only; rw [hnx, hins, e3]; simp only [List.map_append, List.map_take, List.map_cons, List.map_nil]; done)) .nil))) (.cons T0 (Ent.Le.of (by first | rfl | (dsimp only; rw [hnx, hins, e3]; simp only [List.map_append, List.map_take, List.map_cons, List.map_nil]; done))) .nil)
      · skip
        have hm : x ∈ out := by
          obtain ⟨h0, h7⟩ := he
          have n1 : ((n : Int) - 1).toNat = n - 1 := by omega
          rw [n1, hx'] at h7
          rw [← h7, List.getD_eq_getElem?_getD, List.getElem?_eq_getElem (by omega : n - 1 < out.length)]
          exact List.getElem_mem _
        have hins : insF out x = out := by rw [insF, if_pos hm]
        refine sk ?_
        refine bkN ?_
        refine thN ?_
        refine rg ?_
        refine q (vMv rfl) rfl ?_
        refine q (vAdd rfl rfl (by first | omega | (simp only [Int.toNat_natCast, Int.reduceToNat, List.length_append, List.length_cons, List.length_nil, List.length_map, bid_len]; omega) | (simp <;> omega))) rfl ?_
        refine q (vAs rfl) rfl ?_
        refine nil ?_
        refine thN ?_
        refine back ((i + 1, w)) hle3 ⟨by dsimp only; omega, by dsimp only; omega⟩ (.cons rfl (by first | rfl | (rw [hnx, hins]; done) | (dsimp only; rw [hnx, hins])) (.cons rfl (by first | rfl | (rw [hnx, hins]; done) | (dsimp only; rw [hnx, hins])) (.cons rfl (by first | rfl | (rw [hnx, hins]; done) | (dsimp only; rw [hnx, hins])) .nil))) (.cons T0 (Ent.Le.of (by first | rfl | (rw [hnx, hins]; done) | (dsimp only; rw [hnx, hins]))) .nil)
  · skip
    have e1 : ids.take i = ids := List.take_of_length_le (by omega)
    rw [e1]
    refine xt ?_
    refine thX ?_
    refine thX ?_
    refine bkX ?_
    refine thN ?_
    refine sq ?_
    refine rg ?_
    refine q (vMv rfl) rfl ?_
    refine q (vAs rfl) rfl ?_
    refine nil ?_
    refine thN ?_
    refine rt ?_
    refine pub T0 (fun S51 hS51 hO => ?_)
    replace hl := hl.mono hS51
    refine ret rfl (.t rfl .nil) .nil ⟨hO, rfl⟩
end Go.Proofs.YtjmigoikklkfdaaGreatDoor
namespace Go.Proofs.YtjmigoikklkfdaaGreatDoor
open Go
set_option linter.unusedVariables false
set_option linter.unusedSimpArgs false
set_option maxRecDepth 4000
theorem slSc {C : Ctx} {S : Mem} {e : Env} {L L1 : List Ent} {X : Act → World → Prop} {v : Value} {T m : Nat} {xs : List (List Value)} (t : Take L (sl v T m xs) L1) (h : Sc v → W C S e L X) : W C S e L X := by
  intro a w hs
  have hc := hs.s.cls.own _ t.mem
  exact h (by rcases hc.2 with ⟨rfl, _⟩ | ⟨_, _, _, rfl, _⟩ <;> exact ⟨rfl⟩) a w hs
theorem compare_spec (x i : BId) (S : Mem) : PureL Tryz.prog 128 [idv x, idv i] S [] (.int .i64 (cmpId x i)) := by
  refine enter Tryz.func128 rfl 8 rfl rfl (fun w0 => ?_)
  refine sq ?_
  refine rg ?_
  refine l rfl (box rfl rfl ?_)
  intro B2
  refine l rfl (box rfl rfl ?_)
  intro B3
  refine q (vAs rfl) rfl ?_
  refine nil ?_
  refine thN ?_
  refine sq ?_
  refine dr (.take 0 (.take 1 (.one 2 (.take 3 .done)))) wide (by decide +kernel) _ _ (.cons T0 (.cons T0 .nil)) ?_
  refine pT rfl (vSlA ar35 rfl ) rfl ?_
  refine pT rfl (vSlA ar35 rfl ) rfl ?_
  refine pO ?_
  refine opL rfl rfl (callP cf144 (Compare_spec (srcRd (rB1 T0 (.z (.c .n))) (by first | exact bid_len _ | simp)) (srcRd (rB1 T1 (.z (.c .n))) (by first | exact bid_len _ | simp))) rfl (.cons T1 (.cons T0 .nil)) rfl ?_)
  refine pK (Le.refl _) (.cons T0 (.cons T0 .nil)) ?_
  refine pT rfl (vAs rfl) rfl ?_
  refine pDone ?_
  refine thN ?_
  refine rt ?_
  refine ret rfl (.t rfl .nil) .nil ⟨rfl, rfl, rfl⟩
theorem bs_id_spec {v : Value} {A : List BId} {S : Mem} {E1 : Ent} (hv : SrcOk S [E1] v 32 (A.map encId)) (x : BId) (hr : Rising A) (hlen : A.length < 1073741824) :
    PureL Tryz.prog 127 [v, idv x, .func (.func 128) #[] #[]] S [E1] (.tuple [.int .i64 (low x A : Nat), .bool (decide (x ∈ A))].toArray) := by
  have hp : (A.map idN).Pairwise (· < ·) := List.pairwise_map.2 hr
  have hkl : (A.map idN).length = A.length := by simp
  have hg : ∀ k, k < A.length → (A.map idN).getD k 0 = idN (A.getD k default) := fun k hk => by simp [List.getD, hk]
  refine enter Tryz.func127 rfl 49 rfl rfl (fun w0 => ?_)
  refine sq ?_
  refine rg ?_
  refine l rfl (box rfl rfl ?_)
  intro B4
  refine q (vAs rfl) rfl ?_
  refine q (vAs rfl) rfl ?_
  refine nil ?_
  refine thN ?_
  refine sq ?_
  refine rg ?_
  refine q (vMv rfl) rfl ?_
  refine q (SrcOk.len (SrcOk.takes hv (.cons T1 .nil)) Tryz.underlying145 rfl) rfl ?_
  refine q (vAs rfl) rfl ?_
  refine nil ?_
  refine thN ?_
  refine sq ?_
  refine rg ?_
  refine q (vMv rfl) rfl ?_
  refine q (vAs rfl) rfl ?_
  refine q (vAs rfl) rfl ?_
  refine nil ?_
  refine thN ?_
  refine sq ?_
  refine bk ?_
  refine loop (ι := Nat × Nat) (fun (p : Nat × Nat) => [(0, v), (2, .func (.func 128) #[] #[]), (4, .pointer (some ⟨B4, 0, none⟩)), (8, .int .i64 (A.length : Int)), (9, .int .i64 (p.1 : Int)), (10, .int .i64 (p.2 : Int))]) (fun (p : Nat × Nat) => [E1, blk B4 35 [encId x]]) (fun (p : Nat × Nat) => fun S' => (p.1 ≤ p.2 ∧ p.2 ≤ A.length) ∧ (∀ k, k < p.1 → (A.map idN).getD k 0 < idN x) ∧ (p.2 < A.length → idN x ≤ (A.map idN).getD p.2 0)) (fun (p : Nat × Nat) => p.2 - p.1) (0, A.length) ⟨⟨Nat.zero_le _, Nat.le_refl _⟩, fun k h => absurd h (Nat.not_lt_zero _), fun h => absurd h (Nat.lt_irrefl _)⟩ (.cons rfl (by first | rfl | simp | (simp <;> omega)) (.cons rfl (by first | rfl | simp | (simp <;> omega)) (.cons rfl (by first | rfl | simp | (simp <;> omega)) (.cons rfl (by first | rfl | simp | (simp <;> omega)) (.cons rfl (by first | rfl | simp | (simp <;> omega)) (.cons rfl (by first | rfl | simp | (simp <;> omega)) .nil)))))) (.cons T1 (Ent.Le.of (by first | rfl | simp | (simp <;> omega))) (.cons T0 (Ent.Le.of (by first | rfl | simp | (simp <;> omega))) .nil)) ?_
  rintro ⟨i, j⟩ S2 hle2 ⟨⟨h1, h2⟩, h3, h4⟩
  replace hv := hv.mono hle2
  dsimp only at h1 h2 h3 h4 ⊢
  refine sq ?_
  refine sq ?_
  refine rg ?_
  refine q (vMv rfl) rfl ?_
  refine q (vMv rfl) rfl ?_
  refine q (vLt rfl rfl) rfl ?_
  refine nil ?_
  refine thN ?_
  refine cd rfl (fun hc => ?_) (fun hc => ?_) <;> try simp only [bls, beq_iff_eq, bne_iff_ne, Int.reduceToNat, List.length_map] at hc
  · skip
    refine sk ?_
    refine thN ?_
    refine bk ?_
    refine sq ?_
    refine rg ?_
    refine q (vMv rfl) rfl ?_
    refine q (vMv rfl) rfl ?_
    refine q (vAdd rfl rfl (by first | omega | (simp only [Int.toNat_natCast, Int.reduceToNat, List.length_append, List.length_cons, List.length_nil, List.length_map, bid_len]; omega) | (simp <;> omega))) rfl ?_
    refine q (vCvN Tryz.underlying192 Tryz.underlying3 rfl (by first | omega | (simp only [Int.toNat_natCast, Int.reduceToNat, List.length_append, List.length_cons, List.length_nil, List.length_map, bid_len]; omega) | (simp <;> omega))) rfl ?_
    refine q (vHalf (i + j) rfl rfl (by omega)) rfl ?_
    refine q (vCvI Tryz.underlying3 Tryz.underlying192 rfl (by first | omega | (simp only [Int.toNat_natCast, Int.reduceToNat, List.length_append, List.length_cons, List.length_nil, List.length_map, bid_len]; omega) | (simp <;> omega))) rfl ?_
    refine q (vAs rfl) rfl ?_
    refine nil ?_
    refine thN ?_
    refine sq ?_
    refine dr (.take 0 (.take 1 (.take 2 (.take 3 (.take 4 (.take 5 (.one 6 (.take 7 .done)))))))) wide (by decide +kernel) _ _ (.cons T0 (.cons T0 .nil)) ?_
    refine pT rfl (vMv rfl) rfl ?_
    refine pT rfl (vMv rfl) rfl ?_
    refine pT rfl (vMv rfl) rfl ?_
    refine pT rfl (vIxSrc sl145 rfl rfl (SrcOk.takes hv (.cons T0 .nil)) (by first | omega | (simp only [Int.toNat_natCast, Int.reduceToNat, List.length_append, List.length_cons, List.length_nil, List.length_map, bid_len]; omega) | (simp <;> omega))) rfl ?_
    refine pT rfl (vLdA ag35 rfl (Rd.f1 (rSrc (SrcOk.takes hv (.cons T0 .nil)) (gm (by first | omega | (simp only [Int.toNat_natCast, Int.reduceToNat, List.length_append, List.length_cons, List.length_nil, List.length_map, bid_len]; omega) | (simp <;> omega))))) (by simp)) rfl ?_
    refine pT rfl (vLdA ag35 rfl (rB T1 (.z (.c .n))) (by simp)) rfl ?_
    refine pO ?_
    refine opL rfl rfl (callV0P cf128 rfl (compare_spec _ _ _) rfl .nil rfl ?_)
    refine pK (Le.refl _) (.cons T0 (.cons T0 .nil)) ?_
    refine pT rfl (vLt rfl rfl) rfl ?_
    refine pDone ?_
    refine thN ?_
    have hh1 : i ≤ (i + j) / 2 := by omega
    have hh2 : (i + j) / 2 < j := by omega
    generalize (i + j) / 2 = h at hh1 hh2 ⊢
    have hk := hg h (by omega)
    refine cd rfl (fun hd => ?_) (fun hd => ?_) <;> try simp only [bls, beq_iff_eq, bne_iff_ne, Int.reduceToNat, List.length_map] at hd
    · skip
      have hlt : idN (A.getD h default) < idN x := cmpN_neg.1 hd
      refine rg ?_
      refine q (vMv rfl) rfl ?_
      refine q (vAdd rfl rfl (by first | omega | (simp only [Int.toNat_natCast, Int.reduceToNat, List.length_append, List.length_cons, List.length_nil, List.length_map, bid_len]; omega) | (simp <;> omega))) rfl ?_
      refine q (vAs rfl) rfl ?_
      refine nil ?_
      refine bkN ?_
      refine thN ?_
      refine back ((h + 1, j)) (Le.refl _) ⟨⟨⟨by dsimp only; omega, h2⟩, ?_, h4⟩, by dsimp only; omega⟩ (.cons rfl (by first | rfl | simp | (simp <;> omega)) (.cons rfl (by first | rfl | simp | (simp <;> omega)) (.cons rfl (by first | rfl | simp | (simp <;> omega)) (.cons rfl (by first | rfl | simp | (simp <;> omega)) (.cons rfl (by first | rfl | simp | (simp <;> omega)) (.cons rfl (by first | rfl | simp | (simp <;> omega)) .nil)))))) (.cons T0 (Ent.Le.of (by first | rfl | simp | (simp <;> omega))) (.cons T0 (Ent.Le.of (by first | rfl | simp | (simp <;> omega))) .nil))
      intro k hkk
      dsimp only at hkk
      rcases Nat.lt_or_ge k h with h5 | h5
      · have h6 := List.pairwise_iff_getElem.1 hp k h (by omega) (by omega) h5
        have e1 : (A.map idN).getD k 0 = (A.map idN)[k]'(by omega) := by simp [List.getD, show k < A.length by omega]
        have e2 : (A.map idN).getD h 0 = (A.map idN)[h]'(by omega) := by simp [List.getD, show h < A.length by omega]
        omega
      · obtain rfl : k = h := by omega
        omega
    · skip
      have hge : ¬ idN (A.getD h default) < idN x := fun hh => by
        have : cmpId (A.getD h default) x < 0 := cmpN_neg.2 hh
        omega
      refine rg ?_
      refine q (vMv rfl) rfl ?_
      refine q (vAs rfl) rfl ?_
      refine nil ?_
      refine bkN ?_
      refine thN ?_
      refine back ((i, h)) (Le.refl _) ⟨⟨⟨hh1, by dsimp only; omega⟩, h3, fun _ => by dsimp only; omega⟩, by dsimp only; omega⟩ (.cons rfl (by first | rfl | simp | (simp <;> omega)) (.cons rfl (by first | rfl | simp | (simp <;> omega)) (.cons rfl (by first | rfl | simp | (simp <;> omega)) (.cons rfl (by first | rfl | simp | (simp <;> omega)) (.cons rfl (by first | rfl | simp | (simp <;> omega)) (.cons rfl (by first | rfl | simp | (simp <;> omega)) .nil)))))) (.cons T0 (Ent.Le.of (by first | rfl | simp | (simp <;> omega))) (.cons T0 (Ent.Le.of (by first | rfl | simp | (simp <;> omega))) .nil))
  · skip
    obtain rfl : i = j := by omega
    have hlow : low x A = i := lowN_unique _ _ _ (by omega) h3 (fun h => h4 (by omega))
    have hm := low_mem (x := x) hr
    rw [hlow] at hm ⊢
    refine xt ?_
    refine thX ?_
    refine thX ?_
    refine bkX ?_
    refine thN ?_
    refine sq ?_
    refine dr (.take 0 (.take 1 (.take 2 (.take 3 (.take 4 (.take 5 (.take 6 (.take 7 (.take 8 (.take 9 (.take 10 (.one 11 (.take 12 (.take 13 (.take 14 (.take 15 .done)))))))))))))))) wide (by decide +kernel) _ _ (.cons T0 (.cons T0 .nil)) ?_
    refine pT rfl (vMv rfl) rfl ?_
    refine pT rfl (vMv rfl) rfl ?_
    refine pT rfl (vMv rfl) rfl ?_
    refine pT rfl (vLt rfl rfl) rfl ?_
    refine pT rfl (vMv rfl) rfl ?_
    apply pAnd 39 48 9
    · rfl
    · intro hb1 hX1
      have hc1 := hb1 ; try simp only [bls, beq_iff_eq, bne_iff_ne, Int.reduceToNat, List.length_map] at hc1
      refine pTT rfl ⟨_, rfl, rfl⟩ (vMv rfl) rfl ?_
      refine pTT rfl ⟨_, rfl, rfl⟩ (vMv rfl) rfl ?_
      refine pTT rfl ⟨_, rfl, rfl⟩ (vMv rfl) rfl ?_
      refine pTT rfl ⟨_, rfl, rfl⟩ (vIxSrc sl145 rfl rfl (SrcOk.takes hv (.cons T0 .nil)) (by first | omega | (simp only [Int.toNat_natCast, Int.reduceToNat, List.length_append, List.length_cons, List.length_nil, List.length_map, bid_len]; omega) | (simp <;> omega))) rfl ?_
      refine pTT rfl ⟨_, rfl, rfl⟩ (vLdA ag35 rfl (Rd.f1 (rSrc (SrcOk.takes hv (.cons T0 .nil)) (gm (by first | omega | (simp only [Int.toNat_natCast, Int.reduceToNat, List.length_append, List.length_cons, List.length_nil, List.length_map, bid_len]; omega) | (simp <;> omega))))) (by simp)) rfl ?_
      refine pTT rfl ⟨_, rfl, rfl⟩ (vLdA ag35 rfl (rB T1 (.z (.c .n))) (by simp)) rfl ?_
      refine pO ?_
      refine opT rfl rfl ⟨_, rfl, rfl⟩ (callV0P cf128 rfl (compare_spec _ _ _) rfl .nil rfl ?_)
      refine pK (Le.refl _) (.cons T0 (.cons T0 .nil)) ?_
      refine pTT rfl ⟨_, rfl, rfl⟩ (vEq rfl rfl) rfl ?_
      refine pT rfl (vPkT rfl rfl) rfl ?_
      exact gTT 9 39 rfl rfl rfl rfl hb1 hX1
    · intro hb1 hX1
      have hc1 := hb1 ; try simp only [bls, beq_iff_eq, bne_iff_ne, Int.reduceToNat, List.length_map] at hc1
      refine pTF rfl ⟨_, _, rfl, rfl, rfl⟩ rfl ?_
      refine pTF rfl ⟨_, _, rfl, rfl, rfl⟩ rfl ?_
      refine pTF rfl ⟨_, _, rfl, rfl, rfl⟩ rfl ?_
      refine pTF rfl ⟨_, _, rfl, rfl, rfl⟩ rfl ?_
      refine pTF rfl ⟨_, _, rfl, rfl, rfl⟩ rfl ?_
      refine pTF rfl ⟨_, _, rfl, rfl, rfl⟩ rfl ?_
      refine pO ?_
      refine opF rfl ⟨_, _, rfl, rfl, rfl⟩ rfl ?_
      refine pK (Le.refl _) (.cons T0 (.cons T0 .nil)) ?_
      refine pTF rfl ⟨_, _, rfl, rfl, rfl⟩ rfl ?_
      refine pT rfl (vPkF rfl rfl) rfl ?_
      exact gTF 9 39 rfl rfl rfl rfl hb1 hX1
    refine pT rfl (vAs rfl) rfl ?_
    refine pT rfl (vAs rfl) rfl ?_
    refine pDone ?_
    refine thN ?_
    refine rt ?_
    refine retP rfl (.t rfl (.t rfl .nil)) (.t T0 .nil) ⟨?_, rfl, rfl⟩
    have e1 : (decide ((i : Int) < (A.length : Int)) && decide (cmpId (A.getD (i : Int).toNat default) x = 0)) = decide (x ∈ A) := by
      rw [← hm, Bool.eq_iff_iff]
      simp only [Bool.and_eq_true, decide_eq_true_eq, Int.toNat_natCast, List.length_map]
      constructor
      · rintro ⟨h5, h6⟩
        have h5' : i < A.length := by omega
        refine ⟨h5', ?_⟩
        have h7 := idN_inj (cmpN_zero.1 h6)
        simp only [List.getD, List.getElem?_map, h5', List.getElem?_eq_getElem, Option.map_some, Option.getD_some] at h7 ⊢
        exact h7
      · rintro ⟨h5, h6⟩
        refine ⟨by omega, ?_⟩
        simp only [List.getD, List.getElem?_map, h5, List.getElem?_eq_getElem, Option.map_some, Option.getD_some] at h6 ⊢
        rw [h6]; exact cmpN_self _
    rw [e1]; rfl
theorem insert_id_spec {v u : Value} {xs : List (List Value)} {y : List Value} (i : Nat) (hi : i ≤ xs.length) (hl : xs.length < 1073741824) (ho : ∀ c, c ∈ xs.flatten → c.oneCell' = true) (hy : ∀ c, c ∈ y → c.oneCell' = true) (hym : y.length = 32) (S : Mem) :
    Spec Tryz.prog 129 [v, .int .i64 (i : Int), u] S [sl v 35 32 xs, sl u 35 32 [y]] (fun S' r L' => S' = S ∧ Sc r ∧ L' = [sl r 35 32 (xs.take i ++ [y] ++ xs.drop i)]) := by
  haveI hO : Ones [y] := ⟨fun c hc => hy c (by simpa using hc)⟩
  have hy1 : (([y] : List (List Value)).length : Int) = 1 := rfl
  refine enter Tryz.func129 rfl 95 rfl rfl (fun w0 => ?_)
  refine sq ?_
  refine rg ?_
  refine q (vAs rfl) rfl ?_
  refine nil ?_
  refine thN ?_
  refine sq ?_
  refine rg ?_
  refine q (vMv rfl) rfl ?_
  refine q (vMv rfl) rfl ?_
  refine q (vSli sl145 rfl (srcO T0) ⟨_, rfl⟩ rfl (by first | omega | (simp only [Int.toNat_natCast, Int.reduceToNat, List.length_append, List.length_cons, List.length_nil, List.length_map, bid_len]; omega) | (simp <;> omega))) rfl ?_
  refine nil ?_
  refine thN ?_
  refine sq ?_
  refine rg ?_
  refine q (vMv rfl) rfl ?_
  refine q (id (α := Val Tryz.prog _ _ _ _ _ (.int .i64 ((1 : Nat) : Int))) (SrcOk.len (srcO T1) Tryz.underlying27 rfl)) rfl ?_
  refine q (vAs rfl) rfl ?_
  refine nil ?_
  refine thN ?_
  refine sq ?_
  refine sq ?_
  refine rg ?_
  refine q (vMv rfl) rfl ?_
  refine q (vEq rfl rfl) rfl ?_
  refine nil ?_
  refine thN ?_
  refine cd rfl (fun hz => ?_) (fun hz => ?_) <;> try simp only [bls, beq_iff_eq, bne_iff_ne, Int.reduceToNat, List.length_map] at hz
  · skip
    omega
  · skip
    refine sk ?_
    refine thN ?_
    refine sq ?_
    refine rg ?_
    refine q (vMv rfl) rfl ?_
    refine q (SrcOk.len (srcO T0) Tryz.underlying145 rfl) rfl ?_
    refine q (vAs rfl) rfl ?_
    refine nil ?_
    refine thN ?_
    refine sq ?_
    refine sq ?_
    refine rg ?_
    refine q (vMv rfl) rfl ?_
    refine q (vMv rfl) rfl ?_
    refine q (vEq rfl rfl) rfl ?_
    refine nil ?_
    refine thN ?_
    refine cd rfl (fun hn => ?_) (fun hn => ?_) <;> try simp only [bls, beq_iff_eq, bne_iff_ne, Int.reduceToNat, List.length_map] at hn
    · skip
      have hin : i = xs.length := by omega
      subst hin
      refine sq ?_
      refine rg ?_
      refine q (vMv rfl) rfl ?_
      refine q (vMv rfl) rfl ?_
      refine l rfl (appD ap145 Tryz.underlying27 rfl rfl T0 (srcO T1) (by first | omega | (simp only [Int.toNat_natCast, Int.reduceToNat, List.length_append, List.length_cons, List.length_nil, List.length_map, bid_len]; omega) | (simp <;> omega)) rfl ?_)
      intro v25 hv25
      refine q (vAs rfl) rfl ?_
      refine nil ?_
      refine thN ?_
      refine rt ?_
      refine thR ?_
      have e1 : xs.take xs.length ++ [y] ++ xs.drop xs.length = xs ++ [y] := by rw [List.take_length, List.drop_length, List.append_nil]
      refine ret rfl (.t rfl .nil) (.t T0 .nil) ⟨rfl, hv25, by rw [e1]; rfl⟩
    · skip
      have hin : i < xs.length := by omega
      refine slRow T0 (fun _ h => by subst h; simp at hin) ?_
      rintro g cap sp rfl hc1 hc2 hsp hxm
      refine slRow T1 (fun _ h => by cases h) ?_
      rintro gu capu spu rfl hcu1 hcu2 hspu hum
      have hA : (xs.take i).flatten.length = i * 32 := by rw [flat_len (fun x hx => hxm x (List.mem_of_mem_take hx)), List.length_take]; congr 1; omega
      have hD : (xs.drop i).flatten.length = (xs.length - i) * 32 := by rw [flat_len (fun x hx => hxm x (List.mem_of_mem_drop hx)), List.length_drop]
      have hX : xs.flatten = (xs.take i).flatten ++ (xs.drop i).flatten := by rw [← List.flatten_append, List.take_append_drop]
      have hoD : ∀ c, c ∈ (xs.drop i).flatten → c.oneCell' = true := fun c hc => ho c (by rw [hX]; exact List.mem_append_right _ hc)
      have hXD : ∀ (j : Nat) (w : Value), (xs.drop i).flatten[j]? = some w → ((xs.flatten ++ sp : List Value))[i * 32 + j]? = some w := by
        intro j w hj
        have hlt : j < (xs.drop i).flatten.length := by
          rcases Nat.lt_or_ge j (xs.drop i).flatten.length with h | h
          · exact h
          · rw [List.getElem?_eq_none h] at hj; cases hj
        rw [hX, List.append_assoc, List.getElem?_append_right (by omega), List.getElem?_append_left (by omega), hA]
        rw [← hj]; congr 1; omega
      have hXA : ∀ (j : Nat) (w : Value), (xs.take i).flatten[j]? = some w → ((xs.flatten ++ sp : List Value))[j]? = some w := by
        intro j w hj
        have hlt : j < (xs.take i).flatten.length := by
          rcases Nat.lt_or_ge j (xs.take i).flatten.length with h | h
          · exact h
          · rw [List.getElem?_eq_none h] at hj; cases hj
        rw [hX, List.append_assoc, List.getElem?_append_left hlt]; exact hj
      have hYu : ∀ (j : Nat) (w : Value), y[j]? = some w → (([y] : List (List Value)).flatten ++ spu)[0 + j]? = some w := by
        intro j w hj
        have hlt : j < y.length := by
          rcases Nat.lt_or_ge j y.length with h | h
          · exact h
          · rw [List.getElem?_eq_none h] at hj; cases hj
        rw [Nat.zero_add]
        simp only [List.flatten_cons, List.flatten_nil, List.append_nil]
        rw [List.getElem?_append_left hlt]; exact hj
      have hfin : ∀ x, x ∈ xs.take i ++ [y] ++ xs.drop i → x.length = 32 := by
        intro x hx
        simp only [List.mem_append, List.mem_singleton] at hx
        rcases hx with (hx | hx) | hx
        · exact hxm x (List.mem_of_mem_take hx)
        · rw [hx]; exact hym
        · exact hxm x (List.mem_of_mem_drop hx)
      have hfl : (xs.take i ++ [y] ++ xs.drop i).flatten = (xs.take i).flatten ++ y ++ (xs.drop i).flatten := by simp
      have hfn : (xs.take i ++ [y] ++ xs.drop i).length = xs.length + 1 := by simp; omega
      refine sk ?_
      refine thN ?_
      refine sq ?_
      refine sq ?_
      refine rg ?_
      refine q (vMv rfl) rfl ?_
      refine q (vMv rfl) rfl ?_
      refine q (vAdd rfl rfl (by first | omega | (simp only [Int.toNat_natCast, Int.reduceToNat, List.length_append, List.length_cons, List.length_nil, List.length_map, bid_len]; omega) | (simp <;> omega))) rfl ?_
      refine q (vMv rfl) rfl ?_
      refine q (vCapR Tryz.underlying145 rfl) rfl ?_
      refine q (vGt rfl rfl) rfl ?_
      refine nil ?_
      refine thN ?_
      refine cd rfl (fun hr => ?_) (fun hr => ?_) <;> try simp only [bls, beq_iff_eq, bne_iff_ne, Int.reduceToNat, List.length_map] at hr
      · skip
        have hI1 : (i : Int) + ((1 : Nat) : Int) = ((i + 1 : Nat) : Int) := by omega
        refine sq ?_
        refine rg ?_
        refine q (vMv rfl) rfl ?_
        refine q (vMv rfl) rfl ?_
        refine q (vSlHi i sl145 rfl ⟨_, _, rfl, rfl⟩ (by omega)) rfl ?_
        refine q (vMv rfl) rfl ?_
        refine q (vMv rfl) rfl ?_
        refine q (vAdd rfl rfl (by first | omega | (simp only [Int.toNat_natCast, Int.reduceToNat, List.length_append, List.length_cons, List.length_nil, List.length_map, bid_len]; omega) | (simp <;> omega))) rfl ?_
        refine q (vMv rfl) rfl ?_
        refine q (vSub rfl rfl (by first | omega | (simp only [Int.toNat_natCast, Int.reduceToNat, List.length_append, List.length_cons, List.length_nil, List.length_map, bid_len]; omega) | (simp <;> omega))) rfl ?_
        refine l rfl (appZ (os := xs.take i) (k := xs.length + 1 - i) ap145 Tryz.underlying3 rfl rfl (by omega) (srcRow (ys := xs.take i) T1 (fun x hx => hxm x (List.mem_of_mem_take hx)) (by rw [List.length_take]; omega) (by omega) (fun j w hj => by rw [Nat.zero_add]; exact hXA j w hj)) (by rw [List.length_take]; omega) (fun x hx => hxm x (List.mem_of_mem_take hx)) (by omega) (by omega) (by omega) (by omega) rfl ?_)
        intro g2 cap2 zs hq1 hq2 hq3
        refine q (vAs rfl) rfl ?_
        refine nil ?_
        refine thN ?_
        refine sq ?_
        refine rg ?_
        refine q (vMv rfl) rfl ?_
        refine q (vMv rfl) rfl ?_
        refine q (vSlRow i (i + (xs.length + 1 - i)) sl145 rfl ⟨_, _, rfl, rfl⟩ rfl ⟨by omega, by omega, .inr (by omega)⟩) rfl ?_
        refine q (vMv rfl) rfl ?_
        refine l rfl (cpyM sl145 rfl rfl T0 (cpRow (cnt := 1) (news := y) T1 (by show min 1 _ = 1; omega) (by omega) hYu) hy (by simp only [List.length_append]; omega) rfl ?_)
        refine nil ?_
        refine thN ?_
        refine sq ?_
        have eL1 : ((xs.take i).flatten ++ zs).take (0 + i * 32) ++ y ++ ((xs.take i).flatten ++ zs).drop (0 + i * 32 + y.length) = (xs.take i).flatten ++ y ++ zs.drop y.length := by
          rw [Nat.zero_add, ← hA]; exact ins_cells (D := []) (by omega)
        rw [eL1]
        have hAy : ((xs.take i).flatten ++ y).length = (i + 1) * 32 := by rw [List.length_append, hA, hym, Nat.add_mul, Nat.one_mul]
        refine dr (.take 0 (.take 1 (.take 2 (.take 3 (.take 4 (.take 5 (.take 6 (.take 7 (.one 8 .done))))))))) wide (by decide +kernel) _ _ (.cons T1 (.cons T1 .nil)) ?_
        refine pT rfl (vMv rfl) rfl ?_
        refine pT rfl (vMv rfl) rfl ?_
        refine pT rfl (vMv rfl) rfl ?_
        refine pT rfl (vAdd rfl rfl (by first | omega | (simp only [Int.toNat_natCast, Int.reduceToNat, List.length_append, List.length_cons, List.length_nil, List.length_map, bid_len]; omega) | (simp <;> omega))) rfl ?_
        refine pT rfl (vSlRow (i + 1) (i + (xs.length + 1 - i)) sl145 rfl ⟨_, _, rfl, hI1⟩ rfl ⟨by omega, by omega, .inr (by omega)⟩) rfl ?_
        refine pT rfl (vMv rfl) rfl ?_
        refine pT rfl (vMv rfl) rfl ?_
        refine pT rfl (vSlRow i xs.length sl145 rfl ⟨_, _, rfl, rfl⟩ rfl ⟨by omega, by omega, .inr (by omega)⟩) rfl ?_
        refine pO ?_
        refine opL rfl rfl (cpyM sl145 rfl rfl T0 (cpRow (cnt := xs.length - i) (news := (xs.drop i).flatten) T2 (by show min _ _ = _; omega) hD (fun j w hj => by rw [Nat.zero_add]; exact hXD j w hj)) hoD (by rw [List.length_append, hAy, List.length_drop, hD]; omega) rfl ?_)
        refine pK (Le.refl _) (.cons T1 (.cons T1 .nil)) ?_
        refine pDone ?_
        refine thN ?_
        refine sq ?_
        have eL2 : ((xs.take i).flatten ++ y ++ zs.drop y.length).take (0 + (i + 1) * 32) ++ (xs.drop i).flatten ++ ((xs.take i).flatten ++ y ++ zs.drop y.length).drop (0 + (i + 1) * 32 + (xs.drop i).flatten.length) = (xs.take i).flatten ++ y ++ (xs.drop i).flatten ++ (zs.drop y.length).drop (xs.drop i).flatten.length := by
          rw [Nat.zero_add, ← hAy]; exact ins_cells (D := []) (by rw [List.length_drop, hD]; omega)
        rw [eL2]
        refine ents _ (.cons T0 (rowSl (xs := xs.take i ++ [y] ++ xs.drop i) (m := 32) (cap := cap2) (n := i + (xs.length + 1 - i)) (by rw [hfn]; omega) hfin (by rw [hfn]; omega) hq2 (by
          simp only [List.length_append, List.length_drop, hA, hD, hym, hq3]; omega) (by
          rw [hfl, hfn]
          refine List.take_left' ?_
          simp only [List.length_append, hA, hD, hym]; omega)) .nil) ?_
        refine rg ?_
        refine q (vMv rfl) rfl ?_
        refine q (vAs rfl) rfl ?_
        refine nil ?_
        refine thN ?_
        refine rt ?_
        refine thR ?_
        refine ret rfl (.t rfl .nil) (.t T0 .nil) ⟨rfl, ⟨rfl⟩, rfl⟩
      · skip
        have hcn : xs.length + 1 ≤ cap := by omega
        have hI1 : (i : Int) + ((1 : Nat) : Int) = ((i + 1 : Nat) : Int) := by omega
        have hne : [xs.flatten ++ sp].flatten ≠ [] := by
          intro h
          have := congrArg List.length h
          simp only [List.flatten_cons, List.flatten_nil, List.append_nil, List.length_append, hX, hA, hD, List.length_nil] at this
          omega
        refine sk ?_
        refine thN ?_
        refine sq ?_
        refine rg ?_
        refine q (vMv rfl) rfl ?_
        refine q (vMv rfl) rfl ?_
        refine q (vMv rfl) rfl ?_
        refine q (vAdd rfl rfl (by first | omega | (simp only [Int.toNat_natCast, Int.reduceToNat, List.length_append, List.length_cons, List.length_nil, List.length_map, bid_len]; omega) | (simp <;> omega))) rfl ?_
        refine q (vSlHi (xs.length + 1) sl145 rfl ⟨_, _, rfl, by omega⟩ (by omega)) rfl ?_
        refine q (vAs rfl) rfl ?_
        refine nil ?_
        refine thN ?_
        refine sq ?_
        refine sq ?_
        refine rg ?_
        refine q (vMv rfl) rfl ?_
        refine q (vMv rfl) rfl ?_
        refine q (vMv rfl) rfl ?_
        refine q (vMv rfl) rfl ?_
        refine q (vAdd rfl rfl (by first | omega | (simp only [Int.toNat_natCast, Int.reduceToNat, List.length_append, List.length_cons, List.length_nil, List.length_map, bid_len]; omega) | (simp <;> omega))) rfl ?_
        refine q (vSlRow (i + 1) (xs.length + 1) sl145 rfl ⟨_, _, rfl, hI1⟩ rfl ⟨by omega, by omega, .inr (by omega)⟩) rfl ?_
        refine q (vOvl ov167 sl27 rfl rfl (.cons T0 (.cons T0 .nil)) hne) rfl ?_
        refine q (vNot rfl) rfl ?_
        refine nil ?_
        refine thN ?_
        refine cT rfl ?_
        refine sq ?_
        refine dr (.take 0 (.take 1 (.take 2 (.take 3 (.take 4 (.take 5 (.take 6 (.take 7 (.one 8 .done))))))))) wide (by decide +kernel) _ _ (.cons T0 .nil) ?_
        refine pT rfl (vMv rfl) rfl ?_
        refine pT rfl (vMv rfl) rfl ?_
        refine pT rfl (vMv rfl) rfl ?_
        refine pT rfl (vAdd rfl rfl (by first | omega | (simp only [Int.toNat_natCast, Int.reduceToNat, List.length_append, List.length_cons, List.length_nil, List.length_map, bid_len]; omega) | (simp <;> omega))) rfl ?_
        refine pT rfl (vSlRow (i + 1) (xs.length + 1) sl145 rfl ⟨_, _, rfl, hI1⟩ rfl ⟨by omega, by omega, .inr (by omega)⟩) rfl ?_
        refine pT rfl (vMv rfl) rfl ?_
        refine pT rfl (vMv rfl) rfl ?_
        refine pT rfl (vSlRow i (xs.length + 1) sl145 rfl ⟨_, _, rfl, rfl⟩ rfl ⟨by omega, by omega, .inr (by omega)⟩) rfl ?_
        refine pO ?_
        refine opL rfl rfl (cpyM sl145 rfl rfl T1 (cpRow (cnt := xs.length - i) (news := (xs.drop i).flatten) T1 (by show min _ _ = _; omega) hD (fun j w hj => by rw [Nat.zero_add]; exact hXD j w hj)) hoD (by rw [List.length_append, hX, List.length_append, hA, hD, hsp]; omega) rfl ?_)
        refine pK (Le.refl _) (.cons T1 .nil) ?_
        refine pDone ?_
        refine thN ?_
        refine sq ?_
        have eG1 : (xs.flatten ++ sp).take (0 + (i + 1) * 32) ++ (xs.drop i).flatten ++ (xs.flatten ++ sp).drop (0 + (i + 1) * 32 + (xs.drop i).flatten.length) = (xs.take i).flatten ++ (((xs.drop i).flatten ++ sp).take 32 ++ (xs.drop i).flatten ++ sp.drop 32) := by
          rw [Nat.zero_add, hX, List.append_assoc (xs.take i).flatten]
          have e1 : (i + 1) * 32 = (xs.take i).flatten.length + 32 := by rw [hA]; omega
          rw [e1, List.take_length_add_append, Nat.add_assoc, List.drop_length_add_append, Nat.add_comm 32, List.drop_length_add_append, List.append_assoc, List.append_assoc, List.append_assoc]
        rw [eG1]
        refine rg ?_
        refine q (vMv rfl) rfl ?_
        refine q (vMv rfl) rfl ?_
        refine q (vSlRow i (xs.length + 1) sl145 rfl ⟨_, _, rfl, rfl⟩ rfl ⟨by omega, by omega, .inr (by omega)⟩) rfl ?_
        refine q (vMv rfl) rfl ?_
        refine l rfl (cpyM sl145 rfl rfl T0 (cpRow (cnt := 1) (news := y) T1 (by show min 1 _ = 1; omega) (by omega) hYu) hy (by simp only [List.length_append, List.length_take, List.length_drop, hA, hD, hsp]; omega) rfl ?_)
        refine nil ?_
        refine thN ?_
        refine sq ?_
        have hq : (((xs.drop i).flatten ++ sp).take 32).length = y.length := by rw [List.length_take, List.length_append, hD, hsp, hym]; omega
        have eG2 : ((xs.take i).flatten ++ (((xs.drop i).flatten ++ sp).take 32 ++ (xs.drop i).flatten ++ sp.drop 32)).take (0 + i * 32) ++ y ++ ((xs.take i).flatten ++ (((xs.drop i).flatten ++ sp).take 32 ++ (xs.drop i).flatten ++ sp.drop 32)).drop (0 + i * 32 + y.length) = (xs.take i).flatten ++ y ++ (xs.drop i).flatten ++ sp.drop 32 := by
          rw [Nat.zero_add, ← hA, List.take_left' rfl, List.drop_length_add_append, List.append_assoc (((xs.drop i).flatten ++ sp).take 32), List.drop_left' hq]
          simp only [List.append_assoc]
        rw [eG2]
        refine ents _ (.cons T0 (rowSl (xs := xs.take i ++ [y] ++ xs.drop i) (m := 32) (cap := cap) (n := xs.length + 1) hfn.symm hfin (by rw [hfn]; omega) hc2 (by
          simp only [List.length_append, List.length_drop, hA, hD, hym, hsp]; omega) (by
          rw [hfl, hfn]
          refine List.take_left' ?_
          simp only [List.length_append, hA, hD, hym]; omega)) .nil) ?_
        refine rg ?_
        refine q (vMv rfl) rfl ?_
        refine q (vAs rfl) rfl ?_
        refine nil ?_
        refine thN ?_
        refine rt ?_
        refine thR ?_
        refine ret rfl (.t rfl .nil) (.t T0 .nil) ⟨rfl, ⟨rfl⟩, rfl⟩
theorem encId_one (A : List BId) : ∀ c, c ∈ (A.map encId).flatten → c.oneCell' = true := by
  intro c hc
  obtain ⟨l, hl, hc⟩ := List.mem_flatten.1 hc
  obtain ⟨t, _, rfl⟩ := List.mem_map.1 hl
  exact (inferInstance : One (encId t)).h c hc
theorem has_spec {v : Value} {A : List BId} {S : Mem} {E1 : Ent} (hv : SrcOk S [E1] v 32 (A.map encId)) (x : BId) (hr : Rising A) (hlen : A.length < 1073741824) :
    PureL Tryz.prog 89 [v, idv x] S [E1] (.bool (decide (x ∈ A))) := by
  refine enter Tryz.func89 rfl 14 rfl rfl (fun w0 => ?_)
  refine sq ?_
  refine rg ?_
  refine l rfl (box rfl rfl ?_)
  intro B3
  refine q (vAs rfl) rfl ?_
  refine nil ?_
  refine thN ?_
  refine sq ?_
  refine rg ?_
  refine q (vMv rfl) rfl ?_
  refine q (vLdA ag35 rfl (rB T0 (.z (.c .n))) (by simp)) rfl ?_
  refine l rfl (callP cf127 (bs_id_spec hv _ hr hlen) rfl (.cons T1 .nil) rfl ?_)
  refine q (vMv rfl) rfl ?_
  refine q (vEx rfl rfl) rfl ?_
  refine q (vEx rfl rfl) rfl ?_
  refine q (vAs rfl) rfl ?_
  refine q (vAs rfl) rfl ?_
  refine nil ?_
  refine thN ?_
  refine sq ?_
  refine rg ?_
  refine q (vMv rfl) rfl ?_
  refine q (vAs rfl) rfl ?_
  refine nil ?_
  refine thN ?_
  refine rt ?_
  refine ret rfl (.t rfl .nil) (.t T1 .nil) ⟨rfl, rfl, rfl⟩
noncomputable abbrev setE (b : Nat) (v : Value) (A : List BId) : List Ent := [blk b 145 [[v]], sl v 35 32 (A.map encId)]
theorem add_spec {b : Nat} {v : Value} {A : List BId} (x : BId) (hr : Rising A) (hlen : A.length < 1000000000) (S : Mem) :
    Spec Tryz.prog 84 [ptr b 0, idv x] S (setE b v A) (fun S' r L' => ∃ v', S' = S ∧ r = .bool (!decide (x ∈ A)) ∧ L' = setE b v' (insF A x)) := by
  have hlen2 : A.length < 1073741824 := by omega
  refine enter Tryz.func84 rfl 28 rfl rfl (fun w0 => ?_)
  refine sq ?_
  refine rg ?_
  refine l rfl (box rfl rfl ?_)
  intro B3
  refine q (vAs rfl) rfl ?_
  refine nil ?_
  refine thN ?_
  refine sq ?_
  refine dr (.take 0 (.take 1 (.take 2 (.take 3 (.one 4 (.take 5 (.take 6 (.take 7 (.take 8 (.take 9 .done)))))))))) wide (by decide +kernel) _ _ (.cons T0 (.cons T0 (.cons T0 .nil))) ?_
  refine pT rfl (vMv rfl) rfl ?_
  refine pT rfl (vNil rfl) rfl ?_
  refine pT rfl (vLd sc145 rfl (rB1 T1 (.z (.c .n)))) rfl ?_
  refine pT rfl (vLdA ag35 rfl (rB T0 (.z (.c .n))) (by simp)) rfl ?_
  refine pO ?_
  refine opL rfl rfl (callP cf127 (bs_id_spec (srcO T0) _ hr hlen2) rfl (.cons T2 .nil) rfl ?_)
  refine pK (Le.refl _) (.cons T0 (.cons T0 (.cons T0 .nil))) ?_
  refine pT rfl (vMv rfl) rfl ?_
  refine pT rfl (vEx rfl rfl) rfl ?_
  refine pT rfl (vEx rfl rfl) rfl ?_
  refine pT rfl (vAs rfl) rfl ?_
  refine pT rfl (vAs rfl) rfl ?_
  refine pDone ?_
  refine thN ?_
  refine sq ?_
  refine sq ?_
  refine rg ?_
  refine q (vMv rfl) rfl ?_
  refine q (vNot rfl) rfl ?_
  refine nil ?_
  refine thN ?_
  refine cd rfl (fun hd => ?_) (fun hd => ?_) <;> try simp only [bls, beq_iff_eq, bne_iff_ne, Int.reduceToNat, List.length_map] at hd
  · skip
    have hle := low_leL x A
    refine dr (.take 0 (.take 1 (.take 2 (.take 3 (.take 4 (.take 5 (.one 6 (.one 7 (.take 8 (.last 9)))))))))) wide (by decide +kernel) _ _ (.cons T0 (.cons T0 .nil)) ?_
    refine pT rfl (vMv rfl) rfl ?_
    refine pT rfl (vMv rfl) rfl ?_
    refine pT rfl (vNil rfl) rfl ?_
    refine pT rfl (vLd sc145 rfl (rB1 T1 (.z (.c .n)))) rfl ?_
    refine pT rfl (vMv rfl) rfl ?_
    refine pT rfl (vLdA ag35 rfl (rB T0 (.z (.c .n))) (by simp)) rfl ?_
    refine pO ?_
    refine opL rfl rfl (bslice sl27 ze35 (.cA rfl .nil) (by simp) rfl rfl rfl rfl ?_)
    intro B23
    refine pK (Le.refl _) (.cons T1 (.cons T1 .nil)) ?_
    refine pO ?_
    refine opL rfl rfl (call cf129 (insert_id_spec (y := encId x) _ (by rw [List.length_map]; exact hle) (by rw [List.length_map]; omega) (encId_one A) (inferInstance : One (encId x)).h (encId_len x) _) rfl (.cons T3 (.cons T0 .nil)) rfl ?_)
    intro S1 r1 l1 hS1 hp1
    obtain ⟨rfl, hsc, rfl⟩ := hp1
    refine pK hS1 (.cons T1 (.cons T1 .nil)) ?_
    refine pT rfl (vNil rfl) rfl ?_
    refine pL ?_
    refine opL rfl rfl (store sz145 rfl rfl T2 (by simp) (.z (.c inferInstance inferInstance .n)) ?_)
    refine thN ?_
    refine sq ?_
    refine rg ?_
    refine q (vMv rfl) rfl ?_
    refine q (vNot rfl) rfl ?_
    refine q (vAs rfl) rfl ?_
    refine nil ?_
    refine thN ?_
    refine rt ?_
    have e2 : (A.map encId).take (low x A) ++ [encId x] ++ (A.map encId).drop (low x A) = (insF A x).map encId := by
      rw [insF, if_neg hd]; simp
    refine ret rfl (.t rfl .nil) (.t T0 (.t T0 .nil)) ⟨r1, rfl, rfl, by rw [e2]⟩
  · skip
    refine sk ?_
    refine thN ?_
    refine sq ?_
    refine rg ?_
    refine q (vMv rfl) rfl ?_
    refine q (vNot rfl) rfl ?_
    refine q (vAs rfl) rfl ?_
    refine nil ?_
    refine thN ?_
    refine rt ?_
    refine ret rfl (.t rfl .nil) (.t T1 (.t T1 .nil)) ⟨v, rfl, rfl, by rw [insF, if_pos hd]⟩
theorem of_spec {vl : Value} {ids : List BId} {S : Mem} (hl : PSl S vl 32 (ids.map encId)) (hb : ids.length < 1000000) :
    Spec Tryz.prog 81 [vl] S [] (fun S' r L' => S' = S ∧ L' = [sl r 35 32 ((sortF ids).map encId)]) := by
  refine enter Tryz.func81 rfl 16 rfl rfl (fun w0 => ?_)
  refine sq ?_
  refine rg ?_
  refine q (vAs rfl) rfl ?_
  refine nil ?_
  refine thN ?_
  refine sq ?_
  refine rg ?_
  refine l rfl (alloc ze145 rfl ?_)
  intro B3
  refine nil ?_
  refine thN ?_
  refine sq ?_
  refine sq ?_
  refine rg ?_
  refine q (vMv rfl) rfl ?_
  refine q (SrcOk.len (srcP hl) Tryz.underlying27 rfl) rfl ?_
  refine q (vMv rfl) rfl ?_
  refine nil ?_
  refine thN ?_
  refine bk ?_
  refine nilsl 35 32 ?_
  refine loop (ι := Nat × Value) (fun (p : Nat × Value) => [(3, .pointer (some ⟨B3, 0, none⟩)), (6, vl), (7, .int .i64 (ids.length : Int)), (8, .int .i64 (p.1 : Int))]) (fun (p : Nat × Value) => [blk B3 145 [[p.2]], sl p.2 35 32 ((sortF (ids.take p.1)).map encId)]) (fun (p : Nat × Value) => fun S' => p.1 ≤ ids.length ∧ S' = S) (fun (p : Nat × Value) => ids.length - p.1) (0, .slice none 0 0) ⟨Nat.zero_le _, rfl⟩ (.cons rfl (by first | rfl | simp | (simp <;> omega)) (.cons rfl (by first | rfl | simp | (simp <;> omega)) (.cons rfl (by first | rfl | simp | (simp <;> omega)) (.cons rfl (by first | rfl | simp | (simp <;> omega)) .nil)))) (.cons T1 (Ent.Le.of (by first | rfl | simp | (simp <;> omega))) (.cons T0 (Ent.Le.of (by first | rfl | simp | (simp <;> omega))) .nil)) ?_
  rintro ⟨i, w⟩ S2 hle2 ⟨h1, rfl⟩
  replace hl := hl.mono hle2
  dsimp only at h1 ⊢
  have hso := sortF_len (ids.take i)
  rw [List.length_take] at hso
  have hri := sortF_rising (ids.take i)
  refine sq ?_
  refine rg ?_
  refine q (vLt rfl rfl) rfl ?_
  refine nil ?_
  refine thN ?_
  refine sq ?_
  refine cd rfl (fun hc => ?_) (fun hc => ?_) <;> try simp only [bls, beq_iff_eq, bne_iff_ne, Int.reduceToNat, List.length_map] at hc
  · skip
    have hi : i < ids.length := by omega
    have hnx := sortF_next ids i hi
    refine sk ?_
    refine thN ?_
    refine sq ?_
    refine bk ?_
    refine sq ?_
    refine rg ?_
    refine q (vIxP sl27 rfl rfl hl (by first | omega | (simp only [Int.toNat_natCast, Int.reduceToNat, List.length_append, List.length_cons, List.length_nil, List.length_map, bid_len]; omega) | (simp <;> omega))) rfl ?_
    refine q (vLdA ag35 rfl (Rd.f1 (rP hl (gm (by first | omega | (simp only [Int.toNat_natCast, Int.reduceToNat, List.length_append, List.length_cons, List.length_nil, List.length_map, bid_len]; omega) | (simp <;> omega))))) (by simp)) rfl ?_
    refine l rfl (alloc ze35 rfl ?_)
    intro B5
    refine l rfl (store sz35 rfl rfl T0 (by simp) (.z (.c inferInstance inferInstance .n)) ?_)
    refine nil ?_
    refine thN ?_
    refine rg ?_
    refine q (vLdA ag35 rfl (rB T0 (.z (.c .n))) (by simp)) rfl ?_
    refine l rfl (call cf84 (add_spec _ hri (by omega) _) rfl (.cons T1 (.cons T1 .nil)) rfl ?_)
    intro S1 r1 l1 hS1 hp1
    obtain ⟨w2, rfl, rfl, rfl⟩ := hp1
    replace hl := hl.mono hS1
    refine nil ?_
    refine bkN ?_
    refine thN ?_
    refine rg ?_
    refine q (vAdd rfl rfl (by first | omega | (simp only [Int.toNat_natCast, Int.reduceToNat, List.length_append, List.length_cons, List.length_nil, List.length_map, bid_len]; omega) | (simp <;> omega))) rfl ?_
    refine q (vMv rfl) rfl ?_
    refine nil ?_
    refine thN ?_
    refine back ((i + 1, w2)) (Le.refl _) ⟨⟨by dsimp only; omega, rfl⟩, by dsimp only; omega⟩ (.cons rfl (by first | rfl | (dsimp only; rw [hnx]; rfl)) (.cons rfl (by first | rfl | (dsimp only; rw [hnx]; rfl)) (.cons rfl (by first | rfl | (dsimp only; rw [hnx]; rfl)) (.cons rfl (by first | rfl | (dsimp only; rw [hnx]; rfl)) .nil)))) (.cons T0 (Ent.Le.of (by first | rfl | (dsimp only; rw [hnx]; rfl))) (.cons T0 (Ent.Le.of (by first | rfl | (dsimp only; rw [hnx]; rfl))) .nil))
  · skip
    have e1 : ids.take i = ids := List.take_of_length_le (by omega)
    rw [e1]
    refine xt ?_
    refine thX ?_
    refine thX ?_
    refine bkX ?_
    refine thN ?_
    refine sq ?_
    refine rg ?_
    refine q (vLd sc145 rfl (rB1 T0 (.z (.c .n)))) rfl ?_
    refine q (vAs rfl) rfl ?_
    refine nil ?_
    refine thN ?_
    refine rt ?_
    refine ret rfl (.t rfl .nil) (.t T1 .nil) ⟨rfl, rfl⟩
def cutO (o : DObj) (b : Bool) : DObj := if o.kind = 3 ∧ b = true then { o with parents := [] } else o
theorem links_spec {o : DObj} {ve vp vc : Value} {cut : List BId} {S : Mem} {E1 : Ent} (x : BId) (hz : Small o) (hi : ObjIn S o ve vp) (hv : SrcOk S [E1] vc 32 (cut.map encId)) (hr : Rising cut) (hlen : cut.length < 1073741824) (hsv : Sc vc) :
    Spec Tryz.prog 85 [idv x, objv o ve vp, vc] S [E1] (fun S' r L' => PSl S' r 33 ((linksF (cutO o (decide (x ∈ cut)))).map encL) ∧ L' = [E1]) := by
  have he := hi.e
  have hp := hi.p
  have hs0 := he.sc
  have hs1 := hp.sc
  refine enter Tryz.func85 rfl 18 rfl rfl (fun w0 => ?_)
  refine sq ?_
  refine rg ?_
  refine l rfl (box rfl rfl ?_)
  intro B3
  refine l rfl (box rfl rfl ?_)
  intro B4
  refine q (vAs rfl) rfl ?_
  refine nil ?_
  refine thN ?_
  refine sq ?_
  refine sq ?_
  refine rg ?_
  refine q (vFa fa77_0 rfl) rfl ?_
  refine q (vLd sc3 rfl (rB1 T0 (.z (.c .n)))) rfl ?_
  refine q (vEq rfl rfl) rfl ?_
  refine q (vMv rfl) rfl ?_
  apply gAnd 10 14 4
  · rfl
  · intro hb1 hX1
    have hc1 := hb1 ; try simp only [bls, beq_iff_eq, bne_iff_ne, Int.reduceToNat, List.length_map] at hc1
    refine qT ⟨_, rfl, rfl⟩ (vMv rfl) rfl ?_
    refine qT ⟨_, rfl, rfl⟩ (vLdA ag35 rfl (rB T1 (.z (.c .n))) (by simp)) rfl ?_
    refine lT rfl ⟨_, rfl, rfl⟩ (callP cf89 (has_spec hv _ hr hlen) rfl (.cons T2 .nil) rfl ?_)
    refine q (vPkT rfl rfl) rfl ?_
    exact gTT 4 10 rfl rfl rfl rfl hb1 hX1
  · intro hb1 hX1
    have hc1 := hb1 ; try simp only [bls, beq_iff_eq, bne_iff_ne, Int.reduceToNat, List.length_map] at hc1
    refine qF ⟨_, _, rfl, rfl, rfl⟩ rfl ?_
    refine qF ⟨_, _, rfl, rfl, rfl⟩ rfl ?_
    refine qF ⟨_, _, rfl, rfl, rfl⟩ rfl ?_
    refine q (vPkF rfl rfl) rfl ?_
    exact gTF 4 10 rfl rfl rfl rfl hb1 hX1
  refine nil ?_
  refine thN ?_
  refine cd rfl (fun hc => ?_) (fun hc => ?_) <;> try simp only [bls, beq_iff_eq, bne_iff_ne, Int.reduceToNat, List.length_map] at hc
  · skip
    have hk : o.kind = 3 := by have := hc.1; omega
    have hcm : decide (x ∈ cut) = true := by simpa using hc.2
    have e1 : cutO o (decide (x ∈ cut)) = { o with parents := [] } := by rw [cutO, if_pos ⟨hk, hcm⟩]
    rw [e1]
    obtain ⟨z1, z2, z3, z4, z5, z6⟩ := hz
    refine rg ?_
    refine q (vFa fa77_4 rfl) rfl ?_
    refine l rfl (store sz27 rfl rfl T0 (by simp) (.s (.s (.s (.n (n := 32) inferInstance (.z (.c inferInstance inferInstance .n)))))) ?_)
    refine nil ?_
    refine thN ?_
    refine sq ?_
    refine rg ?_
    refine q (vLdA ag77 rfl (rB T0 (.z (.c (.c (.c (.c (.c (.c (.c (.c (.c (.c .n)))))))))))) (by simp)) rfl ?_
    refine l rfl (call cf115 (Links_spec (o := { o with parents := [] }) (vp := .slice none 0 0) ⟨z1, z2, z3, by simp, z5, z6⟩ ⟨he, PSl.nil⟩) rfl .nil rfl ?_)
    intro S1 r1 l1 hS1 hp1
    obtain ⟨hO, rfl⟩ := hp1
    replace he := he.mono hS1
    replace hp := hp.mono hS1
    replace hv := hv.mono hS1
    refine q (vAs rfl) rfl ?_
    refine nil ?_
    refine thN ?_
    refine rt ?_
    refine ret rfl (.t rfl .nil) (.t T2 .nil) ⟨hO, rfl⟩
  · skip
    have e1 : cutO o (decide (x ∈ cut)) = o := by
      rw [cutO, if_neg]
      rintro ⟨h1, h2⟩
      rcases hc with hc | hc
      · omega
      · simp at h2; exact hc h2
    rw [e1]
    refine sk ?_
    refine thN ?_
    refine sq ?_
    refine rg ?_
    refine q (vLdA ag77 rfl (rB T0 (.z (.c (.c (.c (.c (.c (.c (.c (.c (.c (.c .n)))))))))))) (by simp)) rfl ?_
    refine l rfl (call cf115 (Links_spec hz ⟨he, hp⟩) rfl .nil rfl ?_)
    intro S2 r2 l2 hS2 hp2
    obtain ⟨hO, rfl⟩ := hp2
    replace he := he.mono hS2
    replace hp := hp.mono hS2
    replace hv := hv.mono hS2
    refine q (vAs rfl) rfl ?_
    refine nil ?_
    refine thN ?_
    refine rt ?_
    refine ret rfl (.t rfl .nil) (.t T2 .nil) ⟨hO, rfl⟩
theorem Clone_spec {v : Value} {ids : List BId} {S : Mem} (hl : PSl S v 32 (ids.map encId)) (hb : ids.length < 1073741824) :
    Spec Tryz.prog 82 [v] S [] (fun S' r L' => S' = S ∧ L' = [sl r 35 32 (ids.map encId)]) := by
  rcases hl.2 with ⟨rfl, h0⟩ | ⟨b, o, c, rfl, h1, h2, h3⟩
  · have h0' : ids = [] := List.map_eq_nil_iff.1 h0
    subst h0'
    refine enter Tryz.func82 rfl 8 rfl rfl (fun w0 => ?_)
    refine sq ?_
    refine rg ?_
    refine q (vAs rfl) rfl ?_
    refine nil ?_
    refine thN ?_
    refine sq ?_
    refine sq ?_
    refine rg ?_
    refine q (vMv rfl) rfl ?_
    refine q (vEqSlN Tryz.underlying27 rfl) rfl ?_
    refine nil ?_
    refine thN ?_
    refine cT rfl ?_
    refine sq ?_
    refine rg ?_
    refine q (vAs rfl) rfl ?_
    refine nil ?_
    refine thN ?_
    refine rt ?_
    refine thR ?_
    refine nilsl 35 32 ?_
    refine ret rfl (.t rfl .nil) (.t T0 .nil) ⟨rfl, rfl⟩
  · refine enter Tryz.func82 rfl 8 rfl rfl (fun w0 => ?_)
    refine sq ?_
    refine rg ?_
    refine q (vAs rfl) rfl ?_
    refine nil ?_
    refine thN ?_
    refine sq ?_
    refine sq ?_
    refine rg ?_
    refine q (vMv rfl) rfl ?_
    refine q (vEqSlS Tryz.underlying27 rfl) rfl ?_
    refine nil ?_
    refine thN ?_
    refine cF rfl ?_
    refine sk ?_
    refine thN ?_
    refine sq ?_
    refine rg ?_
    refine l rfl (bslice sl27 ze35 .nil (by simp) rfl rfl rfl rfl ?_)
    intro B5
    refine q (vMv rfl) rfl ?_
    refine l rfl (app ap27 rfl rfl T0 (srcP hl) (by first | omega | (simp only [Int.toNat_natCast, Int.reduceToNat, List.length_append, List.length_cons, List.length_nil, List.length_map, bid_len]; omega) | (simp <;> omega)) rfl ?_)
    intro v7 hv7
    refine q (vAs rfl) rfl ?_
    refine nil ?_
    refine thN ?_
    refine rt ?_
    refine ret rfl (.t rfl .nil) (.t T0 .nil) ⟨rfl, by simp; rfl⟩
end Go.Proofs.YtjmigoikklkfdaaGreatDoor
namespace Go.Proofs.YtjmigoikklkfdaaGreatDoor
open Go
set_option linter.unusedVariables false
set_option linter.unusedSimpArgs false
set_option maxRecDepth 4000
def Fine (A : List (List UInt8)) : Prop := ∀ t, t ∈ A → t.length < 1073741824 ∧ dOk t = true
theorem Fine.ne {A : List (List UInt8)} (h : Fine A) : ∀ t, t ∈ A → t ≠ [] := fun t ht h0 => by
  have := (h t ht).2
  rw [h0] at this
  simp [dOk] at this
theorem Fine.put {A : List (List UInt8)} (h : Fine A) {t : List UInt8} (ht : t.length < 1073741824) : Fine (putF A t) := fun s hs => by
  rcases putF_mem t s hs with h1 | ⟨rfl, h1⟩
  · exact h s h1
  · exact ⟨ht, h1⟩
theorem getF_mem {A : List (List UInt8)} {x : BId} (hr : Rising (keys A)) (h : x ∈ keys A) : getF A x ∈ A := by
  have hl := low_lt hr h
  rw [getF, if_pos h, List.getD_eq_getElem?_getD, List.getElem?_eq_getElem hl]
  exact List.getElem_mem hl
theorem dO_nil : dO [] = zobj := by
  have : dOk [] = false := by simp [dOk]
  simp [dO, this]
noncomputable def objF (A : List (List UInt8)) (x : BId) : DObj := dO (getF A x)
theorem objF_none {A : List (List UInt8)} {x : BId} (h : x ∉ keys A) : objF A x = zobj := by rw [objF, getF, if_neg h, dO_nil]
theorem objF_may {A : List (List UInt8)} {x : BId} (hF : Fine A) (hr : Rising (keys A)) (h : x ∈ keys A) : May (objF A x) := (dec_kind (hF _ (getF_mem hr h)).2).2.1
theorem kind_pos {A : List (List UInt8)} {x : BId} (hF : Fine A) (hr : Rising (keys A)) : 0 < (objF A x).kind ↔ x ∈ keys A := by
  constructor
  · intro h
    rcases Classical.em (x ∈ keys A) with h2 | h2
    · exact h2
    · rw [objF_none h2] at h; exact absurd h (by decide)
  · intro h; exact (objF_may hF hr h).k1
theorem kind_same {A : List (List UInt8)} (h : Fine A) (hr : Rising (keys A)) (x : BId) : ((getF A x).getD 0 0).toNat = (objF A x).kind := by
  by_cases hx : x ∈ keys A
  · exact (dec_kind (h _ (getF_mem hr hx)).2).1.symm
  · rw [objF_none hx, getF, if_neg hx]; rfl
noncomputable def nextF (A : List (List UInt8)) (cut : List BId) (x : BId) : List BId := (linksF (cutO (objF A x) (decide (x ∈ cut)))).map (·.1)
inductive Rch (A : List (List UInt8)) (cut frm : List BId) : BId → Prop
  | base {x} : x ∈ frm → Rch A cut frm x
  | step {x y} : Rch A cut frm y → x ∈ nextF A cut y → Rch A cut frm x
theorem linksF_len {o : DObj} (h : May o) : (linksF o).length ≤ 74 := by
  have h1 := h.ne; have h2 := h.np
  unfold linksF lk2 lk3 lk4
  simp only [List.length_append]
  split <;> split <;> split <;> simp <;> omega
theorem linksF_z : linksF zobj = [] := by simp [linksF, lk2, lk3, lk4, zobj]
theorem cutO_may {o : DObj} {b : Bool} (h : May o) : May (cutO o b) := by
  unfold cutO
  split
  · rename_i hk
    obtain ⟨k1, k4, hb, ht, hcm, htg, h4, hne, hnp, hen⟩ := h
    exact ⟨k1, k4, hb, ht, fun hn => absurd hk.1 hn, htg, h4, hne, by simp, hen⟩
  · exact h
theorem nextF_len {A : List (List UInt8)} {cut : List BId} (hF : Fine A) (hr : Rising (keys A)) (x : BId) : (nextF A cut x).length ≤ 74 := by
  unfold nextF
  rw [List.length_map]
  by_cases hx : x ∈ keys A
  · exact linksF_len (cutO_may (objF_may hF hr hx))
  · rw [objF_none hx]
    have : cutO zobj (decide (x ∈ cut)) = zobj := by rw [cutO, if_neg (by rintro ⟨h, _⟩; exact absurd h (by decide))]
    rw [this, linksF_z]; decide
theorem nextF_none {A : List (List UInt8)} {cut : List BId} {x : BId} (hx : x ∉ keys A) : nextF A cut x = [] := by
  unfold nextF
  rw [objF_none hx]
  have : cutO zobj (decide (x ∈ cut)) = zobj := by rw [cutO, if_neg (by rintro ⟨h, _⟩; exact absurd h (by decide))]
  rw [this, linksF_z]; rfl
theorem nextF_cut {A : List (List UInt8)} {c1 c2 : List BId} (h : ∀ x, x ∈ c1 ↔ x ∈ c2) (x : BId) : nextF A c1 x = nextF A c2 x := by
  unfold nextF
  have : decide (x ∈ c1) = decide (x ∈ c2) := by rw [decide_eq_decide]; exact h x
  rw [this]
theorem rising_nodup {l : List BId} (h : Rising l) : l.Nodup := by
  refine List.Pairwise.imp (fun {a b} hab => ?_) h
  intro e; subst e; exact absurd hab (Nat.lt_irrefl _)
theorem nodup_len {l m : List BId} (h : l.Nodup) (hs : ∀ x, x ∈ l → x ∈ m) : l.length ≤ m.length := by
  induction l generalizing m with
  | nil => simp
  | cons x l ih =>
    rw [List.nodup_cons] at h
    have hx := hs x (List.mem_cons_self ..)
    have := ih (m := m.erase x) h.2 (fun y hy => by
      have hne : y ≠ x := fun e => h.1 (e ▸ hy)
      exact (List.mem_erase_of_ne hne).2 (hs y (List.mem_cons_of_mem _ hy)))
    rw [List.length_erase_of_mem hx] at this
    have hpos : 0 < m.length := List.length_pos_of_mem hx
    rw [List.length_cons]; omega
structure RInv (A : List (List UInt8)) (cut frm i o t : List BId) : Prop where
  ri : Rising i
  ro : Rising o
  fi : ∀ x, x ∈ i → Rch A cut frm x ∧ x ∈ keys A
  fo : ∀ x, x ∈ o → Rch A cut frm x ∧ x ∉ keys A
  ft : ∀ x, x ∈ t → Rch A cut frm x
  fr : ∀ x, x ∈ frm → x ∈ i ∨ x ∈ o ∨ x ∈ t
  nx : ∀ x, x ∈ i → ∀ y, y ∈ nextF A cut x → y ∈ i ∨ y ∈ o ∨ y ∈ t
theorem RInv.done {A : List (List UInt8)} {cut frm i o : List BId} (h : RInv A cut frm i o []) : (∀ x, x ∈ i ↔ Rch A cut frm x ∧ x ∈ keys A) ∧ (∀ x, x ∈ o ↔ Rch A cut frm x ∧ x ∉ keys A) := by
  have key : ∀ x, Rch A cut frm x → x ∈ i ∨ x ∈ o := by
    intro x hx
    induction hx with
    | base hb =>
      rcases h.fr _ hb with h1 | h1 | h1
      · exact .inl h1
      · exact .inr h1
      · cases h1
    | @step x y _ hn ih =>
      rcases ih with ih | ih
      · rcases h.nx _ ih _ hn with h1 | h1 | h1
        · exact .inl h1
        · exact .inr h1
        · cases h1
      · rw [nextF_none (h.fo _ ih).2] at hn; cases hn
  refine ⟨fun x => ⟨h.fi x, fun hx => ?_⟩, fun x => ⟨h.fo x, fun hx => ?_⟩⟩
  · rcases key x hx.1 with h1 | h1
    · exact h1
    · exact absurd hx.2 (h.fo _ h1).2
  · rcases key x hx.1 with h1 | h1
    · exact absurd (h.fi _ h1).2 hx.2
    · exact h1
theorem RInv.miss {A : List (List UInt8)} {cut frm i o t : List BId} {x : BId} (h : RInv A cut frm i o (t ++ [x])) (hx : x ∉ keys A) : RInv A cut frm i (insF o x) t := by
  have hxr := h.ft x (by simp)
  refine ⟨h.ri, insF_rising x h.ro, h.fi, fun y hy => ?_, fun y hy => h.ft y (by simp [hy]), fun y hy => ?_, fun y hy z hz => ?_⟩
  · rcases insF_mem.1 hy with h1 | rfl
    · exact h.fo y h1
    · exact ⟨hxr, hx⟩
  · rcases h.fr y hy with h1 | h1 | h1
    · exact .inl h1
    · exact .inr (.inl (insF_mem.2 (.inl h1)))
    · rcases List.mem_append.1 h1 with h2 | h2
      · exact .inr (.inr h2)
      · exact .inr (.inl (insF_mem.2 (.inr (by simpa using h2))))
  · rcases h.nx y hy z hz with h1 | h1 | h1
    · exact .inl h1
    · exact .inr (.inl (insF_mem.2 (.inl h1)))
    · rcases List.mem_append.1 h1 with h2 | h2
      · exact .inr (.inr h2)
      · exact .inr (.inl (insF_mem.2 (.inr (by simpa using h2))))
theorem RInv.old {A : List (List UInt8)} {cut frm i o t : List BId} {x : BId} (h : RInv A cut frm i o (t ++ [x])) (hx : x ∈ i) : RInv A cut frm i o t := by
  refine ⟨h.ri, h.ro, h.fi, h.fo, fun y hy => h.ft y (by simp [hy]), fun y hy => ?_, fun y hy z hz => ?_⟩
  · rcases h.fr y hy with h1 | h1 | h1
    · exact .inl h1
    · exact .inr (.inl h1)
    · rcases List.mem_append.1 h1 with h2 | h2
      · exact .inr (.inr h2)
      · obtain rfl : y = x := by simpa using h2
        exact .inl hx
  · rcases h.nx y hy z hz with h1 | h1 | h1
    · exact .inl h1
    · exact .inr (.inl h1)
    · rcases List.mem_append.1 h1 with h2 | h2
      · exact .inr (.inr h2)
      · obtain rfl : z = x := by simpa using h2
        exact .inl hx
theorem RInv.new {A : List (List UInt8)} {cut frm i o t : List BId} {x : BId} (h : RInv A cut frm i o (t ++ [x])) (hx : x ∈ keys A) : RInv A cut frm (insF i x) o (t ++ nextF A cut x) := by
  have hxr := h.ft x (by simp)
  refine ⟨insF_rising x h.ri, h.ro, fun y hy => ?_, h.fo, fun y hy => ?_, fun y hy => ?_, fun y hy z hz => ?_⟩
  · rcases insF_mem.1 hy with h1 | rfl
    · exact h.fi y h1
    · exact ⟨hxr, hx⟩
  · rcases List.mem_append.1 hy with h1 | h1
    · exact h.ft y (by simp [h1])
    · exact .step hxr h1
  · rcases h.fr y hy with h1 | h1 | h1
    · exact .inl (insF_mem.2 (.inl h1))
    · exact .inr (.inl h1)
    · rcases List.mem_append.1 h1 with h2 | h2
      · exact .inr (.inr (by simp [h2]))
      · exact .inl (insF_mem.2 (.inr (by simpa using h2)))
  · rcases insF_mem.1 hy with h0 | rfl
    · rcases h.nx y h0 z hz with h1 | h1 | h1
      · exact .inl (insF_mem.2 (.inl h1))
      · exact .inr (.inl h1)
      · rcases List.mem_append.1 h1 with h2 | h2
        · exact .inr (.inr (by simp [h2]))
        · exact .inl (insF_mem.2 (.inr (by simpa using h2)))
    · exact .inr (.inr (by simp [hz]))
theorem RInv.ilen {A : List (List UInt8)} {cut frm i o t : List BId} (h : RInv A cut frm i o t) : i.length ≤ A.length := by
  have := nodup_len (rising_nodup h.ri) (fun x hx => (h.fi x hx).2)
  rwa [List.length_map] at this
theorem insF_new_len {out : List BId} {x : BId} (h : x ∉ out) : (insF out x).length = out.length + 1 := by
  have := low_leL x out
  rw [insF, if_neg h]; simp only [List.length_append, List.length_take, List.length_drop, List.length_cons, List.length_nil]; omega
structure Told (A : List (List UInt8)) (cut frm T M : List BId) : Prop where
  rt : Rising T
  rm : Rising M
  mt : ∀ x, x ∈ T ↔ Rch A cut frm x ∧ x ∈ keys A
  mm : ∀ x, x ∈ M ↔ Rch A cut frm x ∧ x ∉ keys A
theorem Rch.cut {A : List (List UInt8)} {c1 c2 frm : List BId} (h : ∀ x, x ∈ c1 ↔ x ∈ c2) {x : BId} (hx : Rch A c1 frm x) : Rch A c2 frm x := by
  induction hx with
  | base hb => exact .base hb
  | step _ hn ih => exact .step ih (by rw [← nextF_cut h]; exact hn)
end Go.Proofs.YtjmigoikklkfdaaGreatDoor
namespace Go.Proofs.YtjmigoikklkfdaaGreatDoor
open Go
set_option linter.unusedVariables false
set_option linter.unusedSimpArgs false
set_option maxRecDepth 4000
theorem EntsLe.self : ∀ L : List Ent, EntsLe L L
  | [] => .nil
  | _ :: L => .t .z (EntsLe.self L)
section
variable {P : Program} {C : Ctx} {S : Mem} {e : Env} {L L1 : List Ent} {ty : TypeId}
theorem entTake {X : Act → World → Prop} {v : Value} {T m : Nat} {xs : List (List Value)} (k : Nat) (t : Take L (sl v T m xs) L1) (hk : k ≤ xs.length) (h : W C S e (sl (vsub v 0 k m) T m (xs.take k) :: L1) X) : W C S e L X :=
  ents _ (.cons t (sl_take hk) (EntsLe.self L1)) h
theorem vSliHi {T E m x v xs hi} (j : Nat) {k : IntKind} {I : Int} (ht : SlTy P T E m) (hx : ev e x = some v) (hs : SrcOk S L v m xs) (hhi : ev e hi = some (.int k I)) (hI : I = (j : Int)) (h : j ≤ xs.length) :
    Val P S L e (.slice T x none (some hi) none) ty (vsub v 0 j m) := by
  subst hI
  exact vSli ht hx hs rfl ⟨k, hhi⟩ ⟨Nat.zero_le _, h⟩
end
theorem last_eq {t : List BId} (h : t ≠ []) : t = t.take (t.length - 1) ++ [t.getD (t.length - 1) default] := by
  have h1 : t.length - 1 < t.length := by have := List.length_pos_iff.2 h; omega
  have := take_next t (t.length - 1) h1
  rw [show t.length - 1 + 1 = t.length by omega, List.take_length] at this
  exact this
theorem Reach_spec {b : Nat} {v vf vc : Value} {A : List (List UInt8)} {frm cut : List BId} {S : Mem} (hr : Rising (keys A)) (hF : Fine A) (hlen : A.length < 10000) (hf : PSl S vf 32 (frm.map encId)) (hc : PSl S vc 32 (cut.map encId)) (hfl : frm.length < 100000) (hcl : cut.length < 100000) :
    Spec Tryz.prog 30 [ptr b 0, vf, vc] S (stE b v A) (fun S' r L' => ∃ r1 r2 T M, r = .tuple [r1, r2].toArray ∧ PSl S' r1 32 (T.map encId) ∧ PSl S' r2 32 (M.map encId) ∧ Told A cut frm T M ∧ L' = stE b v A) := by
  have hcm : ∀ x, x ∈ sortF cut ↔ x ∈ cut := fun x => sortF_mem
  have hcr := sortF_rising cut
  have hcl2 := sortF_len cut
  have hlt : A.length < 1073741824 := by omega
  have hkl : (keys A).length = A.length := List.length_map _
  refine enter Tryz.func30 rfl 65 rfl rfl (fun w0 => ?_)
  refine sq ?_
  refine rg ?_
  refine q (vAs rfl) rfl ?_
  refine q (vAs rfl) rfl ?_
  refine nil ?_
  refine thN ?_
  refine sq ?_
  refine rg ?_
  refine l rfl (alloc ze145 rfl ?_)
  intro B8
  refine l rfl (alloc ze145 rfl ?_)
  intro B9
  refine nil ?_
  refine thN ?_
  refine sq ?_
  refine rg ?_
  refine q (vMv rfl) rfl ?_
  refine l rfl (call cf81 (of_spec hc (by omega)) rfl .nil rfl ?_)
  intro S1 r1 l1 hS1 hp1
  obtain ⟨rfl, rfl⟩ := hp1
  replace hf := hf.mono hS1
  replace hc := hc.mono hS1
  refine slSc T0 (fun hscE => ?_)
  refine q (vAs rfl) rfl ?_
  refine nil ?_
  refine thN ?_
  refine sq ?_
  refine rg ?_
  refine q (vMv rfl) rfl ?_
  refine l rfl (call cf82 (Clone_spec hf (by omega)) rfl .nil rfl ?_)
  intro S2 r2 l2 hS2 hp2
  obtain ⟨rfl, rfl⟩ := hp2
  replace hf := hf.mono hS2
  replace hc := hc.mono hS2
  refine q (vAs rfl) rfl ?_
  refine nil ?_
  refine thN ?_
  refine sq ?_
  refine bk ?_
  refine nilsl 35 32 ?_
  refine nilsl 35 32 ?_
  refine loop (ι := List BId × List BId × List BId × Value × Value × Value) (fun (p : List BId × List BId × List BId × Value × Value × Value) => [(0, ptr b 0), (8, .pointer (some ⟨B8, 0, none⟩)), (9, .pointer (some ⟨B9, 0, none⟩)), (10, r1), (11, p.2.2.2.2.2)]) (fun (p : List BId × List BId × List BId × Value × Value × Value) => [blk b 204 [[v]], sl v 209 33 (A.map encIt), sl r1 35 32 ((sortF cut).map encId), blk B8 145 [[p.2.2.2.1]], sl p.2.2.2.1 35 32 (p.1.map encId), blk B9 145 [[p.2.2.2.2.1]], sl p.2.2.2.2.1 35 32 (p.2.1.map encId), sl p.2.2.2.2.2 35 32 (p.2.2.1.map encId)]) (fun (p : List BId × List BId × List BId × Value × Value × Value) => fun S' => RInv A (sortF cut) frm p.1 p.2.1 p.2.2.1 ∧ p.2.1.length + p.2.2.1.length ≤ frm.length + 80 * p.1.length) (fun (p : List BId × List BId × List BId × Value × Value × Value) => (A.length - p.1.length) * 80 + p.2.2.1.length) ([], [], frm, .slice none 0 0, .slice none 0 0, r2) ⟨⟨.nil, .nil, (fun x hx => by simp at hx), (fun x hx => by simp at hx), fun x hx => .base hx, fun x hx => .inr (.inr hx), fun x hx => by simp at hx⟩, by simp⟩ (.cons rfl (by first | rfl | simp | (simp <;> omega)) (.cons rfl (by first | rfl | simp | (simp <;> omega)) (.cons rfl (by first | rfl | simp | (simp <;> omega)) (.cons rfl (by first | rfl | simp | (simp <;> omega)) (.cons rfl (by first | rfl | simp | (simp <;> omega)) .nil))))) (.cons (.s (T5)) (Ent.Le.of (by first | rfl | simp | (simp <;> omega))) (.cons (.s (T5)) (Ent.Le.of (by first | rfl | simp | (simp <;> omega))) (.cons T3 (Ent.Le.of (by first | rfl | simp | (simp <;> omega))) (.cons T4 (Ent.Le.of (by first | rfl | simp | (simp <;> omega))) (.cons T1 (Ent.Le.of (by first | rfl | simp | (simp <;> omega))) (.cons T2 (Ent.Le.of (by first | rfl | simp | (simp <;> omega))) (.cons T0 (Ent.Le.of (by first | rfl | simp | (simp <;> omega))) (.cons T0 (Ent.Le.of (by first | rfl | simp | (simp <;> omega))) .nil)))))))) ?_
  rintro ⟨i, o, t, vi, vo, vt⟩ S3 hle3 ⟨h1, h2⟩
  replace hf := hf.mono hle3
  replace hc := hc.mono hle3
  dsimp only at h1 h2 ⊢
  have hil := h1.ilen
  refine sq ?_
  refine sq ?_
  refine rg ?_
  refine q (vMv rfl) rfl ?_
  refine q (SrcOk.len (srcO (.s (.s T5))) Tryz.underlying27 rfl) rfl ?_
  refine q (vGt rfl rfl) rfl ?_
  refine nil ?_
  refine thN ?_
  refine cd rfl (fun hd => ?_) (fun hd => ?_) <;> try simp only [bls, beq_iff_eq, bne_iff_ne, Int.reduceToNat, List.length_map] at hd
  · skip
    have htn : t ≠ [] := fun h => by subst h; simp at hd
    have htp : 0 < t.length := List.length_pos_iff.2 htn
    have hte := last_eq htn
    have n1 : ((t.length : Int) - 1).toNat = t.length - 1 := by omega
    obtain ⟨x, hx⟩ : ∃ x, t.getD (t.length - 1) default = x := ⟨_, rfl⟩
    rw [hx] at hte
    refine sk ?_
    refine thN ?_
    refine bk ?_
    refine sq ?_
    refine rg ?_
    refine q (vMv rfl) rfl ?_
    refine q (vMv rfl) rfl ?_
    refine q (SrcOk.len (srcO (.s (.s T5))) Tryz.underlying27 rfl) rfl ?_
    refine q (vSub rfl rfl (by first | omega | (simp only [Int.toNat_natCast, Int.reduceToNat, List.length_append, List.length_cons, List.length_nil, List.length_map, bid_len]; omega) | (simp <;> omega))) rfl ?_
    refine q (vIxO sl27 rfl rfl (.s (.s T5)) (by first | omega | (simp only [Int.toNat_natCast, Int.reduceToNat, List.length_append, List.length_cons, List.length_nil, List.length_map, bid_len]; omega) | (simp <;> omega))) rfl ?_
    refine q (vLdA ag35 rfl (Rd.f1 (rO (.s (.s T5)) (gm (by first | omega | (simp only [Int.toNat_natCast, Int.reduceToNat, List.length_append, List.length_cons, List.length_nil, List.length_map, bid_len]; omega) | (simp <;> omega))))) (by simp)) rfl ?_
    refine l rfl (alloc ze35 rfl ?_)
    intro B12
    refine l rfl (store sz35 rfl rfl T0 (by simp) (.z (.c inferInstance inferInstance .n)) ?_)
    refine nil ?_
    refine thN ?_
    refine sq ?_
    refine rg ?_
    refine q (vMv rfl) rfl ?_
    refine q (vMv rfl) rfl ?_
    refine q (SrcOk.len (srcO (.s (.s (.s T5)))) Tryz.underlying27 rfl) rfl ?_
    refine q (vSub rfl rfl (by first | omega | (simp only [Int.toNat_natCast, Int.reduceToNat, List.length_append, List.length_cons, List.length_nil, List.length_map, bid_len]; omega) | (simp <;> omega))) rfl ?_
    refine q (vSliHi (t.length - 1) sl27 rfl (srcO (.s (.s (.s T5)))) rfl (by simp; omega) (by simp)) rfl ?_
    refine q (vAs rfl) rfl ?_
    refine nil ?_
    refine thN ?_
    refine sq ?_
    simp only [List.length_map, n1, hx]
    refine entTake (t.length - 1) (.s (.s (.s T5))) (by simp) ?_
    rw [← List.map_take]
    have htl : (t.take (t.length - 1)).length = t.length - 1 := by rw [List.length_take]; omega
    generalize t.take (t.length - 1) = t1 at hte htl ⊢
    rw [hte] at h1
    generalize vsub vt 0 (t.length - 1) 32 = vt1
    refine rg ?_
    refine q (vMv rfl) rfl ?_
    refine q (vLdA ag35 rfl (rB T1 (.z (.c .n))) (by simp)) rfl ?_
    refine l rfl (call cf83 (Object_spec x hr hlt hF _) rfl (.cons T2 (.cons T2 .nil)) rfl ?_)
    intro S3 r3 l3 hS3 hp3
    obtain ⟨ve, vp, rfl, hi2, rfl⟩ := hp3
    replace hf := hf.mono hS3
    replace hc := hc.mono hS3
    have he := hi2.e
    have hp := hi2.p
    have hs3 := he.sc
    have hs4 := hp.sc
    refine q (vMv rfl) rfl ?_
    refine q (vEx rfl rfl) rfl ?_
    refine q (vEx rfl rfl) rfl ?_
    refine l rfl (alloc ze77 rfl ?_)
    intro B13
    refine l rfl (store sz77 rfl rfl T0 (by simp) (.z (.c inferInstance inferInstance (.c inferInstance inferInstance (.c inferInstance inferInstance (.c inferInstance inferInstance (.c inferInstance inferInstance (.c inferInstance inferInstance (.c inferInstance inferInstance (.c inferInstance inferInstance (.c inferInstance inferInstance (.c inferInstance inferInstance .n))))))))))) ?_)
    refine q (vAs rfl) rfl ?_
    refine nil ?_
    refine thN ?_
    refine sq ?_
    refine sq ?_
    refine rg ?_
    refine q (vMv rfl) rfl ?_
    refine q (vNot rfl) rfl ?_
    refine nil ?_
    refine thN ?_
    refine cd rfl (fun hk => ?_) (fun hk => ?_) <;> try simp only [bls, beq_iff_eq, bne_iff_ne, Int.reduceToNat, List.length_map] at hk
    · skip
      have hn := h1.miss hk
      have hol := insF_len o x
      refine sq ?_
      refine rg ?_
      refine q (vLdA ag35 rfl (rB T4 (.z (.c .n))) (by simp)) rfl ?_
      refine l rfl (call cf84 (add_spec x h1.ro (by omega) _) rfl (.cons (.s (.s (.s (T5)))) (.cons (.s (.s (.s (T5)))) .nil)) rfl ?_)
      intro S4 r4 l4 hS4 hp4
      obtain ⟨vo2, rfl, rfl, rfl⟩ := hp4
      replace hf := hf.mono hS4
      replace hc := hc.mono hS4
      replace he := he.mono hS4
      replace hp := hp.mono hS4
      refine nil ?_
      refine thN ?_
      refine xt ?_
      refine thX ?_
      refine bkX ?_
      refine thN ?_
      refine back ((i, insF o x, t1, vi, vo2, vt1)) (by assumption) ⟨⟨hn, by dsimp only; omega⟩, by dsimp only; omega⟩ (.cons rfl (by first | rfl | simp | (simp <;> omega)) (.cons rfl (by first | rfl | simp | (simp <;> omega)) (.cons rfl (by first | rfl | simp | (simp <;> omega)) (.cons rfl (by first | rfl | simp | (simp <;> omega)) (.cons rfl (by first | rfl | simp | (simp <;> omega)) .nil))))) (.cons T3 (Ent.Le.of (by first | rfl | simp | (simp <;> omega))) (.cons T3 (Ent.Le.of (by first | rfl | simp | (simp <;> omega))) (.cons T5 (Ent.Le.of (by first | rfl | simp | (simp <;> omega))) (.cons T5 (Ent.Le.of (by first | rfl | simp | (simp <;> omega))) (.cons T5 (Ent.Le.of (by first | rfl | simp | (simp <;> omega))) (.cons T0 (Ent.Le.of (by first | rfl | simp | (simp <;> omega))) (.cons T0 (Ent.Le.of (by first | rfl | simp | (simp <;> omega))) (.cons T1 (Ent.Le.of (by first | rfl | simp | (simp <;> omega))) .nil))))))))
    · skip
      refine sk ?_
      refine thN ?_
      refine sq ?_
      refine sq ?_
      refine rg ?_
      refine q (vLdA ag35 rfl (rB T4 (.z (.c .n))) (by simp)) rfl ?_
      refine l rfl (call cf84 (add_spec x h1.ri (by omega) _) rfl (.cons (.s (T5)) (.cons (.s (T5)) .nil)) rfl ?_)
      intro S5 r5 l5 hS5 hp5
      obtain ⟨vi2, rfl, rfl, rfl⟩ := hp5
      replace hf := hf.mono hS5
      replace hc := hc.mono hS5
      replace he := he.mono hS5
      replace hp := hp.mono hS5
      refine q (vNot rfl) rfl ?_
      refine nil ?_
      refine thN ?_
      refine cd rfl (fun hj => ?_) (fun hj => ?_) <;> try simp only [bls, beq_iff_eq, bne_iff_ne, Int.reduceToNat, List.length_map] at hj
      · skip
        have hn := h1.old hj
        have hins : insF i x = i := by rw [insF, if_pos hj]
        rw [hins]
        refine xt ?_
        refine thX ?_
        refine bkX ?_
        refine thN ?_
        refine back ((i, o, t1, vi2, vo, vt1)) (by assumption) ⟨⟨hn, by dsimp only; omega⟩, by dsimp only; omega⟩ (.cons rfl (by first | rfl | simp | (simp <;> omega)) (.cons rfl (by first | rfl | simp | (simp <;> omega)) (.cons rfl (by first | rfl | simp | (simp <;> omega)) (.cons rfl (by first | rfl | simp | (simp <;> omega)) (.cons rfl (by first | rfl | simp | (simp <;> omega)) .nil))))) (.cons T3 (Ent.Le.of (by first | rfl | simp | (simp <;> omega))) (.cons T3 (Ent.Le.of (by first | rfl | simp | (simp <;> omega))) (.cons T5 (Ent.Le.of (by first | rfl | simp | (simp <;> omega))) (.cons T0 (Ent.Le.of (by first | rfl | simp | (simp <;> omega))) (.cons T0 (Ent.Le.of (by first | rfl | simp | (simp <;> omega))) (.cons T3 (Ent.Le.of (by first | rfl | simp | (simp <;> omega))) (.cons T3 (Ent.Le.of (by first | rfl | simp | (simp <;> omega))) (.cons T1 (Ent.Le.of (by first | rfl | simp | (simp <;> omega))) .nil))))))))
      · skip
        have hn := h1.new hk
        have hil2 := hn.ilen
        have hil3 := insF_new_len hj
        have hnl : (nextF A (sortF cut) x).length ≤ 74 := nextF_len hF hr x
        refine sk ?_
        refine thN ?_
        refine sq ?_
        refine rg ?_
        refine q (vLdA ag35 rfl (rB (.s T5) (.z (.c .n))) (by simp)) rfl ?_
        refine q (vLdA ag77 rfl (rB T2 (.z (.c (.c (.c (.c (.c (.c (.c (.c (.c (.c .n)))))))))))) (by simp)) rfl ?_
        refine q (vMv rfl) rfl ?_
        refine l rfl (call cf85 (links_spec x dO_small ⟨he, hp⟩ (srcO T0) hcr (by omega) hscE) rfl (.cons (.s (.s (T5))) .nil) rfl ?_)
        intro S6 r6 l6 hS6 hp6
        obtain ⟨hO, rfl⟩ := hp6
        replace hf := hf.mono hS6
        replace hc := hc.mono hS6
        replace he := he.mono hS6
        replace hp := hp.mono hS6
        have hlk : (linksF (cutO (dO (getF A x)) (decide (x ∈ sortF cut)))).map (·.1) = nextF A (sortF cut) x := rfl
        have hlkl : (linksF (cutO (dO (getF A x)) (decide (x ∈ sortF cut)))).length = (nextF A (sortF cut) x).length := by rw [← hlk, List.length_map]
        generalize linksF (cutO (dO (getF A x)) (decide (x ∈ sortF cut))) = lk at hlk hlkl hO ⊢
        refine q (SrcOk.len (srcP hO) Tryz.underlying148 rfl) rfl ?_
        refine q (vMv rfl) rfl ?_
        refine nil ?_
        refine thN ?_
        refine bk ?_
        refine loop (ι := Nat × Value) (fun (q : Nat × Value) => [(0, ptr b 0), (8, .pointer (some ⟨B8, 0, none⟩)), (9, .pointer (some ⟨B9, 0, none⟩)), (10, r1), (11, q.2), (51, r6), (52, .int .i64 (lk.length : Int)), (53, .int .i64 (q.1 : Int))]) (fun (q : Nat × Value) => [blk b 204 [[v]], sl v 209 33 (A.map encIt), sl r1 35 32 ((sortF cut).map encId), blk B8 145 [[vi2]], sl vi2 35 32 ((insF i x).map encId), blk B9 145 [[vo]], sl vo 35 32 (o.map encId), sl q.2 35 32 ((t1 ++ (lk.take q.1).map (·.1)).map encId)]) (fun (q : Nat × Value) => fun S' => q.1 ≤ lk.length) (fun (q : Nat × Value) => lk.length - q.1) (0, vt1) (Nat.zero_le _) (.cons rfl (by first | rfl | simp | (simp <;> omega)) (.cons rfl (by first | rfl | simp | (simp <;> omega)) (.cons rfl (by first | rfl | simp | (simp <;> omega)) (.cons rfl (by first | rfl | simp | (simp <;> omega)) (.cons rfl (by first | rfl | simp | (simp <;> omega)) (.cons rfl (by first | rfl | simp | (simp <;> omega)) (.cons rfl (by first | rfl | simp | (simp <;> omega)) (.cons rfl (by first | rfl | simp | (simp <;> omega)) .nil)))))))) (.cons T4 (Ent.Le.of (by first | rfl | simp | (simp <;> omega))) (.cons T4 (Ent.Le.of (by first | rfl | simp | (simp <;> omega))) (.cons T0 (Ent.Le.of (by first | rfl | simp | (simp <;> omega))) (.cons T0 (Ent.Le.of (by first | rfl | simp | (simp <;> omega))) (.cons T0 (Ent.Le.of (by first | rfl | simp | (simp <;> omega))) (.cons T3 (Ent.Le.of (by first | rfl | simp | (simp <;> omega))) (.cons T3 (Ent.Le.of (by first | rfl | simp | (simp <;> omega))) (.cons T1 (Ent.Le.of (by first | rfl | simp | (simp <;> omega))) .nil)))))))) ?_
        rintro ⟨j, vt2⟩ S7 hle7 h7
        replace hf := hf.mono hle7
        replace hc := hc.mono hle7
        replace he := he.mono hle7
        replace hp := hp.mono hle7
        replace hO := hO.mono hle7
        dsimp only at h7 ⊢
        have hll : ((t1 ++ (lk.take j).map (·.1)).map encId).length ≤ t1.length + 74 := by rw [List.length_map, List.length_append, List.length_map, List.length_take]; omega
        refine sq ?_
        refine rg ?_
        refine q (vLt rfl rfl) rfl ?_
        refine nil ?_
        refine thN ?_
        refine sq ?_
        refine cd rfl (fun hm => ?_) (fun hm => ?_) <;> try simp only [bls, beq_iff_eq, bne_iff_ne, Int.reduceToNat, List.length_map] at hm
        · skip
          have hjl : j < lk.length := by omega
          have e1 : (t1 ++ (lk.take (j + 1)).map (·.1)).map encId = (t1 ++ (lk.take j).map (·.1)).map encId ++ [encId (lk.getD j default).1] := by
            rw [take_next lk j hjl]; simp
          refine sk ?_
          refine thN ?_
          refine sq ?_
          refine bk ?_
          refine sq ?_
          refine rg ?_
          refine q (vIxP sl148 rfl rfl hO (by first | omega | (simp only [Int.toNat_natCast, Int.reduceToNat, List.length_append, List.length_cons, List.length_nil, List.length_map, bid_len]; omega) | (simp <;> omega))) rfl ?_
          refine q (vLdA ag151 rfl (rP hO (gm (by first | omega | (simp only [Int.toNat_natCast, Int.reduceToNat, List.length_append, List.length_cons, List.length_nil, List.length_map, bid_len]; omega) | (simp <;> omega)))) (by simp)) rfl ?_
          refine l rfl (alloc ze151 rfl ?_)
          intro B16
          refine l rfl (store sz151 rfl rfl T0 (by simp) (.z (.c inferInstance inferInstance (.c inferInstance inferInstance .n))) ?_)
          refine nil ?_
          refine thN ?_
          refine rg ?_
          refine q (vMv rfl) rfl ?_
          refine q (vFa fa151_0 rfl) rfl ?_
          refine q (vLdA ag35 rfl (rB T0 (.z (.c .n))) (by simp)) rfl ?_
          refine l rfl (bslice sl27 ze35 (.cA rfl .nil) (by simp) rfl rfl rfl rfl ?_)
          intro B60
          refine l rfl (app ap27 rfl rfl (.s (.s (.s (.s T5)))) (srcO T0) (by first | omega | (simp only [Int.toNat_natCast, Int.reduceToNat, List.length_append, List.length_cons, List.length_nil, List.length_map, bid_len]; omega) | (simp <;> omega)) rfl ?_)
          intro v61 hv61
          refine q (vAs rfl) rfl ?_
          refine nil ?_
          refine bkN ?_
          refine thN ?_
          refine rg ?_
          refine q (vAdd rfl rfl (by first | omega | (simp only [Int.toNat_natCast, Int.reduceToNat, List.length_append, List.length_cons, List.length_nil, List.length_map, bid_len]; omega) | (simp <;> omega))) rfl ?_
          refine q (vMv rfl) rfl ?_
          refine nil ?_
          refine thN ?_
          refine back ((j + 1, v61)) (Le.refl _) ⟨by dsimp only; omega, by dsimp only; omega⟩ (.cons rfl (by first | rfl | (dsimp only; rw [e1]; rfl)) (.cons rfl (by first | rfl | (dsimp only; rw [e1]; rfl)) (.cons rfl (by first | rfl | (dsimp only; rw [e1]; rfl)) (.cons rfl (by first | rfl | (dsimp only; rw [e1]; rfl)) (.cons rfl (by first | rfl | (dsimp only; rw [e1]; rfl)) (.cons rfl (by first | rfl | (dsimp only; rw [e1]; rfl)) (.cons rfl (by first | rfl | (dsimp only; rw [e1]; rfl)) (.cons rfl (by first | rfl | (dsimp only; rw [e1]; rfl)) .nil)))))))) (.cons T3 (Ent.Le.of (by first | rfl | (dsimp only; rw [e1]; rfl))) (.cons T3 (Ent.Le.of (by first | rfl | (dsimp only; rw [e1]; rfl))) (.cons T3 (Ent.Le.of (by first | rfl | (dsimp only; rw [e1]; rfl))) (.cons T3 (Ent.Le.of (by first | rfl | (dsimp only; rw [e1]; rfl))) (.cons T3 (Ent.Le.of (by first | rfl | (dsimp only; rw [e1]; rfl))) (.cons T3 (Ent.Le.of (by first | rfl | (dsimp only; rw [e1]; rfl))) (.cons T3 (Ent.Le.of (by first | rfl | (dsimp only; rw [e1]; rfl))) (.cons T0 (Ent.Le.of (by first | rfl | (dsimp only; rw [e1]; rfl))) .nil))))))))
        · skip
          have e1 : (lk.take j).map (·.1) = nextF A (sortF cut) x := by rw [List.take_of_length_le (by omega), hlk]
          rw [e1]
          refine xt ?_
          refine thX ?_
          refine thX ?_
          refine bkX ?_
          refine bkN ?_
          refine thN ?_
          refine back ((insF i x, o, t1 ++ nextF A (sortF cut) x, vi2, vo, vt2)) ((hS3.trans hS6).trans hle7) ⟨⟨hn, by dsimp only; rw [List.length_append]; omega⟩, by dsimp only; rw [List.length_append]; omega⟩ (.cons rfl (by first | rfl | simp | (simp <;> omega)) (.cons rfl (by first | rfl | simp | (simp <;> omega)) (.cons rfl (by first | rfl | simp | (simp <;> omega)) (.cons rfl (by first | rfl | simp | (simp <;> omega)) (.cons rfl (by first | rfl | simp | (simp <;> omega)) .nil))))) (.cons T0 (Ent.Le.of (by first | rfl | simp | (simp <;> omega))) (.cons T0 (Ent.Le.of (by first | rfl | simp | (simp <;> omega))) (.cons T0 (Ent.Le.of (by first | rfl | simp | (simp <;> omega))) (.cons T0 (Ent.Le.of (by first | rfl | simp | (simp <;> omega))) (.cons T0 (Ent.Le.of (by first | rfl | simp | (simp <;> omega))) (.cons T0 (Ent.Le.of (by first | rfl | simp | (simp <;> omega))) (.cons T0 (Ent.Le.of (by first | rfl | simp | (simp <;> omega))) (.cons T0 (Ent.Le.of (by first | rfl | simp | (simp <;> omega))) .nil))))))))
  · skip
    have ht0 : t = [] := List.eq_nil_of_length_eq_zero (by omega)
    subst ht0
    have hdone := h1.done
    refine pub T4 (fun S7 hS7 hI => ?_)
    replace hf := hf.mono hS7
    replace hc := hc.mono hS7
    refine pub T5 (fun S8 hS8 hO => ?_)
    replace hf := hf.mono hS8
    replace hc := hc.mono hS8
    replace hI := hI.mono hS8
    refine xt ?_
    refine thX ?_
    refine thX ?_
    refine bkX ?_
    refine thN ?_
    refine sq ?_
    refine dr (.take 0 (.take 1 (.take 2 (.take 3 .done)))) wide (by decide +kernel) _ _ (.cons T0 (.cons T0 (.cons T0 (.cons T0 (.cons T0 (.cons T0 .nil)))))) ?_
    refine pT rfl (vLd sc145 rfl (rB1 T3 (.z (.c .n)))) rfl ?_
    refine pT rfl (vLd sc145 rfl (rB1 T4 (.z (.c .n)))) rfl ?_
    refine pT rfl (vAs rfl) rfl ?_
    refine pT rfl (vAs rfl) rfl ?_
    refine pDone ?_
    refine thN ?_
    refine rt ?_
    have hs1 : ∀ x, Rch A (sortF cut) frm x ↔ Rch A cut frm x := fun x => ⟨Rch.cut hcm, Rch.cut (fun y => (hcm y).symm)⟩
    refine ret rfl (.t rfl (.t rfl .nil)) (.t T0 (.t T0 .nil)) ⟨vi, vo, i, o, rfl, hI, hO, ⟨h1.ri, h1.ro, fun x => by rw [hdone.1, hs1], fun x => by rw [hdone.2, hs1]⟩, rfl⟩
end Go.Proofs.YtjmigoikklkfdaaGreatDoor
namespace Go.Proofs.YtjmigoikklkfdaaGreatDoor
open Go
set_option linter.unusedVariables false
set_option linter.unusedSimpArgs false
set_option maxRecDepth 4000
theorem In1_spec {v : Value} {ids : List BId} {S : Mem} {E1 : Ent} (hl : SrcOk S [E1] v 32 (ids.map encId)) (hlen : ids.length < 1073741824) (x : BId) : PureL Tryz.prog 38 [v, idv x] S [E1] (.bool (decide (x ∈ ids))) := by
  refine enter Tryz.func38 rfl 18 rfl rfl (fun w0 => ?_)
  refine sq ?_
  refine rg ?_
  refine l rfl (box rfl rfl ?_)
  intro B3
  refine q (vAs rfl) rfl ?_
  refine nil ?_
  refine thN ?_
  refine sq ?_
  refine sq ?_
  refine rg ?_
  refine q (vAs rfl) rfl ?_
  refine nil ?_
  refine thN ?_
  refine bk ?_
  refine loop (ι := Nat) (fun (i : Nat) => [(0, v), (3, .pointer (some ⟨B3, 0, none⟩)), (5, .int .i64 (i : Int))]) (fun (i : Nat) => [E1, blk B3 35 [encId x]]) (fun (i : Nat) => fun S' => i ≤ ids.length ∧ ∀ j, j < i → ids.getD j default ≠ x) (fun (i : Nat) => ids.length - i) 0 ⟨Nat.zero_le _, fun j h => absurd h (Nat.not_lt_zero _)⟩ (.cons rfl (by first | rfl | simp | (simp <;> omega)) (.cons rfl (by first | rfl | simp | (simp <;> omega)) (.cons rfl (by first | rfl | simp | (simp <;> omega)) .nil))) (.cons T1 (Ent.Le.of (by first | rfl | simp | (simp <;> omega))) (.cons T0 (Ent.Le.of (by first | rfl | simp | (simp <;> omega))) .nil)) ?_
  rintro i S2 hle2 ⟨h1, h2⟩
  replace hl := hl.mono hle2
  refine sq ?_
  refine sq ?_
  refine rg ?_
  refine q (vMv rfl) rfl ?_
  refine q (vMv rfl) rfl ?_
  refine q (SrcOk.len (SrcOk.takes hl (.cons T0 .nil)) Tryz.underlying27 rfl) rfl ?_
  refine q (vLt rfl rfl) rfl ?_
  refine nil ?_
  refine thN ?_
  refine cd rfl (fun hc => ?_) (fun hc => ?_) <;> try simp only [bls, beq_iff_eq, bne_iff_ne, Int.reduceToNat, List.length_map] at hc
  · skip
    have hi : i < ids.length := by omega
    refine sk ?_
    refine thN ?_
    refine sq ?_
    refine bk ?_
    refine sq ?_
    refine dr (.take 0 (.take 1 (.take 2 (.take 3 (.take 4 (.take 5 .done)))))) wide (by decide +kernel) _ _ (.cons T0 (.cons T0 .nil)) ?_
    refine pT rfl (vMv rfl) rfl ?_
    refine pT rfl (vMv rfl) rfl ?_
    refine pT rfl (vIxSrc sl27 rfl rfl (SrcOk.takes hl (.cons T0 .nil)) (by first | omega | (simp only [Int.toNat_natCast, Int.reduceToNat, List.length_append, List.length_cons, List.length_nil, List.length_map, bid_len]; omega) | (simp <;> omega))) rfl ?_
    refine pT rfl (vLdA ag35 rfl (Rd.f1 (rSrc (SrcOk.takes hl (.cons T0 .nil)) (gm (by first | omega | (simp only [Int.toNat_natCast, Int.reduceToNat, List.length_append, List.length_cons, List.length_nil, List.length_map, bid_len]; omega) | (simp <;> omega))))) (by simp)) rfl ?_
    refine pT rfl (vLdA ag35 rfl (rB T1 (.z (.c .n))) (by simp)) rfl ?_
    refine pT rfl (vEqA id35 rfl rfl) rfl ?_
    refine pDone ?_
    refine thN ?_
    refine cd rfl (fun hd => ?_) (fun hd => ?_) <;> try simp only [bls, beq_iff_eq, bne_iff_ne, Int.reduceToNat, List.length_map] at hd
    · skip
      refine sq ?_
      refine rg ?_
      refine q (vAs rfl) rfl ?_
      refine nil ?_
      refine thN ?_
      refine rt ?_
      refine bkR ?_
      refine thR ?_
      refine thR ?_
      refine bkR ?_
      refine thR ?_
      have hm : x ∈ ids := by
        have hd' : ids.getD i default = x := by simpa using hd
        rw [← hd', List.getD_eq_getElem?_getD, List.getElem?_eq_getElem hi]; exact List.getElem_mem hi
      refine retP rfl (.t rfl .nil) (.t T0 .nil) ⟨by rw [decide_eq_true hm]; rfl, rfl, rfl⟩
    · skip
      refine sk ?_
      refine bkN ?_
      refine thN ?_
      refine rg ?_
      refine q (vMv rfl) rfl ?_
      refine q (vAdd rfl rfl (by first | omega | (simp only [Int.toNat_natCast, Int.reduceToNat, List.length_append, List.length_cons, List.length_nil, List.length_map, bid_len]; omega) | (simp <;> omega))) rfl ?_
      refine q (vAs rfl) rfl ?_
      refine nil ?_
      refine thN ?_
      refine back (i + 1) (Le.refl _) ⟨⟨by omega, below_succ h2 (by simpa using hd)⟩, by omega⟩ (.cons rfl (by first | rfl | simp | (simp <;> omega)) (.cons rfl (by first | rfl | simp | (simp <;> omega)) (.cons rfl (by first | rfl | simp | (simp <;> omega)) .nil))) (.cons T0 (Ent.Le.of (by first | rfl | simp | (simp <;> omega))) (.cons T0 (Ent.Le.of (by first | rfl | simp | (simp <;> omega))) .nil))
  · skip
    refine xt ?_
    refine thX ?_
    refine thX ?_
    refine bkX ?_
    refine thN ?_
    refine sq ?_
    refine rg ?_
    refine q (vAs rfl) rfl ?_
    refine nil ?_
    refine thN ?_
    refine rt ?_
    have hm : x ∉ ids := by
      intro hm
      obtain ⟨j, hj, rfl⟩ := List.getElem_of_mem hm
      exact h2 j (by omega) (by rw [List.getD_eq_getElem?_getD, List.getElem?_eq_getElem hj]; rfl)
    refine retP rfl (.t rfl .nil) (.t T0 .nil) ⟨by rw [decide_eq_false hm]; rfl, rfl, rfl⟩
theorem linksF_cut {o : DObj} (h : o.kind = 3) : (linksF { o with parents := [] }) = (linksF o).take 1 := by
  rw [linksF3 h, linksF3 (o := { o with parents := [] }) h, lk3, lk3, if_pos h, if_pos h]; rfl
theorem Next_spec {v vc : Value} {R : List RIt} {cut : List BId} {S : Mem} (h : RS S v R) (hr : Rising (keys (texts R))) (hF : Fine (texts R)) (hl : PSl S vc 32 (cut.map encId)) (x : BId) :
    Spec Tryz.prog 77 [ag [[v]], idv x, vc] S [] (fun S' r L' => PSl S' r 32 ((nextF (texts R) cut x).map encId) ∧ L' = []) := by
  have hsc := h.pl.sc
  refine enter Tryz.func77 rfl 45 rfl rfl (fun w0 => ?_)
  refine sq ?_
  refine rg ?_
  refine l rfl (box rfl rfl ?_)
  intro B3
  refine l rfl (box rfl rfl ?_)
  intro B4
  refine q (vAs rfl) rfl ?_
  refine nil ?_
  refine thN ?_
  refine sq ?_
  refine rg ?_
  refine q (vLdA ag30 rfl (rB T1 (.z (.c .n))) (by simp)) rfl ?_
  refine q (vLdA ag35 rfl (rB T0 (.z (.c .n))) (by simp)) rfl ?_
  refine l rfl (call cf116 (ref_SLinks_spec h hr x) rfl .nil rfl ?_)
  intro S1 r1 l1 hS1 hp1
  obtain ⟨hk, rfl⟩ := hp1
  replace h := h.mono hS1
  replace hl := hl.mono hS1
  have hlk : nextF (texts R) cut x = (linksF (cutO (objF (texts R) x) (decide (x ∈ cut)))).map (·.1) := rfl
  have hlen : (linksF (objF (texts R) x)).length ≤ 74 := by
    have := nextF_len (cut := []) hF hr x
    unfold nextF at this
    rw [List.length_map] at this
    have e : cutO (objF (texts R) x) (decide (x ∈ ([] : List BId))) = objF (texts R) x := by rw [cutO, if_neg]; rintro ⟨_, h2⟩; simp at h2
    rwa [e] at this
  have hko : (dO (getF (texts R) x)).kind = (objF (texts R) x).kind := rfl
  change PSl _ _ 33 ((linksF (objF (texts R) x)).map encL) at hk
  obtain ⟨m, hm1, hm2⟩ : ∃ m : Nat, nextF (texts R) cut x = ((linksF (objF (texts R) x)).take m).map (·.1) ∧ ∀ i, i < (linksF (objF (texts R) x)).length → (((objF (texts R) x).kind = 3 ∧ x ∈ cut ∧ 0 < i) ↔ m ≤ i) := by
    by_cases hc : (objF (texts R) x).kind = 3 ∧ decide (x ∈ cut) = true
    · refine ⟨1, ?_, fun i hi => ⟨fun h => h.2.2, fun h => ⟨hc.1, by simpa using hc.2, h⟩⟩⟩
      rw [hlk, cutO, if_pos hc, linksF_cut hc.1]
    · refine ⟨(linksF (objF (texts R) x)).length, ?_, fun i hi => ⟨fun h => absurd ⟨h.1, by simpa using h.2.1⟩ hc, fun h => by omega⟩⟩
      rw [hlk, cutO, if_neg hc, List.take_length]
  rw [hm1]
  generalize linksF (objF (texts R) x) = lk at hlen hm2 hk ⊢
  refine q (vAs rfl) rfl ?_
  refine nil ?_
  refine thN ?_
  refine sq ?_
  refine rg ?_
  refine q (vMv rfl) rfl ?_
  refine q (vLdA ag35 rfl (rB T0 (.z (.c .n))) (by simp)) rfl ?_
  refine l rfl (callP cf38 (ids_In_spec hl _) rfl .nil rfl ?_)
  refine q (vAs rfl) rfl ?_
  refine nil ?_
  refine thN ?_
  refine sq ?_
  refine rg ?_
  refine q (vLdA ag30 rfl (rB T1 (.z (.c .n))) (by simp)) rfl ?_
  refine q (vLdA ag35 rfl (rB T0 (.z (.c .n))) (by simp)) rfl ?_
  refine l rfl (callP cf22 (ref_Kind_spec h hr _) rfl .nil rfl ?_)
  rw [hko]
  refine q (vAs rfl) rfl ?_
  refine nil ?_
  refine thN ?_
  refine sq ?_
  refine rg ?_
  refine q (vAs rfl) rfl ?_
  refine nil ?_
  refine thN ?_
  refine sq ?_
  refine sq ?_
  refine rg ?_
  refine q (vAs rfl) rfl ?_
  refine nil ?_
  refine thN ?_
  refine bk ?_
  refine nilsl 35 32 ?_
  refine loop (ι := Nat × Value) (fun (p : Nat × Value) => [(7, r1), (8, .bool (decide (x ∈ cut))), (9, .int .i64 ((objF (texts R) x).kind : Nat)), (10, p.2), (11, .int .i64 (p.1 : Int))]) (fun (p : Nat × Value) => [sl p.2 35 32 (((lk.take (min p.1 m)).map (·.1)).map encId)]) (fun (p : Nat × Value) => fun S' => p.1 ≤ lk.length) (fun (p : Nat × Value) => lk.length - p.1) (0, .slice none 0 0) (Nat.zero_le _) (.cons rfl (by first | rfl | simp | (simp <;> omega)) (.cons rfl (by first | rfl | simp | (simp <;> omega)) (.cons rfl (by first | rfl | simp | (simp <;> omega)) (.cons rfl (by first | rfl | simp | (simp <;> omega)) (.cons rfl (by first | rfl | simp | (simp <;> omega)) .nil))))) (.cons T0 (Ent.Le.of (by first | rfl | (simp; done))) .nil) ?_
  rintro ⟨i, w⟩ S3 hle3 h1
  replace h := h.mono hle3
  replace hl := hl.mono hle3
  replace hk := hk.mono hle3
  dsimp only at h1 ⊢
  refine sq ?_
  refine sq ?_
  refine rg ?_
  refine q (vMv rfl) rfl ?_
  refine q (vMv rfl) rfl ?_
  refine q (SrcOk.len (srcP hk) Tryz.underlying148 rfl) rfl ?_
  refine q (vLt rfl rfl) rfl ?_
  refine nil ?_
  refine thN ?_
  refine cd rfl (fun hc => ?_) (fun hc => ?_) <;> try simp only [bls, beq_iff_eq, bne_iff_ne, Int.reduceToNat, List.length_map] at hc
  · skip
    have hi : i < lk.length := by omega
    have hmi := hm2 i hi
    have htl : (((lk.take (min i m)).map (·.1)).map encId).length ≤ 74 := by rw [List.length_map, List.length_map, List.length_take]; omega
    refine sk ?_
    refine thN ?_
    refine sq ?_
    refine bk ?_
    refine sq ?_
    refine sq ?_
    refine rg ?_
    refine q (vMv rfl) rfl ?_
    refine q (vEq rfl rfl) rfl ?_
    refine q (vMv rfl) rfl ?_
    apply gAnd 29 31 2
    · rfl
    · intro hb1 hX1
      have hc1 := hb1 ; try simp only [bls, beq_iff_eq, bne_iff_ne, Int.reduceToNat, List.length_map] at hc1
      refine qT ⟨_, rfl, rfl⟩ (vMv rfl) rfl ?_
      refine q (vPkT rfl rfl) rfl ?_
      exact gTT 2 29 rfl rfl rfl rfl hb1 hX1
    · intro hb1 hX1
      have hc1 := hb1 ; try simp only [bls, beq_iff_eq, bne_iff_ne, Int.reduceToNat, List.length_map] at hc1
      refine qF ⟨_, _, rfl, rfl, rfl⟩ rfl ?_
      refine q (vPkF rfl rfl) rfl ?_
      exact gTF 2 29 rfl rfl rfl rfl hb1 hX1
    refine q (vMv rfl) rfl ?_
    apply gAnd 32 35 3
    · rfl
    · intro hb2 hX2
      have hc2 := hb2 ; try simp only [bls, beq_iff_eq, bne_iff_ne, Int.reduceToNat, List.length_map] at hc2
      refine qT ⟨_, rfl, rfl⟩ (vMv rfl) rfl ?_
      refine qT ⟨_, rfl, rfl⟩ (vGt rfl rfl) rfl ?_
      refine q (vPkT rfl rfl) rfl ?_
      exact gTT 3 32 rfl rfl rfl rfl hb2 hX2
    · intro hb2 hX2
      have hc2 := hb2 ; try simp only [bls, beq_iff_eq, bne_iff_ne, Int.reduceToNat, List.length_map] at hc2
      refine qF ⟨_, _, rfl, rfl, rfl⟩ rfl ?_
      refine qF ⟨_, _, rfl, rfl, rfl⟩ rfl ?_
      refine q (vPkF rfl rfl) rfl ?_
      exact gTF 3 32 rfl rfl rfl rfl hb2 hX2
    refine nil ?_
    refine thN ?_
    refine cd rfl (fun hd => ?_) (fun hd => ?_) <;> try simp only [bls, beq_iff_eq, bne_iff_ne, Int.reduceToNat, List.length_map] at hd
    · skip
      have hge : m ≤ i := hmi.1 ⟨by omega, by simpa using hd.1.2, by omega⟩
      have e1 : min (i + 1) m = min i m := by omega
      refine xt ?_
      refine thX ?_
      refine bkX ?_
      refine thN ?_
      refine rg ?_
      refine q (vMv rfl) rfl ?_
      refine q (vAdd rfl rfl (by first | omega | (simp only [Int.toNat_natCast, Int.reduceToNat, List.length_append, List.length_cons, List.length_nil, List.length_map, bid_len]; omega) | (simp <;> omega))) rfl ?_
      refine q (vAs rfl) rfl ?_
      refine nil ?_
      refine thN ?_
      refine back ((i + 1, w)) (Le.refl _) ⟨by dsimp only; omega, by dsimp only; omega⟩ (.cons rfl (by first | rfl | (dsimp only; rw [e1])) (.cons rfl (by first | rfl | (dsimp only; rw [e1])) (.cons rfl (by first | rfl | (dsimp only; rw [e1])) (.cons rfl (by first | rfl | (dsimp only; rw [e1])) (.cons rfl (by first | rfl | (dsimp only; rw [e1])) .nil))))) (.cons T0 (Ent.Le.of (by first | rfl | (dsimp only; rw [e1]))) .nil)
    · skip
      have hlt : i < m := by
        rcases Nat.lt_or_ge i m with h9 | h9
        · exact h9
        · obtain ⟨k1, k2, k3⟩ := hmi.2 h9
          rcases hd with hd | hd
          · rcases hd with hd | hd
            · omega
            · exact absurd k2 hd
          · omega
      have e1 : ((lk.take (min (i + 1) m)).map (·.1)).map encId = ((lk.take (min i m)).map (·.1)).map encId ++ [encId (lk.getD i default).1] := by
        rw [show min (i + 1) m = i + 1 by omega, show min i m = i by omega, take_next lk i hi]; simp
      refine sk ?_
      refine thN ?_
      refine rg ?_
      refine q (vMv rfl) rfl ?_
      refine q (vMv rfl) rfl ?_
      refine q (vMv rfl) rfl ?_
      refine q (vIxP sl148 rfl rfl hk (by first | omega | (simp only [Int.toNat_natCast, Int.reduceToNat, List.length_append, List.length_cons, List.length_nil, List.length_map, bid_len]; omega) | (simp <;> omega))) rfl ?_
      refine q (vFp fa151_0 rfl (rP hk (gm (by first | omega | (simp only [Int.toNat_natCast, Int.reduceToNat, List.length_append, List.length_cons, List.length_nil, List.length_map, bid_len]; omega) | (simp <;> omega))))) rfl ?_
      refine q (vLdA ag35 rfl (Rd.at (rP hk (gm (by first | omega | (simp only [Int.toNat_natCast, Int.reduceToNat, List.length_append, List.length_cons, List.length_nil, List.length_map, bid_len]; omega) | (simp <;> omega)))) (.z (.c .n))) (by simp)) rfl ?_
      refine l rfl (bslice sl27 ze35 (.cA rfl .nil) (by simp) rfl rfl rfl rfl ?_)
      intro B42
      refine l rfl (app ap27 rfl rfl T1 (srcO T0) (by first | omega | (simp only [Int.toNat_natCast, Int.reduceToNat, List.length_append, List.length_cons, List.length_nil, List.length_map, bid_len]; omega) | (simp <;> omega)) rfl ?_)
      intro v43 hv43
      refine q (vAs rfl) rfl ?_
      refine nil ?_
      refine bkN ?_
      refine thN ?_
      refine rg ?_
      refine q (vMv rfl) rfl ?_
      refine q (vAdd rfl rfl (by first | omega | (simp only [Int.toNat_natCast, Int.reduceToNat, List.length_append, List.length_cons, List.length_nil, List.length_map, bid_len]; omega) | (simp <;> omega))) rfl ?_
      refine q (vAs rfl) rfl ?_
      refine nil ?_
      refine thN ?_
      refine back ((i + 1, v43)) (Le.refl _) ⟨by dsimp only; omega, by dsimp only; omega⟩ (.cons rfl (by first | rfl | (dsimp only; rw [e1]; rfl)) (.cons rfl (by first | rfl | (dsimp only; rw [e1]; rfl)) (.cons rfl (by first | rfl | (dsimp only; rw [e1]; rfl)) (.cons rfl (by first | rfl | (dsimp only; rw [e1]; rfl)) (.cons rfl (by first | rfl | (dsimp only; rw [e1]; rfl)) .nil))))) (.cons T0 (Ent.Le.of (by first | rfl | (dsimp only; rw [e1]; rfl))) .nil)
  · skip
    have e1 : lk.take (min i m) = lk.take m := by
      obtain rfl : i = lk.length := by omega
      rcases Nat.le_total m lk.length with h9 | h9
      · rw [Nat.min_eq_right h9]
      · rw [Nat.min_eq_left h9, List.take_length, List.take_of_length_le h9]
    rw [e1]
    refine xt ?_
    refine thX ?_
    refine thX ?_
    refine bkX ?_
    refine thN ?_
    refine sq ?_
    refine rg ?_
    refine q (vMv rfl) rfl ?_
    refine q (vAs rfl) rfl ?_
    refine nil ?_
    refine thN ?_
    refine rt ?_
    refine pub T0 (fun S2 hS2 hO => ?_)
    replace h := h.mono hS2
    replace hl := hl.mono hS2
    replace hk := hk.mono hS2
    refine ret rfl (.t rfl .nil) .nil ⟨hO, rfl⟩
end Go.Proofs.YtjmigoikklkfdaaGreatDoor
