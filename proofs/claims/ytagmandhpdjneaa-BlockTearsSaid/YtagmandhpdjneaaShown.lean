import Derived.Test.YtagmandhpdjneaaStates
set_option linter.unusedVariables false
namespace Go
theorem H_block_copied (b : List UInt8) (hp : True) (hf : Vg.Row.ok (Vg.PS.flat [.one (.slice [.int .u8])]) b) : V_block_copied b := by
  unfold V_block_copied
  refine ⟨by omega, ?_⟩
  simp only [List.length_replicate, List.drop_replicate, Go.S.copied]
  rfl
theorem H_block_blank (n : Int) (hp : S.blankPre n) (hf : Vg.Row.ok (Vg.PS.flat [.one (.int .i64)]) n) : V_block_blank n := by
  unfold V_block_blank
  simp only [Go.S.blankPre] at hp
  refine ⟨by omega, ⟨by omega, by omega, by omega⟩, ⟨by omega, by omega, by omega⟩, ⟨0, ⟨rfl, by simp, rfl⟩, by simp [Go.S.natLe]⟩, fun x hx => ⟨fun h => ?_, fun h => ?_⟩⟩
  · simp only [Go.S.natLe] at hx
    simp only [List.length_replicate, decide_eq_true_eq] at h ⊢
    refine ⟨by omega, by omega, by omega, by omega, by omega, by omega, by omega, x + 1, ⟨by omega, by trivial, by trivial, by trivial⟩, ?_, ?_⟩ <;> simp only [Go.S.natLe, Go.S.meas] <;> omega
  · simp only [Go.S.natLe] at hx
    simp only [List.length_replicate, decide_eq_false_iff_not] at h
    refine ⟨rfl, by omega, rfl, ?_⟩
    simp only [Go.S.zeros64]
    congr 1; omega
theorem H_block_stored (d1 : List (List UInt8)) (d2 : List (Int × List UInt8)) (hp : S.storedPre d1) (hf : Vg.Row.ok (Vg.PS.flat [.agg [.slice [.slice [.int .u8]], .slice [.int .i64, .slice [.int .u8]]]]) (d1, d2)) : V_block_stored d1 d2 := by
  unfold V_block_stored
  obtain ⟨h1, h2⟩ := hp
  refine ⟨⟨by omega, by omega⟩, ⟨0, ⟨rfl, ?_⟩, by simp [Go.S.minv]⟩, fun x hx => ⟨fun h => ?_, fun h => ?_⟩⟩
  · simp [Go.S.zeros64, Go.S.storedAt]
  · simp only [decide_eq_true_eq] at h
    have hx' : x < d1.length := by omega
    have hf := Go.S.flatten_length (d1.take x) fun b hb => h2 b (List.mem_of_mem_take hb)
    have hb := h2 _ (Go.S.getD_mem d1 x [] hx')
    have hs : Go.S.storedAt d1 x = (d1.take x ++ List.replicate (d1.length - x) (List.replicate 64 0)).flatten := by
      simp only [Go.S.storedAt, List.flatten_append, List.flatten_replicate_replicate]
    have h64 : ∀ b ∈ d1.take x ++ List.replicate (d1.length - x) (List.replicate 64 (0 : UInt8)), b.length = 64 := by
      intro b hb
      rcases List.mem_append.1 hb with hb | hb
      · exact h2 b (List.mem_of_mem_take hb)
      · rw [(List.mem_replicate.1 hb).2, List.length_replicate]
    simp only [Int.toNat_natCast]
    refine ⟨by omega, by omega, hx', ?_, by omega, x + 1, ⟨by omega, ?_⟩, ?_, ?_⟩
    · simp only [Go.S.storedAt, List.length_append, hf, List.length_take, List.length_replicate]
      omega
    · rw [hs, hb, show Min.min 64 64 = 64 by rfl, List.take_of_length_le (l := d1.getD x []) (by omega)]
      have := Go.S.flatten_put _ x (d1.getD x []) h64 (by simp; omega) (by omega)
      rw [hb] at this
      have h0 := h64 _ (Go.S.getD_mem (d1.take x ++ List.replicate (d1.length - x) (List.replicate 64 0)) x [] (by simp; omega))
      rw [List.drop_of_length_le (Nat.le_of_eq h0), List.append_nil] at this
      rw [this]
      simp only [Go.S.storedAt]
      rw [List.set_append_right _ _ (by simp; omega), List.length_take, Nat.min_eq_left (by omega), Nat.sub_self, show d1.length - x = (d1.length - (x + 1)) + 1 by omega, List.replicate_succ, List.set_cons_zero, Go.S.take_succ_getD d1 x [] hx']
      simp only [List.flatten_append, List.flatten_cons, List.flatten_replicate_replicate, List.append_assoc, List.flatten_nil, List.nil_append]
    · simp only [Go.S.minv]; omega
    · simp only [Go.S.meas, Go.S.len]; omega
  · simp only [decide_eq_false_iff_not] at h
    simp only [Go.S.minv] at hx
    have hx' : x = d1.length := by omega
    subst hx'
    simp [Go.S.len, Go.S.storedAt, Go.S.flat]
theorem H_block_Right (d1 : List (List UInt8)) (d2 : List (Int × List UInt8)) (hp : True) (hf : Vg.Row.ok (Vg.PS.flat [.agg [.slice [.slice [.int .u8]], .slice [.int .i64, .slice [.int .u8]]]]) (d1, d2)) : V_block_Right d1 d2 := by
  unfold V_block_Right
  have hl1 : d1.length ≤ 9223372036854775807 := hf.1.1
  have hl2 : d2.length ≤ 9223372036854775807 := hf.2.1.1
  refine ⟨fun h => ?_, fun h => ⟨⟨0, rfl, by simp [Go.S.rinv]⟩, fun x hx => ⟨fun h' => ⟨by simp at h'; omega, fun g => ?_, fun g => ⟨by simp at h'; omega, x + 1, rfl, ?_, ?_⟩⟩, fun h' => ⟨⟨0, rfl, by simp [Go.S.winv]⟩, fun y hy => ⟨fun h2 => ⟨by simp at h2; omega, fun g => ?_, fun g => ⟨by simp at h2; omega, y + 1, rfl, ?_, ?_⟩⟩, fun h2 => ?_⟩⟩⟩⟩⟩
  · refine Go.S.right_false fun hr => ?_
    rcases Go.S.bif_true h with h | h <;> simp at h <;> omega
  · simp only [Int.toNat_natCast, decide_eq_true_eq, Bool.not_eq_true', decide_eq_false_iff_not] at h' g
    exact Go.S.right_false fun hr => absurd (hr.2.2.1 _ (Go.S.getD_mem d1 x [] (by omega))) (by omega)
  · simp only [Int.toNat_natCast, decide_eq_true_eq, Bool.not_eq_false'] at h' g
    refine ⟨by omega, fun b hb => ?_⟩
    rw [Go.S.take_succ_getD d1 x [] (by omega)] at hb
    rcases List.mem_append.1 hb with hb | hb
    · exact hx.2 b hb
    · simp only [List.mem_singleton] at hb; subst hb; omega
  · simp at h'; simp only [Go.S.meas, Go.S.len]; omega
  · simp only [decide_eq_true_eq] at h2
    have := fun hr : (∀ x ∈ d2, 0 ≤ x.1 ∧ x.1 < d1.length ∧ x.2.length = 64) => hr _ (Go.S.getD_mem d2 y (0, []) (by omega))
    refine Go.S.right_false fun hr => ?_
    obtain ⟨a, b, c⟩ := this hr.2.2.2
    simp only [Int.toNat_natCast] at g
    rcases Go.S.bif_true g with g | g
    · simp only [decide_eq_true_eq] at g; omega
    · rcases Go.S.bif_true g with g | g
      · simp only [decide_eq_true_eq] at g; omega
      · simp only [Bool.not_eq_true', decide_eq_false_iff_not] at g; omega
  · simp only [decide_eq_true_eq] at h2
    simp only [Int.toNat_natCast] at g
    obtain ⟨g1, g2⟩ := Go.S.bif_false g
    obtain ⟨g2, g3⟩ := Go.S.bif_false g2
    simp only [decide_eq_false_iff_not, Bool.not_eq_false', decide_eq_true_eq] at g1 g2 g3
    refine ⟨by omega, fun b hb => ?_⟩
    rw [Go.S.take_succ_getD d2 y (0, []) (by omega)] at hb
    rcases List.mem_append.1 hb with hb | hb
    · exact hy.2 b hb
    · simp only [List.mem_singleton] at hb; subst hb; omega
  · simp at h2; simp only [Go.S.meas, Go.S.len]; omega
  · obtain ⟨h1, h3⟩ := Go.S.bif_false h
    simp only [decide_eq_false_iff_not] at h1 h3 h' h2
    have e1 : x = d1.length := by have := hx.1; omega
    have e2 : y = d2.length := by have := hy.1; omega
    subst e1; subst e2
    have hx := hx.2; have hy := hy.2
    rw [List.take_length] at hx hy
    exact (Go.S.right_iff.2 ⟨by omega, by omega, hx, hy⟩).symm
theorem H_block_valid (d1 : List (List UInt8)) (d2 : List (Int × List UInt8)) (hp : True) (hf : Vg.Row.ok (Vg.PS.flat [.agg [.slice [.slice [.int .u8]], .slice [.int .i64, .slice [.int .u8]]]]) (d1, d2)) : V_block_valid d1 d2 := by
  unfold V_block_valid
  refine ⟨trivial, fun h => ?_, fun h => ?_⟩ <;> simp at h <;> simp [Go.S.vB, Go.S.vW, h]
theorem H_block_Len (d1 : List (List UInt8)) (d2 : List (Int × List UInt8)) (hp : True) (hf : Vg.Row.ok (Vg.PS.flat [.agg [.slice [.slice [.int .u8]], .slice [.int .i64, .slice [.int .u8]]]]) (d1, d2)) : V_block_Len d1 d2 := by
  unfold V_block_Len
  exact ⟨trivial, rfl⟩
theorem H_block_New (n : Int) (hp : True) (hf : Vg.Row.ok (Vg.PS.flat [.one (.int .i64)]) n) : V_block_New n := by
  unfold V_block_New
  refine ⟨fun h => ?_, fun h => ?_⟩
  · have : n < 0 ∨ 4096 < n := by rcases Go.S.bif_true h with h | h <;> simp at h <;> omega
    simp [Go.S.nRes, Go.S.nErr, this]
  · obtain ⟨h1, h2⟩ := Go.S.bif_false h
    simp only [decide_eq_false_iff_not] at h1 h2
    have : ¬ (n < 0 ∨ 4096 < n) := by omega
    refine ⟨⟨by omega, by omega⟩, rfl, ?_, ?_⟩
    · simp only [Go.S.nRes, if_neg this, Go.S.zeros64, Go.S.grid_zeros]
    · simp only [Go.S.nErr, if_neg this]
theorem H_block_Read (d1 : List (List UInt8)) (d2 : List (Int × List UInt8)) (i : Int) (hp : True) (hf : Vg.Row.ok (Vg.PS.flat [.agg [.slice [.slice [.int .u8]], .slice [.int .i64, .slice [.int .u8]]], .one (.int .i64)]) (d1, d2, i)) : V_block_Read d1 d2 i := by
  unfold V_block_Read
  refine ⟨trivial, fun h => ?_, fun h => ?_⟩
  · have : i < 0 ∨ (Go.S.vB d1 d2).length ≤ i := by rcases Go.S.bif_true h with h | h <;> simp at h <;> omega
    simp [Go.S.rRes, Go.S.rErr, this]
  · obtain ⟨h1, h2⟩ := Go.S.bif_false h
    simp only [decide_eq_false_iff_not] at h1 h2
    have hn : ¬ (i < 0 ∨ (Go.S.vB d1 d2).length ≤ i) := by omega
    have hw := Go.S.vW_len d1 d2
    refine ⟨by omega, ⟨0, ⟨rfl, by simp [Go.S.contAt, Go.S.cont, Go.S.blk]⟩, by simp [Go.S.minv]⟩, fun x hx => ⟨fun h => ?_, fun h => ?_⟩⟩
    · simp only [decide_eq_true_eq] at h
      refine ⟨by omega, by omega, x + 1, ⟨rfl, ?_⟩, ?_, ?_⟩
      · simp only [Go.S.contAt, Go.S.cont, Int.toNat_natCast, Go.S.take_succ_getD _ x (0, []) (show x < (Go.S.vW d1 d2).length by omega), List.foldl_append, List.foldl_cons, List.foldl_nil, Bool.cond_eq_ite, decide_eq_true_eq]
      · simp only [Go.S.minv]; omega
      · simp only [Go.S.meas, Go.S.len]; omega
    · simp only [decide_eq_false_iff_not] at h
      have hx' : x = (Go.S.vW d1 d2).length := by simp only [Go.S.minv] at hx; omega
      subst hx'
      refine ⟨trivial, ?_, by simp [Go.S.rErr, hn]⟩
      simp only [Go.S.rRes, Go.S.rErr, if_neg hn, if_true, Go.S.contAt, List.take_length]
      exact Go.S.copied_of (Go.S.cont_len _ (Go.S.vW_all d1 d2) _ _ (by simp only [Go.S.blk]; exact Go.S.vB_all d1 d2 _ (Go.S.getD_mem _ _ _ (by omega))))
theorem H_block_Write (d1 : List (List UInt8)) (d2 : List (Int × List UInt8)) (i : Int) (b : List UInt8) (hp : True) (hf : Vg.Row.ok (Vg.PS.flat [.agg [.slice [.slice [.int .u8]], .slice [.int .i64, .slice [.int .u8]]], .one (.int .i64), .one (.slice [.int .u8])]) (d1, d2, i, b)) : V_block_Write d1 d2 i b := by
  unfold V_block_Write
  refine ⟨trivial, fun h => ?_, fun h => ?_⟩
  · have : i < 0 ∨ (Go.S.vB d1 d2).length ≤ i ∨ b.length ≠ 64 := by
      rcases Go.S.bif_true h with h | h
      · simp at h; exact .inl h
      · rcases Go.S.bif_true h with h | h
        · simp at h; exact .inr (.inl h)
        · simp at h; exact .inr (.inr (by omega))
    simp [Go.S.wB, Go.S.wW, Go.S.wErr, this]
  · obtain ⟨h1, h2⟩ := Go.S.bif_false h
    obtain ⟨h2, h3⟩ := Go.S.bif_false h2
    simp only [decide_eq_false_iff_not, Bool.not_eq_false', decide_eq_true_eq] at h1 h2 h3
    have hn : ¬ (i < 0 ∨ (Go.S.vB d1 d2).length ≤ i ∨ b.length ≠ 64) := by omega
    refine ⟨fun h => ?_, fun h => ⟨⟨Go.S.vB_len d1 d2, Go.S.vB_all d1 d2⟩, ⟨0, ⟨rfl, rfl⟩, by simp [Go.S.minv]⟩, fun x hx => ⟨fun h => ?_, fun h => ?_⟩⟩⟩
    · simp only [decide_eq_true_eq] at h
      have : 1000 ≤ (Go.S.vW d1 d2).length := by omega
      simp [Go.S.wB, Go.S.wW, Go.S.wErr, hn, this]
    · simp only [decide_eq_true_eq] at h
      have hw := Go.S.vW_len d1 d2
      simp only [Go.S.waitsAt, List.length_map, List.length_take, List.length_cons, List.length_nil]
      refine ⟨by omega, trivial, by omega, by omega, x + 1, ⟨rfl, ?_⟩, ?_, ?_⟩
      · simp only [Int.toNat_natCast, Go.S.take_succ_getD _ x (0, []) (show x < (Go.S.vW d1 d2).length by omega), List.map_append, List.map_cons, List.map_nil]
      · simp only [Go.S.minv]; omega
      · simp only [Go.S.meas, Go.S.len]; omega
    · rename_i h'
      simp only [decide_eq_false_iff_not] at h h'
      have hx' : x = (Go.S.vW d1 d2).length := by simp only [Go.S.minv] at hx; omega
      subst hx'
      have hm : Go.S.waitsAt (Go.S.vW d1 d2) (Go.S.vW d1 d2).length = Go.S.vW d1 d2 := by
        simp only [Go.S.waitsAt, List.take_length]
        exact Go.S.map_id_on fun x hx => by rw [Go.S.copied_of (Go.S.vW_all d1 d2 x hx).2.2]
      have hw : ¬ 1000 ≤ (Go.S.vW d1 d2).length := by omega
      refine ⟨trivial, by rw [hm]; simp; omega, rfl, ?_, ?_, ?_⟩
      · exact Go.S.grid_flatten _ (Go.S.vB_all d1 d2)
      · simp only [hm, Go.S.wW, Go.S.wErr, if_neg hn, if_neg hw, if_true, Go.S.copied_of (show b.length = 64 by omega)]
      · simp only [Go.S.wErr, if_neg hn, if_neg hw]
theorem H_block_Sync (d1 : List (List UInt8)) (d2 : List (Int × List UInt8)) (hp : True) (hf : Vg.Row.ok (Vg.PS.flat [.agg [.slice [.slice [.int .u8]], .slice [.int .i64, .slice [.int .u8]]]]) (d1, d2)) : V_block_Sync d1 d2 := by
  unfold V_block_Sync
  refine ⟨trivial, ⟨Go.S.vB_len d1 d2, Go.S.vB_all d1 d2⟩, ⟨0, ⟨rfl, by simp [Go.S.flat, Go.S.syncAt, Go.S.putN]⟩, by simp [Go.S.minv]⟩, fun x hx => ⟨fun h => ?_, fun h => ?_⟩⟩
  · simp only [decide_eq_true_eq] at h
    have hx' : x < (Go.S.vW d1 d2).length := by omega
    have hw := Go.S.vW_len d1 d2
    obtain ⟨a, b, c⟩ := Go.S.vW_all d1 d2 _ (Go.S.getD_mem _ x (0, []) hx')
    have h64 := Go.S.putN_all ((Go.S.vW d1 d2).take x) (fun y hy => (Go.S.vW_all d1 d2 y (List.mem_of_mem_take hy)).2.2) (Go.S.vB d1 d2) (Go.S.vB_all d1 d2)
    have hl := Go.S.putN_len ((Go.S.vW d1 d2).take x) (Go.S.vB d1 d2)
    simp only [Int.toNat_natCast, Go.S.len]
    refine ⟨by omega, by omega, by omega, ?_, by omega, x + 1, ⟨rfl, ?_⟩, ?_, ?_⟩
    · simp only [Go.S.syncAt, Go.S.flatten_length _ h64, hl]; omega
    · rw [c, show Min.min 64 64 = 64 by rfl, List.take_of_length_le (l := ((Go.S.vW d1 d2).getD x (0, [])).2) (by omega)]
      have := Go.S.flatten_put _ ((Go.S.vW d1 d2).getD x (0, [])).1.toNat _ h64 (by rw [hl]; omega) (Nat.le_of_eq c)
      rw [c] at this
      have h0 := h64 _ (Go.S.getD_mem (Go.S.putN ((Go.S.vW d1 d2).take x) (Go.S.vB d1 d2)) ((Go.S.vW d1 d2).getD x (0, [])).1.toNat [] (by rw [hl]; omega))
      rw [List.drop_of_length_le (Nat.le_of_eq h0), List.append_nil] at this
      simp only [Go.S.syncAt, this]
      simp only [Go.S.putN, Go.S.take_succ_getD _ x (0, []) hx', List.foldl_append, List.foldl_cons, List.foldl_nil, Go.S.put1]
    · simp only [Go.S.minv]; omega
    · simp only [Go.S.meas]; omega
  · simp only [decide_eq_false_iff_not] at h
    have hx' : x = (Go.S.vW d1 d2).length := by simp only [Go.S.minv] at hx; omega
    subst hx'
    have h64 := Go.S.putN_all (Go.S.vW d1 d2) (fun y hy => (Go.S.vW_all d1 d2 y hy).2.2) (Go.S.vB d1 d2) (Go.S.vB_all d1 d2)
    have hl := Go.S.putN_len (Go.S.vW d1 d2) (Go.S.vB d1 d2)
    refine ⟨rfl, ?_⟩
    have := Go.S.grid_flatten _ h64
    rw [hl] at this
    simpa only [Go.S.syncAt, List.take_length, Go.S.len, Go.S.sync] using this
theorem H_block_Crash (d1 : List (List UInt8)) (d2 : List (Int × List UInt8)) (keep : List Int) (hp : True) (hf : Vg.Row.ok (Vg.PS.flat [.agg [.slice [.slice [.int .u8]], .slice [.int .i64, .slice [.int .u8]]], .one (.slice [.int .i64])]) (d1, d2, keep)) : V_block_Crash d1 d2 keep := by
  unfold V_block_Crash
  refine ⟨trivial, ⟨Go.S.vB_len d1 d2, Go.S.vB_all d1 d2⟩, ⟨0, ⟨rfl, by simp [Go.S.flat, Go.S.crashAt, Go.S.tearN]⟩, by simp [Go.S.minv]⟩, fun x hx => ⟨fun h => ?_, fun h => ?_⟩⟩
  · simp only [decide_eq_true_eq] at h
    have hx' : x < (Go.S.vW d1 d2).length := by omega
    have hw := Go.S.vW_len d1 d2
    obtain ⟨a, b, c⟩ := Go.S.vW_all d1 d2 _ (Go.S.getD_mem _ x (0, []) hx')
    have h64 := Go.S.tearN_all keep ((Go.S.vW d1 d2).take x) (fun y hy => (Go.S.vW_all d1 d2 y (List.mem_of_mem_take hy))) (Go.S.vB d1 d2) (Go.S.vB_all d1 d2)
    have hl := Go.S.tearN_len keep ((Go.S.vW d1 d2).take x) (Go.S.vB d1 d2)
    have hk : (bif decide ((x : Int) < (keep.length : Int)) then min (max (keep.getD x 0) 0) 64 else (0 : Int)) = (Go.S.kept keep x : Int) := by
      simp only [Go.S.kept]
      by_cases hxk : x < keep.length
      · have : (x : Int) < keep.length := by omega
        simp only [this, decide_true, cond_true, List.getElem?_eq_getElem hxk, List.getD, Option.getD_some]
        omega
      · have : ¬ (x : Int) < keep.length := by omega
        simp [this, List.getElem?_eq_none (show keep.length ≤ x by omega)]
    have hk64 : Go.S.kept keep x ≤ 64 := Go.S.kept_le keep x
    simp only [Int.toNat_natCast, Go.S.len, hk]
    refine ⟨by omega, ⟨fun h => by simp at h; omega, fun _ => trivial⟩, by omega, by omega, by omega, ?_, by omega, x + 1, ⟨rfl, ?_⟩, ?_, ?_⟩
    · simp only [Go.S.crashAt, Go.S.flatten_length _ h64, hl]; omega
    · have hlen : (((Go.S.vW d1 d2).getD x (0, [])).2.take (Go.S.kept keep x)).length = Go.S.kept keep x := by rw [List.length_take]; omega
      rw [hlen, show Min.min (Go.S.kept keep x) 64 = Go.S.kept keep x by omega, List.take_take, show Min.min 64 (Go.S.kept keep x) = Go.S.kept keep x by omega]
      have := Go.S.flatten_put _ ((Go.S.vW d1 d2).getD x (0, [])).1.toNat _ h64 (by rw [hl]; omega) (show (((Go.S.vW d1 d2).getD x (0, [])).2.take (Go.S.kept keep x)).length ≤ 64 by omega)
      rw [hlen] at this
      simp only [Go.S.crashAt, this, Go.S.tearN_succ keep _ _ x hx', Go.S.tear1]
    · simp only [Go.S.minv]; omega
    · simp only [Go.S.meas]; omega
  · simp only [decide_eq_false_iff_not] at h
    have hx' : x = (Go.S.vW d1 d2).length := by simp only [Go.S.minv] at hx; omega
    subst hx'
    have h64 := Go.S.tearN_all keep (Go.S.vW d1 d2) (fun y hy => (Go.S.vW_all d1 d2 y hy)) (Go.S.vB d1 d2) (Go.S.vB_all d1 d2)
    have hl := Go.S.tearN_len keep (Go.S.vW d1 d2) (Go.S.vB d1 d2)
    refine ⟨rfl, ?_⟩
    have := Go.S.grid_flatten _ h64
    rw [hl] at this
    simpa only [Go.S.crashAt, List.take_length, Go.S.len, Go.S.crash] using this
theorem H_rubrickref22_Right (d1 : List (List UInt8)) (d2 : List (Int × List UInt8)) (hp : True) (hf : Vg.Row.ok (Vg.PS.flat [.agg [.slice [.slice [.int .u8]], .slice [.int .i64, .slice [.int .u8]]]]) (d1, d2)) : V_rubrickref22_Right d1 d2 := by
  unfold V_rubrickref22_Right
  have hr_d1 : d1.length ≤ 9223372036854775807 := hf.1.1
  have hr_d2 : d2.length ≤ 9223372036854775807 := hf.2.1.1
  clear hf
  refine ⟨?_, ?_⟩
  · refine ⟨(nat_lit 0 : Nat), ?_⟩
    try dsimp only
    refine ⟨?_, ?_⟩
    · first | with_reducible rfl | omega | assumption | grind [S.rinv, S.winv, S.right, S.len, S.meas, List.take_add_one] -- leaf 2
    · first | with_reducible rfl | omega | assumption | grind [S.rinv, S.winv, S.right, S.len, S.meas, List.take_add_one] -- leaf 3
  · intro x1
    intro h2
    refine ⟨?_, ?_⟩
    · intro h3
      simp only [decide_eq_true_eq] at h3
      refine ⟨⟨?_, ?_⟩, ⟨?_, ?_⟩⟩
      · first | with_reducible rfl | omega | assumption | grind [S.rinv, S.winv, S.right, S.len, S.meas, List.take_add_one] -- leaf 4
      · first | with_reducible rfl | omega | assumption | grind [S.rinv, S.winv, S.right, S.len, S.meas, List.take_add_one] -- leaf 5
      · intro h4
        simp only [Bool.not_eq_true', decide_eq_false_iff_not, Int.toNat_natCast] at h4
        first | with_reducible rfl | omega | assumption | grind [S.rinv, S.winv, S.right, S.len, S.meas, List.take_add_one] -- leaf 6
      · intro h5
        simp only [Bool.not_eq_false', decide_eq_true_eq, Int.toNat_natCast] at h5
        refine ⟨⟨?_, ?_⟩, ?_⟩
        · first | with_reducible rfl | omega | assumption | grind [S.rinv, S.winv, S.right, S.len, S.meas, List.take_add_one] -- leaf 7
        · first | with_reducible rfl | omega | assumption | grind [S.rinv, S.winv, S.right, S.len, S.meas, List.take_add_one] -- leaf 8
        · refine ⟨(x1 + nat_lit 1), ?_⟩
          try dsimp only
          refine ⟨?_, ⟨?_, ?_⟩⟩
          · first | with_reducible rfl | omega | assumption | grind [S.rinv, S.winv, S.right, S.len, S.meas, List.take_add_one] -- leaf 10
          · first | with_reducible rfl | omega | assumption | grind [S.rinv, S.winv, S.right, S.len, S.meas, List.take_add_one] -- leaf 11
          · first | with_reducible rfl | omega | assumption | grind [S.rinv, S.winv, S.right, S.len, S.meas, List.take_add_one] -- leaf 12
    · intro h6
      simp only [decide_eq_false_iff_not] at h6
      refine ⟨?_, ?_⟩
      · refine ⟨(nat_lit 0 : Nat), ?_⟩
        try dsimp only
        refine ⟨?_, ⟨?_, ?_⟩⟩
        · first | with_reducible rfl | omega | assumption | grind [S.rinv, S.winv, S.right, S.len, S.meas, List.take_add_one] -- leaf 14
        · first | with_reducible rfl | omega | assumption | grind [S.rinv, S.winv, S.right, S.len, S.meas, List.take_add_one] -- leaf 15
        · first | with_reducible rfl | omega | assumption | grind [S.rinv, S.winv, S.right, S.len, S.meas, List.take_add_one] -- leaf 16
      · intro x7
        intro h8
        refine ⟨?_, ?_⟩
        · intro h9
          simp only [decide_eq_true_eq] at h9
          refine ⟨⟨?_, ?_⟩, ⟨⟨?_, ?_⟩, ⟨?_, ?_⟩⟩⟩
          · first | with_reducible rfl | omega | assumption | grind [S.rinv, S.winv, S.right, S.len, S.meas, List.take_add_one] -- leaf 17
          · first | with_reducible rfl | omega | assumption | grind [S.rinv, S.winv, S.right, S.len, S.meas, List.take_add_one] -- leaf 18
          · intro h10
            simp only [decide_eq_true_eq, Int.toNat_natCast] at h10
            trivial
          · intro h11
            simp only [decide_eq_false_iff_not, Int.toNat_natCast] at h11
            refine ⟨⟨?_, ?_⟩, ⟨?_, ?_⟩⟩
            · first | with_reducible rfl | omega | assumption | grind [S.rinv, S.winv, S.right, S.len, S.meas, List.take_add_one] -- leaf 19
            · first | with_reducible rfl | omega | assumption | grind [S.rinv, S.winv, S.right, S.len, S.meas, List.take_add_one] -- leaf 20
            · intro h12
              simp only [decide_eq_true_eq, Int.toNat_natCast] at h12
              trivial
            · intro h13
              simp only [decide_eq_false_iff_not, Int.toNat_natCast] at h13
              refine ⟨?_, ?_⟩
              · first | with_reducible rfl | omega | assumption | grind [S.rinv, S.winv, S.right, S.len, S.meas, List.take_add_one] -- leaf 21
              · first | with_reducible rfl | omega | assumption | grind [S.rinv, S.winv, S.right, S.len, S.meas, List.take_add_one] -- leaf 22
          · intro h14
            simp only [V.bor, decide_eq_true_eq, Int.toNat_natCast, Bool.not_eq_true', decide_eq_false_iff_not] at h14
            first | with_reducible rfl | omega | assumption | grind [S.rinv, S.winv, S.right, S.len, S.meas, List.take_add_one] -- leaf 23
          · intro h15
            simp only [V.bor_f, decide_eq_false_iff_not, Int.toNat_natCast, Bool.not_eq_false', decide_eq_true_eq] at h15
            refine ⟨⟨?_, ?_⟩, ?_⟩
            · first | with_reducible rfl | omega | assumption | grind [S.rinv, S.winv, S.right, S.len, S.meas, List.take_add_one] -- leaf 24
            · first | with_reducible rfl | omega | assumption | grind [S.rinv, S.winv, S.right, S.len, S.meas, List.take_add_one] -- leaf 25
            · refine ⟨(x7 + nat_lit 1), ?_⟩
              try dsimp only
              refine ⟨?_, ⟨⟨?_, ?_⟩, ?_⟩⟩
              · first | with_reducible rfl | omega | assumption | grind [S.rinv, S.winv, S.right, S.len, S.meas, List.take_add_one] -- leaf 27
              · first | with_reducible rfl | omega | assumption | grind [S.rinv, S.winv, S.right, S.len, S.meas, List.take_add_one] -- leaf 28
              · first | with_reducible rfl | omega | assumption | grind [S.rinv, S.winv, S.right, S.len, S.meas, List.take_add_one] -- leaf 29
              · first | with_reducible rfl | omega | assumption | grind [S.rinv, S.winv, S.right, S.len, S.meas, List.take_add_one] -- leaf 30
        · intro h16
          simp only [decide_eq_false_iff_not] at h16
          first | with_reducible rfl | omega | assumption | grind [S.rinv, S.winv, S.right, S.len, S.meas, List.take_add_one] -- leaf 31

theorem H_rubrickref22_Good (d1 : List (List UInt8)) (d2 : List (Int × List UInt8)) (hp : True) (hf : Vg.Row.ok (Vg.PS.flat [.agg [.slice [.slice [.int .u8]], .slice [.int .i64, .slice [.int .u8]]]]) (d1, d2)) : V_rubrickref22_Good d1 d2 := by
  unfold V_rubrickref22_Good
  have hr_d1 : d1.length ≤ 9223372036854775807 := hf.1.1
  have hr_d2 : d2.length ≤ 9223372036854775807 := hf.2.1.1
  clear hf
  refine ⟨?_, ⟨?_, ?_⟩⟩
  · trivial
  · intro h1
    refine ⟨?_, ?_⟩
    · first | with_reducible rfl | omega | assumption | grind [S.vB, S.vW] -- leaf 1
    · first | with_reducible rfl | omega | assumption | grind [S.vB, S.vW] -- leaf 2
  · intro h2
    refine ⟨?_, ?_⟩
    · first | with_reducible rfl | omega | assumption | grind [S.vB, S.vW] -- leaf 3
    · first | with_reducible rfl | omega | assumption | grind [S.vB, S.vW] -- leaf 4

theorem H_rubrickref22_Read (d1 : List (List UInt8)) (d2 : List (Int × List UInt8)) (i : Int) (hp : S.inRange i d1) (hf : Vg.Row.ok (Vg.PS.flat [.agg [.slice [.slice [.int .u8]], .slice [.int .i64, .slice [.int .u8]]], .one (.int .i64)]) (d1, d2, i)) : V_rubrickref22_Read d1 d2 i := by
  unfold V_rubrickref22_Read
  have hr_d1 : d1.length ≤ 9223372036854775807 := hf.1.1
  have hr_d2 : d2.length ≤ 9223372036854775807 := hf.2.1.1
  have hr_i : -9223372036854775808 ≤ i ∧ i ≤ 9223372036854775807 := hf.2.2.1
  clear hf
  refine ⟨⟨?_, ?_⟩, ⟨?_, ?_⟩⟩
  · first | with_reducible rfl | omega | assumption | grind [S.contAt, S.cont, S.minv, S.len, S.meas, S.inRange, S.blk, List.take_add_one] -- leaf 1
  · first | with_reducible rfl | omega | assumption | grind [S.contAt, S.cont, S.minv, S.len, S.meas, S.inRange, S.blk, List.take_add_one] -- leaf 2
  · refine ⟨(nat_lit 0 : Nat), ?_⟩
    try dsimp only
    refine ⟨⟨?_, ?_⟩, ?_⟩
    · first | with_reducible rfl | omega | assumption | grind [S.contAt, S.cont, S.minv, S.len, S.meas, S.inRange, S.blk, List.take_add_one] -- leaf 4
    · first | with_reducible rfl | omega | assumption | grind [S.contAt, S.cont, S.minv, S.len, S.meas, S.inRange, S.blk, List.take_add_one] -- leaf 5
    · first | with_reducible rfl | omega | assumption | grind [S.contAt, S.cont, S.minv, S.len, S.meas, S.inRange, S.blk, List.take_add_one] -- leaf 6
  · intro x1
    intro h2
    refine ⟨?_, ?_⟩
    · intro h3
      simp only [decide_eq_true_eq] at h3
      refine ⟨⟨?_, ?_⟩, ⟨⟨?_, ?_⟩, ⟨⟨?_, ?_⟩, ?_⟩⟩⟩
      · first | with_reducible rfl | omega | assumption | grind [S.contAt, S.cont, S.minv, S.len, S.meas, S.inRange, S.blk, List.take_add_one] -- leaf 7
      · first | with_reducible rfl | omega | assumption | grind [S.contAt, S.cont, S.minv, S.len, S.meas, S.inRange, S.blk, List.take_add_one] -- leaf 8
      · intro h4
        simp only [decide_eq_true_eq, Int.toNat_natCast] at h4
        refine ⟨?_, ?_⟩
        · first | with_reducible rfl | omega | assumption | grind [S.contAt, S.cont, S.minv, S.len, S.meas, S.inRange, S.blk, List.take_add_one] -- leaf 9
        · first | with_reducible rfl | omega | assumption | grind [S.contAt, S.cont, S.minv, S.len, S.meas, S.inRange, S.blk, List.take_add_one] -- leaf 10
      · intro h5
        simp only [decide_eq_false_iff_not, Int.toNat_natCast] at h5
        trivial
      · first | with_reducible rfl | omega | assumption | grind [S.contAt, S.cont, S.minv, S.len, S.meas, S.inRange, S.blk, List.take_add_one] -- leaf 11
      · first | with_reducible rfl | omega | assumption | grind [S.contAt, S.cont, S.minv, S.len, S.meas, S.inRange, S.blk, List.take_add_one] -- leaf 12
      · refine ⟨(x1 + nat_lit 1), ?_⟩
        try dsimp only
        refine ⟨⟨?_, ?_⟩, ⟨?_, ?_⟩⟩
        · first | with_reducible rfl | omega | assumption | grind [S.contAt, S.cont, S.minv, S.len, S.meas, S.inRange, S.blk, List.take_add_one] -- leaf 14
        · first | with_reducible rfl | omega | assumption | grind [S.contAt, S.cont, S.minv, S.len, S.meas, S.inRange, S.blk, List.take_add_one] -- leaf 15
        · first | with_reducible rfl | omega | assumption | grind [S.contAt, S.cont, S.minv, S.len, S.meas, S.inRange, S.blk, List.take_add_one] -- leaf 16
        · first | with_reducible rfl | omega | assumption | grind [S.contAt, S.cont, S.minv, S.len, S.meas, S.inRange, S.blk, List.take_add_one] -- leaf 17
    · intro h6
      simp only [decide_eq_false_iff_not] at h6
      first | with_reducible rfl | omega | assumption | grind [S.contAt, S.cont, S.minv, S.len, S.meas, S.inRange, S.blk, List.take_add_one] -- leaf 18

theorem H_rubrickref22_New (n : Int) (hp : S.lePre n 5000) (hf : Vg.Row.ok (Vg.PS.flat [.one (.int .i64)]) n) : V_rubrickref22_New n := by
  unfold V_rubrickref22_New
  have hr_n : -9223372036854775808 ≤ n ∧ n ≤ 9223372036854775807 := hf.1
  clear hf
  refine ⟨?_, ?_⟩
  · refine ⟨(nat_lit 0 : Nat), ?_⟩
    try dsimp only
    refine ⟨⟨?_, ?_⟩, ?_⟩
    · first | with_reducible rfl | omega | assumption | grind [S.zs64, S.blankAll, S.leN, S.meas, S.lePre, List.replicate_succ'] -- leaf 2
    · first | with_reducible rfl | omega | assumption | grind [S.zs64, S.blankAll, S.leN, S.meas, S.lePre, List.replicate_succ'] -- leaf 3
    · first | with_reducible rfl | omega | assumption | grind [S.zs64, S.blankAll, S.leN, S.meas, S.lePre, List.replicate_succ'] -- leaf 4
  · intro x1
    intro h2
    refine ⟨?_, ?_⟩
    · intro h3
      simp only [decide_eq_true_eq] at h3
      refine ⟨⟨?_, ⟨?_, ?_⟩⟩, ⟨?_, ⟨⟨?_, ?_⟩, ?_⟩⟩⟩
      · first | with_reducible rfl | omega | assumption | grind [S.zs64, S.blankAll, S.leN, S.meas, S.lePre, List.replicate_succ'] -- leaf 5
      · first | with_reducible rfl | omega | assumption | grind [S.zs64, S.blankAll, S.leN, S.meas, S.lePre, List.replicate_succ'] -- leaf 6
      · first | with_reducible rfl | omega | assumption | grind [S.zs64, S.blankAll, S.leN, S.meas, S.lePre, List.replicate_succ'] -- leaf 7
      · first | with_reducible rfl | omega | assumption | grind [S.zs64, S.blankAll, S.leN, S.meas, S.lePre, List.replicate_succ'] -- leaf 8
      · first | with_reducible rfl | omega | assumption | grind [S.zs64, S.blankAll, S.leN, S.meas, S.lePre, List.replicate_succ'] -- leaf 9
      · first | with_reducible rfl | omega | assumption | grind [S.zs64, S.blankAll, S.leN, S.meas, S.lePre, List.replicate_succ'] -- leaf 10
      · refine ⟨(x1 + nat_lit 1), ?_⟩
        try dsimp only
        refine ⟨⟨?_, ?_⟩, ⟨?_, ?_⟩⟩
        · first | with_reducible rfl | omega | assumption | grind [S.zs64, S.blankAll, S.leN, S.meas, S.lePre, List.replicate_succ'] -- leaf 12
        · first | with_reducible rfl | omega | assumption | grind [S.zs64, S.blankAll, S.leN, S.meas, S.lePre, List.replicate_succ'] -- leaf 13
        · first | with_reducible rfl | omega | assumption | grind [S.zs64, S.blankAll, S.leN, S.meas, S.lePre, List.replicate_succ'] -- leaf 14
        · first | with_reducible rfl | omega | assumption | grind [S.zs64, S.blankAll, S.leN, S.meas, S.lePre, List.replicate_succ'] -- leaf 15
    · intro h4
      simp only [decide_eq_false_iff_not] at h4
      first | with_reducible rfl | omega | assumption | grind [S.zs64, S.blankAll, S.leN, S.meas, S.lePre, List.replicate_succ'] -- leaf 16

theorem H_rubrickref22_Same (a1 : List (List UInt8)) (a2 : List (Int × List UInt8)) (b1 : List (List UInt8)) (b2 : List (Int × List UInt8)) (hp : True) (hf : Vg.Row.ok (Vg.PS.flat [.agg [.slice [.slice [.int .u8]], .slice [.int .i64, .slice [.int .u8]]], .agg [.slice [.slice [.int .u8]], .slice [.int .i64, .slice [.int .u8]]]]) (a1, a2, b1, b2)) : V_rubrickref22_Same a1 a2 b1 b2 := by
  unfold V_rubrickref22_Same
  have hr_a1 : a1.length ≤ 9223372036854775807 := hf.1.1
  have hr_a2 : a2.length ≤ 9223372036854775807 := hf.2.1.1
  have hr_b1 : b1.length ≤ 9223372036854775807 := hf.2.2.1.1
  have hr_b2 : b2.length ≤ 9223372036854775807 := hf.2.2.2.1.1
  clear hf
  refine ⟨?_, ?_⟩
  · intro h1
    simp only [V.bor, Bool.not_eq_true', decide_eq_false_iff_not] at h1
    first | with_reducible rfl | omega | assumption | grind [S.same, S.sInv1, S.sInv2, S.meas, S.len, List.take_add_one] -- leaf 1
  · intro h2
    simp only [V.bor_f, Bool.not_eq_false', decide_eq_true_eq] at h2
    refine ⟨?_, ?_⟩
    · refine ⟨(nat_lit 0 : Nat), ?_⟩
      try dsimp only
      refine ⟨?_, ?_⟩
      · first | with_reducible rfl | omega | assumption | grind [S.same, S.sInv1, S.sInv2, S.meas, S.len, List.take_add_one] -- leaf 3
      · first | with_reducible rfl | omega | assumption | grind [S.same, S.sInv1, S.sInv2, S.meas, S.len, List.take_add_one] -- leaf 4
    · intro x3
      intro h4
      refine ⟨?_, ?_⟩
      · intro h5
        simp only [decide_eq_true_eq] at h5
        refine ⟨⟨?_, ?_⟩, ⟨⟨?_, ?_⟩, ⟨?_, ?_⟩⟩⟩
        · first | with_reducible rfl | omega | assumption | grind [S.same, S.sInv1, S.sInv2, S.meas, S.len, List.take_add_one] -- leaf 5
        · first | with_reducible rfl | omega | assumption | grind [S.same, S.sInv1, S.sInv2, S.meas, S.len, List.take_add_one] -- leaf 6
        · first | with_reducible rfl | omega | assumption | grind [S.same, S.sInv1, S.sInv2, S.meas, S.len, List.take_add_one] -- leaf 7
        · first | with_reducible rfl | omega | assumption | grind [S.same, S.sInv1, S.sInv2, S.meas, S.len, List.take_add_one] -- leaf 8
        · intro h6
          simp only [Bool.not_eq_true', decide_eq_false_iff_not, Int.toNat_natCast] at h6
          first | with_reducible rfl | omega | assumption | grind [S.same, S.sInv1, S.sInv2, S.meas, S.len, List.take_add_one] -- leaf 9
        · intro h7
          simp only [Bool.not_eq_false', decide_eq_true_eq, Int.toNat_natCast] at h7
          refine ⟨⟨?_, ?_⟩, ?_⟩
          · first | with_reducible rfl | omega | assumption | grind [S.same, S.sInv1, S.sInv2, S.meas, S.len, List.take_add_one] -- leaf 10
          · first | with_reducible rfl | omega | assumption | grind [S.same, S.sInv1, S.sInv2, S.meas, S.len, List.take_add_one] -- leaf 11
          · refine ⟨(x3 + nat_lit 1), ?_⟩
            try dsimp only
            refine ⟨?_, ⟨?_, ?_⟩⟩
            · first | with_reducible rfl | omega | assumption | grind [S.same, S.sInv1, S.sInv2, S.meas, S.len, List.take_add_one] -- leaf 13
            · first | with_reducible rfl | omega | assumption | grind [S.same, S.sInv1, S.sInv2, S.meas, S.len, List.take_add_one] -- leaf 14
            · first | with_reducible rfl | omega | assumption | grind [S.same, S.sInv1, S.sInv2, S.meas, S.len, List.take_add_one] -- leaf 15
      · intro h8
        simp only [decide_eq_false_iff_not] at h8
        refine ⟨?_, ?_⟩
        · refine ⟨(nat_lit 0 : Nat), ?_⟩
          try dsimp only
          refine ⟨?_, ?_⟩
          · first | with_reducible rfl | omega | assumption | grind [S.same, S.sInv1, S.sInv2, S.meas, S.len, List.take_add_one] -- leaf 17
          · first | with_reducible rfl | omega | assumption | grind [S.same, S.sInv1, S.sInv2, S.meas, S.len, List.take_add_one] -- leaf 18
        · intro x9
          intro h10
          refine ⟨?_, ?_⟩
          · intro h11
            simp only [decide_eq_true_eq] at h11
            refine ⟨⟨?_, ?_⟩, ⟨⟨?_, ?_⟩, ⟨⟨?_, ?_⟩, ⟨?_, ?_⟩⟩⟩⟩
            · first | with_reducible rfl | omega | assumption | grind [S.same, S.sInv1, S.sInv2, S.meas, S.len, List.take_add_one] -- leaf 19
            · first | with_reducible rfl | omega | assumption | grind [S.same, S.sInv1, S.sInv2, S.meas, S.len, List.take_add_one] -- leaf 20
            · first | with_reducible rfl | omega | assumption | grind [S.same, S.sInv1, S.sInv2, S.meas, S.len, List.take_add_one] -- leaf 21
            · first | with_reducible rfl | omega | assumption | grind [S.same, S.sInv1, S.sInv2, S.meas, S.len, List.take_add_one] -- leaf 22
            · intro h12
              simp only [Bool.not_eq_true', decide_eq_false_iff_not, Int.toNat_natCast] at h12
              trivial
            · intro h13
              simp only [Bool.not_eq_false', decide_eq_true_eq, Int.toNat_natCast] at h13
              refine ⟨⟨?_, ?_⟩, ⟨?_, ?_⟩⟩
              · first | with_reducible rfl | omega | assumption | grind [S.same, S.sInv1, S.sInv2, S.meas, S.len, List.take_add_one] -- leaf 23
              · first | with_reducible rfl | omega | assumption | grind [S.same, S.sInv1, S.sInv2, S.meas, S.len, List.take_add_one] -- leaf 24
              · first | with_reducible rfl | omega | assumption | grind [S.same, S.sInv1, S.sInv2, S.meas, S.len, List.take_add_one] -- leaf 25
              · first | with_reducible rfl | omega | assumption | grind [S.same, S.sInv1, S.sInv2, S.meas, S.len, List.take_add_one] -- leaf 26
            · intro h14
              simp only [V.bor, Bool.not_eq_true', decide_eq_false_iff_not, Int.toNat_natCast] at h14
              first | with_reducible rfl | omega | assumption | grind [S.same, S.sInv1, S.sInv2, S.meas, S.len, List.take_add_one] -- leaf 27
            · intro h15
              simp only [V.bor_f, Bool.not_eq_false', decide_eq_true_eq, Int.toNat_natCast] at h15
              refine ⟨⟨?_, ?_⟩, ?_⟩
              · first | with_reducible rfl | omega | assumption | grind [S.same, S.sInv1, S.sInv2, S.meas, S.len, List.take_add_one] -- leaf 28
              · first | with_reducible rfl | omega | assumption | grind [S.same, S.sInv1, S.sInv2, S.meas, S.len, List.take_add_one] -- leaf 29
              · refine ⟨(x9 + nat_lit 1), ?_⟩
                try dsimp only
                refine ⟨?_, ⟨?_, ?_⟩⟩
                · first | with_reducible rfl | omega | assumption | grind [S.same, S.sInv1, S.sInv2, S.meas, S.len, List.take_add_one] -- leaf 31
                · first | with_reducible rfl | omega | assumption | grind [S.same, S.sInv1, S.sInv2, S.meas, S.len, List.take_add_one] -- leaf 32
                · first | with_reducible rfl | omega | assumption | grind [S.same, S.sInv1, S.sInv2, S.meas, S.len, List.take_add_one] -- leaf 33
          · intro h16
            simp only [decide_eq_false_iff_not] at h16
            first | with_reducible rfl | omega | assumption | grind [S.same, S.sInv1, S.sInv2, S.meas, S.len, List.take_add_one] -- leaf 34

theorem H_rubricklaw22_ones (x : UInt8) (hp : True) (hf : Vg.Row.ok (Vg.PS.flat [.one (.int .u8)]) x) : V_rubricklaw22_ones x := by
  unfold V_rubricklaw22_ones
  clear hf
  refine ⟨⟨?_, ⟨?_, ?_⟩⟩, ⟨?_, ?_⟩⟩
  · first | with_reducible rfl | omega | assumption | grind [S.ones, S.onesAt, S.leN, S.meas] -- leaf 1
  · first | with_reducible rfl | omega | assumption | grind [S.ones, S.onesAt, S.leN, S.meas] -- leaf 2
  · first | with_reducible rfl | omega | assumption | grind [S.ones, S.onesAt, S.leN, S.meas] -- leaf 3
  · refine ⟨(nat_lit 0 : Nat), ?_⟩
    try dsimp only
    refine ⟨⟨?_, ?_⟩, ?_⟩
    · first | with_reducible rfl | omega | assumption | grind [S.ones, S.onesAt, S.leN, S.meas] -- leaf 5
    · first | with_reducible rfl | omega | assumption | grind [S.ones, S.onesAt, S.leN, S.meas] -- leaf 6
    · first | with_reducible rfl | omega | assumption | grind [S.ones, S.onesAt, S.leN, S.meas] -- leaf 7
  · intro x1
    intro h2
    refine ⟨?_, ?_⟩
    · intro h3
      simp only [decide_eq_true_eq] at h3
      refine ⟨⟨?_, ?_⟩, ⟨?_, ⟨⟨?_, ?_⟩, ?_⟩⟩⟩
      · first | with_reducible rfl | omega | assumption | grind [S.ones, S.onesAt, S.leN, S.meas] -- leaf 8
      · first | with_reducible rfl | omega | assumption | grind [S.ones, S.onesAt, S.leN, S.meas] -- leaf 9
      · first | with_reducible rfl | omega | assumption | grind [S.ones, S.onesAt, S.leN, S.meas] -- leaf 10
      · first | with_reducible rfl | omega | assumption | grind [S.ones, S.onesAt, S.leN, S.meas] -- leaf 11
      · first | with_reducible rfl | omega | assumption | grind [S.ones, S.onesAt, S.leN, S.meas] -- leaf 12
      · refine ⟨(x1 + nat_lit 1), ?_⟩
        try dsimp only
        refine ⟨⟨?_, ?_⟩, ⟨?_, ?_⟩⟩
        · first | with_reducible rfl | omega | assumption | grind [S.ones, S.onesAt, S.leN, S.meas] -- leaf 14
        · simp only [S.onesAt, Int.toNat_natCast]
          rw [S.fill_set _ _ _ _ _ (by simp) (by omega)]
          simp [List.replicate_succ']
        · first | with_reducible rfl | omega | assumption | grind [S.ones, S.onesAt, S.leN, S.meas] -- leaf 16
        · first | with_reducible rfl | omega | assumption | grind [S.ones, S.onesAt, S.leN, S.meas] -- leaf 17
    · intro h4
      simp only [decide_eq_false_iff_not] at h4
      have : x1 = 64 := by simp only [S.leN] at h2; omega
      subst this
      simp [S.onesAt, S.ones]

theorem H_rubricklaw22_As (d1 : List (List UInt8)) (d2 : List (Int × List UInt8)) (hp : S.leN (S.len d2) 1000) (hf : Vg.Row.ok (Vg.PS.flat [.agg [.slice [.slice [.int .u8]], .slice [.int .i64, .slice [.int .u8]]]]) (d1, d2)) : V_rubricklaw22_As d1 d2 := by
  unfold V_rubricklaw22_As
  have hr_d1 : d1.length ≤ 9223372036854775807 := hf.1.1
  have hr_d2 : d2.length ≤ 9223372036854775807 := hf.2.1.1
  clear hf
  refine ⟨?_, ?_⟩
  · refine ⟨(nat_lit 0 : Nat), ?_⟩
    try dsimp only
    refine ⟨⟨?_, ⟨?_, ?_⟩⟩, ?_⟩
    · first | with_reducible rfl | omega | assumption | grind [S.minv, S.len, S.meas, S.leN, List.take_add_one] -- leaf 2
    · rfl
    · first | with_reducible rfl | omega | assumption | grind [S.minv, S.len, S.meas, S.leN, List.take_add_one] -- leaf 3
    · first | with_reducible rfl | omega | assumption | grind [S.minv, S.len, S.meas, S.leN, List.take_add_one] -- leaf 4
  · intro x1
    intro h2
    refine ⟨?_, ?_⟩
    · intro h3
      simp only [decide_eq_true_eq] at h3
      refine ⟨⟨?_, ?_⟩, ⟨⟨?_, ?_⟩, ⟨?_, ⟨⟨?_, ?_⟩, ?_⟩⟩⟩⟩
      · first | with_reducible rfl | omega | assumption | grind [S.minv, S.len, S.meas, S.leN, List.take_add_one] -- leaf 5
      · first | with_reducible rfl | omega | assumption | grind [S.minv, S.len, S.meas, S.leN, List.take_add_one] -- leaf 6
      · first | with_reducible rfl | omega | assumption | grind [S.minv, S.len, S.meas, S.leN, List.take_add_one] -- leaf 7
      · first | with_reducible rfl | omega | assumption | grind [S.minv, S.len, S.meas, S.leN, List.take_add_one] -- leaf 8
      · first | with_reducible rfl | omega | assumption | grind [S.minv, S.len, S.meas, S.leN, List.take_add_one] -- leaf 9
      · first | with_reducible rfl | omega | assumption | grind [S.minv, S.len, S.meas, S.leN, List.take_add_one] -- leaf 10
      · first | with_reducible rfl | omega | assumption | grind [S.minv, S.len, S.meas, S.leN, List.take_add_one] -- leaf 11
      · refine ⟨(x1 + nat_lit 1), ?_⟩
        try dsimp only
        refine ⟨⟨?_, ⟨?_, ?_⟩⟩, ⟨?_, ?_⟩⟩
        · first | with_reducible rfl | omega | assumption | grind [S.minv, S.len, S.meas, S.leN, List.take_add_one] -- leaf 13
        · rfl
        · first | with_reducible rfl | omega | assumption | grind [S.minv, S.len, S.meas, S.leN, List.take_add_one] -- leaf 14
        · first | with_reducible rfl | omega | assumption | grind [S.minv, S.len, S.meas, S.leN, List.take_add_one] -- leaf 15
        · first | with_reducible rfl | omega | assumption | grind [S.minv, S.len, S.meas, S.leN, List.take_add_one] -- leaf 16
    · intro h4
      simp only [decide_eq_false_iff_not] at h4
      refine ⟨?_, ?_⟩
      · rfl
      · first | with_reducible rfl | omega | assumption | grind [S.minv, S.len, S.meas, S.leN, List.take_add_one] -- leaf 17

theorem H_rubricklaw22_Great (d1 : List (List UInt8)) (d2 : List (Int × List UInt8)) (hp : True) (hf : Vg.Row.ok (Vg.PS.flat [.agg [.slice [.slice [.int .u8]], .slice [.int .i64, .slice [.int .u8]]]]) (d1, d2)) : V_rubricklaw22_Great d1 d2 := by
  unfold V_rubricklaw22_Great
  have hr_d1 : d1.length ≤ 9223372036854775807 := hf.1.1
  have hr_d2 : d2.length ≤ 9223372036854775807 := hf.2.1.1
  clear hf
  refine ⟨?_, ?_⟩
  · refine ⟨(nat_lit 0 : Nat), ?_⟩
    try dsimp only
    refine ⟨?_, ?_⟩
    · first | with_reducible rfl | omega | assumption | grind [S.great, S.gInv1, S.gInv2, S.len, S.meas, List.take_add_one] -- leaf 2
    · first | with_reducible rfl | omega | assumption | grind [S.great, S.gInv1, S.gInv2, S.len, S.meas, List.take_add_one] -- leaf 3
  · intro x1
    intro h2
    refine ⟨?_, ?_⟩
    · intro h3
      simp only [decide_eq_true_eq] at h3
      refine ⟨⟨?_, ?_⟩, ⟨?_, ?_⟩⟩
      · first | with_reducible rfl | omega | assumption | grind [S.great, S.gInv1, S.gInv2, S.len, S.meas, List.take_add_one] -- leaf 4
      · first | with_reducible rfl | omega | assumption | grind [S.great, S.gInv1, S.gInv2, S.len, S.meas, List.take_add_one] -- leaf 5
      · intro h4
        simp only [decide_eq_true_eq, Int.toNat_natCast] at h4
        first | with_reducible rfl | omega | assumption | grind [S.great, S.gInv1, S.gInv2, S.len, S.meas, List.take_add_one] -- leaf 6
      · intro h5
        simp only [decide_eq_false_iff_not, Int.toNat_natCast] at h5
        refine ⟨⟨?_, ?_⟩, ?_⟩
        · first | with_reducible rfl | omega | assumption | grind [S.great, S.gInv1, S.gInv2, S.len, S.meas, List.take_add_one] -- leaf 7
        · first | with_reducible rfl | omega | assumption | grind [S.great, S.gInv1, S.gInv2, S.len, S.meas, List.take_add_one] -- leaf 8
        · refine ⟨(x1 + nat_lit 1), ?_⟩
          try dsimp only
          refine ⟨?_, ⟨?_, ?_⟩⟩
          · first | with_reducible rfl | omega | assumption | grind [S.great, S.gInv1, S.gInv2, S.len, S.meas, List.take_add_one] -- leaf 10
          · first | with_reducible rfl | omega | assumption | grind [S.great, S.gInv1, S.gInv2, S.len, S.meas, List.take_add_one] -- leaf 11
          · first | with_reducible rfl | omega | assumption | grind [S.great, S.gInv1, S.gInv2, S.len, S.meas, List.take_add_one] -- leaf 12
    · intro h6
      simp only [decide_eq_false_iff_not] at h6
      refine ⟨?_, ?_⟩
      · refine ⟨(nat_lit 0 : Nat), ?_⟩
        try dsimp only
        refine ⟨?_, ?_⟩
        · first | with_reducible rfl | omega | assumption | grind [S.great, S.gInv1, S.gInv2, S.len, S.meas, List.take_add_one] -- leaf 14
        · first | with_reducible rfl | omega | assumption | grind [S.great, S.gInv1, S.gInv2, S.len, S.meas, List.take_add_one] -- leaf 15
      · intro x7
        intro h8
        refine ⟨?_, ?_⟩
        · intro h9
          simp only [decide_eq_true_eq] at h9
          refine ⟨⟨?_, ?_⟩, ⟨?_, ?_⟩⟩
          · first | with_reducible rfl | omega | assumption | grind [S.great, S.gInv1, S.gInv2, S.len, S.meas, List.take_add_one] -- leaf 16
          · first | with_reducible rfl | omega | assumption | grind [S.great, S.gInv1, S.gInv2, S.len, S.meas, List.take_add_one] -- leaf 17
          · intro h10
            simp only [decide_eq_true_eq, Int.toNat_natCast] at h10
            first | with_reducible rfl | omega | assumption | grind [S.great, S.gInv1, S.gInv2, S.len, S.meas, List.take_add_one] -- leaf 18
          · intro h11
            simp only [decide_eq_false_iff_not, Int.toNat_natCast] at h11
            refine ⟨⟨?_, ?_⟩, ?_⟩
            · first | with_reducible rfl | omega | assumption | grind [S.great, S.gInv1, S.gInv2, S.len, S.meas, List.take_add_one] -- leaf 19
            · first | with_reducible rfl | omega | assumption | grind [S.great, S.gInv1, S.gInv2, S.len, S.meas, List.take_add_one] -- leaf 20
            · refine ⟨(x7 + nat_lit 1), ?_⟩
              try dsimp only
              refine ⟨?_, ⟨?_, ?_⟩⟩
              · first | with_reducible rfl | omega | assumption | grind [S.great, S.gInv1, S.gInv2, S.len, S.meas, List.take_add_one] -- leaf 22
              · first | with_reducible rfl | omega | assumption | grind [S.great, S.gInv1, S.gInv2, S.len, S.meas, List.take_add_one] -- leaf 23
              · first | with_reducible rfl | omega | assumption | grind [S.great, S.gInv1, S.gInv2, S.len, S.meas, List.take_add_one] -- leaf 24
        · intro h12
          simp only [decide_eq_false_iff_not] at h12
          first | with_reducible rfl | omega | assumption | grind [S.great, S.gInv1, S.gInv2, S.len, S.meas, List.take_add_one] -- leaf 25

theorem H_rubricklaw22_knows  (hp : True) (hf : Vg.Row.ok (Vg.PS.flat []) ()) : V_rubricklaw22_knows  := by
  unfold V_rubricklaw22_knows
  clear hf
  refine ⟨?_, ⟨?_, ⟨?_, ⟨?_, ⟨?_, ⟨?_, ⟨?_, ⟨?_, ⟨?_, ⟨⟨?_, ?_⟩, ?_⟩⟩⟩⟩⟩⟩⟩⟩⟩⟩
  · trivial
  · trivial
  · trivial
  · trivial
  · trivial
  · trivial
  · trivial
  · trivial
  · trivial
  · intro h1
    simp only [decide_eq_true_eq] at h1
    refine ⟨?_, ?_⟩
    · intro h2
      simp only [decide_eq_true_eq] at h2
      refine ⟨?_, ⟨?_, ?_⟩⟩
      · trivial
      · intro h3
        simp only [decide_eq_true_eq] at h3
        refine ⟨?_, ?_⟩
        · intro h4
          simp only [decide_eq_true_eq] at h4
          refine ⟨⟨?_, ?_⟩, ⟨?_, ?_⟩⟩
          · first | with_reducible rfl | omega | decide +kernel -- leaf 1
          · first | with_reducible rfl | omega | decide +kernel -- leaf 2
          · intro h5
            simp only [decide_eq_true_eq] at h5
            refine ⟨⟨?_, ?_⟩, ⟨?_, ?_⟩⟩
            · first | with_reducible rfl | omega | decide +kernel -- leaf 3
            · first | with_reducible rfl | omega | decide +kernel -- leaf 4
            · intro h6
              simp only [decide_eq_true_eq] at h6
              refine ⟨?_, ?_⟩
              · intro h7
                simp only [decide_eq_true_eq] at h7
                refine ⟨?_, ⟨?_, ?_⟩⟩
                · trivial
                · intro h8
                  simp only [decide_eq_true_eq] at h8
                  trivial
                · intro h9
                  simp only [decide_eq_false_iff_not] at h9
                  trivial
              · intro h10
                simp only [decide_eq_false_iff_not] at h10
                trivial
            · intro h11
              simp only [decide_eq_false_iff_not] at h11
              trivial
          · intro h12
            simp only [decide_eq_false_iff_not] at h12
            trivial
        · intro h13
          simp only [decide_eq_false_iff_not] at h13
          trivial
      · intro h14
        simp only [decide_eq_false_iff_not] at h14
        trivial
    · intro h15
      simp only [decide_eq_false_iff_not] at h15
      trivial
  · intro h16
    simp only [decide_eq_false_iff_not] at h16
    trivial
  · first | with_reducible rfl | omega | decide +kernel -- leaf 5

theorem H_rubricklaw22_BlockReads (d1 : List (List UInt8)) (d2 : List (Int × List UInt8)) (i : Int) (hp : True) (hf : Vg.Row.ok (Vg.PS.flat [.agg [.slice [.slice [.int .u8]], .slice [.int .i64, .slice [.int .u8]]], .one (.int .i64)]) (d1, d2, i)) : V_rubricklaw22_BlockReads d1 d2 i := by
  unfold V_rubricklaw22_BlockReads
  have hr_d1 : d1.length ≤ 9223372036854775807 := hf.1.1
  have hr_d2 : d2.length ≤ 9223372036854775807 := hf.2.1.1
  have hr_i : -9223372036854775808 ≤ i ∧ i ≤ 9223372036854775807 := hf.2.2.1
  clear hf
  refine ⟨?_, ⟨?_, ?_⟩⟩
  · trivial
  · intro h1
    refine ⟨?_, ?_⟩
    · trivial
    · rfl
  · intro h2
    refine ⟨?_, ⟨?_, ⟨?_, ⟨?_, ⟨⟨?_, ?_⟩, ⟨?_, ?_⟩⟩⟩⟩⟩⟩
    · trivial
    · first | with_reducible rfl | omega | assumption | grind [S.inRange, S.read_good, S.read_bad, S.great_len, S.leN, S.len, S.lenI] -- leaf 1
    · trivial
    · trivial
    · intro h3
      simp only [Bool.not_eq_true'] at h3
      trivial
    · intro h4
      simp only [Bool.not_eq_false'] at h4
      refine ⟨?_, ?_⟩
      · trivial
      · trivial
    · intro h5
      simp only [V.bor, Bool.not_eq_true', decide_eq_false_iff_not] at h5
      first | with_reducible rfl | omega | assumption | grind [S.inRange, S.read_good, S.read_bad, S.great_len, S.leN, S.len, S.lenI] -- leaf 2
    · intro h6
      simp only [V.bor_f, Bool.not_eq_false', decide_eq_true_eq] at h6
      refine ⟨⟨?_, ?_⟩, ⟨?_, ?_⟩⟩
      · intro h7
        simp only [decide_eq_true_eq] at h7
        trivial
      · intro h8
        simp only [decide_eq_false_iff_not] at h8
        trivial
      · intro h9
        simp only [V.bor, decide_eq_true_eq] at h9
        refine ⟨⟨?_, ?_⟩, ?_⟩
        · intro h10
          simp only [decide_eq_true_eq] at h10
          refine ⟨?_, ?_⟩
          · intro h11
            simp only [decide_eq_true_eq] at h11
            trivial
          · intro h12
            simp only [decide_eq_false_iff_not] at h12
            trivial
        · intro h13
          simp only [decide_eq_false_iff_not] at h13
          trivial
        · first | with_reducible rfl | omega | assumption | grind [S.inRange, S.read_good, S.read_bad, S.great_len, S.leN, S.len, S.lenI] -- leaf 3
      · intro h14
        simp only [V.bor_f, decide_eq_false_iff_not] at h14
        refine ⟨?_, ⟨⟨?_, ?_⟩, ?_⟩⟩
        · exact (S.read_good d1 d2 i (by omega) (by omega)).1
        · intro h15
          simp only [decide_eq_true_eq] at h15
          refine ⟨?_, ?_⟩
          · intro h16
            simp only [decide_eq_true_eq] at h16
            trivial
          · intro h17
            simp only [decide_eq_false_iff_not] at h17
            trivial
        · intro h18
          simp only [decide_eq_false_iff_not] at h18
          trivial
        · have := S.read_good d1 d2 i (by omega) (by omega)
          grind

theorem H_rubricklaw22_BlockNews (n : Int) (hp : True) (hf : Vg.Row.ok (Vg.PS.flat [.one (.int .i64)]) n) : V_rubricklaw22_BlockNews n := by
  unfold V_rubricklaw22_BlockNews
  have hr_n : -9223372036854775808 ≤ n ∧ n ≤ 9223372036854775807 := hf.1
  clear hf
  refine ⟨?_, ?_⟩
  · intro h1
    simp only [V.band, decide_eq_true_eq] at h1
    refine ⟨?_, ?_⟩
    · trivial
    · rfl
  · intro h2
    simp only [V.band_f, decide_eq_false_iff_not] at h2
    refine ⟨?_, ⟨?_, ?_⟩⟩
    · trivial
    · intro h3
      simp only [V.bor, decide_eq_true_eq] at h3
      refine ⟨⟨?_, ?_⟩, ?_⟩
      · intro h4
        simp only [decide_eq_true_eq] at h4
        refine ⟨?_, ?_⟩
        · intro h5
          simp only [decide_eq_true_eq] at h5
          trivial
        · intro h6
          simp only [decide_eq_false_iff_not] at h6
          trivial
      · intro h7
        simp only [decide_eq_false_iff_not] at h7
        trivial
      · first | with_reducible rfl | omega | assumption | grind [S.lePre, S.leN, S.len, S.same, S.nErr, S.nRes, S.blankAll, S.zs64] -- leaf 1
    · intro h8
      simp only [V.bor_f, decide_eq_false_iff_not] at h8
      refine ⟨?_, ⟨?_, ⟨?_, ⟨⟨?_, ?_⟩, ?_⟩⟩⟩⟩
      · first | with_reducible rfl | omega | assumption | grind [S.lePre, S.leN, S.len, S.same, S.nErr, S.nRes, S.blankAll, S.zs64] -- leaf 2
      · first | with_reducible rfl | omega | assumption | grind [S.lePre, S.leN, S.len, S.same, S.nErr, S.nRes, S.blankAll, S.zs64] -- leaf 3
      · trivial
      · intro h9
        refine ⟨?_, ?_⟩
        · intro h10
          simp only [decide_eq_true_eq] at h10
          trivial
        · intro h11
          simp only [decide_eq_false_iff_not] at h11
          trivial
      · intro h12
        trivial
      · first | with_reducible rfl | omega | assumption | grind [S.lePre, S.leN, S.len, S.same, S.nErr, S.nRes, S.blankAll, S.zs64] -- leaf 4

theorem H_rubricklaw22_BlockLike (d1 : List (List UInt8)) (d2 : List (Int × List UInt8)) (i : Int) (hp : True) (hf : Vg.Row.ok (Vg.PS.flat [.agg [.slice [.slice [.int .u8]], .slice [.int .i64, .slice [.int .u8]]], .one (.int .i64)]) (d1, d2, i)) : V_rubricklaw22_BlockLike d1 d2 i := by
  unfold V_rubricklaw22_BlockLike
  have hr_d1 : d1.length ≤ 9223372036854775807 := hf.1.1
  have hr_d2 : d2.length ≤ 9223372036854775807 := hf.2.1.1
  have hr_i : -9223372036854775808 ≤ i ∧ i ≤ 9223372036854775807 := hf.2.2.1
  clear hf
  refine ⟨?_, ⟨?_, ?_⟩⟩
  · trivial
  · intro h1
    refine ⟨?_, ?_⟩
    · trivial
    · rfl
  · intro h2
    refine ⟨?_, ⟨?_, ⟨?_, ⟨⟨?_, ?_⟩, ?_⟩⟩⟩⟩
    · trivial
    · trivial
    · trivial
    · intro h3
      simp only [decide_eq_true_eq] at h3
      refine ⟨?_, ?_⟩
      · intro h4
        simp only [decide_eq_true_eq] at h4
        refine ⟨?_, ⟨?_, ?_⟩⟩
        · trivial
        · intro h5
          simp only [decide_eq_true_eq] at h5
          trivial
        · intro h6
          simp only [decide_eq_false_iff_not] at h6
          trivial
      · intro h7
        simp only [decide_eq_false_iff_not] at h7
        trivial
    · intro h8
      simp only [decide_eq_false_iff_not] at h8
      trivial
    · first | with_reducible rfl | omega | assumption | grind [S.like] -- leaf 1

theorem H_rubricklaw22_BlockTwice (d1 : List (List UInt8)) (d2 : List (Int × List UInt8)) (keep : List Int) (hp : True) (hf : Vg.Row.ok (Vg.PS.flat [.agg [.slice [.slice [.int .u8]], .slice [.int .i64, .slice [.int .u8]]], .one (.slice [.int .i64])]) (d1, d2, keep)) : V_rubricklaw22_BlockTwice d1 d2 keep := by
  unfold V_rubricklaw22_BlockTwice
  have hr_d1 : d1.length ≤ 9223372036854775807 := hf.1.1
  have hr_d2 : d2.length ≤ 9223372036854775807 := hf.2.1.1
  have hr_keep : keep.length ≤ 9223372036854775807 := hf.2.2.1.1
  clear hf
  refine ⟨?_, ⟨?_, ?_⟩⟩
  · trivial
  · intro h1
    simp only [V.bor, decide_eq_true_eq] at h1
    refine ⟨?_, ?_⟩
    · trivial
    · rfl
  · intro h2
    simp only [V.bor_f, decide_eq_false_iff_not] at h2
    refine ⟨?_, ⟨?_, ⟨?_, ⟨?_, ⟨?_, ⟨?_, ⟨⟨?_, ?_⟩, ?_⟩⟩⟩⟩⟩⟩⟩
    · trivial
    · trivial
    · trivial
    · first | with_reducible rfl | omega | assumption | grind [S.sync_id, S.sync_right, S.crash_right, S.crash_id, S.same_refl, S.leN, S.len] -- leaf 1
    · first | with_reducible rfl | omega | assumption | grind [S.sync_id, S.sync_right, S.crash_right, S.crash_id, S.same_refl, S.leN, S.len] -- leaf 2
    · trivial
    · intro h3
      refine ⟨?_, ⟨?_, ⟨?_, ⟨?_, ⟨?_, ?_⟩⟩⟩⟩⟩
      · trivial
      · first | with_reducible rfl | omega | assumption | grind [S.sync_id, S.sync_right, S.crash_right, S.crash_id, S.same_refl, S.leN, S.len] -- leaf 3
      · first | with_reducible rfl | omega | assumption | grind [S.sync_id, S.sync_right, S.crash_right, S.crash_id, S.same_refl, S.leN, S.len] -- leaf 4
      · trivial
      · intro h4
        refine ⟨?_, ⟨?_, ⟨?_, ⟨?_, ⟨?_, ?_⟩⟩⟩⟩⟩
        · trivial
        · first | with_reducible rfl | omega | assumption | grind [S.sync_id, S.sync_right, S.crash_right, S.crash_id, S.same_refl, S.leN, S.len] -- leaf 5
        · first | with_reducible rfl | omega | assumption | grind [S.sync_id, S.sync_right, S.crash_right, S.crash_id, S.same_refl, S.leN, S.len] -- leaf 6
        · trivial
        · intro h5
          refine ⟨?_, ?_⟩
          · intro h6
            simp only [decide_eq_true_eq] at h6
            refine ⟨?_, ⟨?_, ?_⟩⟩
            · trivial
            · intro h7
              trivial
            · intro h8
              trivial
          · intro h9
            simp only [decide_eq_false_iff_not] at h9
            trivial
        · intro h10
          trivial
      · intro h11
        trivial
    · intro h12
      trivial
    · first | with_reducible rfl | omega | assumption | grind [S.sync_id, S.sync_right, S.crash_right, S.crash_id, S.same_refl, S.leN, S.len] -- leaf 7

theorem H_rubricklaw22_BlockLasts (d1 : List (List UInt8)) (d2 : List (Int × List UInt8)) (l : List (Int × Int × List UInt8 × List Int)) (i : Int) (keep : List Int) (hp : True) (hf : Vg.Row.ok (Vg.PS.flat [.agg [.slice [.slice [.int .u8]], .slice [.int .i64, .slice [.int .u8]]], .one (.slice [.int .i64, .int .i64, .slice [.int .u8], .slice [.int .i64]]), .one (.int .i64), .one (.slice [.int .i64])]) (d1, d2, l, i, keep)) : V_rubricklaw22_BlockLasts d1 d2 l i keep := by
  unfold V_rubricklaw22_BlockLasts
  have hr_d1 : d1.length ≤ 9223372036854775807 := hf.1.1
  have hr_d2 : d2.length ≤ 9223372036854775807 := hf.2.1.1
  have hr_l : l.length ≤ 9223372036854775807 := hf.2.2.1.1
  have hr_i : -9223372036854775808 ≤ i ∧ i ≤ 9223372036854775807 := hf.2.2.2.1
  have hr_keep : keep.length ≤ 9223372036854775807 := hf.2.2.2.2.1.1
  clear hf
  refine ⟨?_, ⟨?_, ?_⟩⟩
  · trivial
  · intro h1
    simp only [V.bor, decide_eq_true_eq] at h1
    refine ⟨?_, ?_⟩
    · trivial
    · rfl
  · intro h2
    simp only [V.bor_f, decide_eq_false_iff_not] at h2
    refine ⟨?_, ⟨?_, ⟨?_, ?_⟩⟩⟩
    · trivial
    · trivial
    · refine ⟨((nat_lit 0 : Nat), ([])), ?_⟩
      try dsimp only
      refine ⟨⟨?_, ⟨?_, ?_⟩⟩, ?_⟩
      · first | with_reducible rfl | omega | assumption | grind [S.lasts_step, S.lasts_skip, S.sync_right, S.vB_of, S.wB, S.lastsInv, S.meas] -- leaf 2
      · rfl
      · first | with_reducible rfl | omega | assumption | grind [S.lasts_step, S.lasts_skip, S.sync_right, S.vB_of, S.wB, S.lastsInv, S.meas] -- leaf 3
      · first | with_reducible rfl | omega | assumption | grind [S.lasts_step, S.lasts_skip, S.sync_right, S.vB_of, S.wB, S.lastsInv, S.meas] -- leaf 4
    · intro x3
      intro h4
      refine ⟨?_, ?_⟩
      · intro h5
        simp only [V.band, decide_eq_true_eq] at h5
        refine ⟨⟨?_, ?_⟩, ⟨⟨?_, ?_⟩, ⟨⟨?_, ?_⟩, ⟨⟨?_, ?_⟩, ?_⟩⟩⟩⟩
        · first | with_reducible rfl | omega | assumption | grind [S.lasts_step, S.lasts_skip, S.sync_right, S.vB_of, S.wB, S.lastsInv, S.meas] -- leaf 5
        · first | with_reducible rfl | omega | assumption | grind [S.lasts_step, S.lasts_skip, S.sync_right, S.vB_of, S.wB, S.lastsInv, S.meas] -- leaf 6
        · intro h6
          simp only [decide_eq_true_eq, Int.toNat_natCast] at h6
          refine ⟨?_, ?_⟩
          · first | with_reducible rfl | omega | assumption | grind [S.lasts_step, S.lasts_skip, S.sync_right, S.vB_of, S.wB, S.lastsInv, S.meas] -- leaf 7
          · first | with_reducible rfl | omega | assumption | grind [S.lasts_step, S.lasts_skip, S.sync_right, S.vB_of, S.wB, S.lastsInv, S.meas] -- leaf 8
        · intro h7
          simp only [decide_eq_false_iff_not, Int.toNat_natCast] at h7
          trivial
        · intro h8
          simp only [V.band, decide_eq_true_eq, Int.toNat_natCast, Bool.not_eq_true', decide_eq_false_iff_not] at h8
          refine ⟨⟨?_, ?_⟩, ⟨⟨?_, ?_⟩, ?_⟩⟩
          · first | with_reducible rfl | omega | assumption | grind [S.lasts_step, S.lasts_skip, S.sync_right, S.vB_of, S.wB, S.lastsInv, S.meas] -- leaf 9
          · first | with_reducible rfl | omega | assumption | grind [S.lasts_step, S.lasts_skip, S.sync_right, S.vB_of, S.wB, S.lastsInv, S.meas] -- leaf 10
          · first | with_reducible rfl | omega | assumption | grind [S.lasts_step, S.lasts_skip, S.sync_right, S.vB_of, S.wB, S.lastsInv, S.meas] -- leaf 11
          · first | with_reducible rfl | omega | assumption | grind [S.lasts_step, S.lasts_skip, S.sync_right, S.vB_of, S.wB, S.lastsInv, S.meas] -- leaf 12
          · trivial
        · intro h9
          simp only [V.band_f, decide_eq_false_iff_not, Int.toNat_natCast, Bool.not_eq_false', decide_eq_true_eq] at h9
          trivial
        · first | with_reducible rfl | omega | assumption | grind [S.lasts_step, S.lasts_skip, S.sync_right, S.vB_of, S.wB, S.lastsInv, S.meas] -- leaf 13
        · first | with_reducible rfl | omega | assumption | grind [S.lasts_step, S.lasts_skip, S.sync_right, S.vB_of, S.wB, S.lastsInv, S.meas] -- leaf 14
        · refine ⟨((Prod.fst x3 + nat_lit 1), (bif bif Decidable.decide ((↑(List.length (Prod.fst (Prod.snd (Prod.snd (List.getD l (Int.toNat (↑(Prod.fst x3) : Int)) ((0 : Int), (0 : Int), [], [])))))) : Int) ≤ (200 : Int)) then !Decidable.decide (Prod.fst (Prod.snd (List.getD l (Int.toNat (↑(Prod.fst x3) : Int)) ((0 : Int), (0 : Int), [], []))) = i) else Bool.false then S.wW (S.sync d1 d2) (Prod.snd x3) (Prod.fst (Prod.snd (List.getD l (Int.toNat (↑(Prod.fst x3) : Int)) ((0 : Int), (0 : Int), [], [])))) (Prod.fst (Prod.snd (Prod.snd (List.getD l (Int.toNat (↑(Prod.fst x3) : Int)) ((0 : Int), (0 : Int), [], []))))) else Prod.snd x3)), ?_⟩
          try dsimp only
          refine ⟨⟨?_, ⟨?_, ?_⟩⟩, ⟨?_, ?_⟩⟩
          · first | with_reducible rfl | omega | assumption | grind [S.lasts_step, S.lasts_skip, S.sync_right, S.vB_of, S.wB, S.lastsInv, S.meas] -- leaf 16
          · first | with_reducible rfl | omega | assumption | grind [S.lasts_step, S.lasts_skip, S.sync_right, S.vB_of, S.wB, S.lastsInv, S.meas] -- leaf 17
          · first | with_reducible rfl | omega | assumption | grind [S.lasts_step, S.lasts_skip, S.sync_right, S.vB_of, S.wB, S.lastsInv, S.meas] -- leaf 18
          · first | with_reducible rfl | omega | assumption | grind [S.lasts_step, S.lasts_skip, S.sync_right, S.vB_of, S.wB, S.lastsInv, S.meas] -- leaf 19
          · first | with_reducible rfl | omega | assumption | grind [S.lasts_step, S.lasts_skip, S.sync_right, S.vB_of, S.wB, S.lastsInv, S.meas] -- leaf 20
      · intro h10
        simp only [V.band_f, decide_eq_false_iff_not] at h10
        refine ⟨?_, ⟨?_, ⟨⟨?_, ?_⟩, ?_⟩⟩⟩
        · trivial
        · trivial
        · intro h11
          simp only [decide_eq_true_eq] at h11
          refine ⟨?_, ?_⟩
          · intro h12
            simp only [decide_eq_true_eq] at h12
            trivial
          · intro h13
            simp only [decide_eq_false_iff_not] at h13
            trivial
        · intro h14
          simp only [decide_eq_false_iff_not] at h14
          trivial
        · have := S.lasts_end h4 (S.sync_right d1 d2) keep
          grind

theorem H_rubricklaw22_BlockTears (d1 : List (List UInt8)) (d2 : List (Int × List UInt8)) (l : List (Int × Int × List UInt8 × List Int)) (i : Int) (b : List UInt8) (keep : List Int) (hp : True) (hf : Vg.Row.ok (Vg.PS.flat [.agg [.slice [.slice [.int .u8]], .slice [.int .i64, .slice [.int .u8]]], .one (.slice [.int .i64, .int .i64, .slice [.int .u8], .slice [.int .i64]]), .one (.int .i64), .one (.slice [.int .u8]), .one (.slice [.int .i64])]) (d1, d2, l, i, b, keep)) : V_rubricklaw22_BlockTears d1 d2 l i b keep := by
  unfold V_rubricklaw22_BlockTears
  have hr_d1 : d1.length ≤ 9223372036854775807 := hf.1.1
  have hr_d2 : d2.length ≤ 9223372036854775807 := hf.2.1.1
  have hr_l : l.length ≤ 9223372036854775807 := hf.2.2.1.1
  have hr_i : -9223372036854775808 ≤ i ∧ i ≤ 9223372036854775807 := hf.2.2.2.1
  have hr_b : b.length ≤ 9223372036854775807 := hf.2.2.2.2.1.1
  have hr_keep : keep.length ≤ 9223372036854775807 := hf.2.2.2.2.2.1.1
  clear hf
  refine ⟨?_, ⟨?_, ?_⟩⟩
  · trivial
  · intro h1
    simp only [V.bor, decide_eq_true_eq, Bool.not_eq_true', decide_eq_false_iff_not] at h1
    refine ⟨?_, ?_⟩
    · trivial
    · rfl
  · intro h2
    simp only [V.bor_f, decide_eq_false_iff_not, Bool.not_eq_false', decide_eq_true_eq] at h2
    refine ⟨?_, ⟨?_, ⟨?_, ?_⟩⟩⟩
    · trivial
    · trivial
    · intro h3
      simp only [Bool.not_eq_true', decide_eq_false_iff_not] at h3
      refine ⟨⟨?_, ?_⟩, ?_⟩
      · intro h4
        simp only [decide_eq_true_eq] at h4
        trivial
      · intro h5
        simp only [decide_eq_false_iff_not] at h5
        trivial
      · have h3' : S.rErr (S.sync d1 d2) [] i ≠ 0 := h3
        have : S.rRes (S.sync d1 d2) [] i = [] := by simp [S.rRes, h3']
        simp [this]
    · intro h6
      simp only [Bool.not_eq_false', decide_eq_true_eq] at h6
      refine ⟨?_, ⟨?_, ?_⟩⟩
      · trivial
      · refine ⟨((nat_lit 0 : Nat), (S.wW (S.sync d1 d2) (Vg.nilL (Int × List UInt8)) i b)), ?_⟩
        try dsimp only
        refine ⟨⟨?_, ⟨?_, ?_⟩⟩, ?_⟩
        · first | with_reducible rfl | omega | assumption | grind [S.tears_step, S.tears_skip, S.tears_end, S.tears_begin, S.sync_right, S.vB_of, S.wB, S.tearsInv, S.meas, S.leN] -- leaf 3
        · first | with_reducible rfl | omega | assumption | grind [S.tears_step, S.tears_skip, S.tears_end, S.tears_begin, S.sync_right, S.vB_of, S.wB, S.tearsInv, S.meas, S.leN] -- leaf 4
        · first | with_reducible rfl | omega | assumption | grind [S.tears_step, S.tears_skip, S.tears_end, S.tears_begin, S.sync_right, S.vB_of, S.wB, S.tearsInv, S.meas, S.leN] -- leaf 5
        · first | with_reducible rfl | omega | assumption | grind [S.tears_step, S.tears_skip, S.tears_end, S.tears_begin, S.sync_right, S.vB_of, S.wB, S.tearsInv, S.meas, S.leN] -- leaf 6
      · intro x7
        intro h8
        refine ⟨?_, ?_⟩
        · intro h9
          simp only [V.band, decide_eq_true_eq] at h9
          refine ⟨⟨?_, ?_⟩, ⟨⟨?_, ?_⟩, ⟨⟨?_, ?_⟩, ⟨⟨?_, ?_⟩, ?_⟩⟩⟩⟩
          · first | with_reducible rfl | omega | assumption | grind [S.tears_step, S.tears_skip, S.tears_end, S.tears_begin, S.sync_right, S.vB_of, S.wB, S.tearsInv, S.meas, S.leN] -- leaf 7
          · first | with_reducible rfl | omega | assumption | grind [S.tears_step, S.tears_skip, S.tears_end, S.tears_begin, S.sync_right, S.vB_of, S.wB, S.tearsInv, S.meas, S.leN] -- leaf 8
          · intro h10
            simp only [decide_eq_true_eq, Int.toNat_natCast] at h10
            refine ⟨?_, ?_⟩
            · first | with_reducible rfl | omega | assumption | grind [S.tears_step, S.tears_skip, S.tears_end, S.tears_begin, S.sync_right, S.vB_of, S.wB, S.tearsInv, S.meas, S.leN] -- leaf 9
            · first | with_reducible rfl | omega | assumption | grind [S.tears_step, S.tears_skip, S.tears_end, S.tears_begin, S.sync_right, S.vB_of, S.wB, S.tearsInv, S.meas, S.leN] -- leaf 10
          · intro h11
            simp only [decide_eq_false_iff_not, Int.toNat_natCast] at h11
            trivial
          · intro h12
            simp only [V.band, decide_eq_true_eq, Int.toNat_natCast, Bool.not_eq_true', decide_eq_false_iff_not] at h12
            refine ⟨⟨?_, ?_⟩, ⟨⟨?_, ?_⟩, ?_⟩⟩
            · first | with_reducible rfl | omega | assumption | grind [S.tears_step, S.tears_skip, S.tears_end, S.tears_begin, S.sync_right, S.vB_of, S.wB, S.tearsInv, S.meas, S.leN] -- leaf 11
            · first | with_reducible rfl | omega | assumption | grind [S.tears_step, S.tears_skip, S.tears_end, S.tears_begin, S.sync_right, S.vB_of, S.wB, S.tearsInv, S.meas, S.leN] -- leaf 12
            · first | with_reducible rfl | omega | assumption | grind [S.tears_step, S.tears_skip, S.tears_end, S.tears_begin, S.sync_right, S.vB_of, S.wB, S.tearsInv, S.meas, S.leN] -- leaf 13
            · first | with_reducible rfl | omega | assumption | grind [S.tears_step, S.tears_skip, S.tears_end, S.tears_begin, S.sync_right, S.vB_of, S.wB, S.tearsInv, S.meas, S.leN] -- leaf 14
            · trivial
          · intro h13
            simp only [V.band_f, decide_eq_false_iff_not, Int.toNat_natCast, Bool.not_eq_false', decide_eq_true_eq] at h13
            trivial
          · first | with_reducible rfl | omega | assumption | grind [S.tears_step, S.tears_skip, S.tears_end, S.tears_begin, S.sync_right, S.vB_of, S.wB, S.tearsInv, S.meas, S.leN] -- leaf 15
          · first | with_reducible rfl | omega | assumption | grind [S.tears_step, S.tears_skip, S.tears_end, S.tears_begin, S.sync_right, S.vB_of, S.wB, S.tearsInv, S.meas, S.leN] -- leaf 16
          · refine ⟨((Prod.fst x7 + nat_lit 1), (bif bif Decidable.decide ((↑(List.length (Prod.fst (Prod.snd (Prod.snd (List.getD l (Int.toNat (↑(Prod.fst x7) : Int)) ((0 : Int), (0 : Int), [], [])))))) : Int) ≤ (200 : Int)) then !Decidable.decide (Prod.fst (Prod.snd (List.getD l (Int.toNat (↑(Prod.fst x7) : Int)) ((0 : Int), (0 : Int), [], []))) = i) else Bool.false then S.wW (S.sync d1 d2) (Prod.snd x7) (Prod.fst (Prod.snd (List.getD l (Int.toNat (↑(Prod.fst x7) : Int)) ((0 : Int), (0 : Int), [], [])))) (Prod.fst (Prod.snd (Prod.snd (List.getD l (Int.toNat (↑(Prod.fst x7) : Int)) ((0 : Int), (0 : Int), [], []))))) else Prod.snd x7)), ?_⟩
            try dsimp only
            refine ⟨⟨?_, ⟨?_, ?_⟩⟩, ⟨?_, ?_⟩⟩
            · first | with_reducible rfl | omega | assumption | grind [S.tears_step, S.tears_skip, S.tears_end, S.tears_begin, S.sync_right, S.vB_of, S.wB, S.tearsInv, S.meas, S.leN] -- leaf 18
            · first | with_reducible rfl | omega | assumption | grind [S.tears_step, S.tears_skip, S.tears_end, S.tears_begin, S.sync_right, S.vB_of, S.wB, S.tearsInv, S.meas, S.leN] -- leaf 19
            · first | with_reducible rfl | omega | assumption | grind [S.tears_step, S.tears_skip, S.tears_end, S.tears_begin, S.sync_right, S.vB_of, S.wB, S.tearsInv, S.meas, S.leN] -- leaf 20
            · first | with_reducible rfl | omega | assumption | grind [S.tears_step, S.tears_skip, S.tears_end, S.tears_begin, S.sync_right, S.vB_of, S.wB, S.tearsInv, S.meas, S.leN] -- leaf 21
            · first | with_reducible rfl | omega | assumption | grind [S.tears_step, S.tears_skip, S.tears_end, S.tears_begin, S.sync_right, S.vB_of, S.wB, S.tearsInv, S.meas, S.leN] -- leaf 22
        · intro h14
          simp only [V.band_f, decide_eq_false_iff_not] at h14
          refine ⟨?_, ⟨?_, ⟨?_, ?_⟩⟩⟩
          · trivial
          · trivial
          · intro h15
            simp only [V.bor, Bool.not_eq_true', decide_eq_false_iff_not] at h15
            have := S.tears_end h8 (S.sync_right d1 d2) h6 (by omega) keep
            grind
          · intro h16
            simp only [V.bor_f, Bool.not_eq_false', decide_eq_true_eq] at h16
            refine ⟨?_, ?_⟩
            · refine ⟨(nat_lit 0 : Nat), ?_⟩
              try dsimp only
              refine ⟨?_, ?_⟩
              · first | with_reducible rfl | omega | assumption | grind [S.tears_step, S.tears_skip, S.tears_end, S.tears_begin, S.sync_right, S.vB_of, S.wB, S.tearsInv, S.meas, S.leN] -- leaf 25
              · first | with_reducible rfl | omega | assumption | grind [S.tears_step, S.tears_skip, S.tears_end, S.tears_begin, S.sync_right, S.vB_of, S.wB, S.tearsInv, S.meas, S.leN] -- leaf 26
            · intro x17
              intro h18
              refine ⟨?_, ?_⟩
              · intro h19
                simp only [decide_eq_true_eq] at h19
                refine ⟨⟨?_, ?_⟩, ⟨⟨?_, ?_⟩, ⟨?_, ⟨?_, ?_⟩⟩⟩⟩
                · first | with_reducible rfl | omega | assumption | grind [S.tears_step, S.tears_skip, S.tears_end, S.tears_begin, S.sync_right, S.vB_of, S.wB, S.tearsInv, S.meas, S.leN] -- leaf 27
                · first | with_reducible rfl | omega | assumption | grind [S.tears_step, S.tears_skip, S.tears_end, S.tears_begin, S.sync_right, S.vB_of, S.wB, S.tearsInv, S.meas, S.leN] -- leaf 28
                · first | with_reducible rfl | omega | assumption | grind [S.tears_step, S.tears_skip, S.tears_end, S.tears_begin, S.sync_right, S.vB_of, S.wB, S.tearsInv, S.meas, S.leN] -- leaf 29
                · first | with_reducible rfl | omega | assumption | grind [S.tears_step, S.tears_skip, S.tears_end, S.tears_begin, S.sync_right, S.vB_of, S.wB, S.tearsInv, S.meas, S.leN] -- leaf 30
                · first | with_reducible rfl | omega | assumption | grind [S.tears_step, S.tears_skip, S.tears_end, S.tears_begin, S.sync_right, S.vB_of, S.wB, S.tearsInv, S.meas, S.leN] -- leaf 31
                · intro h20
                  simp only [decide_eq_true_eq, Int.toNat_natCast] at h20
                  refine ⟨?_, ?_⟩
                  · trivial
                  · rfl
                · intro h21
                  simp only [decide_eq_false_iff_not, Int.toNat_natCast] at h21
                  refine ⟨⟨?_, ?_⟩, ?_⟩
                  · first | with_reducible rfl | omega | assumption | grind [S.tears_step, S.tears_skip, S.tears_end, S.tears_begin, S.sync_right, S.vB_of, S.wB, S.tearsInv, S.meas, S.leN] -- leaf 32
                  · first | with_reducible rfl | omega | assumption | grind [S.tears_step, S.tears_skip, S.tears_end, S.tears_begin, S.sync_right, S.vB_of, S.wB, S.tearsInv, S.meas, S.leN] -- leaf 33
                  · refine ⟨(x17 + nat_lit 1), ?_⟩
                    try dsimp only
                    refine ⟨?_, ⟨?_, ?_⟩⟩
                    · first | with_reducible rfl | omega | assumption | grind [S.tears_step, S.tears_skip, S.tears_end, S.tears_begin, S.sync_right, S.vB_of, S.wB, S.tearsInv, S.meas, S.leN] -- leaf 35
                    · first | with_reducible rfl | omega | assumption | grind [S.tears_step, S.tears_skip, S.tears_end, S.tears_begin, S.sync_right, S.vB_of, S.wB, S.tearsInv, S.meas, S.leN] -- leaf 36
                    · first | with_reducible rfl | omega | assumption | grind [S.tears_step, S.tears_skip, S.tears_end, S.tears_begin, S.sync_right, S.vB_of, S.wB, S.tearsInv, S.meas, S.leN] -- leaf 37
              · intro h22
                simp only [decide_eq_false_iff_not] at h22
                have := S.kept_le keep 0
                simp only [S.leN] at h18
                omega

end Go
