/- DictHas: for every input the given Go function returns true and leaves its arguments as they were. Conditions: none. -/
import Derived.Test.YtepaodgmfpbapaaGreatDoorPartD
import Derived.Shelf.SlicesG.Clone
import Derived.Shelf.SlSortCmp.NoneTotal
import Derived.Shelf.SlIter.Nil
import Derived.Shelf.SortM.Plain
import Derived.Shelf.SortM.SortNone
import Derived.Test.YtepaodgmfpbapaaGreatDoorProg
import Derived.Lib.Small
import Derived.Lib.Walk
import Derived.Sort.Walk0
import Derived.Laws.Cover1
import Derived.Maps.GroupsBeside
import Derived.Sort.KeysCollected
import Derived.WalkKit
import Derived.Test.YtepaodgmfpbapaaGreatDoorCards
import Derived.Test.YtepaodgmfpbapaaGreatDoorTie
import Derived.Deep.DeepHandedRow
import Derived.ProofKit
import Derived.OpenShut
set_option linter.unusedVariables false
set_option linter.unusedSimpArgs false
section
set_option linter.unusedVariables false
namespace Go
theorem df {p : Prop} [Decidable p] : decide p = false ↔ ¬p := decide_eq_false_iff_not
theorem dt {p : Prop} [Decidable p] : (decide p = true) = p := decide_eq_true_eq
theorem lc {α : Type} {a : α} {l : List α} : (a :: l).length = l.length + 1 := List.length_cons
theorem ln {α : Type} : ([] : List α).length = 0 := List.length_nil
theorem tn (n : Nat) : (n : Int).toNat = n := Int.toNat_natCast n
theorem nf {b : Bool} : ((!b) = false) = (b = true) := Bool.not_eq_false' b
theorem nt {b : Bool} : ((!b) = true) = (b = false) := Bool.not_eq_true' b
theorem H_a6 (x : Int) (k : Int) (hp : S.rotPre x k) (hf : Vg.Row.ok (Vg.PS.flat [.one (.int .u32), .one (.int .i64)]) (x, k)) : V_a6 x k := by
  unfold V_a6
  have hr_x : 0 ≤ x ∧ x ≤ 4294967295 := hf.1
  have hr_k : -9223372036854775808 ≤ k ∧ k ≤ 9223372036854775807 := hf.2.1
  clear hf
  have hb := S.rot_bd hp
  have hp2 := hp
  simp only [S.rotPre] at hp2
  refine ⟨⟨?_, ?_⟩, ⟨⟨?_, ?_⟩, ?_⟩⟩
  · omega
  · omega
  · omega
  · omega
  exact S.rot_or hp
theorem H_a7  (hp : True) (hf : Vg.Row.ok (Vg.PS.flat []) ()) : V_a7  := by
  unfold V_a7
  clear hf
  refine ⟨?_, ⟨?_, ⟨?_, ⟨?_, ⟨?_, ⟨?_, ⟨?_, ⟨?_, ?_⟩⟩⟩⟩⟩⟩⟩⟩
  · rfl
  · rfl
  · rfl
  · rfl
  · rfl
  · rfl
  · rfl
  · rfl
  rfl
theorem H_a8 (s1 : Int) (s2 : Int) (s3 : Int) (s4 : Int) (s5 : Int) (s6 : Int) (s7 : Int) (s8 : Int) (s9 : List UInt8) (s10 : Int) (hp : True) (hf : Vg.Row.ok (Vg.PS.flat [.agg [.int .u32, .int .u32, .int .u32, .int .u32, .int .u32, .int .u32, .int .u32, .int .u32, .slice [.int .u8], .int .i64]]) (s1, s2, s3, s4, s5, s6, s7, s8, s9, s10)) : V_a8 s1 s2 s3 s4 s5 s6 s7 s8 s9 s10 := by
  unfold V_a8
  have hr_s1 : 0 ≤ s1 ∧ s1 ≤ 4294967295 := hf.1
  have hr_s2 : 0 ≤ s2 ∧ s2 ≤ 4294967295 := hf.2.1
  have hr_s3 : 0 ≤ s3 ∧ s3 ≤ 4294967295 := hf.2.2.1
  have hr_s4 : 0 ≤ s4 ∧ s4 ≤ 4294967295 := hf.2.2.2.1
  have hr_s5 : 0 ≤ s5 ∧ s5 ≤ 4294967295 := hf.2.2.2.2.1
  have hr_s6 : 0 ≤ s6 ∧ s6 ≤ 4294967295 := hf.2.2.2.2.2.1
  have hr_s7 : 0 ≤ s7 ∧ s7 ≤ 4294967295 := hf.2.2.2.2.2.2.1
  have hr_s8 : 0 ≤ s8 ∧ s8 ≤ 4294967295 := hf.2.2.2.2.2.2.2.1
  have hr_s9 : s9.length ≤ 9223372036854775807 := hf.2.2.2.2.2.2.2.2.1.1
  have hr_s10 : -9223372036854775808 ≤ s10 ∧ s10 ≤ 9223372036854775807 := hf.2.2.2.2.2.2.2.2.2.1
  clear hf
  refine ⟨⟨?_, ?_⟩, ?_⟩
  · intro h1
    try simp only [dt] at h1
    refine ⟨?_, ?_⟩
    · intro h2
      try simp only [dt] at h2
      refine ⟨?_, ?_⟩
      · omega
      omega
    intro h3
    try simp only [df] at h3
    trivial
  · intro h4
    try simp only [df] at h4
    trivial
  simp only [S.stValid]; grind
theorem H_a9 (u1 : Int) (u2 : Int) (u3 : Int) (u4 : Int) (u5 : Int) (u6 : Int) (u7 : Int) (u8 : Int) (p : List UInt8) (hp : S.blkPre (u1, u2, u3, u4, u5, u6, u7, u8) p) (hf : Vg.Row.ok (Vg.PS.flat [.agg [.int .u32, .int .u32, .int .u32, .int .u32, .int .u32, .int .u32, .int .u32, .int .u32], .one (.slice [.int .u8])]) (u1, u2, u3, u4, u5, u6, u7, u8, p)) : V_a9 u1 u2 u3 u4 u5 u6 u7 u8 p := by
  unfold V_a9
  have hr_u1 : 0 ≤ u1 ∧ u1 ≤ 4294967295 := hf.1
  have hr_u2 : 0 ≤ u2 ∧ u2 ≤ 4294967295 := hf.2.1
  have hr_u3 : 0 ≤ u3 ∧ u3 ≤ 4294967295 := hf.2.2.1
  have hr_u4 : 0 ≤ u4 ∧ u4 ≤ 4294967295 := hf.2.2.2.1
  have hr_u5 : 0 ≤ u5 ∧ u5 ≤ 4294967295 := hf.2.2.2.2.1
  have hr_u6 : 0 ≤ u6 ∧ u6 ≤ 4294967295 := hf.2.2.2.2.2.1
  have hr_u7 : 0 ≤ u7 ∧ u7 ≤ 4294967295 := hf.2.2.2.2.2.2.1
  have hr_u8 : 0 ≤ u8 ∧ u8 ≤ 4294967295 := hf.2.2.2.2.2.2.2.1
  have hr_p : p.length ≤ 9223372036854775807 := hf.2.2.2.2.2.2.2.2.1.1
  clear hf
  obtain ⟨hp1, hp2⟩ := hp
  refine ⟨?_, ?_⟩
  · refine ⟨(nat_lit 0 : Nat), ?_⟩
    try dsimp only
    refine ⟨⟨?_, ?_⟩, ?_⟩
    · omega
    · rfl
    simp only [S.leN, S.meas] at *; omega
  intro x1
  intro h2
  refine ⟨?_, ?_⟩
  · intro h3
    try simp only [dt] at h3
    refine ⟨⟨?_, ?_⟩, ⟨⟨?_, ?_⟩, ⟨⟨?_, ?_⟩, ⟨⟨?_, ?_⟩, ⟨⟨?_, ?_⟩, ⟨⟨?_, ?_⟩, ⟨⟨?_, ?_⟩, ⟨⟨?_, ?_⟩, ⟨⟨?_, ?_⟩, ⟨⟨?_, ?_⟩, ⟨⟨?_, ?_⟩, ⟨⟨?_, ?_⟩, ⟨⟨?_, ?_⟩, ⟨⟨?_, ?_⟩, ⟨⟨?_, ?_⟩, ⟨?_, ⟨⟨?_, ?_⟩, ?_⟩⟩⟩⟩⟩⟩⟩⟩⟩⟩⟩⟩⟩⟩⟩⟩⟩
    · omega
    · omega
    · omega
    · omega
    · omega
    · omega
    · omega
    · omega
    · omega
    · omega
    · omega
    · omega
    · omega
    · omega
    · omega
    · omega
    · omega
    · omega
    · omega
    · omega
    · omega
    · omega
    · omega
    · omega
    · omega
    · omega
    · omega
    · omega
    · omega
    · omega
    · rw [S.arr_len _ _ (by omega)]; omega
    · omega
    · omega
    refine ⟨(x1 + nat_lit 1), ?_⟩
    try dsimp only
    refine ⟨⟨?_, ?_⟩, ⟨?_, ?_⟩⟩
    · omega
    · exact S.arr_lo _ _ (by omega)
    · simp only [S.leN, S.meas] at *; omega
    simp only [S.leN, S.meas] at *; omega
  intro h4
  try simp only [df] at h4
  refine ⟨?_, ?_⟩
  · refine ⟨(nat_lit 16 : Nat), ?_⟩
    try dsimp only
    refine ⟨⟨?_, ?_⟩, ⟨?_, ?_⟩⟩
    · omega
    · simp only [S.leN] at h2
      rw [show x1 = 16 by omega]
    · omega
    omega
  intro x5
  intro h6
  refine ⟨?_, ?_⟩
  · intro h7
    try simp only [dt] at h7
    refine ⟨⟨?_, ?_⟩, ⟨⟨?_, ?_⟩, ⟨?_, ⟨⟨?_, ?_⟩, ⟨⟨?_, ?_⟩, ⟨?_, ⟨?_, ⟨?_, ⟨⟨?_, ?_⟩, ⟨?_, ⟨?_, ⟨⟨?_, ?_⟩, ⟨⟨?_, ?_⟩, ⟨⟨?_, ?_⟩, ⟨?_, ⟨⟨?_, ?_⟩, ⟨⟨?_, ?_⟩, ⟨?_, ⟨⟨?_, ?_⟩, ⟨?_, ⟨⟨?_, ?_⟩, ?_⟩⟩⟩⟩⟩⟩⟩⟩⟩⟩⟩⟩⟩⟩⟩⟩⟩⟩⟩⟩⟩
    · omega
    · omega
    · omega
    · omega
    · rw [S.arr_len _ _ (by omega)]; omega
    · omega
    · omega
    · omega
    · omega
    · rw [S.arr_len _ _ (by omega)]; omega
    · with_reducible exact S.arr_rot _ _ _ _ (by omega)
    · with_reducible exact S.arr_rot _ _ _ _ (by omega)
    · omega
    · omega
    · with_reducible exact S.arr_rot _ _ _ _ (by omega)
    · with_reducible exact S.arr_rot _ _ _ _ (by omega)
    · omega
    · omega
    · omega
    · omega
    · omega
    · omega
    · rw [S.arr_len _ _ (by omega)]; omega
    · omega
    · omega
    · omega
    · omega
    · rw [S.arr_len _ _ (by omega)]; omega
    · omega
    · omega
    · rw [S.arr_len _ _ (by omega)]; omega
    · omega
    · omega
    refine ⟨(x5 + nat_lit 1), ?_⟩
    try dsimp only
    refine ⟨⟨?_, ?_⟩, ⟨⟨?_, ?_⟩, ?_⟩⟩
    · omega
    · exact S.arr_hi _ _ (by omega) (by omega)
    · omega
    · omega
    simp only [S.leN, S.meas] at *; omega
  intro h8
  try simp only [df] at h8
  refine ⟨⟨?_, ?_⟩, ⟨⟨?_, ?_⟩, ⟨⟨?_, ?_⟩, ⟨⟨?_, ?_⟩, ⟨⟨?_, ?_⟩, ⟨⟨?_, ?_⟩, ⟨⟨?_, ?_⟩, ⟨⟨?_, ?_⟩, ⟨?_, ?_⟩⟩⟩⟩⟩⟩⟩⟩⟩
  · omega
  · omega
  · omega
  · omega
  · omega
  · omega
  · omega
  · omega
  · omega
  · omega
  · omega
  · omega
  · omega
  · omega
  · omega
  · omega
  · refine ⟨(nat_lit 0 : Nat), ?_⟩
    try dsimp only
    refine ⟨⟨?_, ⟨?_, ⟨?_, ⟨?_, ⟨?_, ⟨?_, ⟨?_, ⟨?_, ?_⟩⟩⟩⟩⟩⟩⟩⟩, ?_⟩
    · omega
    · rfl
    · rfl
    · rfl
    · rfl
    · rfl
    · rfl
    · rfl
    · rfl
    simp only [S.leN, S.meas] at *; omega
  intro x9
  intro h10
  refine ⟨?_, ?_⟩
  · intro h11
    try simp only [dt] at h11
    refine ⟨?_, ⟨?_, ⟨?_, ⟨?_, ⟨⟨?_, ?_⟩, ⟨⟨?_, ?_⟩, ⟨?_, ⟨?_, ⟨?_, ⟨?_, ⟨⟨?_, ?_⟩, ?_⟩⟩⟩⟩⟩⟩⟩⟩⟩⟩⟩
    · with_reducible exact S.ok8_e (S.rnds_ok _ _ hp1 _) _ (by omega)
    · with_reducible exact S.ok8_e (S.rnds_ok _ _ hp1 _) _ (by omega)
    · with_reducible exact S.ok8_e (S.rnds_ok _ _ hp1 _) _ (by omega)
    · with_reducible exact S.K256_len
    · omega
    · rw [← S.K256_len]; simp only [S.leN] at *; omega
    · omega
    · omega
    · rw [S.arr_len _ _ (by omega)]; omega
    · with_reducible exact S.ok8_a (S.rnds_ok _ _ hp1 _) _ (by omega)
    · with_reducible exact S.ok8_a (S.rnds_ok _ _ hp1 _) _ (by omega)
    · with_reducible exact S.ok8_a (S.rnds_ok _ _ hp1 _) _ (by omega)
    · omega
    · omega
    refine ⟨(x9 + nat_lit 1), ?_⟩
    try dsimp only
    refine ⟨⟨?_, ⟨?_, ⟨?_, ⟨?_, ⟨?_, ⟨?_, ⟨?_, ⟨?_, ?_⟩⟩⟩⟩⟩⟩⟩⟩, ⟨?_, ?_⟩⟩
    · omega
    · rw [show x5 = 64 by omega, S.arr_64]
      simp only [S.rnds, tn, Nat.zero_add, Nat.mul_one]
      rfl
    · rfl
    · rfl
    · rfl
    · rw [show x5 = 64 by omega, S.arr_64]
      simp only [S.rnds, tn, Nat.zero_add, Nat.mul_one]
      rfl
    · rfl
    · rfl
    · rfl
    · simp only [S.leN, S.meas] at *; omega
    simp only [S.leN, S.meas] at *; omega
  intro h12
  try simp only [df] at h12
  refine ⟨⟨?_, ?_⟩, ⟨⟨?_, ?_⟩, ⟨⟨?_, ?_⟩, ⟨⟨?_, ?_⟩, ⟨⟨?_, ?_⟩, ⟨⟨?_, ?_⟩, ⟨⟨?_, ?_⟩, ⟨⟨?_, ?_⟩, ⟨?_, ⟨?_, ⟨?_, ⟨?_, ⟨?_, ⟨?_, ⟨?_, ?_⟩⟩⟩⟩⟩⟩⟩⟩⟩⟩⟩⟩⟩⟩⟩
  · omega
  · omega
  · omega
  · omega
  · omega
  · omega
  · omega
  · omega
  · omega
  · omega
  · omega
  · omega
  · omega
  · omega
  · omega
  · omega
  · simp only [S.leN] at h10
    rw [show x9 = 64 by omega]
    simp only [S.block, S.add8]
  · simp only [S.leN] at h10
    rw [show x9 = 64 by omega]
    simp only [S.block, S.add8]
  · simp only [S.leN] at h10
    rw [show x9 = 64 by omega]
    simp only [S.block, S.add8]
  · simp only [S.leN] at h10
    rw [show x9 = 64 by omega]
    simp only [S.block, S.add8]
  · simp only [S.leN] at h10
    rw [show x9 = 64 by omega]
    simp only [S.block, S.add8]
  · simp only [S.leN] at h10
    rw [show x9 = 64 by omega]
    simp only [S.block, S.add8]
  · simp only [S.leN] at h10
    rw [show x9 = 64 by omega]
    simp only [S.block, S.add8]
  simp only [S.leN] at h10
  rw [show x9 = 64 by omega]
  simp only [S.block, S.add8]
theorem H_a10 (u1 : Int) (u2 : Int) (u3 : Int) (u4 : Int) (u5 : Int) (u6 : Int) (u7 : Int) (u8 : Int) (b : List UInt8) (hp : S.ok8 (u1, u2, u3, u4, u5, u6, u7, u8)) (hf : Vg.Row.ok (Vg.PS.flat [.agg [.int .u32, .int .u32, .int .u32, .int .u32, .int .u32, .int .u32, .int .u32, .int .u32], .one (.slice [.int .u8])]) (u1, u2, u3, u4, u5, u6, u7, u8, b)) : V_a10 u1 u2 u3 u4 u5 u6 u7 u8 b := by
  unfold V_a10
  have hr_u1 : 0 ≤ u1 ∧ u1 ≤ 4294967295 := hf.1
  have hr_u2 : 0 ≤ u2 ∧ u2 ≤ 4294967295 := hf.2.1
  have hr_u3 : 0 ≤ u3 ∧ u3 ≤ 4294967295 := hf.2.2.1
  have hr_u4 : 0 ≤ u4 ∧ u4 ≤ 4294967295 := hf.2.2.2.1
  have hr_u5 : 0 ≤ u5 ∧ u5 ≤ 4294967295 := hf.2.2.2.2.1
  have hr_u6 : 0 ≤ u6 ∧ u6 ≤ 4294967295 := hf.2.2.2.2.2.1
  have hr_u7 : 0 ≤ u7 ∧ u7 ≤ 4294967295 := hf.2.2.2.2.2.2.1
  have hr_u8 : 0 ≤ u8 ∧ u8 ≤ 4294967295 := hf.2.2.2.2.2.2.2.1
  have hr_b : b.length ≤ 9223372036854775807 := hf.2.2.2.2.2.2.2.2.1.1
  clear hf
  refine ⟨?_, ?_⟩
  · refine ⟨0, ?_⟩
    try dsimp only
    refine ⟨⟨?_, ⟨?_, ⟨?_, ⟨?_, ⟨?_, ⟨?_, ⟨?_, ⟨?_, ?_⟩⟩⟩⟩⟩⟩⟩⟩, ?_⟩
    · simp only [S.dropBlk, List.drop_drop]; congr 1
    · rfl
    · rfl
    · rfl
    · rfl
    · rfl
    · rfl
    · rfl
    · rfl
    omega
  intro x1
  intro h2
  refine ⟨?_, ?_⟩
  · intro h3
    try simp only [dt] at h3
    refine ⟨⟨?_, ?_⟩, ⟨?_, ⟨⟨?_, ?_⟩, ?_⟩⟩⟩
    · omega
    · omega
    · exact ⟨S.proc_ok _ _ hp _, by simp only [S.dropBlk, List.length_take, List.length_drop] at *; omega⟩
    · omega
    · omega
    refine ⟨(x1 + 1), ?_⟩
    try dsimp only
    refine ⟨⟨?_, ⟨?_, ⟨?_, ⟨?_, ⟨?_, ⟨?_, ⟨?_, ⟨?_, ?_⟩⟩⟩⟩⟩⟩⟩⟩, ⟨?_, ?_⟩⟩
    · simp only [S.dropBlk, List.drop_drop]; congr 1
    · simp only [S.proc_V]
    · simp only [S.proc_V]
    · simp only [S.proc_V]
    · simp only [S.proc_V]
    · simp only [S.proc_V]
    · simp only [S.proc_V]
    · simp only [S.proc_V]
    · simp only [S.proc_V]
    · simp only [S.dropBlk, List.length_drop, S.meas, S.blocks] at *; omega
    simp only [S.dropBlk, List.length_drop, S.meas, S.blocks] at *; omega
  intro h4
  try simp only [df] at h4
  refine ⟨?_, ⟨?_, ⟨?_, ⟨?_, ⟨?_, ⟨?_, ⟨?_, ⟨?_, ?_⟩⟩⟩⟩⟩⟩⟩⟩
  · rw [show x1 = S.blocks b by (simp only [S.dropBlk, List.length_drop, S.blocks] at *; omega)]
    rfl
  · rw [show x1 = S.blocks b by (simp only [S.dropBlk, List.length_drop, S.blocks] at *; omega)]
    rfl
  · rw [show x1 = S.blocks b by (simp only [S.dropBlk, List.length_drop, S.blocks] at *; omega)]
    rfl
  · rw [show x1 = S.blocks b by (simp only [S.dropBlk, List.length_drop, S.blocks] at *; omega)]
    rfl
  · rw [show x1 = S.blocks b by (simp only [S.dropBlk, List.length_drop, S.blocks] at *; omega)]
    rfl
  · rw [show x1 = S.blocks b by (simp only [S.dropBlk, List.length_drop, S.blocks] at *; omega)]
    rfl
  · rw [show x1 = S.blocks b by (simp only [S.dropBlk, List.length_drop, S.blocks] at *; omega)]
    rfl
  · rw [show x1 = S.blocks b by (simp only [S.dropBlk, List.length_drop, S.blocks] at *; omega)]
    rfl
  rw [show x1 = S.blocks b by (simp only [S.dropBlk, List.length_drop, S.blocks] at *; omega)]
  rfl
theorem H_a11 (s1 : Int) (s2 : Int) (s3 : Int) (s4 : Int) (s5 : Int) (s6 : Int) (s7 : Int) (s8 : Int) (s9 : List UInt8) (s10 : Int) (b : List UInt8) (hp : S.addPre (s1, s2, s3, s4, s5, s6, s7, s8) s9 s10 b) (hf : Vg.Row.ok (Vg.PS.flat [.agg [.int .u32, .int .u32, .int .u32, .int .u32, .int .u32, .int .u32, .int .u32, .int .u32, .slice [.int .u8], .int .i64], .one (.slice [.int .u8])]) (s1, s2, s3, s4, s5, s6, s7, s8, s9, s10, b)) : V_a11 s1 s2 s3 s4 s5 s6 s7 s8 s9 s10 b := by
  unfold V_a11
  have hr_s1 : 0 ≤ s1 ∧ s1 ≤ 4294967295 := hf.1
  have hr_s2 : 0 ≤ s2 ∧ s2 ≤ 4294967295 := hf.2.1
  have hr_s3 : 0 ≤ s3 ∧ s3 ≤ 4294967295 := hf.2.2.1
  have hr_s4 : 0 ≤ s4 ∧ s4 ≤ 4294967295 := hf.2.2.2.1
  have hr_s5 : 0 ≤ s5 ∧ s5 ≤ 4294967295 := hf.2.2.2.2.1
  have hr_s6 : 0 ≤ s6 ∧ s6 ≤ 4294967295 := hf.2.2.2.2.2.1
  have hr_s7 : 0 ≤ s7 ∧ s7 ≤ 4294967295 := hf.2.2.2.2.2.2.1
  have hr_s8 : 0 ≤ s8 ∧ s8 ≤ 4294967295 := hf.2.2.2.2.2.2.2.1
  have hr_s9 : s9.length ≤ 9223372036854775807 := hf.2.2.2.2.2.2.2.2.1.1
  have hr_s10 : -9223372036854775808 ≤ s10 ∧ s10 ≤ 9223372036854775807 := hf.2.2.2.2.2.2.2.2.2.1
  have hr_b : b.length ≤ 9223372036854775807 := hf.2.2.2.2.2.2.2.2.2.2.1.1
  clear hf
  obtain ⟨hok, rfl, rfl, hs⟩ := hp
  simp only [S.small] at hs
  have hv : S.stValid [] 0 = true := by decide
  have hd : decide ((1099511627776 : Int) - 0 < (b.length : Int)) = false := by simp; omega
  simp only [hv, hd, Bool.not_true, cond_false, cond_true, ln, Int.toNat_zero]
  refine ⟨?_, ⟨⟨?_, ?_⟩, ⟨⟨?_, ?_⟩, ⟨⟨?_, ?_⟩, ⟨⟨?_, ⟨?_, ?_⟩⟩, ⟨?_, ⟨?_, ⟨?_, ⟨?_, ⟨⟨?_, ?_⟩, ⟨?_, ⟨?_, ⟨?_, ⟨?_, ⟨?_, ⟨?_, ⟨?_, ⟨?_, ⟨?_, ?_⟩⟩⟩⟩⟩⟩⟩⟩⟩⟩⟩⟩⟩⟩⟩⟩⟩⟩⟩
  · trivial
  · intro h1
    try simp only [nt] at h1
    trivial
  · intro h2
    try simp only [nf] at h2
    refine ⟨?_, ?_⟩
    · omega
    omega
  · intro h3
    try simp only [V.bor, nt, dt] at h3
    trivial
  · intro h4
    try simp only [V.bor_f, nf, df] at h4
    trivial
  · omega
  · omega
  · omega
  · omega
  · omega
  · simp only [List.replicate_zero, List.nil_append, List.append_nil, S.restOf_len, S.lenI, ln, List.length_append] at *; omega
  · simp only [List.replicate_zero, List.nil_append, List.append_nil, S.restOf_len, S.lenI, ln, List.length_append] at *; omega
  · omega
  · simp only [List.replicate_zero, List.nil_append, List.append_nil, S.restOf_len, S.lenI, ln, List.length_append] at *; omega
  · omega
  · omega
  · rfl
  · rfl
  · rfl
  · rfl
  · rfl
  · rfl
  · rfl
  · rfl
  · rfl
  simp only [List.replicate_zero, List.nil_append, List.append_nil, S.restOf_len, S.lenI, ln, List.length_append] at *; omega
theorem H_a12 (s1 : Int) (s2 : Int) (s3 : Int) (s4 : Int) (s5 : Int) (s6 : Int) (s7 : Int) (s8 : Int) (s9 : List UInt8) (s10 : Int) (hp : S.endPre (s1, s2, s3, s4, s5, s6, s7, s8) s9 s10) (hf : Vg.Row.ok (Vg.PS.flat [.agg [.int .u32, .int .u32, .int .u32, .int .u32, .int .u32, .int .u32, .int .u32, .int .u32, .slice [.int .u8], .int .i64]]) (s1, s2, s3, s4, s5, s6, s7, s8, s9, s10)) : V_a12 s1 s2 s3 s4 s5 s6 s7 s8 s9 s10 := by
  unfold V_a12
  have hr_s1 : 0 ≤ s1 ∧ s1 ≤ 4294967295 := hf.1
  have hr_s2 : 0 ≤ s2 ∧ s2 ≤ 4294967295 := hf.2.1
  have hr_s3 : 0 ≤ s3 ∧ s3 ≤ 4294967295 := hf.2.2.1
  have hr_s4 : 0 ≤ s4 ∧ s4 ≤ 4294967295 := hf.2.2.2.1
  have hr_s5 : 0 ≤ s5 ∧ s5 ≤ 4294967295 := hf.2.2.2.2.1
  have hr_s6 : 0 ≤ s6 ∧ s6 ≤ 4294967295 := hf.2.2.2.2.2.1
  have hr_s7 : 0 ≤ s7 ∧ s7 ≤ 4294967295 := hf.2.2.2.2.2.2.1
  have hr_s8 : 0 ≤ s8 ∧ s8 ≤ 4294967295 := hf.2.2.2.2.2.2.2.1
  have hr_s9 : s9.length ≤ 9223372036854775807 := hf.2.2.2.2.2.2.2.2.1.1
  have hr_s10 : -9223372036854775808 ≤ s10 ∧ s10 ≤ 9223372036854775807 := hf.2.2.2.2.2.2.2.2.2.1
  clear hf
  have hv := S.valid_of hp
  obtain ⟨hok, h01, h02, h03⟩ := hp
  simp only [hv, Bool.not_true, cond_false]
  refine ⟨?_, ⟨⟨?_, ?_⟩, ⟨?_, ⟨?_, ⟨?_, ?_⟩⟩⟩⟩⟩
  · trivial
  · intro h1
    try simp only [nt] at h1
    trivial
  · intro h2
    try simp only [nf] at h2
    trivial
  · omega
  · simp only [S.tailZ_len, S.tailL_len, S.tailInv, S.padZ, S.leN, S.meas, S.len, lc, ln] at *; omega
  · refine ⟨0, ?_⟩
    try dsimp only
    refine ⟨?_, ?_⟩
    · exact S.tailZ_0 _
    simp only [S.tailZ_len, S.tailL_len, S.tailInv, S.padZ, S.leN, S.meas, S.len, lc, ln] at *; omega
  intro x3
  intro h4
  refine ⟨?_, ⟨?_, ⟨?_, ?_⟩⟩⟩
  · omega
  · omega
  · intro h5
    try simp only [nt, df] at h5
    refine ⟨?_, ?_⟩
    · simp only [S.tailZ_len, S.tailL_len, S.tailInv, S.padZ, S.leN, S.meas, S.len, lc, ln] at *; omega
    refine ⟨(x3 + 1), ?_⟩
    try dsimp only
    refine ⟨?_, ⟨?_, ?_⟩⟩
    · exact S.tailZ_succ _ _
    · exact S.padZ_more h4 h5
    simp only [S.tailZ_len, S.tailL_len, S.tailInv, S.padZ, S.leN, S.meas, S.len, lc, ln] at *; omega
  intro h6
  try simp only [nf, dt] at h6
  refine ⟨?_, ?_⟩
  · refine ⟨(nat_lit 0 : Nat), ?_⟩
    try dsimp only
    refine ⟨⟨?_, ?_⟩, ?_⟩
    · omega
    · rw [S.tailL_0, ← S.padZ_end h4 h6]
    simp only [S.tailZ_len, S.tailL_len, S.tailInv, S.padZ, S.leN, S.meas, S.len, lc, ln] at *; omega
  intro x7
  intro h8
  refine ⟨?_, ?_⟩
  · intro h9
    try simp only [dt] at h9
    refine ⟨⟨?_, ?_⟩, ⟨⟨?_, ?_⟩, ⟨⟨?_, ?_⟩, ⟨?_, ⟨⟨?_, ?_⟩, ?_⟩⟩⟩⟩⟩
    · omega
    · omega
    · omega
    · omega
    · omega
    · omega
    · simp only [S.tailZ_len, S.tailL_len, S.tailInv, S.padZ, S.leN, S.meas, S.len, lc, ln] at *; omega
    · omega
    · omega
    refine ⟨(x7 + nat_lit 1), ?_⟩
    try dsimp only
    refine ⟨⟨?_, ?_⟩, ⟨?_, ?_⟩⟩
    · omega
    · exact S.tailL_succ s9 s10 x7 h01 h02 (by omega)
    · simp only [S.tailZ_len, S.tailL_len, S.tailInv, S.padZ, S.leN, S.meas, S.len, lc, ln] at *; omega
    simp only [S.tailZ_len, S.tailL_len, S.tailInv, S.padZ, S.leN, S.meas, S.len, lc, ln] at *; omega
  intro h10
  try simp only [df] at h10
  refine ⟨?_, ⟨⟨?_, ⟨?_, ?_⟩⟩, ⟨?_, ?_⟩⟩⟩
  · omega
  · omega
  · omega
  · omega
  · refine ⟨(nat_lit 0 : Nat), ?_⟩
    try dsimp only
    refine ⟨⟨?_, ?_⟩, ?_⟩
    · omega
    · rfl
    simp only [S.tailZ_len, S.tailL_len, S.tailInv, S.padZ, S.leN, S.meas, S.len, lc, ln] at *; omega
  intro x11
  intro h12
  refine ⟨?_, ?_⟩
  · intro h13
    try simp only [dt] at h13
    refine ⟨⟨?_, ?_⟩, ⟨⟨?_, ?_⟩, ⟨⟨?_, ?_⟩, ⟨⟨?_, ?_⟩, ⟨?_, ⟨⟨?_, ?_⟩, ?_⟩⟩⟩⟩⟩⟩
    · omega
    · omega
    · omega
    · omega
    · omega
    · omega
    · omega
    · omega
    · rw [S.digN_len _ _ (by simp only [S.leN] at *; omega)]; simp; omega
    · omega
    · omega
    refine ⟨(x11 + nat_lit 1), ?_⟩
    try dsimp only
    refine ⟨⟨?_, ?_⟩, ⟨?_, ?_⟩⟩
    · omega
    · rw [show x7 = 8 by (simp only [S.leN] at *; omega)]
      exact S.digN_V _ x11 (by omega)
    · simp only [S.tailZ_len, S.tailL_len, S.tailInv, S.padZ, S.leN, S.meas, S.len, lc, ln] at *; omega
    simp only [S.tailZ_len, S.tailL_len, S.tailInv, S.padZ, S.leN, S.meas, S.len, lc, ln] at *; omega
  intro h14
  try simp only [df] at h14
  rw [show x11 = 8 by (simp only [S.leN] at *; omega)]
  rfl
theorem H_a13 (b : List UInt8) (hp : S.small b) (hf : Vg.Row.ok (Vg.PS.flat [.one (.slice [.int .u8])]) b) : V_a13 b := by
  unfold V_a13
  have hr_b : b.length ≤ 9223372036854775807 := hf.1.1
  clear hf
  refine ⟨?_, ⟨?_, ⟨?_, ?_⟩⟩⟩
  · trivial
  · exact ⟨S.ok_H0, rfl, rfl, hp⟩
  · simp only [S.small] at hp
    exact ⟨S.proc_ok _ _ S.ok_H0 _, by simp only [S.lenI]; omega, by simp only [S.lenI]; omega, by rw [S.restOf_len]; simp [S.lenI]⟩
  exact congrArg S.dig (S.proc_tail b _)
theorem H_a18 (b : List UInt8) (hp : b.length ≤ 140737488355328) (hf : Vg.Row.ok (Vg.PS.flat [.one (.slice [.int .u8])]) b) : V_a18 b := by
  unfold V_a18
  have hr_b : b.length ≤ 9223372036854775807 := hf.1.1
  clear hf
  refine ⟨?_, ?_⟩
  · omega
  rfl
theorem H_a19 (v : Int) (l : List UInt8) (hp : S.putPre l v) (hf : Vg.Row.ok (Vg.TA.tyss [.own 50000, .dat (.int .i64)]) v) (hg : Vg.BsD.ok [.row 5 [.int .u8]] (l, ())) : V_a19 v l := by
  unfold V_a19
  have hr_v : -9223372036854775808 ≤ v ∧ v ≤ 9223372036854775807 := hf.1
  have hr_l : l.length ≤ 9223372036854775807 := hg.1.1
  clear hf hg
  obtain ⟨hp1, hp2⟩ := hp
  refine ⟨?_, ?_⟩
  · refine ⟨((l), (v)), ?_⟩
    try dsimp only
    refine ⟨⟨?_, ?_⟩, ?_⟩
    · omega
    · rfl
    exact ⟨hp1, Int.le_refl _, rfl⟩
  intro x1
  intro h2
  refine ⟨?_, ?_⟩
  · intro h3
    try simp only [dt] at h3
    refine ⟨?_, ⟨?_, ⟨?_, ⟨⟨?_, ?_⟩, ?_⟩⟩⟩⟩
    · omega
    · omega
    · (have hl := S.put_len h2; have hu := S.put_le h2; simp; omega)
    · omega
    · omega
    refine ⟨((Prod.fst x1 ++ [UInt8.ofNat (Int.toNat (Vg.natOr (Vg.natAnd (Prod.snd x1) (127 : Int) % (256 : Int)) (128 : Int)))]), (Prod.snd x1 / (2 : Int) ^ Int.toNat (7 : Int))), ?_⟩
    try dsimp only
    refine ⟨⟨?_, ?_⟩, ⟨?_, ?_⟩⟩
    · omega
    · rfl
    · (have hl := S.put_len h2; have hu := S.put_le h2; exact S.put_step h2 h3 (by omega))
    (have hl := S.put_len h2; have hu := S.put_le h2; simp; omega)
  intro h4
  try simp only [df] at h4
  refine ⟨?_, ?_⟩
  · (have hl := S.put_len h2; have hu := S.put_le h2; simp; omega)
  (have hl := S.put_len h2; have hu := S.put_le h2; exact S.put_fin h2 h4)
theorem H_a20 (s : List UInt8) (l : List UInt8) (hp : S.textPre l s) (hf : Vg.Row.ok (Vg.TA.tyss [.own 50000, .dat (.str)]) s) (hg : Vg.BsD.ok [.row 5 [.int .u8]] (l, ())) : V_a20 s l := by
  unfold V_a20
  have hr_s : s.length ≤ 9223372036854775807 := hf.1
  have hr_l : l.length ≤ 9223372036854775807 := hg.1.1
  clear hf hg
  obtain ⟨hp1, hp2⟩ := hp
  have := S.num_len s.length
  refine ⟨?_, ⟨?_, ?_⟩⟩
  · simp only [S.putPre]; omega
  · simp only [List.length_append]; omega
  simp [S.text]
theorem H_a21 (b : List UInt8) (v : Int) (hp : b.length ≤ 35184372088832) (hf : Vg.Row.ok (Vg.PS.flat [.one (.slice [.int .u8]), .one (.int .i64)]) (b, v)) : V_a21 b v := by
  unfold V_a21
  have hr_b : b.length ≤ 9223372036854775807 := hf.1.1
  have hr_v : -9223372036854775808 ≤ v ∧ v ≤ 9223372036854775807 := hf.2.1
  clear hf
  refine ⟨?_, ?_⟩
  · intro h1
    try simp only [V.bor, dt] at h1
    refine ⟨?_, ?_⟩
    · grind [S.numB, S.numE, S.numBad]
    grind [S.numB, S.numE, S.numBad]
  intro h2
  try simp only [V.bor_f, df] at h2
  refine ⟨?_, ⟨?_, ⟨?_, ?_⟩⟩⟩
  · omega
  · exact ⟨by omega, by omega⟩
  · grind [S.numB, S.numE, S.numBad]
  grind [S.numB, S.numE, S.numBad]
theorem H_a22 (b : List UInt8) (s : List UInt8) (hp : S.textPre b s) (hf : Vg.Row.ok (Vg.PS.flat [.one (.slice [.int .u8]), .one (.str)]) (b, s)) : V_a22 b s := by
  unfold V_a22
  have hr_b : b.length ≤ 9223372036854775807 := hf.1.1
  have hr_s : s.length ≤ 9223372036854775807 := hf.2.1
  clear hf
  refine ⟨?_, ⟨?_, ?_⟩⟩
  · simp only [S.textPre] at *; omega
  · omega
  rfl
theorem H_a23 (r1 : List UInt8) (r2 : Int) (r3 : Int) (hp : True) (hf : Vg.Row.ok (Vg.PS.flat [.agg [.slice [.int .u8], .int .i64, .int .i64]]) (r1, r2, r3)) : V_a23 r1 r2 r3 := by
  unfold V_a23
  have hr_r1 : r1.length ≤ 9223372036854775807 := hf.1.1
  have hr_r2 : -9223372036854775808 ≤ r2 ∧ r2 ≤ 9223372036854775807 := hf.2.1
  have hr_r3 : -9223372036854775808 ≤ r3 ∧ r3 ≤ 9223372036854775807 := hf.2.2.1
  clear hf
  simp only [S.inside]; cases decide (0 ≤ r2) <;> rfl
theorem H_a24 (r1 : List UInt8) (r2 : Int) (r3 : Int) (hp : r1.length ≤ 140737488355328) (hf : Vg.Row.ok (Vg.PS.flat [.agg [.slice [.int .u8], .int .i64, .int .i64]]) (r1, r2, r3)) : V_a24 r1 r2 r3 := by
  unfold V_a24
  have hr_r1 : r1.length ≤ 9223372036854775807 := hf.1.1
  have hr_r2 : -9223372036854775808 ≤ r2 ∧ r2 ≤ 9223372036854775807 := hf.2.1
  have hr_r3 : -9223372036854775808 ≤ r3 ∧ r3 ≤ 9223372036854775807 := hf.2.2.1
  clear hf
  refine ⟨?_, ⟨⟨?_, ?_⟩, ⟨?_, ⟨?_, ?_⟩⟩⟩⟩
  · omega
  · intro h1
    try simp only [dt] at h1
    trivial
  · intro h2
    try simp only [df] at h2
    trivial
  · rfl
  · cases decide (r3 = 0) <;> cases S.inside r1 r2 <;> rfl
  simp only [S.startE]; by_cases h : r3 = 0 <;> cases S.inside r1 r2 <;> simp [h]
theorem H_a25 (b : List UInt8) (p : Int) (hp : S.atPre b p) (hf : Vg.Row.ok (Vg.PS.flat [.one (.slice [.int .u8]), .one (.int .i64)]) (b, p)) : V_a25 b p := by
  unfold V_a25
  have hr_b : b.length ≤ 9223372036854775807 := hf.1.1
  have hr_p : -9223372036854775808 ≤ p ∧ p ≤ 9223372036854775807 := hf.2.1
  clear hf
  have hp' := hp
  simp only [S.atPre] at hp'
  refine ⟨?_, ?_⟩
  · refine ⟨(nat_lit 0 : Nat), ?_⟩
    try dsimp only
    refine ⟨⟨?_, ?_⟩, ?_⟩
    · exact (S.val0 b p).symm
    · omega
    exact S.get0 hp
  intro x1
  intro h2
  refine ⟨?_, ?_⟩
  · intro h3
    try simp only [dt] at h3
    refine ⟨?_, ⟨?_, ?_⟩⟩
    · grind [S.get_9, S.get_end]
    · grind [S.get_9, S.get_end]
    grind [S.get_9, S.get_end]
  intro h4
  try simp only [df] at h4
  refine ⟨⟨?_, ?_⟩, ⟨?_, ?_⟩⟩
  · omega
  · omega
  · intro h5
    try simp only [dt] at h5
    refine ⟨?_, ⟨?_, ?_⟩⟩
    · grind [S.get_9, S.get_end]
    · grind [S.get_9, S.get_end]
    grind [S.get_9, S.get_end]
  intro h6
  try simp only [df] at h6
  refine ⟨⟨?_, ?_⟩, ⟨⟨?_, ?_⟩, ⟨⟨?_, ?_⟩, ⟨⟨?_, ?_⟩, ⟨⟨?_, ?_⟩, ⟨?_, ⟨?_, ⟨⟨?_, ?_⟩, ⟨?_, ?_⟩⟩⟩⟩⟩⟩⟩⟩⟩
  · omega
  · (have hg := S.get_bd h2; omega)
  · omega
  · (have hg := S.get_bd h2; omega)
  · omega
  · (have hg := S.get_bd h2; omega)
  · omega
  · (have hg := S.get_bd h2; omega)
  · have hg := S.get_bd h2
    have hn := S.natAnd_127 ((b.getD (p + (x1 : Int)).toNat 0).toNat : Int) (by omega)
    have hs := S.shl_bd (Vg.natAnd ((b.getD (p + (x1 : Int)).toNat 0).toNat : Int) 127) x1 (by omega) (by omega) (by omega)
    try clear h8
    try clear h9
    clear hn
    generalize Vg.natAnd ((b.getD (p + (x1 : Int)).toNat 0).toNat : Int) 127 * 2 ^ (7 * (x1 : Int)).toNat = z at *
    omega
  · have hg := S.get_bd h2
    have hn := S.natAnd_127 ((b.getD (p + (x1 : Int)).toNat 0).toNat : Int) (by omega)
    have hs := S.shl_bd (Vg.natAnd ((b.getD (p + (x1 : Int)).toNat 0).toNat : Int) 127) x1 (by omega) (by omega) (by omega)
    try clear h8
    try clear h9
    clear hn
    generalize Vg.natAnd ((b.getD (p + (x1 : Int)).toNat 0).toNat : Int) 127 * 2 ^ (7 * (x1 : Int)).toNat = z at *
    omega
  · (have hg := S.get_bd h2; have hv := S.val_bd (b := b) (p := p) hg.1; have hw := S.val_bd (b := b) (p := p) (x := x1 + 1) (by omega); have hn := S.natAnd_127 ((b.getD (p + (x1 : Int)).toNat 0).toNat : Int) (by omega); have hs := S.shl_bd (Vg.natAnd ((b.getD (p + (x1 : Int)).toNat 0).toNat : Int) 127) x1 (by omega) (by omega) (by omega); exact hv.1)
  · (have hg := S.get_bd h2; have hv := S.val_bd (b := b) (p := p) hg.1; have hw := S.val_bd (b := b) (p := p) (x := x1 + 1) (by omega); have hn := S.natAnd_127 ((b.getD (p + (x1 : Int)).toNat 0).toNat : Int) (by omega); have hs := S.shl_bd (Vg.natAnd ((b.getD (p + (x1 : Int)).toNat 0).toNat : Int) 127) x1 (by omega) (by omega) (by omega); exact hs.1)
  · omega
  · (have hg := S.get_bd h2; omega)
  · intro h7
    try simp only [dt] at h7
    refine ⟨⟨?_, ?_⟩, ⟨?_, ?_⟩⟩
    · intro h8
      try simp only [dt] at h8
      refine ⟨⟨?_, ?_⟩, ⟨⟨?_, ?_⟩, ⟨?_, ?_⟩⟩⟩
      · omega
      · have hg := S.get_bd h2
        have hn := S.natAnd_127 ((b.getD (p + (x1 : Int)).toNat 0).toNat : Int) (by omega)
        have hs := S.shl_bd (Vg.natAnd ((b.getD (p + (x1 : Int)).toNat 0).toNat : Int) 127) x1 (by omega) (by omega) (by omega)
        try clear h8
        try clear h9
        clear hn
        generalize Vg.natAnd ((b.getD (p + (x1 : Int)).toNat 0).toNat : Int) 127 * 2 ^ (7 * (x1 : Int)).toNat = z at *
        omega
      · omega
      · have hg := S.get_bd h2
        have hn := S.natAnd_127 ((b.getD (p + (x1 : Int)).toNat 0).toNat : Int) (by omega)
        have hs := S.shl_bd (Vg.natAnd ((b.getD (p + (x1 : Int)).toNat 0).toNat : Int) 127) x1 (by omega) (by omega) (by omega)
        try clear h8
        try clear h9
        clear hn
        generalize Vg.natAnd ((b.getD (p + (x1 : Int)).toNat 0).toNat : Int) 127 * 2 ^ (7 * (x1 : Int)).toNat = z at *
        omega
      · omega
      have hg := S.get_bd h2
      have hn := S.natAnd_127 ((b.getD (p + (x1 : Int)).toNat 0).toNat : Int) (by omega)
      have hs := S.shl_bd (Vg.natAnd ((b.getD (p + (x1 : Int)).toNat 0).toNat : Int) 127) x1 (by omega) (by omega) (by omega)
      try clear h8
      try clear h9
      clear hn
      generalize Vg.natAnd ((b.getD (p + (x1 : Int)).toNat 0).toNat : Int) 127 * 2 ^ (7 * (x1 : Int)).toNat = z at *
      omega
    · intro h9
      try simp only [df] at h9
      trivial
    · intro h10
      refine ⟨?_, ⟨?_, ?_⟩⟩
      · exact (S.getLeaf1 hp h2 (by have hg := S.get_bd h2; omega) (by omega) (by omega) h10).1
      · exact (S.getLeaf1 hp h2 (by have hg := S.get_bd h2; omega) (by omega) (by omega) h10).2.1
      exact (S.getLeaf1 hp h2 (by have hg := S.get_bd h2; omega) (by omega) (by omega) h10).2.2
    intro h11
    refine ⟨⟨?_, ?_⟩, ⟨?_, ⟨?_, ?_⟩⟩⟩
    · omega
    · clear h11
      have hg := S.get_bd h2
      omega
    · exact (S.getLeaf2 hp h2 (by have hg := S.get_bd h2; omega) (by omega) (by omega) h11).1
    · exact (S.getLeaf2 hp h2 (by have hg := S.get_bd h2; omega) (by omega) (by omega) h11).2.1
    exact (S.getLeaf2 hp h2 (by have hg := S.get_bd h2; omega) (by omega) (by omega) h11).2.2
  intro h12
  try simp only [df] at h12
  refine ⟨(x1 + nat_lit 1), ?_⟩
  try dsimp only
  refine ⟨⟨?_, ?_⟩, ⟨?_, ?_⟩⟩
  · (have hg := S.get_bd h2; have hv := S.val_bd (b := b) (p := p) hg.1; have hw := S.val_bd (b := b) (p := p) (x := x1 + 1) (by omega); have hn := S.natAnd_127 ((b.getD (p + (x1 : Int)).toNat 0).toNat : Int) (by omega); have hs := S.shl_bd (Vg.natAnd ((b.getD (p + (x1 : Int)).toNat 0).toNat : Int) 127) x1 (by omega) (by omega) (by omega); exact S.val_or hp h2 (by omega))
  · omega
  · (have hg := S.get_bd h2; exact S.get_step hp h2 (by omega) (by omega) (by omega))
  (have hg := S.get_bd h2; simp only [S.meas]; omega)
theorem H_a26 (b : List UInt8) (p : Int) (most : Int) (hp : S.atPre b p) (hf : Vg.Row.ok (Vg.PS.flat [.one (.slice [.int .u8]), .one (.int .i64), .one (.int .i64)]) (b, p, most)) : V_a26 b p most := by
  unfold V_a26
  have hr_b : b.length ≤ 9223372036854775807 := hf.1.1
  have hr_p : -9223372036854775808 ≤ p ∧ p ≤ 9223372036854775807 := hf.2.1
  have hr_most : -9223372036854775808 ≤ most ∧ most ≤ 9223372036854775807 := hf.2.2.1
  clear hf
  have hb := S.getNum_bd hp
  refine ⟨?_, ⟨?_, ?_⟩⟩
  · omega
  · intro h1
    try simp only [nt, df] at h1
    refine ⟨?_, ⟨?_, ?_⟩⟩
    · grind [S.getText]
    · grind [S.getText]
    grind [S.getText]
  intro h2
  try simp only [nf, dt] at h2
  refine ⟨?_, ?_⟩
  · intro h3
    try simp only [dt] at h3
    refine ⟨?_, ⟨?_, ?_⟩⟩
    · grind [S.getText]
    · grind [S.getText]
    grind [S.getText]
  intro h4
  try simp only [df] at h4
  refine ⟨⟨?_, ?_⟩, ⟨?_, ?_⟩⟩
  · omega
  · omega
  · intro h5
    try simp only [dt] at h5
    refine ⟨?_, ⟨?_, ?_⟩⟩
    · grind [S.getText]
    · grind [S.getText]
    grind [S.getText]
  intro h6
  try simp only [df] at h6
  refine ⟨⟨?_, ?_⟩, ⟨⟨?_, ⟨?_, ?_⟩⟩, ⟨⟨?_, ?_⟩, ⟨?_, ⟨?_, ?_⟩⟩⟩⟩⟩
  · omega
  · omega
  · omega
  · omega
  · omega
  · omega
  · omega
  · grind [S.getText]
  · grind [S.getText]
  grind [S.getText]
theorem H_a27 (r1 : List UInt8) (r2 : Int) (r3 : Int) (most : Int) (hp : r1.length ≤ 140737488355328) (hf : Vg.Row.ok (Vg.PS.flat [.agg [.slice [.int .u8], .int .i64, .int .i64], .one (.int .i64)]) (r1, r2, r3, most)) : V_a27 r1 r2 r3 most := by
  unfold V_a27
  have hr_r1 : r1.length ≤ 9223372036854775807 := hf.1.1
  have hr_r2 : -9223372036854775808 ≤ r2 ∧ r2 ≤ 9223372036854775807 := hf.2.1
  have hr_r3 : -9223372036854775808 ≤ r3 ∧ r3 ≤ 9223372036854775807 := hf.2.2.1
  have hr_most : -9223372036854775808 ≤ most ∧ most ≤ 9223372036854775807 := hf.2.2.2.1
  clear hf
  refine ⟨?_, ⟨?_, ?_⟩⟩
  · omega
  · intro h1
    try simp only [nt, df] at h1
    refine ⟨?_, ⟨?_, ⟨?_, ?_⟩⟩⟩
    · grind [S.readText, S.atPre, S.startE, S.inside]
    · grind [S.readText, S.atPre, S.startE, S.inside]
    · grind [S.readText, S.atPre, S.startE, S.inside]
    grind [S.readText, S.atPre, S.startE, S.inside]
  intro h2
  try simp only [nf, dt] at h2
  refine ⟨?_, ⟨?_, ?_⟩⟩
  · grind [S.readText, S.atPre, S.startE, S.inside]
  · intro h3
    try simp only [nt, df] at h3
    refine ⟨?_, ⟨?_, ⟨?_, ?_⟩⟩⟩
    · grind [S.readText, S.atPre, S.startE, S.inside]
    · grind [S.readText, S.atPre, S.startE, S.inside]
    · grind [S.readText, S.atPre, S.startE, S.inside]
    grind [S.readText, S.atPre, S.startE, S.inside]
  intro h4
  try simp only [nf, dt] at h4
  refine ⟨?_, ⟨?_, ⟨?_, ?_⟩⟩⟩
  · grind [S.readText, S.atPre, S.startE, S.inside]
  · grind [S.readText, S.atPre, S.startE, S.inside]
  · grind [S.readText, S.atPre, S.startE, S.inside]
  grind [S.readText, S.atPre, S.startE, S.inside]
theorem H_a28 (r1 : List UInt8) (r2 : Int) (r3 : Int) (hp : r1.length ≤ 140737488355328) (hf : Vg.Row.ok (Vg.PS.flat [.agg [.slice [.int .u8], .int .i64, .int .i64]]) (r1, r2, r3)) : V_a28 r1 r2 r3 := by
  unfold V_a28
  have hr_r1 : r1.length ≤ 9223372036854775807 := hf.1.1
  have hr_r2 : -9223372036854775808 ≤ r2 ∧ r2 ≤ 9223372036854775807 := hf.2.1
  have hr_r3 : -9223372036854775808 ≤ r3 ∧ r3 ≤ 9223372036854775807 := hf.2.2.1
  clear hf
  refine ⟨?_, ⟨?_, ?_⟩⟩
  · omega
  · intro h1
    try simp only [nt, df] at h1
    refine ⟨?_, ⟨?_, ⟨?_, ?_⟩⟩⟩
    · grind [S.readDigest, S.atPre, S.startE, S.inside]
    · grind [S.readDigest, S.atPre, S.startE, S.inside]
    · grind [S.readDigest, S.atPre, S.startE, S.inside]
    grind [S.readDigest, S.atPre, S.startE, S.inside]
  intro h2
  try simp only [nf, dt] at h2
  refine ⟨⟨?_, ?_⟩, ⟨?_, ?_⟩⟩
  · omega
  · grind [S.readDigest, S.atPre, S.startE, S.inside]
  · intro h3
    try simp only [dt] at h3
    refine ⟨?_, ⟨?_, ⟨?_, ?_⟩⟩⟩
    · grind [S.readDigest, S.atPre, S.startE, S.inside]
    · grind [S.readDigest, S.atPre, S.startE, S.inside]
    · grind [S.readDigest, S.atPre, S.startE, S.inside]
    grind [S.readDigest, S.atPre, S.startE, S.inside]
  intro h4
  try simp only [df] at h4
  refine ⟨⟨?_, ?_⟩, ⟨⟨?_, ⟨?_, ?_⟩⟩, ⟨⟨?_, ?_⟩, ⟨?_, ⟨?_, ⟨?_, ?_⟩⟩⟩⟩⟩⟩
  · omega
  · omega
  · grind [S.readDigest, S.atPre, S.startE, S.inside]
  · omega
  · omega
  · omega
  · omega
  · grind [S.readDigest, S.atPre, S.startE, S.inside]
  · grind [S.readDigest, S.atPre, S.startE, S.inside]
  · grind [S.readDigest, S.atPre, S.startE, S.inside]
  have h0 := S.startE_0 h2
  simp only [S.readDigest, List.drop_take, show (r2 + 32).toNat - r2.toNat = 32 by omega]
  (repeat' split) <;> first | rfl | omega | contradiction
theorem H_a29 (r1 : List UInt8) (r2 : Int) (r3 : Int) (hp : True) (hf : Vg.Row.ok (Vg.PS.flat [.agg [.slice [.int .u8], .int .i64, .int .i64]]) (r1, r2, r3)) : V_a29 r1 r2 r3 := by
  unfold V_a29
  have hr_r1 : r1.length ≤ 9223372036854775807 := hf.1.1
  have hr_r2 : -9223372036854775808 ≤ r2 ∧ r2 ≤ 9223372036854775807 := hf.2.1
  have hr_r3 : -9223372036854775808 ≤ r3 ∧ r3 ≤ 9223372036854775807 := hf.2.2.1
  clear hf
  refine ⟨?_, ?_⟩
  · intro h1
    try simp only [nt, df] at h1
    grind [S.done]
  intro h2
  try simp only [nf, dt] at h2
  refine ⟨?_, ⟨?_, ?_⟩⟩
  · trivial
  · intro h3
    try simp only [nt] at h3
    grind [S.done]
  intro h4
  try simp only [nf] at h4
  refine ⟨?_, ?_⟩
  · intro h5
    try simp only [dt] at h5
    grind [S.done]
  intro h6
  try simp only [df] at h6
  grind [S.done]
theorem H_a34 (kind : UInt8) (parts : List (List UInt8)) (hp : S.joinPre parts) (hf : Vg.Row.ok (Vg.PS.flat [.one (.int .u8), .one (.slice [.slice [.int .u8]])]) (kind, parts)) : V_a34 kind parts := by
  unfold V_a34
  have hr_parts : parts.length ≤ 9223372036854775807 := hf.2.1.1
  clear hf
  refine ⟨?_, ?_⟩
  · refine ⟨(nat_lit 0 : Nat), ?_⟩
    try dsimp only
    refine ⟨⟨?_, ?_⟩, ?_⟩
    · omega
    · exact S.joinAt_0 _ _
    simp only [S.minv, S.meas, S.len] at *; omega
  intro x1
  intro h2
  refine ⟨?_, ?_⟩
  · intro h3
    try simp only [dt] at h3
    refine ⟨⟨?_, ?_⟩, ⟨?_, ⟨⟨?_, ?_⟩, ?_⟩⟩⟩
    · omega
    · omega
    · exact S.join_len' kind hp (by omega)
    · omega
    · omega
    refine ⟨(x1 + nat_lit 1), ?_⟩
    try dsimp only
    refine ⟨⟨?_, ?_⟩, ⟨?_, ?_⟩⟩
    · omega
    · exact S.joinAt_succ _ _ _ (by omega)
    · simp only [S.minv, S.meas, S.len] at *; omega
    simp only [S.minv, S.meas, S.len] at *; omega
  intro h4
  try simp only [df] at h4
  exact S.joinAt_end _ _ _ (by omega)
theorem H_a37 (b : List UInt8) (hp : S.sealPre b) (hf : Vg.Row.ok (Vg.PS.flat [.one (.slice [.int .u8])]) b) : V_a37 b := by
  unfold V_a37
  have hr_b : b.length ≤ 9223372036854775807 := hf.1.1
  clear hf
  refine ⟨?_, ?_⟩
  · simp only [S.joinPre, S.sealPre] at *; simp; omega
  simp [S.sealJoin, S.sealB]
theorem H_a40 (b : List UInt8) (hp : S.sealPre b) (hf : Vg.Row.ok (Vg.PS.flat [.one (.slice [.int .u8])]) b) : V_a40 b := by
  unfold V_a40
  have hr_b : b.length ≤ 9223372036854775807 := hf.1.1
  clear hf
  refine ⟨?_, ⟨?_, ?_⟩⟩
  · exact hp
  · exact hp
  rfl
theorem H_a41 (c : Int) (hp : True) (hf : Vg.Row.ok (Vg.PS.flat [.one (.int .i64)]) c) : V_a41 c := by
  unfold V_a41
  have hr_c : -9223372036854775808 ≤ c ∧ c ≤ 9223372036854775807 := hf.1
  clear hf
  simp only [S.uRight]; grind
theorem H_a42 (c : Int) (hp : True) (hf : Vg.Row.ok (Vg.PS.flat [.one (.int .i64)]) c) : V_a42 c := by
  unfold V_a42
  have hr_c : -9223372036854775808 ≤ c ∧ c ≤ 9223372036854775807 := hf.1
  clear hf
  refine ⟨?_, ?_⟩
  · intro h1
    try simp only [dt] at h1
    grind [S.uSize]
  intro h2
  try simp only [df] at h2
  refine ⟨?_, ?_⟩
  · intro h3
    try simp only [dt] at h3
    grind [S.uSize]
  intro h4
  try simp only [df] at h4
  refine ⟨?_, ?_⟩
  · intro h5
    try simp only [dt] at h5
    grind [S.uSize]
  intro h6
  try simp only [df] at h6
  grind [S.uSize]
theorem H_a43 (c : Int) (hp : 0 ≤ c) (hf : Vg.Row.ok (Vg.PS.flat [.one (.int .i64)]) c) : V_a43 c := by
  unfold V_a43
  have hr_c : -9223372036854775808 ≤ c ∧ c ≤ 9223372036854775807 := hf.1
  clear hf
  have e : Vg.natAnd c 63 % 256 = c % 64 := by rw [S.natAnd_63 _ hp]; omega
  refine ⟨?_, ⟨?_, ?_⟩⟩
  · omega
  · omega
  rw [e, S.natOr_comm]
  exact S.more_V c
theorem H_a44 (c : Int) (hp : True) (hf : Vg.Row.ok (Vg.PS.flat [.one (.int .i64)]) c) : V_a44 c := by
  unfold V_a44
  have hr_c : -9223372036854775808 ≤ c ∧ c ≤ 9223372036854775807 := hf.1
  clear hf
  refine ⟨?_, ⟨?_, ?_⟩⟩
  · trivial
  · intro h1
    try simp only [nt] at h1
    refine ⟨?_, ?_⟩
    · simp only [S.encE, nt] at *
      grind
    simp only [S.encR, nt] at *
    grind
  intro h2
  try simp only [nf] at h2
  refine ⟨?_, ⟨?_, ?_⟩⟩
  · trivial
  · intro h3
    try simp only [dt] at h3
    refine ⟨?_, ?_⟩
    · (have hc := S.uRight_bd h2; simp only [S.encE, h2]; rfl)
    (have hc := S.uRight_bd h2; (simp only [S.encR, h2, if_true]; exact S.enc_V1 c hc.1 (by simp only [S.uSize] at *; grind)))
  intro h4
  try simp only [df] at h4
  refine ⟨?_, ?_⟩
  · intro h5
    try simp only [dt] at h5
    refine ⟨⟨?_, ?_⟩, ⟨?_, ⟨?_, ?_⟩⟩⟩
    · omega
    · omega
    · (have hc := S.uRight_bd h2; omega)
    · (have hc := S.uRight_bd h2; simp only [S.encE, h2]; rfl)
    (have hc := S.uRight_bd h2; (simp only [S.encR, h2, if_true]; exact S.enc_V2 c hc.1 (by simp only [S.uSize] at *; grind)))
  intro h6
  try simp only [df] at h6
  refine ⟨?_, ?_⟩
  · intro h7
    try simp only [dt] at h7
    refine ⟨⟨?_, ?_⟩, ⟨⟨?_, ?_⟩, ⟨?_, ⟨?_, ⟨?_, ?_⟩⟩⟩⟩⟩
    · omega
    · omega
    · omega
    · omega
    · (have hc := S.uRight_bd h2; simp only [show Int.toNat 6 = 6 by rfl, show Int.toNat 12 = 12 by rfl, show Int.toNat 18 = 18 by rfl]; omega)
    · (have hc := S.uRight_bd h2; omega)
    · (have hc := S.uRight_bd h2; simp only [S.encE, h2]; rfl)
    (have hc := S.uRight_bd h2; (simp only [S.encR, h2, if_true]; exact S.enc_V3 c hc.1 (by simp only [S.uSize] at *; grind)))
  intro h8
  try simp only [df] at h8
  refine ⟨⟨?_, ?_⟩, ⟨⟨?_, ?_⟩, ⟨?_, ⟨⟨?_, ?_⟩, ⟨?_, ⟨?_, ⟨?_, ?_⟩⟩⟩⟩⟩⟩⟩
  · omega
  · omega
  · omega
  · omega
  · (have hc := S.uRight_bd h2; simp only [show Int.toNat 6 = 6 by rfl, show Int.toNat 12 = 12 by rfl, show Int.toNat 18 = 18 by rfl]; omega)
  · omega
  · omega
  · (have hc := S.uRight_bd h2; simp only [show Int.toNat 6 = 6 by rfl, show Int.toNat 12 = 12 by rfl, show Int.toNat 18 = 18 by rfl]; omega)
  · (have hc := S.uRight_bd h2; omega)
  · (have hc := S.uRight_bd h2; simp only [S.encE, h2]; rfl)
  (have hc := S.uRight_bd h2; (simp only [S.encR, h2, if_true]; exact S.enc_V4 c hc.1 hc.2 (by simp only [S.uSize] at *; grind)))
theorem H_a45 (b : List UInt8) (hp : 0 < b.length) (hf : Vg.Row.ok (Vg.PS.flat [.one (.slice [.int .u8])]) b) : V_a45 b := by
  unfold V_a45
  have hr_b : b.length ≤ 9223372036854775807 := hf.1.1
  clear hf
  have hp' : (0 : Int) < b.length := by omega
  refine ⟨⟨?_, ?_⟩, ⟨?_, ?_⟩⟩
  · omega
  · omega
  · intro h1
    try simp only [dt] at h1
    refine ⟨?_, ?_⟩
    · rw [S.uf1 (b := b) (by with_reducible assumption)]
    rw [S.uf1 (b := b) (by with_reducible assumption)]
  intro h2
  try simp only [df] at h2
  refine ⟨⟨?_, ?_⟩, ⟨?_, ?_⟩⟩
  · omega
  · omega
  · intro h3
    try simp only [dt] at h3
    refine ⟨?_, ⟨?_, ⟨?_, ?_⟩⟩⟩
    · omega
    · omega
    · intro h4
      try simp only [dt] at h4
      refine ⟨?_, ?_⟩
      · (have hn := S.uN_2 (b := b) (by with_reducible assumption) (by with_reducible assumption); rw [S.uf_short hn (by omega) (by omega)])
      (have hn := S.uN_2 (b := b) (by with_reducible assumption) (by with_reducible assumption); rw [S.uf_short hn (by omega) (by omega)])
    intro h5
    try simp only [df] at h5
    refine ⟨⟨?_, ⟨?_, ?_⟩⟩, ⟨?_, ?_⟩⟩
    · omega
    · omega
    · omega
    · refine ⟨(nat_lit 0 : Nat), ?_⟩
      try dsimp only
      refine ⟨⟨?_, ?_⟩, ?_⟩
      · omega
      · (have hn := S.uN_2 (b := b) (by with_reducible assumption) (by with_reducible assumption); exact S.uC_2 (by with_reducible assumption))
      (have hn := S.uN_2 (b := b) (by with_reducible assumption) (by with_reducible assumption); exact S.uinv0 hn (by omega) (by omega))
    intro x6
    intro h7
    refine ⟨?_, ?_⟩
    · intro h8
      try simp only [dt] at h8
      refine ⟨⟨?_, ?_⟩, ⟨⟨?_, ?_⟩, ⟨?_, ?_⟩⟩⟩
      · omega
      · omega
      · omega
      · omega
      · intro h9
        try simp only [nt, df, tn] at h9
        refine ⟨?_, ?_⟩
        · have hn := S.uN_2 (b := b) (by with_reducible assumption) (by with_reducible assumption)
          have hb := S.uinv_bd h7
          have hx : (x6 : Int) + 1 < 2 := by (have hc := S.cut_len b 2 (by omega) (by omega); simp only [hc, show Int.toNat 2 = 2 by rfl] at *; omega)
          simp only [S.cut_get b 2 x6 hx, S.cut_get' b 2 x6 hx] at *
          rw [S.uf_cont hn h7 (by omega) (by with_reducible assumption)]
        have hn := S.uN_2 (b := b) (by with_reducible assumption) (by with_reducible assumption)
        have hb := S.uinv_bd h7
        have hx : (x6 : Int) + 1 < 2 := by (have hc := S.cut_len b 2 (by omega) (by omega); simp only [hc, show Int.toNat 2 = 2 by rfl] at *; omega)
        simp only [S.cut_get b 2 x6 hx, S.cut_get' b 2 x6 hx] at *
        rw [S.uf_cont hn h7 (by omega) (by with_reducible assumption)]
      intro h10
      try simp only [nf, dt, tn] at h10
      refine ⟨⟨?_, ?_⟩, ⟨⟨?_, ?_⟩, ⟨?_, ⟨?_, ⟨⟨?_, ?_⟩, ?_⟩⟩⟩⟩⟩
      · omega
      · omega
      · (have hn := S.uN_2 (b := b) (by with_reducible assumption) (by with_reducible assumption); (have hb := S.uinv_bd h7; (try simp only [S.cut_len b 2 (by omega) (by omega), show Int.toNat 2 = 2 by rfl] at *); simp only [show Int.toNat 6 = 6 by rfl, S.meas] at *; omega))
      · (have hn := S.uN_2 (b := b) (by with_reducible assumption) (by with_reducible assumption); (have hb := S.uinv_bd h7; (try simp only [S.cut_len b 2 (by omega) (by omega), show Int.toNat 2 = 2 by rfl] at *); simp only [show Int.toNat 6 = 6 by rfl, S.meas] at *; omega))
      · (have hn := S.uN_2 (b := b) (by with_reducible assumption) (by with_reducible assumption); (have hb := S.uinv_bd h7; (try simp only [S.cut_len b 2 (by omega) (by omega), show Int.toNat 2 = 2 by rfl] at *); simp only [show Int.toNat 6 = 6 by rfl, S.meas] at *; omega))
      · exact Int.natCast_nonneg _
      · omega
      · (have hn := S.uN_2 (b := b) (by with_reducible assumption) (by with_reducible assumption); (have hb := S.uinv_bd h7; (try simp only [S.cut_len b 2 (by omega) (by omega), show Int.toNat 2 = 2 by rfl] at *); omega))
      refine ⟨(x6 + nat_lit 1), ?_⟩
      try dsimp only
      refine ⟨⟨?_, ?_⟩, ⟨?_, ?_⟩⟩
      · omega
      · have hn := S.uN_2 (b := b) (by with_reducible assumption) (by with_reducible assumption)
        have hb := S.uinv_bd h7
        have hx : (x6 : Int) + 1 < 2 := by (have hc := S.cut_len b 2 (by omega) (by omega); simp only [hc, show Int.toNat 2 = 2 by rfl] at *; omega)
        rw [S.cut_get b 2 x6 hx]
        exact S.u_acc h7 (by omega)
      · have hn := S.uN_2 (b := b) (by with_reducible assumption) (by with_reducible assumption)
        have hb := S.uinv_bd h7
        have hx : (x6 : Int) + 1 < 2 := by (have hc := S.cut_len b 2 (by omega) (by omega); simp only [hc, show Int.toNat 2 = 2 by rfl] at *; omega)
        simp only [S.cut_get b 2 x6 hx, S.cut_get' b 2 x6 hx] at *
        exact S.u_step h7 (by with_reducible assumption) (by omega)
      (have hn := S.uN_2 (b := b) (by with_reducible assumption) (by with_reducible assumption); (have hb := S.uinv_bd h7; (try simp only [S.cut_len b 2 (by omega) (by omega), show Int.toNat 2 = 2 by rfl] at *); simp only [show Int.toNat 6 = 6 by rfl, S.meas] at *; omega))
    intro h11
    try simp only [df] at h11
    refine ⟨?_, ⟨⟨?_, ?_⟩, ⟨?_, ?_⟩⟩⟩
    · trivial
    · intro h12
      try simp only [nt] at h12
      trivial
    · intro h13
      try simp only [nf] at h13
      trivial
    · intro h14
      try simp only [V.bor, nt, df] at h14
      refine ⟨?_, ?_⟩
      · have hn := S.uN_2 (b := b) (by with_reducible assumption) (by with_reducible assumption)
        have hb := S.uinv_bd h7
        have hc := S.cut_len b 2 (by omega) (by omega)
        rw [hc] at h11
        have hx : x6 + 1 = 2 := by omega
        rw [S.uf_end1 hn h7 hx h14 rfl]
      have hn := S.uN_2 (b := b) (by with_reducible assumption) (by with_reducible assumption)
      have hb := S.uinv_bd h7
      have hc := S.cut_len b 2 (by omega) (by omega)
      rw [hc] at h11
      have hx : x6 + 1 = 2 := by omega
      rw [S.uf_end1 hn h7 hx h14 rfl]
    intro h15
    try simp only [V.bor_f, nf, dt] at h15
    refine ⟨?_, ?_⟩
    · have hn := S.uN_2 (b := b) (by with_reducible assumption) (by with_reducible assumption)
      have hb := S.uinv_bd h7
      have hc := S.cut_len b 2 (by omega) (by omega)
      rw [hc] at h11
      have hx : x6 + 1 = 2 := by omega
      rw [S.uf_end2 hn h7 hx h15 rfl]
    have hn := S.uN_2 (b := b) (by with_reducible assumption) (by with_reducible assumption)
    have hb := S.uinv_bd h7
    have hc := S.cut_len b 2 (by omega) (by omega)
    rw [hc] at h11
    have hx : x6 + 1 = 2 := by omega
    rw [S.uf_end2 hn h7 hx h15 rfl]
  intro h16
  try simp only [df] at h16
  refine ⟨⟨?_, ?_⟩, ⟨?_, ?_⟩⟩
  · omega
  · omega
  · intro h17
    try simp only [dt] at h17
    refine ⟨?_, ⟨?_, ⟨?_, ?_⟩⟩⟩
    · omega
    · omega
    · intro h18
      try simp only [dt] at h18
      refine ⟨?_, ?_⟩
      · (have hn := S.uN_3 (b := b) (by with_reducible assumption) (by with_reducible assumption) (by with_reducible assumption); rw [S.uf_short hn (by omega) (by omega)])
      (have hn := S.uN_3 (b := b) (by with_reducible assumption) (by with_reducible assumption) (by with_reducible assumption); rw [S.uf_short hn (by omega) (by omega)])
    intro h19
    try simp only [df] at h19
    refine ⟨⟨?_, ⟨?_, ?_⟩⟩, ⟨?_, ?_⟩⟩
    · omega
    · omega
    · omega
    · refine ⟨(nat_lit 0 : Nat), ?_⟩
      try dsimp only
      refine ⟨⟨?_, ?_⟩, ?_⟩
      · omega
      · (have hn := S.uN_3 (b := b) (by with_reducible assumption) (by with_reducible assumption) (by with_reducible assumption); exact S.uC_3 (by with_reducible assumption) (by with_reducible assumption))
      (have hn := S.uN_3 (b := b) (by with_reducible assumption) (by with_reducible assumption) (by with_reducible assumption); exact S.uinv0 hn (by omega) (by omega))
    intro x20
    intro h21
    refine ⟨?_, ?_⟩
    · intro h22
      try simp only [dt] at h22
      refine ⟨⟨?_, ?_⟩, ⟨⟨?_, ?_⟩, ⟨?_, ?_⟩⟩⟩
      · omega
      · omega
      · omega
      · omega
      · intro h23
        try simp only [nt, df, tn] at h23
        refine ⟨?_, ?_⟩
        · have hn := S.uN_3 (b := b) (by with_reducible assumption) (by with_reducible assumption) (by with_reducible assumption)
          have hb := S.uinv_bd h21
          have hx : (x20 : Int) + 1 < 3 := by (have hc := S.cut_len b 3 (by omega) (by omega); simp only [hc, show Int.toNat 3 = 3 by rfl] at *; omega)
          simp only [S.cut_get b 3 x20 hx, S.cut_get' b 3 x20 hx] at *
          rw [S.uf_cont hn h21 (by omega) (by with_reducible assumption)]
        have hn := S.uN_3 (b := b) (by with_reducible assumption) (by with_reducible assumption) (by with_reducible assumption)
        have hb := S.uinv_bd h21
        have hx : (x20 : Int) + 1 < 3 := by (have hc := S.cut_len b 3 (by omega) (by omega); simp only [hc, show Int.toNat 3 = 3 by rfl] at *; omega)
        simp only [S.cut_get b 3 x20 hx, S.cut_get' b 3 x20 hx] at *
        rw [S.uf_cont hn h21 (by omega) (by with_reducible assumption)]
      intro h24
      try simp only [nf, dt, tn] at h24
      refine ⟨⟨?_, ?_⟩, ⟨⟨?_, ?_⟩, ⟨?_, ⟨?_, ⟨⟨?_, ?_⟩, ?_⟩⟩⟩⟩⟩
      · omega
      · omega
      · (have hn := S.uN_3 (b := b) (by with_reducible assumption) (by with_reducible assumption) (by with_reducible assumption); (have hb := S.uinv_bd h21; (try simp only [S.cut_len b 3 (by omega) (by omega), show Int.toNat 3 = 3 by rfl] at *); simp only [show Int.toNat 6 = 6 by rfl, S.meas] at *; omega))
      · (have hn := S.uN_3 (b := b) (by with_reducible assumption) (by with_reducible assumption) (by with_reducible assumption); (have hb := S.uinv_bd h21; (try simp only [S.cut_len b 3 (by omega) (by omega), show Int.toNat 3 = 3 by rfl] at *); simp only [show Int.toNat 6 = 6 by rfl, S.meas] at *; omega))
      · (have hn := S.uN_3 (b := b) (by with_reducible assumption) (by with_reducible assumption) (by with_reducible assumption); (have hb := S.uinv_bd h21; (try simp only [S.cut_len b 3 (by omega) (by omega), show Int.toNat 3 = 3 by rfl] at *); simp only [show Int.toNat 6 = 6 by rfl, S.meas] at *; omega))
      · exact Int.natCast_nonneg _
      · omega
      · (have hn := S.uN_3 (b := b) (by with_reducible assumption) (by with_reducible assumption) (by with_reducible assumption); (have hb := S.uinv_bd h21; (try simp only [S.cut_len b 3 (by omega) (by omega), show Int.toNat 3 = 3 by rfl] at *); omega))
      refine ⟨(x20 + nat_lit 1), ?_⟩
      try dsimp only
      refine ⟨⟨?_, ?_⟩, ⟨?_, ?_⟩⟩
      · omega
      · have hn := S.uN_3 (b := b) (by with_reducible assumption) (by with_reducible assumption) (by with_reducible assumption)
        have hb := S.uinv_bd h21
        have hx : (x20 : Int) + 1 < 3 := by (have hc := S.cut_len b 3 (by omega) (by omega); simp only [hc, show Int.toNat 3 = 3 by rfl] at *; omega)
        rw [S.cut_get b 3 x20 hx]
        exact S.u_acc h21 (by omega)
      · have hn := S.uN_3 (b := b) (by with_reducible assumption) (by with_reducible assumption) (by with_reducible assumption)
        have hb := S.uinv_bd h21
        have hx : (x20 : Int) + 1 < 3 := by (have hc := S.cut_len b 3 (by omega) (by omega); simp only [hc, show Int.toNat 3 = 3 by rfl] at *; omega)
        simp only [S.cut_get b 3 x20 hx, S.cut_get' b 3 x20 hx] at *
        exact S.u_step h21 (by with_reducible assumption) (by omega)
      (have hn := S.uN_3 (b := b) (by with_reducible assumption) (by with_reducible assumption) (by with_reducible assumption); (have hb := S.uinv_bd h21; (try simp only [S.cut_len b 3 (by omega) (by omega), show Int.toNat 3 = 3 by rfl] at *); simp only [show Int.toNat 6 = 6 by rfl, S.meas] at *; omega))
    intro h25
    try simp only [df] at h25
    refine ⟨?_, ⟨⟨?_, ?_⟩, ⟨?_, ?_⟩⟩⟩
    · trivial
    · intro h26
      try simp only [nt] at h26
      trivial
    · intro h27
      try simp only [nf] at h27
      trivial
    · intro h28
      try simp only [V.bor, nt, df] at h28
      refine ⟨?_, ?_⟩
      · have hn := S.uN_3 (b := b) (by with_reducible assumption) (by with_reducible assumption) (by with_reducible assumption)
        have hb := S.uinv_bd h21
        have hc := S.cut_len b 3 (by omega) (by omega)
        rw [hc] at h25
        have hx : x20 + 1 = 3 := by omega
        rw [S.uf_end1 hn h21 hx h28 rfl]
      have hn := S.uN_3 (b := b) (by with_reducible assumption) (by with_reducible assumption) (by with_reducible assumption)
      have hb := S.uinv_bd h21
      have hc := S.cut_len b 3 (by omega) (by omega)
      rw [hc] at h25
      have hx : x20 + 1 = 3 := by omega
      rw [S.uf_end1 hn h21 hx h28 rfl]
    intro h29
    try simp only [V.bor_f, nf, dt] at h29
    refine ⟨?_, ?_⟩
    · have hn := S.uN_3 (b := b) (by with_reducible assumption) (by with_reducible assumption) (by with_reducible assumption)
      have hb := S.uinv_bd h21
      have hc := S.cut_len b 3 (by omega) (by omega)
      rw [hc] at h25
      have hx : x20 + 1 = 3 := by omega
      rw [S.uf_end2 hn h21 hx h29 rfl]
    have hn := S.uN_3 (b := b) (by with_reducible assumption) (by with_reducible assumption) (by with_reducible assumption)
    have hb := S.uinv_bd h21
    have hc := S.cut_len b 3 (by omega) (by omega)
    rw [hc] at h25
    have hx : x20 + 1 = 3 := by omega
    rw [S.uf_end2 hn h21 hx h29 rfl]
  intro h30
  try simp only [df] at h30
  refine ⟨⟨?_, ?_⟩, ⟨?_, ?_⟩⟩
  · omega
  · omega
  · intro h31
    try simp only [dt] at h31
    refine ⟨?_, ⟨?_, ⟨?_, ?_⟩⟩⟩
    · omega
    · omega
    · intro h32
      try simp only [dt] at h32
      refine ⟨?_, ?_⟩
      · (have hn := S.uN_4 (b := b) (by with_reducible assumption) (by with_reducible assumption) (by with_reducible assumption) (by with_reducible assumption); rw [S.uf_short hn (by omega) (by omega)])
      (have hn := S.uN_4 (b := b) (by with_reducible assumption) (by with_reducible assumption) (by with_reducible assumption) (by with_reducible assumption); rw [S.uf_short hn (by omega) (by omega)])
    intro h33
    try simp only [df] at h33
    refine ⟨⟨?_, ⟨?_, ?_⟩⟩, ⟨?_, ?_⟩⟩
    · omega
    · omega
    · omega
    · refine ⟨(nat_lit 0 : Nat), ?_⟩
      try dsimp only
      refine ⟨⟨?_, ?_⟩, ?_⟩
      · omega
      · (have hn := S.uN_4 (b := b) (by with_reducible assumption) (by with_reducible assumption) (by with_reducible assumption) (by with_reducible assumption); exact S.uC_4 (by with_reducible assumption) (by with_reducible assumption))
      (have hn := S.uN_4 (b := b) (by with_reducible assumption) (by with_reducible assumption) (by with_reducible assumption) (by with_reducible assumption); exact S.uinv0 hn (by omega) (by omega))
    intro x34
    intro h35
    refine ⟨?_, ?_⟩
    · intro h36
      try simp only [dt] at h36
      refine ⟨⟨?_, ?_⟩, ⟨⟨?_, ?_⟩, ⟨?_, ?_⟩⟩⟩
      · omega
      · omega
      · omega
      · omega
      · intro h37
        try simp only [nt, df, tn] at h37
        refine ⟨?_, ?_⟩
        · have hn := S.uN_4 (b := b) (by with_reducible assumption) (by with_reducible assumption) (by with_reducible assumption) (by with_reducible assumption)
          have hb := S.uinv_bd h35
          have hx : (x34 : Int) + 1 < 4 := by (have hc := S.cut_len b 4 (by omega) (by omega); simp only [hc, show Int.toNat 4 = 4 by rfl] at *; omega)
          simp only [S.cut_get b 4 x34 hx, S.cut_get' b 4 x34 hx] at *
          rw [S.uf_cont hn h35 (by omega) (by with_reducible assumption)]
        have hn := S.uN_4 (b := b) (by with_reducible assumption) (by with_reducible assumption) (by with_reducible assumption) (by with_reducible assumption)
        have hb := S.uinv_bd h35
        have hx : (x34 : Int) + 1 < 4 := by (have hc := S.cut_len b 4 (by omega) (by omega); simp only [hc, show Int.toNat 4 = 4 by rfl] at *; omega)
        simp only [S.cut_get b 4 x34 hx, S.cut_get' b 4 x34 hx] at *
        rw [S.uf_cont hn h35 (by omega) (by with_reducible assumption)]
      intro h38
      try simp only [nf, dt, tn] at h38
      refine ⟨⟨?_, ?_⟩, ⟨⟨?_, ?_⟩, ⟨?_, ⟨?_, ⟨⟨?_, ?_⟩, ?_⟩⟩⟩⟩⟩
      · omega
      · omega
      · (have hn := S.uN_4 (b := b) (by with_reducible assumption) (by with_reducible assumption) (by with_reducible assumption) (by with_reducible assumption); (have hb := S.uinv_bd h35; (try simp only [S.cut_len b 4 (by omega) (by omega), show Int.toNat 4 = 4 by rfl] at *); simp only [show Int.toNat 6 = 6 by rfl, S.meas] at *; omega))
      · (have hn := S.uN_4 (b := b) (by with_reducible assumption) (by with_reducible assumption) (by with_reducible assumption) (by with_reducible assumption); (have hb := S.uinv_bd h35; (try simp only [S.cut_len b 4 (by omega) (by omega), show Int.toNat 4 = 4 by rfl] at *); simp only [show Int.toNat 6 = 6 by rfl, S.meas] at *; omega))
      · (have hn := S.uN_4 (b := b) (by with_reducible assumption) (by with_reducible assumption) (by with_reducible assumption) (by with_reducible assumption); (have hb := S.uinv_bd h35; (try simp only [S.cut_len b 4 (by omega) (by omega), show Int.toNat 4 = 4 by rfl] at *); simp only [show Int.toNat 6 = 6 by rfl, S.meas] at *; omega))
      · exact Int.natCast_nonneg _
      · omega
      · (have hn := S.uN_4 (b := b) (by with_reducible assumption) (by with_reducible assumption) (by with_reducible assumption) (by with_reducible assumption); (have hb := S.uinv_bd h35; (try simp only [S.cut_len b 4 (by omega) (by omega), show Int.toNat 4 = 4 by rfl] at *); omega))
      refine ⟨(x34 + nat_lit 1), ?_⟩
      try dsimp only
      refine ⟨⟨?_, ?_⟩, ⟨?_, ?_⟩⟩
      · omega
      · have hn := S.uN_4 (b := b) (by with_reducible assumption) (by with_reducible assumption) (by with_reducible assumption) (by with_reducible assumption)
        have hb := S.uinv_bd h35
        have hx : (x34 : Int) + 1 < 4 := by (have hc := S.cut_len b 4 (by omega) (by omega); simp only [hc, show Int.toNat 4 = 4 by rfl] at *; omega)
        rw [S.cut_get b 4 x34 hx]
        exact S.u_acc h35 (by omega)
      · have hn := S.uN_4 (b := b) (by with_reducible assumption) (by with_reducible assumption) (by with_reducible assumption) (by with_reducible assumption)
        have hb := S.uinv_bd h35
        have hx : (x34 : Int) + 1 < 4 := by (have hc := S.cut_len b 4 (by omega) (by omega); simp only [hc, show Int.toNat 4 = 4 by rfl] at *; omega)
        simp only [S.cut_get b 4 x34 hx, S.cut_get' b 4 x34 hx] at *
        exact S.u_step h35 (by with_reducible assumption) (by omega)
      (have hn := S.uN_4 (b := b) (by with_reducible assumption) (by with_reducible assumption) (by with_reducible assumption) (by with_reducible assumption); (have hb := S.uinv_bd h35; (try simp only [S.cut_len b 4 (by omega) (by omega), show Int.toNat 4 = 4 by rfl] at *); simp only [show Int.toNat 6 = 6 by rfl, S.meas] at *; omega))
    intro h39
    try simp only [df] at h39
    refine ⟨?_, ⟨⟨?_, ?_⟩, ⟨?_, ?_⟩⟩⟩
    · trivial
    · intro h40
      try simp only [nt] at h40
      trivial
    · intro h41
      try simp only [nf] at h41
      trivial
    · intro h42
      try simp only [V.bor, nt, df] at h42
      refine ⟨?_, ?_⟩
      · have hn := S.uN_4 (b := b) (by with_reducible assumption) (by with_reducible assumption) (by with_reducible assumption) (by with_reducible assumption)
        have hb := S.uinv_bd h35
        have hc := S.cut_len b 4 (by omega) (by omega)
        rw [hc] at h39
        have hx : x34 + 1 = 4 := by omega
        rw [S.uf_end1 hn h35 hx h42 rfl]
      have hn := S.uN_4 (b := b) (by with_reducible assumption) (by with_reducible assumption) (by with_reducible assumption) (by with_reducible assumption)
      have hb := S.uinv_bd h35
      have hc := S.cut_len b 4 (by omega) (by omega)
      rw [hc] at h39
      have hx : x34 + 1 = 4 := by omega
      rw [S.uf_end1 hn h35 hx h42 rfl]
    intro h43
    try simp only [V.bor_f, nf, dt] at h43
    refine ⟨?_, ?_⟩
    · have hn := S.uN_4 (b := b) (by with_reducible assumption) (by with_reducible assumption) (by with_reducible assumption) (by with_reducible assumption)
      have hb := S.uinv_bd h35
      have hc := S.cut_len b 4 (by omega) (by omega)
      rw [hc] at h39
      have hx : x34 + 1 = 4 := by omega
      rw [S.uf_end2 hn h35 hx h43 rfl]
    have hn := S.uN_4 (b := b) (by with_reducible assumption) (by with_reducible assumption) (by with_reducible assumption) (by with_reducible assumption)
    have hb := S.uinv_bd h35
    have hc := S.cut_len b 4 (by omega) (by omega)
    rw [hc] at h39
    have hx : x34 + 1 = 4 := by omega
    rw [S.uf_end2 hn h35 hx h43 rfl]
  intro h44
  try simp only [df] at h44
  refine ⟨?_, ?_⟩
  · rw [S.uf0 (b := b) (by with_reducible assumption) (by with_reducible assumption) (by with_reducible assumption) (by with_reducible assumption)]
  rw [S.uf0 (b := b) (by with_reducible assumption) (by with_reducible assumption) (by with_reducible assumption) (by with_reducible assumption)]
theorem H_a46 (b : List UInt8) (hp : S.small b) (hf : Vg.Row.ok (Vg.PS.flat [.one (.slice [.int .u8])]) b) : V_a46 b := by
  unfold V_a46
  have hr_b : b.length ≤ 9223372036854775807 := hf.1.1
  clear hf
  simp only [S.small] at hp
  refine ⟨?_, ?_⟩
  · refine ⟨((b), ([])), ?_⟩
    try dsimp only
    refine ⟨⟨?_, ?_⟩, ?_⟩
    · with_reducible rfl
    · with_reducible rfl
    exact S.dec_0 b
  intro x1
  intro h2
  refine ⟨?_, ?_⟩
  · intro h3
    try simp only [dt] at h3
    refine ⟨?_, ⟨?_, ⟨⟨?_, ?_⟩, ?_⟩⟩⟩
    · omega
    · (have hd := S.dec_bd h2 (by with_reducible assumption); simp only [S.len, List.length_drop, lc, ln] at *; omega)
    · (have hd := S.dec_bd h2 (by with_reducible assumption); omega)
    · (have hd := S.dec_bd h2 (by with_reducible assumption); omega)
    refine ⟨((List.drop (Int.toNat (Prod.snd (S.uFirst (Prod.fst x1)))) (Prod.fst x1)), (Prod.snd x1 ++ [Prod.fst (S.uFirst (Prod.fst x1))])), ?_⟩
    try dsimp only
    refine ⟨⟨?_, ?_⟩, ⟨?_, ?_⟩⟩
    · with_reducible rfl
    · with_reducible rfl
    · exact S.dec_step h2 h3
    (have hd := S.dec_bd h2 (by with_reducible assumption); simp only [S.len, List.length_drop, lc, ln] at *; omega)
  intro h4
  try simp only [df] at h4
  exact (S.dec_end h2 (by with_reducible assumption))
theorem H_a47 (c : Int) (hp : True) (hf : Vg.Row.ok (Vg.PS.flat [.one (.int .i64)]) c) : V_a47 c := by
  unfold V_a47
  have hr_c : -9223372036854775808 ≤ c ∧ c ≤ 9223372036854775807 := hf.1
  clear hf
  refine ⟨?_, ?_⟩
  · refine ⟨(nat_lit 0 : Nat), ?_⟩
    try dsimp only
    refine ⟨?_, ?_⟩
    · omega
    simp [S.noLetter]
  intro x1
  intro h2
  refine ⟨?_, ?_⟩
  · intro h3
    try simp only [dt] at h3
    refine ⟨⟨?_, ?_⟩, ⟨?_, ?_⟩⟩
    · omega
    · omega
    · intro h4
      try simp only [V.band, dt, tn] at h4
      exact S.letter_V1 (x := x1) (by omega) (S.bif_t h4)
    intro h5
    try simp only [V.band_f, df, tn] at h5
    refine ⟨⟨?_, ?_⟩, ?_⟩
    · omega
    · omega
    refine ⟨(x1 + nat_lit 1), ?_⟩
    try dsimp only
    refine ⟨?_, ⟨?_, ?_⟩⟩
    · omega
    · exact S.letter_V2 (x := x1) h2 (by omega) (S.bif_f h5)
    simp only [S.meas]; omega
  intro h6
  try simp only [df] at h6
  exact S.letter_V3 h2 (by omega)
theorem H_a48 (c : Int) (hp : True) (hf : Vg.Row.ok (Vg.PS.flat [.one (.int .i64)]) c) : V_a48 c := by
  unfold V_a48
  have hr_c : -9223372036854775808 ≤ c ∧ c ≤ 9223372036854775807 := hf.1
  clear hf
  simp only [S.digit]; grind
theorem H_a49 (c : Int) (hp : True) (hf : Vg.Row.ok (Vg.PS.flat [.one (.int .i64)]) c) : V_a49 c := by
  unfold V_a49
  have hr_c : -9223372036854775808 ≤ c ∧ c ≤ 9223372036854775807 := hf.1
  clear hf
  refine ⟨?_, ?_⟩
  · refine ⟨(nat_lit 0 : Nat), ?_⟩
    try dsimp only
    refine ⟨?_, ?_⟩
    · omega
    simp [S.noShift]
  intro x1
  intro h2
  refine ⟨?_, ?_⟩
  · intro h3
    try simp only [dt] at h3
    refine ⟨⟨?_, ?_⟩, ⟨?_, ?_⟩⟩
    · omega
    · omega
    · intro h4
      try simp only [V.band, dt, tn] at h4
      refine ⟨⟨?_, ?_⟩, ?_⟩
      · have hs := (S.small_V1 (c := c) (x := x1) h2 h3 (S.bif_t h4)).2
        clear h4
        generalize List.getD [32, 32, 32, 32, 32, 80, 32] (Int.toNat (x1 : Int)) (0 : Int) = X at *
        omega
      · have hs := (S.small_V1 (c := c) (x := x1) h2 h3 (S.bif_t h4)).2
        clear h4
        generalize List.getD [32, 32, 32, 32, 32, 80, 32] (Int.toNat (x1 : Int)) (0 : Int) = X at *
        omega
      exact (S.small_V1 (x := x1) h2 (by omega) (S.bif_t h4)).1
    intro h5
    try simp only [V.band_f, df, tn] at h5
    refine ⟨⟨?_, ?_⟩, ?_⟩
    · omega
    · omega
    refine ⟨(x1 + nat_lit 1), ?_⟩
    try dsimp only
    refine ⟨?_, ⟨?_, ?_⟩⟩
    · omega
    · exact S.small_V2 (x := x1) h2 (by omega) (S.bif_f h5)
    simp only [S.meas]; omega
  intro h6
  try simp only [df] at h6
  exact S.small_V3 h2 (by omega)
theorem H_a50 (c : Int) (a : Int) (b : Int) (hp : True) (hf : Vg.Row.ok (Vg.PS.flat [.one (.int .i64), .one (.int .i64), .one (.int .i64)]) (c, a, b)) : V_a50 c a b := by
  unfold V_a50
  have hr_c : -9223372036854775808 ≤ c ∧ c ≤ 9223372036854775807 := hf.1
  have hr_a : -9223372036854775808 ≤ a ∧ a ≤ 9223372036854775807 := hf.2.1
  have hr_b : -9223372036854775808 ≤ b ∧ b ≤ 9223372036854775807 := hf.2.2.1
  clear hf
  simp only [S.inI]; grind
theorem H_a51 (c : Int) (hp : True) (hf : Vg.Row.ok (Vg.PS.flat [.one (.int .i64)]) c) : V_a51 c := by
  unfold V_a51
  have hr_c : -9223372036854775808 ≤ c ∧ c ≤ 9223372036854775807 := hf.1
  clear hf
  simp only [S.rRight]; grind
theorem H_a52 (c : Int) (hp : 0 ≤ c ∧ c ≤ 1114111) (hf : Vg.Row.ok (Vg.PS.flat [.one (.int .i64)]) c) : V_a52 c := by
  unfold V_a52
  have hr_c : -9223372036854775808 ≤ c ∧ c ≤ 9223372036854775807 := hf.1
  clear hf
  refine ⟨?_, ?_⟩
  · intro h1
    try simp only [dt] at h1
    exact S.encR_1 c (by omega) (by omega)
  intro h2
  try simp only [df] at h2
  refine ⟨?_, ?_⟩
  · intro h3
    try simp only [dt] at h3
    refine ⟨?_, ⟨?_, ⟨⟨?_, ?_⟩, ⟨?_, ⟨?_, ⟨⟨?_, ?_⟩, ?_⟩⟩⟩⟩⟩⟩
    · omega
    · omega
    · omega
    · omega
    · omega
    · omega
    · omega
    · omega
    exact S.encR_2 c (by omega) (by omega)
  intro h4
  try simp only [df] at h4
  refine ⟨?_, ?_⟩
  · intro h5
    try simp only [dt] at h5
    refine ⟨?_, ⟨?_, ⟨⟨?_, ?_⟩, ⟨?_, ⟨?_, ⟨?_, ⟨?_, ⟨⟨?_, ?_⟩, ⟨?_, ⟨?_, ⟨⟨?_, ?_⟩, ?_⟩⟩⟩⟩⟩⟩⟩⟩⟩⟩⟩
    · omega
    · omega
    · omega
    · omega
    · omega
    · omega
    · omega
    · omega
    · omega
    · omega
    · omega
    · omega
    · omega
    · omega
    exact S.encR_3 c (by omega) (by omega)
  intro h6
  try simp only [df] at h6
  refine ⟨?_, ⟨?_, ⟨⟨?_, ?_⟩, ⟨?_, ⟨?_, ⟨?_, ⟨?_, ⟨⟨?_, ?_⟩, ⟨?_, ⟨?_, ⟨?_, ⟨?_, ⟨⟨?_, ?_⟩, ⟨?_, ⟨?_, ⟨⟨?_, ?_⟩, ?_⟩⟩⟩⟩⟩⟩⟩⟩⟩⟩⟩⟩⟩⟩⟩⟩
  · omega
  · omega
  · omega
  · omega
  · omega
  · omega
  · omega
  · omega
  · omega
  · omega
  · omega
  · omega
  · omega
  · omega
  · omega
  · omega
  · omega
  · omega
  · omega
  · omega
  exact S.encR_4 c (by omega) (by omega) (by omega)
theorem H_a53 (a : Int) (b : Int) (hp : True) (hf : Vg.Row.ok (Vg.PS.flat [.one (.int .i64), .one (.int .i64)]) (a, b)) : V_a53 a b := by
  unfold V_a53
  have hr_a : -9223372036854775808 ≤ a ∧ a ≤ 9223372036854775807 := hf.1
  have hr_b : -9223372036854775808 ≤ b ∧ b ≤ 9223372036854775807 := hf.2.1
  clear hf
  refine ⟨?_, ?_⟩
  · intro h1
    try simp only [dt] at h1
    simp only [S.leastI]; grind
  intro h2
  try simp only [df] at h2
  simp only [S.leastI]; grind
theorem H_a54 (c : Int) (hp : True) (hf : Vg.Row.ok (Vg.PS.flat [.one (.int .i64)]) c) : V_a54 c := by
  unfold V_a54
  have hr_c : -9223372036854775808 ≤ c ∧ c ≤ 9223372036854775807 := hf.1
  clear hf
  refine ⟨?_, ⟨⟨?_, ?_⟩, ?_⟩⟩
  · trivial
  · intro h1
    trivial
  · intro h2
    refine ⟨?_, ⟨?_, ?_⟩⟩
    · trivial
    · intro h3
      trivial
    intro h4
    refine ⟨?_, ⟨?_, ?_⟩⟩
    · trivial
    · intro h5
      trivial
    intro h6
    refine ⟨?_, ⟨?_, ?_⟩⟩
    · trivial
    · intro h7
      trivial
    intro h8
    refine ⟨?_, ⟨?_, ?_⟩⟩
    · trivial
    · intro h9
      trivial
    intro h10
    refine ⟨?_, ⟨?_, ?_⟩⟩
    · trivial
    · intro h11
      trivial
    intro h12
    refine ⟨?_, ⟨?_, ?_⟩⟩
    · trivial
    · intro h13
      trivial
    intro h14
    refine ⟨?_, ⟨?_, ?_⟩⟩
    · trivial
    · intro h15
      trivial
    intro h16
    trivial
  rw [S.letter_or]; grind
theorem H_a55 (c : Int) (hp : True) (hf : Vg.Row.ok (Vg.PS.flat [.one (.int .i64)]) c) : V_a55 c := by
  unfold V_a55
  have hr_c : -9223372036854775808 ≤ c ∧ c ≤ 9223372036854775807 := hf.1
  clear hf
  refine ⟨?_, ⟨?_, ?_⟩⟩
  · trivial
  · intro h1
    refine ⟨⟨?_, ?_⟩, ?_⟩
    · have := S.small_80 (by with_reducible assumption); omega
    · have := S.small_80 (by with_reducible assumption); omega
    have := S.small_80 (by with_reducible assumption); omega
  intro h2
  refine ⟨?_, ⟨⟨?_, ?_⟩, ⟨?_, ?_⟩⟩⟩
  · trivial
  · intro h3
    trivial
  · intro h4
    refine ⟨?_, ⟨?_, ?_⟩⟩
    · trivial
    · intro h5
      trivial
    intro h6
    refine ⟨?_, ⟨?_, ?_⟩⟩
    · trivial
    · intro h7
      trivial
    intro h8
    refine ⟨?_, ⟨?_, ?_⟩⟩
    · trivial
    · intro h9
      trivial
    intro h10
    refine ⟨?_, ⟨?_, ?_⟩⟩
    · trivial
    · intro h11
      trivial
    intro h12
    trivial
  · intro h13
    try simp only [V.bor] at h13
    refine ⟨⟨?_, ?_⟩, ?_⟩
    · have := S.small_32 (by with_reducible assumption) (by grind); omega
    · have := S.small_32 (by with_reducible assumption) (by grind); omega
    have := S.small_32 (by with_reducible assumption) (by grind); omega
  intro h14
  try simp only [V.bor_f] at h14
  exact S.small_0 (by with_reducible assumption) (by grind)
theorem H_a56 (b : List UInt8) (n : Int) (hp : S.begPre b n) (hf : Vg.Row.ok (Vg.PS.flat [.one (.slice [.int .u8]), .one (.int .i64)]) (b, n)) : V_a56 b n := by
  unfold V_a56
  have hr_b : b.length ≤ 9223372036854775807 := hf.1.1
  have hr_n : -9223372036854775808 ≤ n ∧ n ≤ 9223372036854775807 := hf.2.1
  clear hf
  have hp0 := hp
  simp only [S.begPre] at hp0
  refine ⟨?_, ?_⟩
  · intro h1
    try simp only [dt] at h1
    exact S.beg_short' (by omega)
  intro h2
  try simp only [df] at h2
  refine ⟨⟨?_, ?_⟩, ⟨⟨?_, ?_⟩, ⟨?_, ⟨⟨?_, ?_⟩, ⟨?_, ?_⟩⟩⟩⟩⟩
  · omega
  · omega
  · omega
  · simp only [lc, ln]; omega
  · simp only [lc, ln]; omega
  · have h1 := S.bAcc_bd b n 0 (by omega); have h2 := S.beg_lead (b := b) (n := n); rw [h2]; omega
  · have h1 := S.bAcc_bd b n 0 (by omega); have h2 := S.beg_lead (b := b) (n := n); rw [h2]; omega
  · refine ⟨(nat_lit 1 : Nat), ?_⟩
    try dsimp only
    refine ⟨⟨?_, ?_⟩, ?_⟩
    · omega
    · exact S.beg_lead
    simp only [S.begInv, S.meas] at *; omega
  intro x3
  intro h4
  refine ⟨?_, ?_⟩
  · intro h5
    try simp only [dt] at h5
    refine ⟨⟨?_, ?_⟩, ⟨⟨?_, ?_⟩, ⟨⟨?_, ?_⟩, ⟨⟨?_, ?_⟩, ⟨⟨?_, ?_⟩, ?_⟩⟩⟩⟩⟩
    · have hq := S.bAcc_b (by with_reducible assumption) hp; have := (List.getD b (Int.toNat (x3 : Int)) 0).toNat_lt; omega
    · have hq := S.bAcc_b (by with_reducible assumption) hp; have := (List.getD b (Int.toNat (x3 : Int)) 0).toNat_lt; omega
    · omega
    · omega
    · have hq := S.bAcc_b (by with_reducible assumption) hp; have := (List.getD b (Int.toNat (x3 : Int)) 0).toNat_lt; omega
    · have hq := S.bAcc_b (by with_reducible assumption) hp; have := (List.getD b (Int.toNat (x3 : Int)) 0).toNat_lt; omega
    · have hq := S.bAcc_b (by with_reducible assumption) hp; have := (List.getD b (Int.toNat (x3 : Int)) 0).toNat_lt; omega
    · have hq := S.bAcc_b (by with_reducible assumption) hp; have := (List.getD b (Int.toNat (x3 : Int)) 0).toNat_lt; omega
    · omega
    · omega
    refine ⟨(x3 + nat_lit 1), ?_⟩
    try dsimp only
    refine ⟨⟨?_, ?_⟩, ⟨?_, ?_⟩⟩
    · omega
    · exact S.beg_step (by with_reducible assumption)
    · simp only [S.begInv, S.meas] at *; omega
    simp only [S.begInv, S.meas] at *; omega
  intro h6
  try simp only [df] at h6
  exact S.beg_end (by with_reducible assumption) (by omega)
theorem H_a57 (b : List UInt8) (hp : S.small b) (hf : Vg.Row.ok (Vg.PS.flat [.one (.slice [.int .u8])]) b) : V_a57 b := by
  unfold V_a57
  have hr_b : b.length ≤ 9223372036854775807 := hf.1.1
  clear hf
  have hp0 : b.length ≤ 1099511627776 := by have := hp; simp only [S.small] at this; omega
  refine ⟨?_, ?_⟩
  · refine ⟨((nat_lit 0 : Nat), ([])), ?_⟩
    try dsimp only
    refine ⟨⟨?_, ?_⟩, ⟨?_, ?_⟩⟩
    · omega
    · rfl
    · exact S.rdec_0 b
    omega
  intro x1
  intro h2
  refine ⟨?_, ?_⟩
  · intro h3
    try simp only [dt] at h3
    refine ⟨?_, ?_⟩
    · refine ⟨(0, x1.1), ?_⟩
      try dsimp only
      refine ⟨⟨?_, ⟨?_, ?_⟩⟩, ⟨?_, ?_⟩⟩
      · omega
      · rfl
      · rfl
      · omega
      omega
    intro x4
    intro h5
    refine ⟨?_, ?_⟩
    · intro h6
      try simp only [dt] at h6
      refine ⟨⟨?_, ?_⟩, ⟨?_, ⟨?_, ⟨⟨?_, ?_⟩, ⟨⟨?_, ?_⟩, ?_⟩⟩⟩⟩⟩
      · omega
      · omega
      · simp only [S.begPre, List.length_drop]; omega
      · trivial
      · intro h7
        refine ⟨⟨?_, ?_⟩, ⟨⟨?_, ?_⟩, ⟨?_, ⟨?_, ⟨?_, ?_⟩⟩⟩⟩⟩
        · have := S.rRight_bd h7; omega
        · have := S.rRight_bd h7; omega
        · omega
        · omega
        · trivial
        · omega
        · simp only [S.leastI]; split <;> omega
        simp only [S.leastI]; split <;> omega
      · intro h8
        trivial
      · omega
      · omega
      refine ⟨(x4.1 + 1, x1.1), ?_⟩
      try dsimp only
      refine ⟨⟨?_, ⟨?_, ?_⟩⟩, ⟨⟨?_, ?_⟩, ?_⟩⟩
      · omega
      · rw [S.rdec_try (x4 := x4) h3 h5, S.cond_fst]
      · rw [S.rdec_try (x4 := x4) h3 h5, S.cond_snd]
      · omega
      · omega
      simp only [S.meas]; omega
    intro h9
    try simp only [df] at h9
    refine ⟨?_, ⟨⟨?_, ?_⟩, ?_⟩⟩
    · have hq := S.rdec_pick h2 h3 h5 h9
      simp only [lc, ln]; omega
    · have hq := S.rdec_pick h2 h3 h5 h9
      omega
    · have hq := S.rdec_pick h2 h3 h5 h9
      omega
    refine ⟨((Int.toNat ((↑(Prod.fst x1) : Int) + Prod.snd (S.pickK (List.drop (Prod.snd x4) b) (Prod.fst x4)))), (Prod.snd x1 ++ [Prod.fst (S.pickK (List.drop (Prod.snd x4) b) (Prod.fst x4))])), ?_⟩
    try dsimp only
    refine ⟨⟨?_, ?_⟩, ⟨⟨?_, ?_⟩, ?_⟩⟩
    · have hq := S.rdec_pick h2 h3 h5 h9
      omega
    · rfl
    · have hq := S.rdec_pick h2 h3 h5 h9
      exact hq.2.2.1
    · have hq := S.rdec_pick h2 h3 h5 h9
      omega
    have hq := S.rdec_pick h2 h3 h5 h9
    simp only [S.meas, S.len]; omega
  intro h10
  try simp only [df] at h10
  have hq := S.dec_end h2.1 (by rw [List.length_drop]; omega)
  exact hq
theorem H_a58 (u : List Int) (hp : S.okC u) (hf : Vg.Row.ok (Vg.PS.flat [.one (.slice [.int .i64])]) u) : V_a58 u := by
  unfold V_a58
  have hr_u : u.length ≤ 9223372036854775807 := hf.1.1
  clear hf
  have hq := hp.1
  refine ⟨?_, ?_⟩
  · refine ⟨((nat_lit 0 : Nat), ([])), ?_⟩
    try dsimp only
    refine ⟨⟨?_, ?_⟩, ?_⟩
    · omega
    · rfl
    exact S.term_0 u
  intro x1
  intro h2
  refine ⟨?_, ?_⟩
  · intro h3
    try simp only [dt] at h3
    refine ⟨⟨?_, ?_⟩, ⟨?_, ⟨?_, ⟨⟨?_, ?_⟩, ⟨?_, ?_⟩⟩⟩⟩⟩
    · omega
    · omega
    · trivial
    · trivial
    · omega
    · have := h2.2.2; have := S.encR_len (S.smallC (List.getD u (Int.toNat (x1.1 : Int)) 0)); omega
    · intro h4
      try simp only [dt, tn] at h4
      exact S.term_stop h2 h3 h4
    intro h5
    try simp only [df, tn] at h5
    refine ⟨?_, ⟨⟨?_, ?_⟩, ?_⟩⟩
    · have := h2.2.2; have := S.encR_len (S.smallC (List.getD u (Int.toNat (x1.1 : Int)) 0)); omega
    · omega
    · omega
    refine ⟨((Prod.fst x1 + nat_lit 1), (Prod.snd x1 ++ S.encR (S.smallC (List.getD u (Int.toNat (↑(Prod.fst x1) : Int)) (0 : Int))))), ?_⟩
    try dsimp only
    refine ⟨⟨?_, ?_⟩, ⟨?_, ?_⟩⟩
    · omega
    · rfl
    · exact S.term_step h2 h3 h5
    simp only [S.meas, S.len]; omega
  intro h6
  try simp only [df] at h6
  exact S.term_end h2 (by with_reducible assumption)
theorem H_a59 (b : List UInt8) (hp : S.small b) (hf : Vg.Row.ok (Vg.PS.flat [.one (.slice [.int .u8])]) b) : V_a59 b := by
  unfold V_a59
  have hr_b : b.length ≤ 9223372036854775807 := hf.1.1
  clear hf
  have hp0 : b.length ≤ 1099511627776 := hp
  refine ⟨?_, ⟨?_, ?_⟩⟩
  · omega
  · refine ⟨((nat_lit 0 : Nat), (([]), ([]))), ?_⟩
    try dsimp only
    refine ⟨⟨?_, ⟨?_, ?_⟩⟩, ?_⟩
    · omega
    · with_reducible rfl
    · with_reducible rfl
    exact S.tok_0 _
  intro x1
  intro h2
  refine ⟨?_, ?_⟩
  · intro h3
    try simp only [dt] at h3
    refine ⟨⟨?_, ?_⟩, ⟨?_, ⟨?_, ⟨⟨?_, ?_⟩, ⟨?_, ?_⟩⟩⟩⟩⟩
    · omega
    · omega
    · omega
    · trivial
    · intro h4
      trivial
    · intro h5
      trivial
    · intro h6
      try simp only [V.bor] at h6
      refine ⟨?_, ⟨⟨?_, ?_⟩, ?_⟩⟩
      · (have hq := S.tok_bd h2 hp0; simp only [lc, ln]; omega)
      · omega
      · (have hq := S.tok_bd h2 hp0; omega)
      refine ⟨((Prod.fst x1 + nat_lit 1), ((Prod.fst (Prod.snd x1)), (Prod.snd (Prod.snd x1) ++ [List.getD (S.decode b) (Int.toNat (↑(Prod.fst x1) : Int)) (0 : Int)]))), ?_⟩
      try dsimp only
      refine ⟨⟨?_, ⟨?_, ?_⟩⟩, ⟨?_, ?_⟩⟩
      · omega
      · with_reducible rfl
      · with_reducible rfl
      · exact S.tok_word h2 h3 (S.wordC_t (by with_reducible assumption))
      (have hq := S.tok_bd h2 hp0; simp only [S.meas, S.len]; omega)
    intro h7
    try simp only [V.bor_f] at h7
    refine ⟨?_, ?_⟩
    · intro h8
      try simp only [dt] at h8
      refine ⟨?_, ⟨?_, ⟨⟨?_, ?_⟩, ?_⟩⟩⟩
      · (have hq := S.tok_bd h2 hp0; exact hq.1)
      · (have hq := S.tok_bd h2 hp0; simp only [lc, ln]; omega)
      · omega
      · (have hq := S.tok_bd h2 hp0; omega)
      refine ⟨((Prod.fst x1 + nat_lit 1), ((Prod.fst (Prod.snd x1) ++ [S.termOf (Prod.snd (Prod.snd x1))]), ([]))), ?_⟩
      try dsimp only
      refine ⟨⟨?_, ⟨?_, ?_⟩⟩, ⟨?_, ?_⟩⟩
      · omega
      · with_reducible rfl
      · with_reducible rfl
      · exact S.tok_cut h2 h3 (S.wordC_f (by with_reducible assumption)) (by with_reducible assumption)
      (have hq := S.tok_bd h2 hp0; simp only [S.meas, S.len]; omega)
    intro h9
    try simp only [df] at h9
    refine ⟨⟨?_, ?_⟩, ?_⟩
    · omega
    · (have hq := S.tok_bd h2 hp0; omega)
    refine ⟨((Prod.fst x1 + nat_lit 1), ((Prod.fst (Prod.snd x1)), (Prod.snd (Prod.snd x1)))), ?_⟩
    try dsimp only
    refine ⟨⟨?_, ⟨?_, ?_⟩⟩, ⟨?_, ?_⟩⟩
    · omega
    · with_reducible rfl
    · with_reducible rfl
    · exact S.tok_skip h2 h3 (S.wordC_f (by with_reducible assumption)) (by with_reducible assumption)
    (have hq := S.tok_bd h2 hp0; simp only [S.meas, S.len]; omega)
  intro h10
  try simp only [df] at h10
  refine ⟨?_, ?_⟩
  · intro h11
    try simp only [dt] at h11
    refine ⟨?_, ⟨?_, ?_⟩⟩
    · (have hq := S.tok_bd h2 hp0; exact hq.1)
    · (have hq := S.tok_bd h2 hp0; simp only [lc, ln]; omega)
    exact S.tok_end1 h2 (by with_reducible assumption) (by with_reducible assumption)
  intro h12
  try simp only [df] at h12
  exact S.tok_end2 h2 (by with_reducible assumption) (by with_reducible assumption)
theorem H_a60 (s : List UInt8) (hp : S.small s) (hf : Vg.Row.ok (Vg.PS.flat [.one (.str)]) s) : V_a60 s := by
  unfold V_a60
  have hr_s : s.length ≤ 9223372036854775807 := hf.1
  clear hf
  refine ⟨?_, ⟨⟨?_, ?_⟩, ?_⟩⟩
  · omega
  · intro h1
    try simp only [dt] at h1
    refine ⟨⟨?_, ?_⟩, ?_⟩
    · omega
    · omega
    omega
  · intro h2
    try simp only [df] at h2
    trivial
  exact S.isTerm_V s
theorem H_a61 (c : Int) (hp : True) (hf : Vg.Row.ok (Vg.PS.flat [.one (.int .i64)]) c) : V_a61 c := by
  unfold V_a61
  have hr_c : -9223372036854775808 ≤ c ∧ c ≤ 9223372036854775807 := hf.1
  clear hf
  refine ⟨?_, ?_⟩
  · trivial
  exact S.wordC_eq c
theorem H_a62 (u : List Int) (hp : S.okC u) (hf : Vg.Row.ok (Vg.PS.flat [.one (.slice [.int .i64])]) u) : V_a62 u := by
  unfold V_a62
  have hr_u : u.length ≤ 9223372036854775807 := hf.1.1
  clear hf
  have hq := hp.1
  refine ⟨?_, ?_⟩
  · refine ⟨((nat_lit 0 : Nat), ([])), ?_⟩
    try dsimp only
    refine ⟨⟨?_, ?_⟩, ?_⟩
    · omega
    · with_reducible rfl
    exact S.term_0 u
  intro x1
  intro h2
  refine ⟨?_, ?_⟩
  · intro h3
    try simp only [dt] at h3
    refine ⟨⟨?_, ?_⟩, ⟨?_, ⟨⟨?_, ?_⟩, ⟨⟨?_, ?_⟩, ⟨?_, ?_⟩⟩⟩⟩⟩
    · omega
    · omega
    · trivial
    · (have he := S.okC_get hp h3; exact he.2.1)
    · (have he := S.okC_get hp h3; exact he.2.2)
    · omega
    · (have he := S.okC_get hp h3; have := h2.2.2; have := S.enc_len (S.smallC (List.getD u (Int.toNat (x1.1 : Int)) 0)); omega)
    · intro h4
      try simp only [dt, tn] at h4
      have he := (S.okC_get hp h3).1
      simp only [tn] at *
      rw [← he] at h4
      exact S.term_stop h2 h3 h4
    intro h5
    try simp only [df, tn] at h5
    refine ⟨?_, ⟨⟨?_, ?_⟩, ?_⟩⟩
    · (have he := S.okC_get hp h3; have := h2.2.2; have := S.enc_len (S.smallC (List.getD u (Int.toNat (x1.1 : Int)) 0)); omega)
    · omega
    · omega
    refine ⟨((Prod.fst x1 + nat_lit 1), (Prod.snd x1 ++ S.enc (S.smallC (List.getD u (Int.toNat (↑(Prod.fst x1) : Int)) (0 : Int))))), ?_⟩
    try dsimp only
    refine ⟨⟨?_, ?_⟩, ⟨?_, ?_⟩⟩
    · omega
    · with_reducible rfl
    · have he := (S.okC_get hp h3).1
      simp only [tn] at *
      rw [← he] at h5 ⊢
      exact S.term_step h2 h3 h5
    (have he := S.okC_get hp h3; simp only [S.meas, S.len]; omega)
  intro h6
  try simp only [df] at h6
  exact S.term_end h2 (by with_reducible assumption)
theorem H_a63 (b : List UInt8) (hp : S.small b) (hf : Vg.Row.ok (Vg.PS.flat [.one (.slice [.int .u8])]) b) : V_a63 b := by
  unfold V_a63
  have hr_b : b.length ≤ 9223372036854775807 := hf.1.1
  clear hf
  have hp0 : b.length ≤ 1099511627776 := hp
  have hd0 := S.decode_len b
  refine ⟨?_, ⟨?_, ?_⟩⟩
  · omega
  · refine ⟨((nat_lit 0 : Nat), ([])), ?_⟩
    try dsimp only
    refine ⟨⟨?_, ?_⟩, ?_⟩
    · omega
    · with_reducible rfl
    exact S.rtok_0 _
  intro x1
  intro h2
  refine ⟨?_, ?_⟩
  · intro h3
    try simp only [dt] at h3
    refine ⟨?_, ?_⟩
    · refine ⟨((Prod.fst x1), (Prod.fst x1)), ?_⟩
      try dsimp only
      refine ⟨?_, ⟨?_, ?_⟩⟩
      · omega
      · exact S.run_0 h3
      omega
    intro x4
    intro h5
    refine ⟨⟨?_, ?_⟩, ⟨?_, ?_⟩⟩
    · intro h6
      try simp only [dt] at h6
      refine ⟨⟨?_, ?_⟩, ⟨?_, ?_⟩⟩
      · omega
      · omega
      · omega
      trivial
    · intro h7
      try simp only [df] at h7
      trivial
    · intro h8
      try simp only [V.band, dt] at h8
      refine ⟨⟨?_, ?_⟩, ?_⟩
      · omega
      · omega
      refine ⟨((Prod.fst x4 + nat_lit 1), (Prod.fst x1)), ?_⟩
      try dsimp only
      refine ⟨?_, ⟨⟨?_, ?_⟩, ?_⟩⟩
      · omega
      · rw [show x4.2 = x1.1 by omega] at h5
        exact S.run_step h5.1 h8.1 h8.2
      · omega
      (have := h2.2.1; have := h2.2.2; simp only [S.meas, S.len]; omega)
    intro h9
    try simp only [V.band_f, df] at h9
    refine ⟨?_, ?_⟩
    · intro h10
      try simp only [dt] at h10
      refine ⟨⟨?_, ⟨?_, ?_⟩⟩, ⟨?_, ⟨?_, ⟨⟨?_, ?_⟩, ?_⟩⟩⟩⟩
      · omega
      · omega
      · have hr := h5.1.1
        have hr2 := h5.1.2.1
        omega
      · exact S.run_ok hp0
      · (have := h2.2.1; have := h2.2.2; simp only [lc, ln]; omega)
      · omega
      · have hr := h5.1.1
        have hr2 := h5.1.2.1
        omega
      refine ⟨((Prod.fst x4 + nat_lit 1), (Prod.snd x1 ++ [S.termOf (List.take (Int.toNat (↑(Prod.fst x4) : Int) - Int.toNat (↑(Prod.fst x1) : Int)) (List.drop (Int.toNat (↑(Prod.fst x1) : Int)) (S.decode b)))])), ?_⟩
      try dsimp only
      refine ⟨⟨?_, ?_⟩, ⟨?_, ?_⟩⟩
      · omega
      · with_reducible rfl
      · rw [show x4.2 = x1.1 by omega] at h5
        exact S.rtok_cut h2 h5.1 h9 h10
      (have := h2.2.1; have := h2.2.2; simp only [S.meas, S.len]; omega)
    intro h11
    try simp only [df] at h11
    refine ⟨⟨?_, ?_⟩, ?_⟩
    · omega
    · omega
    refine ⟨((Prod.fst x4 + nat_lit 1), (Prod.snd x1)), ?_⟩
    try dsimp only
    refine ⟨⟨?_, ?_⟩, ⟨?_, ?_⟩⟩
    · omega
    · with_reducible rfl
    · rw [show x4.2 = x1.1 by omega] at h5
      exact S.rtok_skip h2 h3 h5.1 h9 h11
    have hr := h5.1.1
    have hr2 := h5.1.2.1
    simp only [S.meas, S.len]; omega
  intro h12
  try simp only [df] at h12
  exact S.rtok_end h2 (by with_reducible assumption)
theorem H_a67 (b : List UInt8) (t : List UInt8) (hp : S.small b) (hf : Vg.Row.ok (Vg.PS.flat [.one (.slice [.int .u8]), .one (.str)]) (b, t)) : V_a67 b t := by
  unfold V_a67
  have hr_b : b.length ≤ 9223372036854775807 := hf.1.1
  have hr_t : t.length ≤ 9223372036854775807 := hf.2.1
  clear hf
  have hq := S.terms_len b
  have hp0 : b.length ≤ 1099511627776 := hp
  refine ⟨?_, ⟨?_, ?_⟩⟩
  · omega
  · refine ⟨((nat_lit 0 : Nat), ([])), ?_⟩
    try dsimp only
    refine ⟨⟨?_, ?_⟩, ?_⟩
    · omega
    · with_reducible rfl
    exact S.places_0 _ _
  intro x1
  intro h2
  refine ⟨?_, ?_⟩
  · intro h3
    try simp only [dt] at h3
    refine ⟨⟨?_, ?_⟩, ⟨?_, ⟨?_, ?_⟩⟩⟩
    · omega
    · omega
    · omega
    · intro h4
      try simp only [dt, tn] at h4
      refine ⟨?_, ⟨⟨?_, ?_⟩, ?_⟩⟩
      · (have := h2.2.2; simp only [lc, ln]; omega)
      · omega
      · omega
      refine ⟨((Prod.fst x1 + nat_lit 1), (Prod.snd x1 ++ [(↑(Prod.fst x1) : Int)])), ?_⟩
      try dsimp only
      refine ⟨⟨?_, ?_⟩, ⟨?_, ?_⟩⟩
      · omega
      · with_reducible rfl
      · exact S.places_step h2 h3 h4
      (have := h2.2.2; simp only [S.meas, S.len]; omega)
    intro h5
    try simp only [df, tn] at h5
    refine ⟨⟨?_, ?_⟩, ?_⟩
    · omega
    · omega
    refine ⟨((Prod.fst x1 + nat_lit 1), (Prod.snd x1)), ?_⟩
    try dsimp only
    refine ⟨⟨?_, ?_⟩, ⟨?_, ?_⟩⟩
    · omega
    · with_reducible rfl
    · exact S.places_skip h2 h3 h5
    (have := h2.2.2; simp only [S.meas, S.len]; omega)
  intro h6
  try simp only [df] at h6
  exact S.places_end h2 (by with_reducible assumption)
theorem H_a69 (s : List UInt8) (hp : True) (hf : Vg.Row.ok (Vg.PS.flat [.one (.str)]) s) : V_a69 s := by
  unfold V_a69
  have hr_s : s.length ≤ 9223372036854775807 := hf.1
  clear hf
  simp
theorem H_a70 (a : List UInt8) (b : List UInt8) (hp : True) (hf : Vg.Row.ok (Vg.PS.flat [.one (.str), .one (.str)]) (a, b)) : V_a70 a b := by
  unfold V_a70
  have hr_a : a.length ≤ 9223372036854775807 := hf.1
  have hr_b : b.length ≤ 9223372036854775807 := hf.2.1
  clear hf
  refine ⟨?_, ⟨?_, ⟨?_, ?_⟩⟩⟩
  · trivial
  · trivial
  · intro h1
    refine ⟨?_, ?_⟩
    · intro h2
      simp only [S.cmpS] at *; grind [S.bl_irrefl, S.bl_tri, S.bl_asymm]
    intro h3
    simp only [S.cmpS] at *; grind [S.bl_irrefl, S.bl_tri, S.bl_asymm]
  intro h4
  refine ⟨?_, ?_⟩
  · intro h5
    simp only [S.cmpS] at *; grind [S.bl_irrefl, S.bl_tri, S.bl_asymm]
  intro h6
  refine ⟨?_, ?_⟩
  · intro h7
    simp only [S.cmpS] at *; grind [S.bl_irrefl, S.bl_tri, S.bl_asymm]
  intro h8
  refine ⟨?_, ?_⟩
  · intro h9
    try simp only [nt] at h9
    simp only [S.cmpS] at *; grind [S.bl_irrefl, S.bl_tri, S.bl_asymm]
  intro h10
  try simp only [nf] at h10
  simp only [S.cmpS] at *; grind [S.bl_irrefl, S.bl_tri, S.bl_asymm]
theorem H_a71 (a : List UInt8) (b : List UInt8) (hp : True) (hf : Vg.Row.ok (Vg.TA.tyss [.dat (.str), .dat (.str), .ref 50000 0]) (a, b)) (hg : Vg.BsD.ok [.cells [.fn (.func 85) [] []]] ((), ())) : V_a71 a b := by
  unfold V_a71
  have hr_a : a.length ≤ 9223372036854775807 := hf.1
  have hr_b : b.length ≤ 9223372036854775807 := hf.2.1
  clear hf hg
  refine ⟨?_, ?_⟩
  · trivial
  exact S.cmpS_0 a b
theorem H_a72 (l : List (List UInt8)) (hp : S.small l) (hf : Vg.Row.ok (Vg.TA.tyss [.own 50000, .fn (.func 114) [] [.ref 50001 0]]) ()) (hg : Vg.BsD.ok [.row 9 [.str], .cells [.fn (.func 85) [] []]] (l, ((), ()))) : V_a72 l := by
  unfold V_a72
  have hr_l : l.length ≤ 9223372036854775807 := hg.1.1
  clear hf hg
  have hp0 : l.length ≤ 1099511627776 := hp
  refine ⟨?_, ?_⟩
  · intro h1
    try simp only [dt] at h1
    exact S.cmp_short h1
  intro h2
  try simp only [df] at h2
  refine ⟨?_, ?_⟩
  · refine ⟨(nat_lit 1 : Nat), ?_⟩
    try dsimp only
    refine ⟨?_, ?_⟩
    · omega
    exact S.cmp_1 h2
  intro x3
  intro h4
  refine ⟨?_, ?_⟩
  · intro h5
    try simp only [dt] at h5
    refine ⟨⟨?_, ?_⟩, ⟨?_, ⟨⟨?_, ?_⟩, ⟨⟨?_, ?_⟩, ⟨?_, ⟨?_, ⟨?_, ?_⟩⟩⟩⟩⟩⟩⟩
    · omega
    · omega
    · omega
    · omega
    · omega
    · have := h4.1; omega
    · omega
    · omega
    · trivial
    · intro h6
      try simp only [dt, tn] at h6
      refine ⟨⟨?_, ?_⟩, ⟨?_, ?_⟩⟩
      · omega
      · omega
      · refine ⟨((x3), ((nat_lit 1 : Nat), ((l), (x3)))), ?_⟩
        try dsimp only
        refine ⟨⟨?_, ⟨?_, ?_⟩⟩, ⟨?_, ?_⟩⟩
        · omega
        · omega
        · trivial
        · exact S.cmp2_0 h4 h5 h6
        omega
      intro x7
      intro h8
      refine ⟨?_, ?_⟩
      · intro h9
        try simp only [dt, tn] at h9
        refine ⟨⟨?_, ?_⟩, ⟨?_, ⟨⟨?_, ?_⟩, ⟨⟨?_, ?_⟩, ⟨?_, ⟨?_, ⟨⟨?_, ?_⟩, ⟨⟨?_, ?_⟩, ?_⟩⟩⟩⟩⟩⟩⟩⟩
        · omega
        · omega
        · have q1 := h8.1.1; have q2 := h8.1.2.1; have q3 := h8.1.2.2.2.1; have q4 := h8.1.2.2.2.2.1; have q5 := h8.2; omega
        · omega
        · omega
        · have q1 := h8.1.1; have q2 := h8.1.2.1; have q3 := h8.1.2.2.2.1; have q4 := h8.1.2.2.2.2.1; have q5 := h8.2; omega
        · omega
        · have q1 := h8.1.1; have q2 := h8.1.2.1; have q3 := h8.1.2.2.2.1; have q4 := h8.1.2.2.2.2.1; have q5 := h8.2; omega
        · trivial
        · intro h10
          try simp only [nt, df, tn] at h10
          refine ⟨⟨?_, ?_⟩, ⟨?_, ⟨⟨?_, ?_⟩, ⟨?_, ⟨?_, ?_⟩⟩⟩⟩⟩
          · omega
          · omega
          · have q1 := h8.1.1; have q2 := h8.1.2.1; have q3 := h8.1.2.2.2.1; have q4 := h8.1.2.2.2.2.1; have q5 := h8.2; omega
          · omega
          · have q1 := h8.1.1; have q2 := h8.1.2.1; have q3 := h8.1.2.2.2.1; have q4 := h8.1.2.2.2.2.1; have q5 := h8.2; omega
          · have q1 := h8.1.1; have q2 := h8.1.2.1; have q3 := h8.1.2.2.2.1; have q4 := h8.1.2.2.2.2.1; have q5 := h8.2; omega
          · omega
          have q1 := h8.1.1; have q2 := h8.1.2.1; have q3 := h8.1.2.2.2.1; have q4 := h8.1.2.2.2.2.1; have q5 := h8.2; omega
        · intro h11
          try simp only [nf, dt, tn] at h11
          trivial
        · omega
        · omega
        refine ⟨((Int.toNat (bif !Decidable.decide (List.getD (Prod.fst (Prod.snd (Prod.snd x7))) (Int.toNat (↑x3 : Int) + Int.toNat (↑(Prod.fst (Prod.snd x7)) : Int)) [] = List.getD (Prod.fst (Prod.snd (Prod.snd x7))) (Int.toNat (↑x3 : Int) + Int.toNat ((↑(Prod.fst (Prod.snd x7)) : Int) - (1 : Int))) []) then (↑(Prod.fst x7) : Int) + (1 : Int) else (↑(Prod.fst x7) : Int))), ((Prod.fst (Prod.snd x7) + nat_lit 1), ((bif !Decidable.decide (List.getD (Prod.fst (Prod.snd (Prod.snd x7))) (Int.toNat (↑x3 : Int) + Int.toNat (↑(Prod.fst (Prod.snd x7)) : Int)) [] = List.getD (Prod.fst (Prod.snd (Prod.snd x7))) (Int.toNat (↑x3 : Int) + Int.toNat ((↑(Prod.fst (Prod.snd x7)) : Int) - (1 : Int))) []) then List.set (Prod.fst (Prod.snd (Prod.snd x7))) (Int.toNat (↑(Prod.fst x7) : Int)) (List.getD (Prod.fst (Prod.snd (Prod.snd x7))) (Int.toNat (↑x3 : Int) + Int.toNat (↑(Prod.fst (Prod.snd x7)) : Int)) []) else Prod.fst (Prod.snd (Prod.snd x7))), (x3)))), ?_⟩
        try dsimp only
        refine ⟨⟨?_, ⟨?_, ?_⟩⟩, ⟨⟨?_, ?_⟩, ?_⟩⟩
        · generalize (!decide (List.getD x7.2.2.1 (Int.toNat (x3 : Int) + Int.toNat (x7.2.1 : Int)) [] = List.getD x7.2.2.1 (Int.toNat (x3 : Int) + Int.toNat ((x7.2.1 : Int) - 1)) [])) = c
          cases c <;> simp only [cond_true, cond_false] <;> omega
        · omega
        · trivial
        · have q1 := h8.1.1
          have e3 : x7.2.2.2 = x3 := by have := h8.2; omega
          have hi := h8.1
          rw [e3] at hi
          have e1 : Int.toNat (x3 : Int) + Int.toNat (x7.2.1 : Int) = x3 + x7.2.1 := by omega
          have e2 : Int.toNat (x3 : Int) + Int.toNat ((x7.2.1 : Int) - 1) = x3 + x7.2.1 - 1 := by omega
          rw [e1, e2]
          by_cases hd : List.getD x7.2.2.1 (x3 + x7.2.1) [] = List.getD x7.2.2.1 (x3 + x7.2.1 - 1) []
          · rw [decide_eq_true hd]
            exact S.cmp2_skip hi (by omega) hd
          rw [decide_eq_false hd]
          exact S.cmp2_put hi (by omega) hd
        · omega
        simp only [S.meas, S.len]
        have q2 := h8.1.2.1
        omega
      intro h12
      try simp only [df, tn] at h12
      refine ⟨⟨?_, ?_⟩, ⟨?_, ⟨⟨?_, ?_⟩, ?_⟩⟩⟩
      · omega
      · have q1 := h8.1.2.1
        have q2 := h8.1.2.2.2.1
        have q3 := h8.1.2.2.2.2.1
        omega
      · have q1 := h8.1.2.1
        have q2 := h8.1.2.2.2.1
        have q3 := h8.1.2.2.2.2.1
        omega
      · omega
      · have q1 := h8.1.2.1
        have q2 := h8.1.2.2.2.1
        have q3 := h8.1.2.2.2.2.1
        simp only [List.length_append, List.length_take]
        omega
      have q1 := h8.1.2.1
      have q2 := h8.1.2.2.2.1
      have q3 := h8.1.2.2.2.2.1
      have e1 : Int.toNat (x7.1 : Int) = x7.1 := by omega
      rw [e1, S.take_clear (by omega)]
      exact S.cmp2_end h8.1 (by have := h8.2; omega)
    intro h13
    try simp only [df, tn] at h13
    refine ⟨⟨?_, ?_⟩, ?_⟩
    · omega
    · omega
    refine ⟨(x3 + nat_lit 1), ?_⟩
    try dsimp only
    refine ⟨?_, ⟨?_, ?_⟩⟩
    · omega
    · exact S.cmp_step h4 h5 h13
    simp only [S.meas, S.len]
    omega
  intro h14
  try simp only [df] at h14
  exact S.cmp_end h4 h14
theorem H_a76 (l : List (List UInt8)) (hp : S.small l) (hf : Vg.Row.ok (Vg.TA.tyss [.dat (.slice [.str]), .fn (.func 85) [] []]) l) (hg : Vg.BsD.ok [] ()) : V_a76 l := by
  unfold V_a76
  have hr_l : l.length ≤ 9223372036854775807 := hf.1.1
  clear hf hg
  refine ⟨?_, ⟨?_, ⟨?_, ?_⟩⟩⟩
  · exact hp
  · exact hp
  · exact S.sortS_small hp
  rfl
theorem H_a77 (b : List UInt8) (hp : S.small b) (hf : Vg.Row.ok (Vg.PS.flat [.one (.slice [.int .u8])]) b) : V_a77 b := by
  unfold V_a77
  have hr_b : b.length ≤ 9223372036854775807 := hf.1.1
  clear hf
  refine ⟨?_, ⟨?_, ?_⟩⟩
  · exact hp
  · exact S.terms_small hp
  exact S.set_law _
theorem H_a87 (l : List Int) (hp : True) (hf : Vg.Row.ok (Vg.PS.flat [.one (.slice [.int .i64])]) l) : V_a87 l := by
  unfold V_a87
  have hr_l : l.length ≤ 9223372036854775807 := hf.1.1
  clear hf
  refine ⟨?_, ?_⟩
  · refine ⟨(nat_lit 0 : Nat), ?_⟩
    try dsimp only
    refine ⟨⟨?_, ?_⟩, ?_⟩
    · omega
    · exact (S.prevI_0 l).symm
    exact S.post_0 l
  intro x1
  intro h2
  refine ⟨?_, ?_⟩
  · intro h3
    try simp only [dt] at h3
    refine ⟨⟨?_, ?_⟩, ⟨?_, ?_⟩⟩
    · omega
    · omega
    · intro h4
      try simp only [V.bor, dt, tn] at h4
      exact S.post_bad h3 h4
    intro h5
    try simp only [V.bor_f, df, tn] at h5
    refine ⟨⟨?_, ?_⟩, ?_⟩
    · omega
    · omega
    refine ⟨(x1 + nat_lit 1), ?_⟩
    try dsimp only
    refine ⟨⟨?_, ?_⟩, ⟨?_, ?_⟩⟩
    · omega
    · rw [S.prevI_succ, tn]
    · exact S.post_step h2 h3 h5
    simp only [S.meas, S.len]; omega
  intro h6
  try simp only [df] at h6
  exact S.post_end h2 (by with_reducible assumption)
theorem H_a88 (l : List Int) (hp : True) (hf : Vg.Row.ok (Vg.PS.flat [.one (.slice [.int .i64])]) l) : V_a88 l := by
  unfold V_a88
  have hr_l : l.length ≤ 9223372036854775807 := hf.1.1
  clear hf
  refine ⟨?_, ⟨?_, ?_⟩⟩
  · trivial
  · intro h1
    try simp only [nt] at h1
    refine ⟨?_, ?_⟩
    · simp only [S.postE, S.postW, h1]; rfl
    simp only [S.postE, S.postW, h1]; rfl
  intro h2
  try simp only [nf] at h2
  refine ⟨?_, ⟨?_, ?_⟩⟩
  · exact Nat.zero_le _
  · refine ⟨(nat_lit 0 : Nat), ?_⟩
    try dsimp only
    refine ⟨⟨?_, ⟨?_, ?_⟩⟩, ?_⟩
    · omega
    · exact (S.prevI_0 l).symm
    · have := S.post_len h2; rw [S.numB_nil (by omega) (by omega), S.postTo_0]
    omega
  intro x3
  intro h4
  refine ⟨?_, ?_⟩
  · intro h5
    try simp only [dt] at h5
    refine ⟨⟨?_, ?_⟩, ⟨⟨?_, ?_⟩, ⟨⟨?_, ?_⟩, ⟨?_, ⟨?_, ⟨⟨?_, ?_⟩, ?_⟩⟩⟩⟩⟩⟩
    · omega
    · omega
    · have := S.post_gap h2 h5; omega
    · have := S.post_gap h2 h5; omega
    · have := S.post_gap h2 h5; omega
    · have := S.post_gap h2 h5; omega
    · exact Nat.zero_le _
    · have := (S.post_gap_len h2 h5 (List.getD l (Int.toNat (x3 : Int)) 0 - S.prevI l x3 - 1)).1; omega
    · omega
    · omega
    refine ⟨(x3 + nat_lit 1), ?_⟩
    try dsimp only
    refine ⟨⟨?_, ⟨?_, ?_⟩⟩, ⟨?_, ?_⟩⟩
    · omega
    · rw [S.prevI_succ, tn]
    · exact S.post_gap_step h2 h5
    · omega
    simp only [S.meas, S.len]; omega
  intro h6
  try simp only [df] at h6
  refine ⟨?_, ?_⟩
  · simp only [S.postE, h2]; rfl
  rw [show x3 = l.length by omega]; exact S.postW_of h2
theorem H_a89 (l : List Int) (hp : True) (hf : Vg.Row.ok (Vg.PS.flat [.one (.slice [.int .i64])]) l) : V_a89 l := by
  unfold V_a89
  have hr_l : l.length ≤ 9223372036854775807 := hf.1.1
  clear hf
  refine ⟨?_, ⟨?_, ?_⟩⟩
  · trivial
  · intro h1
    try simp only [nt, df] at h1
    refine ⟨?_, ?_⟩
    · have hq : S.postR l = false := by
        cases hr : S.postR l with
        | false => rfl
        | true => exact absurd (by simp only [S.postE, hr]; rfl) h1
      simp only [S.postD, hq]; rfl
    rfl
  intro h2
  try simp only [nf, dt] at h2
  refine ⟨?_, ⟨?_, ?_⟩⟩
  · have hq : S.postR l = true := by
      cases hr : S.postR l with
      | true => rfl
      | false => simp only [S.postE, hr] at h2; exact absurd h2 (by decide)
    have hl := S.postB_len hq
    simp only [S.postW, S.postD, hq, if_true, S.sealPre]
    try (first | rfl | omega)
  · have hq : S.postR l = true := by
      cases hr : S.postR l with
      | true => rfl
      | false => simp only [S.postE, hr] at h2; exact absurd h2 (by decide)
    have hl := S.postB_len hq
    simp only [S.postW, S.postD, hq, if_true, S.sealPre]
    try (first | rfl | omega)
  omega
theorem H_a96 (a : List Int) (b : List Int) (hp : True) (hf : Vg.Row.ok (Vg.PS.flat [.one (.slice [.int .i64]), .one (.slice [.int .i64])]) (a, b)) : V_a96 a b := by
  unfold V_a96
  have hr_a : a.length ≤ 9223372036854775807 := hf.1.1
  have hr_b : b.length ≤ 9223372036854775807 := hf.2.1.1
  clear hf
  refine ⟨?_, ?_⟩
  · intro h1
    try simp only [nt, df] at h1
    exact S.same_len h1
  intro h2
  try simp only [nf, dt] at h2
  refine ⟨?_, ?_⟩
  · refine ⟨(nat_lit 0 : Nat), ?_⟩
    try dsimp only
    refine ⟨?_, ?_⟩
    · omega
    exact S.same_0 h2
  intro x3
  intro h4
  refine ⟨?_, ?_⟩
  · intro h5
    try simp only [dt] at h5
    refine ⟨⟨?_, ?_⟩, ⟨⟨?_, ?_⟩, ⟨?_, ?_⟩⟩⟩
    · omega
    · omega
    · omega
    · omega
    · intro h6
      try simp only [nt, df, tn] at h6
      exact S.same_bad h6
    intro h7
    try simp only [nf, dt, tn] at h7
    refine ⟨⟨?_, ?_⟩, ?_⟩
    · omega
    · omega
    refine ⟨(x3 + nat_lit 1), ?_⟩
    try dsimp only
    refine ⟨?_, ⟨?_, ?_⟩⟩
    · omega
    · exact S.same_step h4 h5 h7
    simp only [S.meas, S.len]; omega
  intro h8
  try simp only [df] at h8
  exact S.same_end h4 h8
theorem H_a97 (l : List Int) (n : Int) (hp : True) (hf : Vg.Row.ok (Vg.PS.flat [.one (.slice [.int .i64]), .one (.int .i64)]) (l, n)) : V_a97 l n := by
  unfold V_a97
  have hr_l : l.length ≤ 9223372036854775807 := hf.1.1
  have hr_n : -9223372036854775808 ≤ n ∧ n ≤ 9223372036854775807 := hf.2.1
  clear hf
  refine ⟨?_, ?_⟩
  · refine ⟨(nat_lit 0 : Nat), ?_⟩
    try dsimp only
    refine ⟨?_, ?_⟩
    · omega
    exact S.has_0 l n
  intro x1
  intro h2
  refine ⟨?_, ?_⟩
  · intro h3
    try simp only [dt] at h3
    refine ⟨⟨?_, ?_⟩, ⟨?_, ?_⟩⟩
    · omega
    · omega
    · intro h4
      try simp only [dt, tn] at h4
      exact S.has_yes h3 h4
    intro h5
    try simp only [df, tn] at h5
    refine ⟨⟨?_, ?_⟩, ?_⟩
    · omega
    · omega
    refine ⟨(x1 + nat_lit 1), ?_⟩
    try dsimp only
    refine ⟨?_, ⟨?_, ?_⟩⟩
    · omega
    · exact S.has_step h2 h3 h5
    simp only [S.meas, S.len]; omega
  intro h6
  try simp only [df] at h6
  exact S.has_end h2 h6
theorem H_a98 (d : List (List UInt8 × List Int)) (hp : S.dictPre d) (hf : Vg.Row.ok (Vg.PS.flat [.one (.slice [.str, .slice [.int .i64]])]) d) : V_a98 d := by
  unfold V_a98
  have hr_d : d.length ≤ 9223372036854775807 := hf.1.1
  clear hf
  have hp0 := hp.1
  refine ⟨?_, ?_⟩
  · refine ⟨(nat_lit 0 : Nat), ?_⟩
    try dsimp only
    refine ⟨?_, ?_⟩
    · omega
    exact S.dR_0 d
  intro x1
  intro h2
  refine ⟨?_, ?_⟩
  · intro h3
    try simp only [dt] at h3
    refine ⟨⟨?_, ?_⟩, ⟨⟨?_, ?_⟩, ⟨?_, ?_⟩⟩⟩
    · omega
    · omega
    · intro h4
      try simp only [dt] at h4
      refine ⟨⟨?_, ?_⟩, ⟨?_, ?_⟩⟩
      · omega
      · omega
      · omega
      omega
    · intro h5
      try simp only [df] at h5
      trivial
    · intro h6
      try simp only [V.band, dt] at h6
      refine S.dR_bad h3 ((S.ent_false _ _).2 (.inl ⟨by omega, ?_⟩))
      have e : Int.toNat ((x1 : Int) - 1) = x1 - 1 := by omega
      have h62 := h6.2
      rw [e] at h62
      exact h62
    intro h7
    try simp only [V.band_f, df] at h7
    refine ⟨⟨?_, ?_⟩, ⟨?_, ?_⟩⟩
    · intro h8
      try simp only [dt, tn] at h8
      trivial
    · intro h9
      try simp only [df, tn] at h9
      refine ⟨?_, ⟨?_, ?_⟩⟩
      · trivial
      · intro h10
        try simp only [nt] at h10
        trivial
      intro h11
      try simp only [nf] at h11
      exact S.getD_pre hp
    · intro h12
      try simp only [V.bor, dt, tn, nt] at h12
      exact S.dR_bad h3 ((S.ent_false _ _).2 (.inr (h12.imp (fun q => by have : ((S.entD d x1).length : Int) = 0 := q; omega) id)))
    intro h13
    try simp only [V.bor_f, df, tn, nf] at h13
    refine ⟨⟨?_, ?_⟩, ?_⟩
    · omega
    · omega
    refine ⟨(x1 + nat_lit 1), ?_⟩
    try dsimp only
    refine ⟨?_, ⟨?_, ?_⟩⟩
    · omega
    · refine S.dR_step h2 h3 ((S.ent_iff _ _).2 ⟨?_, ?_, h13.2.1, h13.2.2⟩)
      rotate_left
      · have := h13.1
        simp only [S.entD]; omega
      rcases h7 with h7 | h7
      · left; omega
      right
      have e : Int.toNat ((x1 : Int) - 1) = x1 - 1 := by omega
      rw [e] at h7
      exact h7
    simp only [S.meas, S.len]; omega
  intro h14
  try simp only [df] at h14
  exact S.dR_end h2 (by with_reducible assumption)
theorem H_a99 (l1 : List UInt8) (l2 : List UInt8) (l3 : List UInt8) (hp : True) (hf : Vg.Row.ok (Vg.PS.flat [.agg [.str, .str, .str]]) (l1, l2, l3)) : V_a99 l1 l2 l3 := by
  unfold V_a99
  have hr_l1 : l1.length ≤ 9223372036854775807 := hf.1
  have hr_l2 : l2.length ≤ 9223372036854775807 := hf.2.1
  have hr_l3 : l3.length ≤ 9223372036854775807 := hf.2.2.1
  clear hf
  refine ⟨?_, ?_⟩
  · intro h1
    try simp only [V.bor, dt, nt, df] at h1
    refine ⟨?_, ?_⟩
    · have hq := S.linkOk_no h1
      simp only [S.linkW, S.linkE, hq]; rfl
    have hq := S.linkOk_no h1
    simp only [S.linkW, S.linkE, hq]; rfl
  intro h2
  try simp only [V.bor_f, df, nf, dt] at h2
  refine ⟨?_, ⟨?_, ⟨?_, ⟨?_, ?_⟩⟩⟩⟩
  · have hq := S.linkOk_yes h2
    have q := (S.linkOk_iff _ _ _).1 hq
    have t1 := S.text_len (s := l1); have t2 := S.text_len (s := l2)
    exact S.textPre_of (Nat.zero_le _) (by omega)
  · have hq := S.linkOk_yes h2
    have q := (S.linkOk_iff _ _ _).1 hq
    have t1 := S.text_len (s := l1); have t2 := S.text_len (s := l2)
    exact S.textPre_of (by rw [List.nil_append]; omega) (by omega)
  · have hq := S.linkOk_yes h2
    have q := (S.linkOk_iff _ _ _).1 hq
    have t1 := S.text_len (s := l1); have t2 := S.text_len (s := l2)
    simp only [List.length_append, ln]; omega
  · have hq := S.linkOk_yes h2
    have q := (S.linkOk_iff _ _ _).1 hq
    have t1 := S.text_len (s := l1); have t2 := S.text_len (s := l2)
    simp only [S.linkW, hq, if_true]; rfl
  have hq := S.linkOk_yes h2
  have q := (S.linkOk_iff _ _ _).1 hq
  have t1 := S.text_len (s := l1); have t2 := S.text_len (s := l2)
  simp only [S.linkE, hq, if_true]; done
theorem H_a100 (b : List UInt8) (hp : b.length ≤ 140737488355328) (hf : Vg.Row.ok (Vg.PS.flat [.one (.slice [.int .u8])]) b) : V_a100 b := by
  unfold V_a100
  clear hf
  refine ⟨hp, ?_, ?_, trivial, fun h => ?_, fun h => ?_⟩
  · rw [S.readText_b]; exact hp
  · rw [S.readText_b, S.readText_b]; exact hp
  · have h' : (!decide (S.done (S.rd3 b).1.1 (S.rd3 b).1.2.1 (S.rd3 b).1.2.2 = 0)) = true := h
    have e : S.readLink b = (([], [], []), S.done (S.rd3 b).1.1 (S.rd3 b).1.2.1 (S.rd3 b).1.2.2) := by
      unfold S.readLink; rw [if_neg]; intro hc; rw [decide_eq_true hc] at h'; cases h'
    rw [e]; exact ⟨rfl, rfl, rfl, rfl⟩
  have h' : (!decide (S.done (S.rd3 b).1.1 (S.rd3 b).1.2.1 (S.rd3 b).1.2.2 = 0)) = false := h
  have e : S.readLink b = (((S.rd1 b).2, (S.rd2 b).2, (S.rd3 b).2), 0) := by
    unfold S.readLink; rw [if_pos]; by_cases hc : S.done (S.rd3 b).1.1 (S.rd3 b).1.2.1 (S.rd3 b).1.2.2 = 0; exact hc; rw [decide_eq_false hc] at h'; cases h'
  rw [e]; exact ⟨rfl, rfl, rfl, rfl⟩
theorem H_a101 (d : List (List UInt8 × List Int)) (hp : S.dictPre d) (hf : Vg.Row.ok (Vg.PS.flat [.one (.slice [.str, .slice [.int .i64]])]) d) : V_a101 d := by
  unfold V_a101
  have hr_d : d.length ≤ 9223372036854775807 := hf.1.1
  clear hf
  have hp0 := hp.1
  refine ⟨?_, ⟨?_, ?_⟩⟩
  · omega
  · intro h1
    try simp only [nt] at h1
    refine ⟨?_, ?_⟩
    · simp only [S.dE, S.dLinks, h1]; rfl
    simp only [S.dE, S.dLinks, h1]; rfl
  intro h2
  try simp only [nf] at h2
  refine ⟨⟨?_, ?_⟩, ⟨?_, ?_⟩⟩
  · omega
  · omega
  · refine ⟨(nat_lit 0 : Nat), ?_⟩
    try dsimp only
    refine ⟨⟨?_, ?_⟩, ?_⟩
    · omega
    · rfl
    omega
  intro x3
  intro h4
  refine ⟨?_, ?_⟩
  · intro h5
    try simp only [dt] at h5
    refine ⟨⟨?_, ?_⟩, ⟨⟨?_, ?_⟩, ⟨?_, ⟨?_, ⟨?_, ⟨⟨?_, ?_⟩, ?_⟩⟩⟩⟩⟩⟩
    · intro h6
      try simp only [dt] at h6
      refine ⟨⟨?_, ?_⟩, ⟨⟨?_, ?_⟩, ⟨⟨?_, ?_⟩, ⟨?_, ?_⟩⟩⟩⟩
      · omega
      · omega
      · omega
      · omega
      · omega
      · omega
      · omega
      omega
    · intro h7
      try simp only [df] at h7
      trivial
    · intro h8
      try simp only [dt] at h8
      refine ⟨?_, ?_⟩
      · omega
      omega
    · intro h9
      try simp only [df] at h9
      trivial
    · trivial
    · trivial
    · rw [S.links_len]; simp only [lc, ln]; omega
    · omega
    · omega
    refine ⟨(x3 + nat_lit 1), ?_⟩
    try dsimp only
    refine ⟨⟨?_, ?_⟩, ⟨?_, ?_⟩⟩
    · omega
    · rw [S.link_V h2 (by omega), S.links_succ]
    · omega
    simp only [S.meas, S.len]; omega
  intro h10
  try simp only [df] at h10
  refine ⟨?_, ?_⟩
  · simp only [S.dE, h2]; rfl
  simp only [S.dLinks, h2, if_true]; rw [show x3 = d.length + 1 by omega]; rfl
theorem H_a103 (d : List (List UInt8 × List Int)) (t : List UInt8) (hp : S.dictPre d) (hf : Vg.Row.ok (Vg.PS.flat [.one (.slice [.str, .slice [.int .i64]]), .one (.str)]) (d, t)) : V_a103 d t := by
  unfold V_a103
  have hr_d : d.length ≤ 9223372036854775807 := hf.1.1
  have hr_t : t.length ≤ 9223372036854775807 := hf.2.1
  clear hf
  have hp0 := hp.1
  refine ⟨?_, ⟨?_, ?_⟩⟩
  · omega
  · intro h1
    try simp only [nt] at h1
    refine ⟨?_, ?_⟩
    · exact (S.dFind_no h1).1
    exact (S.dFind_no h1).2
  intro h2
  try simp only [nf] at h2
  refine ⟨?_, ?_⟩
  · refine ⟨(nat_lit 0 : Nat), ?_⟩
    try dsimp only
    refine ⟨⟨?_, ?_⟩, ?_⟩
    · omega
    · rfl
    omega
  intro x3
  intro h4
  refine ⟨?_, ?_⟩
  · intro h5
    try simp only [dt] at h5
    refine ⟨⟨?_, ?_⟩, ⟨⟨?_, ?_⟩, ?_⟩⟩
    · omega
    · omega
    · omega
    · omega
    refine ⟨(x3 + nat_lit 1), ?_⟩
    try dsimp only
    refine ⟨⟨?_, ?_⟩, ⟨?_, ?_⟩⟩
    · omega
    · exact S.find_V d t x3
    · omega
    simp only [S.meas, S.len]; omega
  intro h6
  try simp only [df] at h6
  refine ⟨⟨?_, ?_⟩, ⟨?_, ?_⟩⟩
  · intro h7
    try simp only [dt] at h7
    refine ⟨?_, ?_⟩
    · omega
    have := (S.find_le (d := d) (t := t) x3).2; omega
  · intro h8
    try simp only [df] at h8
    trivial
  · rw [show x3 = d.length by omega, S.dFind_V h2]; cases decide (0 ≤ S.dFind d t) <;> rfl
  rw [show x3 = d.length by omega]; exact S.findB_V h2
theorem H_a104 (d : List (List UInt8 × List Int)) (t : List UInt8) (hp : S.dictPre d) (hf : Vg.Row.ok (Vg.PS.flat [.one (.slice [.str, .slice [.int .i64]]), .one (.str)]) (d, t)) : V_a104 d t := by
  unfold V_a104
  have hr_d : d.length ≤ 9223372036854775807 := hf.1.1
  have hr_t : t.length ≤ 9223372036854775807 := hf.2.1
  clear hf
  have hp0 := hp
  refine ⟨?_, ⟨?_, ?_⟩⟩
  · exact hp
  · intro h1
    try simp only [nt] at h1
    exact S.docs_0 h1
  intro h2
  try simp only [nf] at h2
  refine ⟨⟨?_, ?_⟩, ⟨?_, ?_⟩⟩
  · exact (S.docs_1 h2).1
  · exact (S.docs_1 h2).2.1
  · exact S.docs_2 h2
  exact (S.docs_1 h2).2.2
theorem H_a134 (docs : List (List UInt8)) (hp : True) (hf : Vg.Row.ok (Vg.PS.flat [.one (.slice [.slice [.int .u8]])]) docs) : V_a134 docs := by
  unfold V_a134
  have hr_docs : docs.length ≤ 9223372036854775807 := hf.1.1
  clear hf
  refine ⟨?_, ?_⟩
  · refine ⟨(nat_lit 0 : Nat), ?_⟩
    try dsimp only
    refine ⟨?_, ?_⟩
    · omega
    exact S.gb_0 docs
  intro x1
  intro h2
  refine ⟨?_, ?_⟩
  · intro h3
    try simp only [dt] at h3
    refine ⟨⟨?_, ?_⟩, ⟨?_, ?_⟩⟩
    · omega
    · omega
    · intro h4
      try simp only [dt, tn] at h4
      exact S.gb_bad h3 h4
    intro h5
    try simp only [df, tn] at h5
    refine ⟨⟨?_, ?_⟩, ?_⟩
    · omega
    · omega
    refine ⟨(x1 + nat_lit 1), ?_⟩
    try dsimp only
    refine ⟨?_, ⟨?_, ?_⟩⟩
    · omega
    · exact S.gb_step h2 h3 h5
    simp only [S.meas, S.len]; omega
  intro h6
  try simp only [df] at h6
  exact S.gb_end h2 h6
theorem H_a135  (hp : True) (hf : Vg.Row.ok (Vg.PS.flat []) ()) : V_a135  := by
  unfold V_a135
  clear hf
  refine ⟨?_, ⟨?_, ⟨?_, ⟨?_, ⟨?_, ?_⟩⟩⟩⟩⟩
  · trivial
  · trivial
  · trivial
  · trivial
  · intro h1
    try simp only [V.bor, nt, df] at h1
    trivial
  intro h2
  try simp only [V.bor_f, nf, dt] at h2
  refine ⟨⟨?_, ?_⟩, ⟨?_, ⟨?_, ⟨⟨?_, ?_⟩, ?_⟩⟩⟩⟩
  · trivial
  · trivial
  · trivial
  · trivial
  · intro h3
    try simp only [dt] at h3
    refine ⟨?_, ?_⟩
    · intro h4
      try simp only [dt] at h4
      refine ⟨⟨?_, ?_⟩, ⟨?_, ?_⟩⟩
      · trivial
      · trivial
      · intro h5
        try simp only [dt] at h5
        refine ⟨⟨?_, ?_⟩, ⟨?_, ⟨?_, ?_⟩⟩⟩
        · trivial
        · trivial
        · trivial
        · intro h6
          refine ⟨?_, ⟨?_, ⟨?_, ?_⟩⟩⟩
          · trivial
          · trivial
          · intro h7
            refine ⟨?_, ?_⟩
            · intro h8
              try simp only [dt] at h8
              refine ⟨?_, ?_⟩
              · intro h9
                try simp only [dt] at h9
                refine ⟨?_, ?_⟩
                · intro h10
                  try simp only [dt] at h10
                  trivial
                intro h11
                try simp only [df] at h11
                trivial
              intro h12
              try simp only [df] at h12
              trivial
            intro h13
            try simp only [df] at h13
            trivial
          intro h14
          trivial
        intro h15
        trivial
      intro h16
      try simp only [df] at h16
      trivial
    intro h17
    try simp only [df] at h17
    trivial
  · intro h18
    try simp only [df] at h18
    trivial
  trivial
theorem H_a145 (docs : List (List UInt8)) (s1 : Int) (s2 : Int) (t : List UInt8) (hp : True) (hf : Vg.Row.ok (Vg.PS.flat [.one (.slice [.slice [.int .u8]]), .agg [.int .i64, .int .i64], .one (.str)]) (docs, s1, s2, t)) : V_a145 docs s1 s2 t := by
  unfold V_a145
  have hr_docs : docs.length ≤ 9223372036854775807 := hf.1.1
  have hr_s1 : -9223372036854775808 ≤ s1 ∧ s1 ≤ 9223372036854775807 := hf.2.1
  have hr_s2 : -9223372036854775808 ≤ s2 ∧ s2 ≤ 9223372036854775807 := hf.2.2.1
  have hr_t : t.length ≤ 9223372036854775807 := hf.2.2.2.1
  clear hf
  refine ⟨?_, ⟨?_, ?_⟩⟩
  · trivial
  · intro h1
    try simp only [V.bor, dt] at h1
    refine ⟨?_, ?_⟩
    · trivial
    · rfl
  · intro h2
    try simp only [V.bor_f, df] at h2
    refine ⟨?_, ⟨?_, ?_⟩⟩
    · trivial
    · intro h3
      try simp only [nt, df] at h3
      refine ⟨⟨?_, ?_⟩, ?_⟩
      · intro h4
        try simp only [dt] at h4
        trivial
      · intro h5
        try simp only [df] at h5
        trivial
      · rw [S.dMake_no h3]; rfl
    · intro h6
      try simp only [nf, dt] at h6
      refine ⟨?_, ⟨?_, ?_⟩⟩
      · rw [(S.dMake_yes h6).2]; exact S.great_make h2.1 (S.dMake_yes h6).1
      · refine ⟨(nat_lit 0 : Nat), ?_⟩
        try dsimp only
        refine ⟨?_, ?_⟩
        · first | omega | trivial | (have q := (S.great_docs h2.1).1; omega)
        · exact Nat.zero_le _
      · intro x7
        intro h8
        refine ⟨?_, ?_⟩
        · intro h9
          try simp only [dt] at h9
          refine ⟨⟨?_, ?_⟩, ⟨?_, ⟨?_, ?_⟩⟩⟩
          · intro h10
            try simp only [dt] at h10
            refine ⟨?_, ?_⟩
            · intro h11
              try simp only [dt] at h11
              refine ⟨⟨?_, ?_⟩, ?_⟩
              · first | omega | trivial | (have q := (S.great_docs h2.1).1; omega)
              · first | omega | trivial | (have q := (S.great_docs h2.1).1; omega)
              · exact S.small_doc h2.1 _
            · intro h12
              try simp only [df] at h12
              trivial
          · intro h13
            try simp only [df] at h13
            trivial
          · trivial
          · intro h14
            try simp only [nt] at h14
            rw [S.docs_step h6] at h14; simp at h14
          · intro h15
            try simp only [nf] at h15
            refine ⟨⟨?_, ?_⟩, ?_⟩
            · first | omega | trivial | (have q := (S.great_docs h2.1).1; omega)
            · first | omega | trivial | (have q := (S.great_docs h2.1).1; omega)
            · refine ⟨(x7 + nat_lit 1), ?_⟩
              try dsimp only
              refine ⟨?_, ⟨?_, ?_⟩⟩
              · first | omega | trivial | (have q := (S.great_docs h2.1).1; omega)
              · show x7 + 1 ≤ _
                omega
              · simp only [S.meas, S.len]; omega
        · intro h16
          try simp only [df] at h16
          refine ⟨?_, ?_⟩
          · trivial
          · rfl
end Go
end
section
set_option linter.unusedVariables false
namespace Go.J
open Go Vg
def body (f : Func) : Code := f.body.getD .skip
def E0 : Env := { T := tab, sig := fun _ => none, glob := G0 }
abbrev p_a6 : List PS := [.one (.int .u32), .one (.int .i64)]
def F_a6 : Int × Int → Prop × AV × List AB := fun x => match x with
  | (x, k) => (S.rotPre x k, .int .u32 (S.rotl x k : Int), [])
def L_a6 : Int × Int → Nat → Option LoopAnn := fun _ _ => none
def s_a6 : Sig := sigOf p_a6 F_a6
def E_a6 : Env := Env.cons 187 s_a6 E0
abbrev p_a7 : List PS := []
def F_a7 : Unit → Prop × AV × List AB := fun x => match x with
  | () => (True, .agg [.int .u32 1779033703, .int .u32 3144134277, .int .u32 1013904242, .int .u32 2773480762, .int .u32 1359893119, .int .u32 2600822924, .int .u32 528734635, .int .u32 1541459225, .nil, .int .i64 0], [])
def L_a7 : Unit → Nat → Option LoopAnn := fun _ _ => none
def s_a7 : Sig := sigOf p_a7 F_a7
def E_a7 : Env := Env.cons 155 s_a7 E_a6
abbrev p_a8 : List PS := [.agg [.int .u32, .int .u32, .int .u32, .int .u32, .int .u32, .int .u32, .int .u32, .int .u32, .slice [.int .u8], .int .i64]]
def F_a8 : Int × Int × Int × Int × Int × Int × Int × Int × List UInt8 × Int → Prop × AV × List AB := fun x => match x with
  | (s1, s2, s3, s4, s5, s6, s7, s8, s9, s10) => (True, .bool (S.stValid s9 s10), [])
def L_a8 : Int × Int × Int × Int × Int × Int × Int × Int × List UInt8 × Int → Nat → Option LoopAnn := fun _ _ => none
def s_a8 : Sig := sigOf p_a8 F_a8
def E_a8 : Env := Env.cons 177 s_a8 E_a7
abbrev p_a9 : List PS := [.agg [.int .u32, .int .u32, .int .u32, .int .u32, .int .u32, .int .u32, .int .u32, .int .u32], .one (.slice [.int .u8])]
def F_a9 : Int × Int × Int × Int × Int × Int × Int × Int × List UInt8 → Prop × AV × List AB := fun x => match x with
  | (u1, u2, u3, u4, u5, u6, u7, u8, p) => (S.blkPre (u1, u2, u3, u4, u5, u6, u7, u8) p, .agg [.int .u32 ((S.block (u1, u2, u3, u4, u5, u6, u7, u8) p).1 : Int), .int .u32 ((S.block (u1, u2, u3, u4, u5, u6, u7, u8) p).2.1 : Int), .int .u32 ((S.block (u1, u2, u3, u4, u5, u6, u7, u8) p).2.2.1 : Int), .int .u32 ((S.block (u1, u2, u3, u4, u5, u6, u7, u8) p).2.2.2.1 : Int), .int .u32 ((S.block (u1, u2, u3, u4, u5, u6, u7, u8) p).2.2.2.2.1 : Int), .int .u32 ((S.block (u1, u2, u3, u4, u5, u6, u7, u8) p).2.2.2.2.2.1 : Int), .int .u32 ((S.block (u1, u2, u3, u4, u5, u6, u7, u8) p).2.2.2.2.2.2.1 : Int), .int .u32 ((S.block (u1, u2, u3, u4, u5, u6, u7, u8) p).2.2.2.2.2.2.2 : Int)], [])
def L_a9 : Int × Int × Int × Int × Int × Int × Int × Int × List UInt8 → Nat → Option LoopAnn := fun x => match x with
  | (u1, u2, u3, u4, u5, u6, u7, u8, p) => fun id => (match id with
    | 0 => some { τ := Nat, slots := [(26, fun k => .int .i64 ((k : Nat) : Int))], keys := [(5, fun k => .arr [.int .u32] (S.schedArr p k))], ren := [], drop := [], ties := [], inv := fun k => S.leN k 16, meas := fun k => S.meas 16 k }
    | 2 => some { τ := Nat, slots := [(7, fun k => .int .i64 ((k : Nat) : Int))], keys := [(5, fun k => .arr [.int .u32] (S.schedArr p k))], ren := [], drop := [], ties := [], inv := fun k => 16 ≤ k ∧ k ≤ 64, meas := fun k => S.meas 64 k }
    | 4 => some { τ := Nat, slots := [(124, fun k => .int .i64 ((k : Nat) : Int)), (12, fun k => .int .u32 (S.rnds (S.sched p 64) (u1, u2, u3, u4, u5, u6, u7, u8) k).1), (13, fun k => .int .u32 (S.rnds (S.sched p 64) (u1, u2, u3, u4, u5, u6, u7, u8) k).2.1), (14, fun k => .int .u32 (S.rnds (S.sched p 64) (u1, u2, u3, u4, u5, u6, u7, u8) k).2.2.1), (15, fun k => .int .u32 (S.rnds (S.sched p 64) (u1, u2, u3, u4, u5, u6, u7, u8) k).2.2.2.1), (16, fun k => .int .u32 (S.rnds (S.sched p 64) (u1, u2, u3, u4, u5, u6, u7, u8) k).2.2.2.2.1), (17, fun k => .int .u32 (S.rnds (S.sched p 64) (u1, u2, u3, u4, u5, u6, u7, u8) k).2.2.2.2.2.1), (18, fun k => .int .u32 (S.rnds (S.sched p 64) (u1, u2, u3, u4, u5, u6, u7, u8) k).2.2.2.2.2.2.1), (19, fun k => .int .u32 (S.rnds (S.sched p 64) (u1, u2, u3, u4, u5, u6, u7, u8) k).2.2.2.2.2.2.2)], keys := [], ren := [], drop := [], ties := [], inv := fun k => S.leN k 64, meas := fun k => S.meas 64 k }
    | _ => none)
def s_a9 : Sig := sigOf p_a9 F_a9
def E_a9 : Env := Env.cons 184 s_a9 E_a8
abbrev p_a10 : List PS := [.agg [.int .u32, .int .u32, .int .u32, .int .u32, .int .u32, .int .u32, .int .u32, .int .u32], .one (.slice [.int .u8])]
def F_a10 : Int × Int × Int × Int × Int × Int × Int × Int × List UInt8 → Prop × AV × List AB := fun x => match x with
  | (u1, u2, u3, u4, u5, u6, u7, u8, b) => (S.ok8 (u1, u2, u3, u4, u5, u6, u7, u8), .tup [.agg [.int .u32 ((((S.procAll (u1, u2, u3, u4, u5, u6, u7, u8) b, S.restOf b)).1).1 : Int), .int .u32 ((((S.procAll (u1, u2, u3, u4, u5, u6, u7, u8) b, S.restOf b)).1).2.1 : Int), .int .u32 ((((S.procAll (u1, u2, u3, u4, u5, u6, u7, u8) b, S.restOf b)).1).2.2.1 : Int), .int .u32 ((((S.procAll (u1, u2, u3, u4, u5, u6, u7, u8) b, S.restOf b)).1).2.2.2.1 : Int), .int .u32 ((((S.procAll (u1, u2, u3, u4, u5, u6, u7, u8) b, S.restOf b)).1).2.2.2.2.1 : Int), .int .u32 ((((S.procAll (u1, u2, u3, u4, u5, u6, u7, u8) b, S.restOf b)).1).2.2.2.2.2.1 : Int), .int .u32 ((((S.procAll (u1, u2, u3, u4, u5, u6, u7, u8) b, S.restOf b)).1).2.2.2.2.2.2.1 : Int), .int .u32 ((((S.procAll (u1, u2, u3, u4, u5, u6, u7, u8) b, S.restOf b)).1).2.2.2.2.2.2.2 : Int)], .sl [.int .u8] (((S.procAll (u1, u2, u3, u4, u5, u6, u7, u8) b, S.restOf b)).2)], [])
def L_a10 : Int × Int × Int × Int × Int × Int × Int × Int × List UInt8 → Nat → Option LoopAnn := fun x => match x with
  | (u1, u2, u3, u4, u5, u6, u7, u8, b) => fun id => (match id with
    | 0 => some { τ := Nat, slots := [(1, fun k => .sl [.int .u8] (S.dropBlk b k))], keys := [(2, fun k => .cells [.int .u32 (S.proc (u1, u2, u3, u4, u5, u6, u7, u8) b k).1, .int .u32 (S.proc (u1, u2, u3, u4, u5, u6, u7, u8) b k).2.1, .int .u32 (S.proc (u1, u2, u3, u4, u5, u6, u7, u8) b k).2.2.1, .int .u32 (S.proc (u1, u2, u3, u4, u5, u6, u7, u8) b k).2.2.2.1, .int .u32 (S.proc (u1, u2, u3, u4, u5, u6, u7, u8) b k).2.2.2.2.1, .int .u32 (S.proc (u1, u2, u3, u4, u5, u6, u7, u8) b k).2.2.2.2.2.1, .int .u32 (S.proc (u1, u2, u3, u4, u5, u6, u7, u8) b k).2.2.2.2.2.2.1, .int .u32 (S.proc (u1, u2, u3, u4, u5, u6, u7, u8) b k).2.2.2.2.2.2.2])], ren := [], drop := [], ties := [], inv := fun k => 64 * k ≤ b.length, meas := fun k => S.meas (S.blocks b) k }
    | _ => none)
def s_a10 : Sig := sigOf p_a10 F_a10
def E_a10 : Env := Env.cons 178 s_a10 E_a9
abbrev p_a11 : List PS := [.agg [.int .u32, .int .u32, .int .u32, .int .u32, .int .u32, .int .u32, .int .u32, .int .u32, .slice [.int .u8], .int .i64], .one (.slice [.int .u8])]
def F_a11 : Int × Int × Int × Int × Int × Int × Int × Int × List UInt8 × Int × List UInt8 → Prop × AV × List AB := fun x => match x with
  | (s1, s2, s3, s4, s5, s6, s7, s8, s9, s10, b) => (S.addPre (s1, s2, s3, s4, s5, s6, s7, s8) s9 s10 b, .agg [.int .u32 (S.procAll (s1, s2, s3, s4, s5, s6, s7, s8) b).1, .int .u32 (S.procAll (s1, s2, s3, s4, s5, s6, s7, s8) b).2.1, .int .u32 (S.procAll (s1, s2, s3, s4, s5, s6, s7, s8) b).2.2.1, .int .u32 (S.procAll (s1, s2, s3, s4, s5, s6, s7, s8) b).2.2.2.1, .int .u32 (S.procAll (s1, s2, s3, s4, s5, s6, s7, s8) b).2.2.2.2.1, .int .u32 (S.procAll (s1, s2, s3, s4, s5, s6, s7, s8) b).2.2.2.2.2.1, .int .u32 (S.procAll (s1, s2, s3, s4, s5, s6, s7, s8) b).2.2.2.2.2.2.1, .int .u32 (S.procAll (s1, s2, s3, s4, s5, s6, s7, s8) b).2.2.2.2.2.2.2, .sl [.int .u8] (S.restOf b), .int .i64 (S.lenI b)], [])
def L_a11 : Int × Int × Int × Int × Int × Int × Int × Int × List UInt8 × Int × List UInt8 → Nat → Option LoopAnn := fun _ _ => none
def s_a11 : Sig := sigOf p_a11 F_a11
def E_a11 : Env := Env.cons 154 s_a11 E_a10
abbrev p_a12 : List PS := [.agg [.int .u32, .int .u32, .int .u32, .int .u32, .int .u32, .int .u32, .int .u32, .int .u32, .slice [.int .u8], .int .i64]]
def F_a12 : Int × Int × Int × Int × Int × Int × Int × Int × List UInt8 × Int → Prop × AV × List AB := fun x => match x with
  | (s1, s2, s3, s4, s5, s6, s7, s8, s9, s10) => (S.endPre (s1, s2, s3, s4, s5, s6, s7, s8) s9 s10, .str (S.dig (S.procAll (s1, s2, s3, s4, s5, s6, s7, s8) (S.tail s9 s10))), [])
def L_a12 : Int × Int × Int × Int × Int × Int × Int × Int × List UInt8 × Int → Nat → Option LoopAnn := fun x => match x with
  | (s1, s2, s3, s4, s5, s6, s7, s8, s9, s10) => fun id => (match id with
    | 0 => some { τ := Nat, slots := [(3, fun k => .own 300)], keys := [(300, fun k => .row 5 [.int .u8] (S.tailZ s9 k) false)], ren := [(Vg.Loc.slot 3, 300)], drop := [101700, 101701, 101702, 43, 104300, 102000, 17, 102001, 102002, 20, 104301, 104302, 301], ties := [], inv := fun k => S.tailInv s9 k, meas := fun k => S.meas (S.padZ (S.len s9)) k }
    | 2 => some { τ := Nat, slots := [(32, fun k => .int .i64 ((k : Nat) : Int)), (3, fun k => .own 301)], keys := [(301, fun k => .row 5 [.int .u8] (S.tailL s9 s10 k) false)], ren := [(Vg.Loc.slot 3, 301)], drop := [300, 101700, 101701, 101702, 102700, 102701, 102702, 102000, 17, 102001, 102002, 20, 27], ties := [], inv := fun k => S.leN k 8, meas := fun k => S.meas 8 k }
    | 4 => some { τ := Nat, slots := [(54, fun k => .int .i64 ((k : Nat) : Int)), (8, fun k => .own 302)], keys := [(302, fun k => .row 5 [.int .u8] (S.digN (S.procAll (s1, s2, s3, s4, s5, s6, s7, s8) (S.tail s9 s10)) k) false)], ren := [(Vg.Loc.slot 8, 302)], drop := [52], ties := [], inv := fun k => S.leN k 8, meas := fun k => S.meas 8 k }
    | _ => none)
def s_a12 : Sig := sigOf p_a12 F_a12
def E_a12 : Env := Env.cons 153 s_a12 E_a11
abbrev p_a13 : List PS := [.one (.slice [.int .u8])]
def F_a13 : List UInt8 → Prop × AV × List AB := fun x => match x with
  | b => (S.small b, .str (S.sum b), [])
def L_a13 : List UInt8 → Nat → Option LoopAnn := fun _ _ => none
def s_a13 : Sig := sigOf p_a13 F_a13
def E_a13 : Env := Env.cons 130 s_a13 E_a12
abbrev p_a18 : List PS := [.one (.slice [.int .u8])]
def F_a18 : List UInt8 → Prop × AV × List AB := fun x => match x with
  | b => (b.length ≤ 140737488355328, .own 0, [.row 5 [.int .u8] (b) false])
def L_a18 : List UInt8 → Nat → Option LoopAnn := fun _ _ => none
def s_a18 : Sig := sigOf p_a18 F_a18
def E_a18 : Env := Env.cons 77 s_a18 E_a13
abbrev p_a19 : List TA := [.own 50000, .dat (.int .i64)]
abbrev q_a19 : List TB := [.row 5 [.int .u8]]
def F_a19 : Int → ((List UInt8) × Unit) → HRes := fun x y => match x, y with
  | v, (l, ()) => { pre := S.putPre l v, res := .own 60000, heap := [none], new := [.row 5 [.int .u8] (l ++ S.num v) false] }
def L_a19 : Int → ((List UInt8) × Unit) → Nat → Option LoopAnn := fun x y => match x, y with
  | v, (l, ()) => fun id => (match id with
    | 0 => some { τ := List UInt8 × Int, slots := [(1, fun k => .int .i64 k.2), (0, fun k => .own 300)], keys := [(300, fun k => .row 5 [.int .u8] k.1 false)], ren := [(Vg.Loc.slot 0, 300)], drop := [50000], ties := [], inv := fun k => S.putInv l v k.1 k.2, meas := fun k => k.2.toNat }
    | _ => none)
def s_a19 : HSig := hsigOf p_a19 q_a19 F_a19
def c_a19 : HSig := s_a19
def E_a19 : Env := Env.consH 109 [true, false] c_a19 E_a18
abbrev p_a20 : List TA := [.own 50000, .dat (.str)]
abbrev q_a20 : List TB := [.row 5 [.int .u8]]
def F_a20 : (List UInt8) → ((List UInt8) × Unit) → HRes := fun x y => match x, y with
  | s, (l, ()) => { pre := S.textPre l s, res := .own 60000, heap := [none], new := [.row 5 [.int .u8] (l ++ S.text s) false] }
def L_a20 : (List UInt8) → ((List UInt8) × Unit) → Nat → Option LoopAnn := fun _ _ _ => none
def s_a20 : HSig := hsigOf p_a20 q_a20 F_a20
def c_a20 : HSig := s_a20
def E_a20 : Env := Env.consH 76 [true, false] c_a20 E_a19
abbrev p_a21 : List PS := [.one (.slice [.int .u8]), .one (.int .i64)]
def F_a21 : List UInt8 × Int → Prop × AV × List AB := fun x => match x with
  | (b, v) => (b.length ≤ 35184372088832, .tup [.own 0, .int .i64 (((S.numB b v, S.numE v)).2 : Int)], [.row 5 [.int .u8] (((S.numB b v, S.numE v)).1) false])
def L_a21 : List UInt8 × Int → Nat → Option LoopAnn := fun _ _ => none
def s_a21 : Sig := sigOf p_a21 F_a21
def E_a21 : Env := Env.cons 129 s_a21 E_a20
abbrev p_a22 : List PS := [.one (.slice [.int .u8]), .one (.str)]
def F_a22 : List UInt8 × List UInt8 → Prop × AV × List AB := fun x => match x with
  | (b, s) => (S.textPre b s, .own 0, [.row 5 [.int .u8] (b ++ S.text s) false])
def L_a22 : List UInt8 × List UInt8 → Nat → Option LoopAnn := fun _ _ => none
def s_a22 : Sig := sigOf p_a22 F_a22
def E_a22 : Env := Env.cons 51 s_a22 E_a21
abbrev p_a23 : List PS := [.agg [.slice [.int .u8], .int .i64, .int .i64]]
def F_a23 : List UInt8 × Int × Int → Prop × AV × List AB := fun x => match x with
  | (r1, r2, r3) => (True, .bool (S.inside r1 r2), [])
def L_a23 : List UInt8 × Int × Int → Nat → Option LoopAnn := fun _ _ => none
def s_a23 : Sig := sigOf p_a23 F_a23
def E_a23 : Env := Env.cons 80 s_a23 E_a22
abbrev p_a24 : List PS := [.agg [.slice [.int .u8], .int .i64, .int .i64]]
def F_a24 : List UInt8 × Int × Int → Prop × AV × List AB := fun x => match x with
  | (r1, r2, r3) => (r1.length ≤ 140737488355328, .agg [.sl [.int .u8] (((r1, r2, S.startE r1 r2 r3)).1), .int .i64 (((r1, r2, S.startE r1 r2 r3)).2.1 : Int), .int .i64 (((r1, r2, S.startE r1 r2 r3)).2.2 : Int)], [])
def L_a24 : List UInt8 × Int × Int → Nat → Option LoopAnn := fun _ _ => none
def s_a24 : Sig := sigOf p_a24 F_a24
def E_a24 : Env := Env.cons 78 s_a24 E_a23
abbrev p_a25 : List PS := [.one (.slice [.int .u8]), .one (.int .i64)]
def F_a25 : List UInt8 × Int → Prop × AV × List AB := fun x => match x with
  | (b, p) => (S.atPre b p, .tup [.int .i64 ((S.getNum b p).1 : Int), .int .i64 ((S.getNum b p).2.1 : Int), .int .i64 ((S.getNum b p).2.2 : Int)], [])
def L_a25 : List UInt8 × Int → Nat → Option LoopAnn := fun x => match x with
  | (b, p) => fun id => (match id with
    | 0 => some { τ := Nat, slots := [(7, fun k => .int .i64 (S.valAt b p k)), (8, fun k => .int .i64 ((k : Nat) : Int))], keys := [], ren := [], drop := [], ties := [], inv := fun k => S.getInv b p k, meas := fun k => S.meas 9 k }
    | _ => none)
def s_a25 : Sig := sigOf p_a25 F_a25
def E_a25 : Env := Env.cons 110 s_a25 E_a24
abbrev p_a26 : List PS := [.one (.slice [.int .u8]), .one (.int .i64), .one (.int .i64)]
def F_a26 : List UInt8 × Int × Int → Prop × AV × List AB := fun x => match x with
  | (b, p, most) => (S.atPre b p, .tup [.str ((S.getText b p most).1), .int .i64 ((S.getText b p most).2.1 : Int), .int .i64 ((S.getText b p most).2.2 : Int)], [])
def L_a26 : List UInt8 × Int × Int → Nat → Option LoopAnn := fun _ _ => none
def s_a26 : Sig := sigOf p_a26 F_a26
def E_a26 : Env := Env.cons 79 s_a26 E_a25
abbrev p_a27 : List PS := [.agg [.slice [.int .u8], .int .i64, .int .i64], .one (.int .i64)]
def F_a27 : List UInt8 × Int × Int × Int → Prop × AV × List AB := fun x => match x with
  | (r1, r2, r3, most) => (r1.length ≤ 140737488355328, .tup [.agg [.sl [.int .u8] (((S.readText r1 r2 r3 most).1).1), .int .i64 (((S.readText r1 r2 r3 most).1).2.1 : Int), .int .i64 (((S.readText r1 r2 r3 most).1).2.2 : Int)], .str ((S.readText r1 r2 r3 most).2)], [])
def L_a27 : List UInt8 × Int × Int × Int → Nat → Option LoopAnn := fun _ _ => none
def s_a27 : Sig := sigOf p_a27 F_a27
def E_a27 : Env := Env.cons 52 s_a27 E_a26
abbrev p_a28 : List PS := [.agg [.slice [.int .u8], .int .i64, .int .i64]]
def F_a28 : List UInt8 × Int × Int → Prop × AV × List AB := fun x => match x with
  | (r1, r2, r3) => (r1.length ≤ 140737488355328, .tup [.agg [.sl [.int .u8] (((S.readDigest r1 r2 r3).1).1), .int .i64 (((S.readDigest r1 r2 r3).1).2.1 : Int), .int .i64 (((S.readDigest r1 r2 r3).1).2.2 : Int)], .str ((S.readDigest r1 r2 r3).2)], [])
def L_a28 : List UInt8 × Int × Int → Nat → Option LoopAnn := fun _ _ => none
def s_a28 : Sig := sigOf p_a28 F_a28
def E_a28 : Env := Env.cons 53 s_a28 E_a27
abbrev p_a29 : List PS := [.agg [.slice [.int .u8], .int .i64, .int .i64]]
def F_a29 : List UInt8 × Int × Int → Prop × AV × List AB := fun x => match x with
  | (r1, r2, r3) => (True, .int .i64 (S.done r1 r2 r3 : Int), [])
def L_a29 : List UInt8 × Int × Int → Nat → Option LoopAnn := fun _ _ => none
def s_a29 : Sig := sigOf p_a29 F_a29
def E_a29 : Env := Env.cons 54 s_a29 E_a28
abbrev p_a34 : List PS := [.one (.int .u8), .one (.slice [.slice [.int .u8]])]
def F_a34 : UInt8 × List (List UInt8) → Prop × AV × List AB := fun x => match x with
  | (kind, parts) => (S.joinPre parts, .own 0, [.row 5 [.int .u8] (S.sealJoin kind parts) false])
def L_a34 : UInt8 × List (List UInt8) → Nat → Option LoopAnn := fun x => match x with
  | (kind, parts) => fun id => (match id with
    | 0 => some { τ := Nat, slots := [(12, fun k => .int .i64 ((k : Nat) : Int)), (5, fun k => .own 300)], keys := [(300, fun k => .row 5 [.int .u8] (S.joinAt kind parts k) false)], ren := [(Vg.Loc.slot 5, 300)], drop := [9], ties := [], inv := fun k => S.minv parts k, meas := fun k => S.meas (S.len parts) k }
    | _ => none)
def s_a34 : Sig := sigOf p_a34 F_a34
def E_a34 : Env := Env.cons 156 s_a34 E_a29
abbrev p_a37 : List PS := [.one (.slice [.int .u8])]
def F_a37 : List UInt8 → Prop × AV × List AB := fun x => match x with
  | b => (S.sealPre b, .own 0, [.row 5 [.int .u8] (S.sealB 2 b) false])
def L_a37 : List UInt8 → Nat → Option LoopAnn := fun _ _ => none
def s_a37 : Sig := sigOf p_a37 F_a37
def E_a37 : Env := Env.cons 131 s_a37 E_a34
abbrev p_a40 : List PS := [.one (.slice [.int .u8])]
def F_a40 : List UInt8 → Prop × AV × List AB := fun x => match x with
  | b => (S.sealPre b, .str (S.sealD 2 b), [])
def L_a40 : List UInt8 → Nat → Option LoopAnn := fun _ _ => none
def s_a40 : Sig := sigOf p_a40 F_a40
def E_a40 : Env := Env.cons 98 s_a40 E_a37
abbrev p_a41 : List PS := [.one (.int .i64)]
def F_a41 : Int → Prop × AV × List AB := fun x => match x with
  | c => (True, .bool (S.uRight c), [])
def L_a41 : Int → Nat → Option LoopAnn := fun _ _ => none
def s_a41 : Sig := sigOf p_a41 F_a41
def E_a41 : Env := Env.cons 169 s_a41 E_a40
abbrev p_a42 : List PS := [.one (.int .i64)]
def F_a42 : Int → Prop × AV × List AB := fun x => match x with
  | c => (True, .int .i64 (S.uSize c : Int), [])
def L_a42 : Int → Nat → Option LoopAnn := fun _ _ => none
def s_a42 : Sig := sigOf p_a42 F_a42
def E_a42 : Env := Env.cons 170 s_a42 E_a41
abbrev p_a43 : List PS := [.one (.int .i64)]
def F_a43 : Int → Prop × AV × List AB := fun x => match x with
  | c => (0 ≤ c, .int .u8 ((S.more c).toNat : Int), [])
def L_a43 : Int → Nat → Option LoopAnn := fun _ _ => none
def s_a43 : Sig := sigOf p_a43 F_a43
def E_a43 : Env := Env.cons 171 s_a43 E_a42
abbrev p_a44 : List PS := [.one (.int .i64)]
def F_a44 : Int → Prop × AV × List AB := fun x => match x with
  | c => (True, .tup [.own 0, .int .i64 (((S.encR c, S.encE c)).2 : Int)], [.row 5 [.int .u8] (((S.encR c, S.encE c)).1) false])
def L_a44 : Int → Nat → Option LoopAnn := fun _ _ => none
def s_a44 : Sig := sigOf p_a44 F_a44
def E_a44 : Env := Env.cons 140 s_a44 E_a43
abbrev p_a45 : List PS := [.one (.slice [.int .u8])]
def F_a45 : List UInt8 → Prop × AV × List AB := fun x => match x with
  | b => (0 < b.length, .tup [.int .i64 ((S.uFirst b).1 : Int), .int .i64 ((S.uFirst b).2 : Int)], [])
def L_a45 : List UInt8 → Nat → Option LoopAnn := fun x => match x with
  | b => fun id => (match id with
    | 1 => some { τ := Nat, slots := [(42, fun k => .int .i64 ((k : Nat) : Int)), (4, fun k => .int .i64 (S.uAcc b k))], keys := [], ren := [], drop := [], ties := [], inv := fun k => S.uInv b k, meas := fun k => S.meas 4 k }
    | _ => none)
def s_a45 : Sig := sigOf p_a45 F_a45
def E_a45 : Env := Env.cons 139 s_a45 E_a44
abbrev p_a46 : List PS := [.one (.slice [.int .u8])]
def F_a46 : List UInt8 → Prop × AV × List AB := fun x => match x with
  | b => (S.small b, .own 0, [.row 3 [.int .i64] (S.decode b) false])
def L_a46 : List UInt8 → Nat → Option LoopAnn := fun x => match x with
  | b => fun id => (match id with
    | 0 => some { τ := List UInt8 × List Int, slots := [(0, fun k => .sl [.int .u8] k.1), (3, fun k => .own 300)], keys := [(300, fun k => .row 3 [.int .i64] k.2 false)], ren := [(Vg.Loc.slot 3, 300)], drop := [], ties := [], inv := fun k => S.decInv b k.1 k.2, meas := fun k => S.len k.1 }
    | _ => none)
def s_a46 : Sig := sigOf p_a46 F_a46
def E_a46 : Env := Env.cons 115 s_a46 E_a45
abbrev p_a47 : List PS := [.one (.int .i64)]
def F_a47 : Int → Prop × AV × List AB := fun x => match x with
  | c => (True, .bool (S.letter c), [])
def L_a47 : Int → Nat → Option LoopAnn := fun x => match x with
  | c => fun id => (match id with
    | 0 => some { τ := Nat, slots := [(6, fun k => .int .i64 ((k : Nat) : Int))], keys := [], ren := [], drop := [], ties := [], inv := fun k => S.noLetter c k, meas := fun k => S.meas 9 k }
    | _ => none)
def s_a47 : Sig := sigOf p_a47 F_a47
def E_a47 : Env := Env.cons 116 s_a47 E_a46
abbrev p_a48 : List PS := [.one (.int .i64)]
def F_a48 : Int → Prop × AV × List AB := fun x => match x with
  | c => (True, .bool (S.digit c), [])
def L_a48 : Int → Nat → Option LoopAnn := fun _ _ => none
def s_a48 : Sig := sigOf p_a48 F_a48
def E_a48 : Env := Env.cons 117 s_a48 E_a47
abbrev p_a49 : List PS := [.one (.int .i64)]
def F_a49 : Int → Prop × AV × List AB := fun x => match x with
  | c => (True, .int .i64 (S.smallC c : Int), [])
def L_a49 : Int → Nat → Option LoopAnn := fun x => match x with
  | c => fun id => (match id with
    | 0 => some { τ := Nat, slots := [(6, fun k => .int .i64 ((k : Nat) : Int))], keys := [], ren := [], drop := [], ties := [], inv := fun k => S.noShift c k, meas := fun k => S.meas 7 k }
    | _ => none)
def s_a49 : Sig := sigOf p_a49 F_a49
def E_a49 : Env := Env.cons 141 s_a49 E_a48
abbrev p_a50 : List PS := [.one (.int .i64), .one (.int .i64), .one (.int .i64)]
def F_a50 : Int × Int × Int → Prop × AV × List AB := fun x => match x with
  | (c, a, b) => (True, .bool (S.inI c a b), [])
def L_a50 : Int × Int × Int → Nat → Option LoopAnn := fun _ _ => none
def s_a50 : Sig := sigOf p_a50 F_a50
def E_a50 : Env := Env.cons 134 s_a50 E_a49
abbrev p_a51 : List PS := [.one (.int .i64)]
def F_a51 : Int → Prop × AV × List AB := fun x => match x with
  | c => (True, .bool (S.rRight c), [])
def L_a51 : Int → Nat → Option LoopAnn := fun _ _ => none
def s_a51 : Sig := sigOf p_a51 F_a51
def E_a51 : Env := Env.cons 124 s_a51 E_a50
abbrev p_a52 : List PS := [.one (.int .i64)]
def F_a52 : Int → Prop × AV × List AB := fun x => match x with
  | c => (0 ≤ c ∧ c ≤ 1114111, .own 0, [.row 5 [.int .u8] (S.enc c) false])
def L_a52 : Int → Nat → Option LoopAnn := fun _ _ => none
def s_a52 : Sig := sigOf p_a52 F_a52
def E_a52 : Env := Env.cons 125 s_a52 E_a51
abbrev p_a53 : List PS := [.one (.int .i64), .one (.int .i64)]
def F_a53 : Int × Int → Prop × AV × List AB := fun x => match x with
  | (a, b) => (True, .int .i64 (S.leastI a b : Int), [])
def L_a53 : Int × Int → Nat → Option LoopAnn := fun _ _ => none
def s_a53 : Sig := sigOf p_a53 F_a53
def E_a53 : Env := Env.cons 126 s_a53 E_a52
abbrev p_a54 : List PS := [.one (.int .i64)]
def F_a54 : Int → Prop × AV × List AB := fun x => match x with
  | c => (True, .bool (S.letter c), [])
def L_a54 : Int → Nat → Option LoopAnn := fun _ _ => none
def s_a54 : Sig := sigOf p_a54 F_a54
def E_a54 : Env := Env.cons 127 s_a54 E_a53
abbrev p_a55 : List PS := [.one (.int .i64)]
def F_a55 : Int → Prop × AV × List AB := fun x => match x with
  | c => (True, .int .i64 (S.smallC c : Int), [])
def L_a55 : Int → Nat → Option LoopAnn := fun _ _ => none
def s_a55 : Sig := sigOf p_a55 F_a55
def E_a55 : Env := Env.cons 102 s_a55 E_a54
abbrev p_a56 : List PS := [.one (.slice [.int .u8]), .one (.int .i64)]
def F_a56 : List UInt8 × Int → Prop × AV × List AB := fun x => match x with
  | (b, n) => (S.begPre b n, .int .i64 (S.begins b n : Int), [])
def L_a56 : List UInt8 × Int → Nat → Option LoopAnn := fun x => match x with
  | (b, n) => fun id => (match id with
    | 0 => some { τ := Nat, slots := [(7, fun k => .int .i64 ((k : Nat) : Int)), (6, fun k => .int .i64 (S.bAcc b n (k - 1)))], keys := [], ren := [], drop := [], ties := [], inv := fun k => S.begInv b n k, meas := fun k => S.meas n.toNat k }
    | _ => none)
def s_a56 : Sig := sigOf p_a56 F_a56
def E_a56 : Env := Env.cons 123 s_a56 E_a55
abbrev p_a57 : List PS := [.one (.slice [.int .u8])]
def F_a57 : List UInt8 → Prop × AV × List AB := fun x => match x with
  | b => (S.small b, .own 0, [.row 3 [.int .i64] (S.decode b) false])
def L_a57 : List UInt8 → Nat → Option LoopAnn := fun x => match x with
  | b => fun id => (match id with
    | 0 => some { τ := Nat × List Int, slots := [(4, fun k => .int .i64 ((k.1 : Nat) : Int)), (3, fun k => .own 300)], keys := [(300, fun k => .row 3 [.int .i64] k.2 false)], ren := [(Vg.Loc.slot 3, 300)], drop := [], ties := [], inv := fun k => S.decInv b (b.drop k.1) k.2 ∧ k.1 ≤ b.length, meas := fun k => S.meas (S.len b) k.1 }
    | 2 => some { τ := Nat × Nat, slots := [(7, fun k => .int .i64 ((k.1 + 1 : Nat) : Int)), (5, fun k => .int .i64 (S.pickK (b.drop k.2) k.1).1), (6, fun k => .int .i64 (S.pickK (b.drop k.2) k.1).2)], keys := [], ren := [], drop := [], ties := [(4, fun k => .int .i64 ((k.2 : Nat) : Int))], inv := fun k => k.1 ≤ 4, meas := fun k => S.meas 4 k.1 }
    | _ => none)
def s_a57 : Sig := sigOf p_a57 F_a57
def E_a57 : Env := Env.cons 89 s_a57 E_a56
abbrev p_a58 : List PS := [.one (.slice [.int .i64])]
def F_a58 : List Int → Prop × AV × List AB := fun x => match x with
  | u => (S.okC u, .str (S.termOf u), [])
def L_a58 : List Int → Nat → Option LoopAnn := fun x => match x with
  | u => fun id => (match id with
    | 0 => some { τ := Nat × List UInt8, slots := [(10, fun k => .int .i64 ((k.1 : Nat) : Int)), (3, fun k => .own 300)], keys := [(300, fun k => .row 5 [.int .u8] k.2 false)], ren := [(Vg.Loc.slot 3, 300)], drop := [], ties := [], inv := fun k => S.termInv u k.1 k.2, meas := fun k => S.meas (S.len u) k.1 }
    | _ => none)
def s_a58 : Sig := sigOf p_a58 F_a58
def E_a58 : Env := Env.cons 118 s_a58 E_a57
abbrev p_a59 : List PS := [.one (.slice [.int .u8])]
def F_a59 : List UInt8 → Prop × AV × List AB := fun x => match x with
  | b => (S.small b, .own 0, [.row 9 [.str] (S.terms b) false])
def L_a59 : List UInt8 → Nat → Option LoopAnn := fun x => match x with
  | b => fun id => (match id with
    | 0 => some { τ := Nat × List (List UInt8) × List Int, slots := [(10, fun k => .int .i64 ((k.1 : Nat) : Int)), (3, fun k => .own 300), (4, fun k => .own 301)], keys := [(300, fun k => .row 9 [.str] k.2.1 false), (301, fun k => .row 3 [.int .i64] k.2.2 false)], ren := [(Vg.Loc.slot 3, 300), (Vg.Loc.slot 4, 301)], drop := [104000, 104001, 104002, 40], ties := [], inv := fun k => S.tokInv (S.decode b) k.1 k.2.1 k.2.2, meas := fun k => S.meas (S.len (S.decode b)) k.1 }
    | _ => none)
def s_a59 : Sig := sigOf p_a59 F_a59
def E_a59 : Env := Env.cons 84 s_a59 E_a58
abbrev p_a60 : List PS := [.one (.str)]
def F_a60 : List UInt8 → Prop × AV × List AB := fun x => match x with
  | s => (S.small s, .bool (S.isTerm s), [])
def L_a60 : List UInt8 → Nat → Option LoopAnn := fun _ _ => none
def s_a60 : Sig := sigOf p_a60 F_a60
def E_a60 : Env := Env.cons 72 s_a60 E_a59
abbrev p_a61 : List PS := [.one (.int .i64)]
def F_a61 : Int → Prop × AV × List AB := fun x => match x with
  | c => (True, .bool (S.wordC c), [])
def L_a61 : Int → Nat → Option LoopAnn := fun _ _ => none
def s_a61 : Sig := sigOf p_a61 F_a61
def E_a61 : Env := Env.cons 90 s_a61 E_a60
abbrev p_a62 : List PS := [.one (.slice [.int .i64])]
def F_a62 : List Int → Prop × AV × List AB := fun x => match x with
  | u => (S.okC u, .str (S.termOf u), [])
def L_a62 : List Int → Nat → Option LoopAnn := fun x => match x with
  | u => fun id => (match id with
    | 0 => some { τ := Nat × List UInt8, slots := [(4, fun k => .int .i64 ((k.1 : Nat) : Int)), (3, fun k => .str k.2)], keys := [], ren := [], drop := [], ties := [], inv := fun k => S.termInv u k.1 k.2, meas := fun k => S.meas (S.len u) k.1 }
    | _ => none)
def s_a62 : Sig := sigOf p_a62 F_a62
def E_a62 : Env := Env.cons 91 s_a62 E_a61
abbrev p_a63 : List PS := [.one (.slice [.int .u8])]
def F_a63 : List UInt8 → Prop × AV × List AB := fun x => match x with
  | b => (S.small b, .own 0, [.row 9 [.str] (S.terms b) false])
def L_a63 : List UInt8 → Nat → Option LoopAnn := fun x => match x with
  | b => fun id => (match id with
    | 0 => some { τ := Nat × List (List UInt8), slots := [(5, fun k => .int .i64 ((k.1 : Nat) : Int)), (4, fun k => .own 300)], keys := [(300, fun k => .row 9 [.str] k.2 false)], ren := [(Vg.Loc.slot 4, 300)], drop := [], ties := [], inv := fun k => S.rtokInv (S.decode b) k.1 k.2, meas := fun k => S.meas (S.len (S.decode b) + 1) k.1 }
    | 2 => some { τ := Nat × Nat, slots := [(6, fun k => .int .i64 ((k.1 : Nat) : Int))], keys := [], ren := [], drop := [], ties := [(5, fun k => .int .i64 ((k.2 : Nat) : Int))], inv := fun k => S.runInv (S.decode b) k.2 k.1, meas := fun k => S.meas (S.len (S.decode b)) k.1 }
    | _ => none)
def s_a63 : Sig := sigOf p_a63 F_a63
def E_a63 : Env := Env.cons 60 s_a63 E_a62
abbrev p_a67 : List PS := [.one (.slice [.int .u8]), .one (.str)]
def F_a67 : List UInt8 × List UInt8 → Prop × AV × List AB := fun x => match x with
  | (b, t) => (S.small b, .own 0, [.row 3 [.int .i64] (S.places b t) false])
def L_a67 : List UInt8 × List UInt8 → Nat → Option LoopAnn := fun x => match x with
  | (b, t) => fun id => (match id with
    | 0 => some { τ := Nat × List Int, slots := [(7, fun k => .int .i64 ((k.1 : Nat) : Int)), (6, fun k => .own 300)], keys := [(300, fun k => .row 3 [.int .i64] k.2 false)], ren := [(Vg.Loc.slot 6, 300)], drop := [], ties := [], inv := fun k => S.placeInv (S.terms b) t k.1 k.2, meas := fun k => S.meas (S.len (S.terms b)) k.1 }
    | _ => none)
def s_a67 : Sig := sigOf p_a67 F_a67
def E_a67 : Env := Env.cons 25 s_a67 E_a63
abbrev p_a69 : List PS := [.one (.str)]
def F_a69 : List UInt8 → Prop × AV × List AB := fun x => match x with
  | s => (True, .bool false, [])
def L_a69 : List UInt8 → Nat → Option LoopAnn := fun _ _ => none
def s_a69 : Sig := sigOf p_a69 F_a69
def E_a69 : Env := Env.cons 119 s_a69 E_a67
abbrev p_a70 : List PS := [.one (.str), .one (.str)]
def F_a70 : List UInt8 × List UInt8 → Prop × AV × List AB := fun x => match x with
  | (a, b) => (True, .int .i64 (S.cmpS a b : Int), [])
def L_a70 : List UInt8 × List UInt8 → Nat → Option LoopAnn := fun _ _ => none
def s_a70 : Sig := sigOf p_a70 F_a70
def E_a70 : Env := Env.cons 85 s_a70 E_a69
abbrev p_a71 : List TA := [.dat (.str), .dat (.str), .ref 50000 0]
abbrev q_a71 : List TB := [.cells [.fn (.func 85) [] []]]
def F_a71 : (List UInt8 × List UInt8) → (Unit × Unit) → HRes := fun x y => match x, y with
  | (a, b), ((), ()) => { pre := True, res := .bool (decide (a = b)), heap := [some (.cells [.fn (.func 85) [] []])], new := [] }
def L_a71 : (List UInt8 × List UInt8) → (Unit × Unit) → Nat → Option LoopAnn := fun _ _ _ => none
def s_a71 : HSig := hsigOf p_a71 q_a71 F_a71
def c_a71 : HSig := s_a71
def E_a71 : Env := Env.consH 114 [false, false, true] c_a71 E_a70
abbrev p_a72 : List TA := [.own 50000, .fn (.func 114) [] [.ref 50001 0]]
abbrev q_a72 : List TB := [.row 9 [.str], .cells [.fn (.func 85) [] []]]
def F_a72 : Unit → ((List (List UInt8)) × Unit × Unit) → HRes := fun x y => match x, y with
  | (), (l, ((), ())) => { pre := S.small l, res := .own 60000, heap := [none, some (.cells [.fn (.func 85) [] []])], new := [.row 9 [.str] (S.compact l) false] }
def L_a72 : Unit → ((List (List UInt8)) × Unit × Unit) → Nat → Option LoopAnn := fun x y => match x, y with
  | (), (l, ((), ())) => fun id => (match id with
    | 0 => some { τ := Nat, slots := [(5, fun k => .int .i64 ((k : Nat) : Int))], keys := [(50001, fun k => .cells [.fn (.func 85) [] []])], ren := [], drop := [], ties := [], inv := fun k => S.cmpInv l k, meas := fun k => S.meas (S.len l) k }
    | 2 => some { τ := Nat × Nat × List (List UInt8) × Nat, slots := [(5, fun k => .int .i64 ((k.1 : Nat) : Int)), (7, fun k => .int .i64 ((k.2.1 : Nat) : Int))], keys := [(50000, fun k => .row 9 [.str] k.2.2.1 false), (50001, fun k => .cells [.fn (.func 85) [] []])], ren := [], drop := [], ties := [(30, fun k => .int .i64 ((k.2.2.2 : Nat) : Int))], inv := fun k => S.cmpInv2 l k.2.2.2 k.1 k.2.1 k.2.2.1, meas := fun k => S.meas (S.len l) k.2.1 }
    | _ => none)
def s_a72 : HSig := hsigOf p_a72 q_a72 F_a72
def c_a72 : HSig := s_a72
def E_a72 : Env := Env.consH 113 [true, true] c_a72 E_a71
abbrev p_a73 : List PS := [.one (.slice [.str])]
def F_a73 : List (List UInt8) → Prop × AV × List AB := fun x => match x with
  | l => (S.small l, .own 0, [.row 9 [.str] (l) false])
def s_a73 : Sig := sigOf p_a73 F_a73
def E_a73 : Env := Env.cons 111 s_a73 E_a72
abbrev p_a74 : List PS := [.one (.slice [.int .i64])]
def F_a74 : List Int → Prop × AV × List AB := fun x => match x with
  | l => (S.small l, .own 0, [.row 3 [.int .i64] (l) false])
def s_a74 : Sig := sigOf p_a74 F_a74
def E_a74 : Env := Env.cons 50 s_a74 E_a73
abbrev p_a75 : List TA := [.own 50000, .fn (.func 85) [] []]
abbrev q_a75 : List TB := [.row 9 [.str]]
def F_a75 : Unit → ((List (List UInt8)) × Unit) → HRes := fun x y => match x, y with
  | (), (l, ()) => { pre := S.small l, res := .tup [], heap := [some (.row 9 [.str] (S.sortS l) false)], new := [] }
def s_a75 : HSig := hsigOf p_a75 q_a75 F_a75
def c_a75 : HSig := s_a75
def E_a75 : Env := Env.consH 112 [true, true] c_a75 E_a74
abbrev p_a76 : List TA := [.dat (.slice [.str]), .fn (.func 85) [] []]
abbrev q_a76 : List TB := []
def F_a76 : (List (List UInt8)) → Unit → HRes := fun x y => match x, y with
  | l, () => { pre := S.small l, res := .own 60000, heap := [], new := [.row 9 [.str] (S.compact (S.sortS l)) false] }
def L_a76 : (List (List UInt8)) → Unit → Nat → Option LoopAnn := fun _ _ _ => none
def s_a76 : HSig := hsigOf p_a76 q_a76 F_a76
def c_a76 : HSig := s_a76
def E_a76 : Env := Env.consH 83 [false, true] c_a76 E_a75
abbrev p_a77 : List PS := [.one (.slice [.int .u8])]
def F_a77 : List UInt8 → Prop × AV × List AB := fun x => match x with
  | b => (S.small b, .own 0, [.row 9 [.str] (S.sorted (S.terms b)) false])
def L_a77 : List UInt8 → Nat → Option LoopAnn := fun _ _ => none
def s_a77 : Sig := sigOf p_a77 F_a77
def E_a77 : Env := Env.cons 57 s_a77 E_a76
abbrev p_a87 : List PS := [.one (.slice [.int .i64])]
def F_a87 : List Int → Prop × AV × List AB := fun x => match x with
  | l => (True, .bool (S.postR l), [])
def L_a87 : List Int → Nat → Option LoopAnn := fun x => match x with
  | l => fun id => (match id with
    | 0 => some { τ := Nat, slots := [(8, fun k => .int .i64 ((k : Nat) : Int)), (3, fun k => .int .i64 (S.prevI l k))], keys := [], ren := [], drop := [], ties := [], inv := fun k => S.postInv l k, meas := fun k => S.meas (S.len l) k }
    | _ => none)
def s_a87 : Sig := sigOf p_a87 F_a87
def E_a87 : Env := Env.cons 71 s_a87 E_a77
abbrev p_a88 : List PS := [.one (.slice [.int .i64])]
def F_a88 : List Int → Prop × AV × List AB := fun x => match x with
  | l => (True, .tup [.own 0, .int .i64 (((S.postW l, S.postE l)).2 : Int)], [.row 5 [.int .u8] (((S.postW l, S.postE l)).1) false])
def L_a88 : List Int → Nat → Option LoopAnn := fun x => match x with
  | l => fun id => (match id with
    | 0 => some { τ := Nat, slots := [(22, fun k => .int .i64 ((k : Nat) : Int)), (6, fun k => .int .i64 (S.prevI l k)), (4, fun k => .own 300)], keys := [(300, fun k => .row 5 [.int .u8] (S.postTo l k) false)], ren := [(Vg.Loc.slot 4, 300)], drop := [101700, 101701, 101702, 17], ties := [], inv := fun k => k ≤ l.length, meas := fun k => S.meas (S.len l) k }
    | _ => none)
def s_a88 : Sig := sigOf p_a88 F_a88
def E_a88 : Env := Env.cons 97 s_a88 E_a87
abbrev p_a89 : List PS := [.one (.slice [.int .i64])]
def F_a89 : List Int → Prop × AV × List AB := fun x => match x with
  | l => (True, .tup [.str (((S.postD l, S.postE l)).1), .int .i64 (((S.postD l, S.postE l)).2 : Int)], [])
def L_a89 : List Int → Nat → Option LoopAnn := fun _ _ => none
def s_a89 : Sig := sigOf p_a89 F_a89
def E_a89 : Env := Env.cons 66 s_a89 E_a88
abbrev p_a96 : List PS := [.one (.slice [.int .i64]), .one (.slice [.int .i64])]
def F_a96 : List Int × List Int → Prop × AV × List AB := fun x => match x with
  | (a, b) => (True, .bool (S.sameL a b), [])
def L_a96 : List Int × List Int → Nat → Option LoopAnn := fun x => match x with
  | (a, b) => fun id => (match id with
    | 0 => some { τ := Nat, slots := [(5, fun k => .int .i64 ((k : Nat) : Int))], keys := [], ren := [], drop := [], ties := [], inv := fun k => S.sameTo a b k, meas := fun k => S.meas (S.len a) k }
    | _ => none)
def s_a96 : Sig := sigOf p_a96 F_a96
def E_a96 : Env := Env.cons 15 s_a96 E_a89
abbrev p_a97 : List PS := [.one (.slice [.int .i64]), .one (.int .i64)]
def F_a97 : List Int × Int → Prop × AV × List AB := fun x => match x with
  | (l, n) => (True, .bool (S.hasL l n), [])
def L_a97 : List Int × Int → Nat → Option LoopAnn := fun x => match x with
  | (l, n) => fun id => (match id with
    | 0 => some { τ := Nat, slots := [(5, fun k => .int .i64 ((k : Nat) : Int))], keys := [], ren := [], drop := [], ties := [], inv := fun k => S.hasTo l n k, meas := fun k => S.meas (S.len l) k }
    | _ => none)
def s_a97 : Sig := sigOf p_a97 F_a97
def E_a97 : Env := Env.cons 26 s_a97 E_a96
abbrev p_a98 : List PS := [.one (.slice [.str, .slice [.int .i64]])]
def F_a98 : List (List UInt8 × List Int) → Prop × AV × List AB := fun x => match x with
  | d => (S.dictPre d, .bool (S.dRight d), [])
def L_a98 : List (List UInt8 × List Int) → Nat → Option LoopAnn := fun x => match x with
  | d => fun id => (match id with
    | 0 => some { τ := Nat, slots := [(7, fun k => .int .i64 ((k : Nat) : Int))], keys := [], ren := [], drop := [], ties := [], inv := fun k => S.dInv d k, meas := fun k => S.meas (S.len d) k }
    | _ => none)
def s_a98 : Sig := sigOf p_a98 F_a98
def E_a98 : Env := Env.cons 46 s_a98 E_a97
abbrev p_a99 : List PS := [.agg [.str, .str, .str]]
def F_a99 : List UInt8 × List UInt8 × List UInt8 → Prop × AV × List AB := fun x => match x with
  | (l1, l2, l3) => (True, .tup [.sl [.int .u8] (((S.linkW l1 l2 l3, S.linkE l1 l2 l3)).1), .int .i64 (((S.linkW l1 l2 l3, S.linkE l1 l2 l3)).2 : Int)], [])
def L_a99 : List UInt8 × List UInt8 × List UInt8 → Nat → Option LoopAnn := fun _ _ => none
def s_a99 : Sig := sigOf p_a99 F_a99
def E_a99 : Env := Env.cons 18 s_a99 E_a98
abbrev p_a100 : List PS := [.one (.slice [.int .u8])]
def F_a100 : List UInt8 → Prop × AV × List AB := fun x => match x with
  | b => (b.length ≤ 140737488355328, .tup [.agg [.str (((S.readLink b).1).1), .str (((S.readLink b).1).2.1), .str (((S.readLink b).1).2.2)], .int .i64 ((S.readLink b).2 : Int)], [])
def L_a100 : List UInt8 → Nat → Option LoopAnn := fun _ _ => none
def s_a100 : Sig := sigOf p_a100 F_a100
def E_a100 : Env := Env.cons 19 s_a100 E_a99
abbrev p_a101 : List PS := [.one (.slice [.str, .slice [.int .i64]])]
def F_a101 : List (List UInt8 × List Int) → Prop × AV × List AB := fun x => match x with
  | d => (S.dictPre d, .tup [.own 0, .int .i64 (((S.dLinks d, S.dE d)).2 : Int)], [.row 33 [.slice [.int .u8]] (((S.dLinks d, S.dE d)).1) false])
def L_a101 : List (List UInt8 × List Int) → Nat → Option LoopAnn := fun x => match x with
  | d => fun id => (match id with
    | 0 => some { τ := Nat, slots := [(16, fun k => .int .i64 ((k : Nat) : Int)), (4, fun k => .own 300)], keys := [(300, fun k => .row 33 [.slice [.int .u8]] (S.linksTo d k) false)], ren := [(Vg.Loc.slot 4, 300)], drop := [], ties := [], inv := fun k => k ≤ d.length + 1, meas := fun k => S.meas (S.len d + 1) k }
    | _ => none)
def s_a101 : Sig := sigOf p_a101 F_a101
def E_a101 : Env := Env.cons 43 s_a101 E_a100
abbrev p_a103 : List PS := [.one (.slice [.str, .slice [.int .i64]]), .one (.str)]
def F_a103 : List (List UInt8 × List Int) × List UInt8 → Prop × AV × List AB := fun x => match x with
  | (d, t) => (S.dictPre d, .tup [.int .i64 (((S.dFind d t, S.dFindB d t)).1 : Int), .bool (((S.dFind d t, S.dFindB d t)).2)], [])
def L_a103 : List (List UInt8 × List Int) × List UInt8 → Nat → Option LoopAnn := fun x => match x with
  | (d, t) => fun id => (match id with
    | 0 => some { τ := Nat, slots := [(14, fun k => .int .i64 ((k : Nat) : Int)), (6, fun k => .int .i64 (S.findTo d t k))], keys := [], ren := [], drop := [], ties := [], inv := fun k => k ≤ d.length, meas := fun k => S.meas (S.len d) k }
    | _ => none)
def s_a103 : Sig := sigOf p_a103 F_a103
def E_a103 : Env := Env.cons 13 s_a103 E_a101
abbrev p_a104 : List PS := [.one (.slice [.str, .slice [.int .i64]]), .one (.str)]
def F_a104 : List (List UInt8 × List Int) × List UInt8 → Prop × AV × List AB := fun x => match x with
  | (d, t) => (S.dictPre d, .sl [.int .i64] (S.dDocs d t), [])
def L_a104 : List (List UInt8 × List Int) × List UInt8 → Nat → Option LoopAnn := fun _ _ => none
def s_a104 : Sig := sigOf p_a104 F_a104
def E_a104 : Env := Env.cons 16 s_a104 E_a103
abbrev p_a105 : List PS := [.one (.slice [.slice [.int .u8]]), .agg [.int .i64, .int .i64]]
def F_a105 : List (List UInt8) × Int × Int → Prop × AV × List AB := fun x => match x with
  | (docs, s1, s2) => (True, .tup [.sl [.str, .slice [.int .i64]] ((S.dMake docs s1 s2).1), .int .i64 ((S.dMake docs s1 s2).2 : Int)], [])
def s_a105 : Sig := sigOf p_a105 F_a105
def E_a105 : Env := Env.cons 24 s_a105 E_a104
abbrev p_a134 : List PS := [.one (.slice [.slice [.int .u8]])]
def F_a134 : List (List UInt8) → Prop × AV × List AB := fun x => match x with
  | docs => (True, .bool (S.greatB docs), [])
def L_a134 : List (List UInt8) → Nat → Option LoopAnn := fun x => match x with
  | docs => fun id => (match id with
    | 0 => some { τ := Nat, slots := [(3, fun k => .int .i64 ((k : Nat) : Int))], keys := [], ren := [], drop := [], ties := [], inv := fun k => S.gbInv docs k, meas := fun k => S.meas (S.len docs) k }
    | _ => none)
def s_a134 : Sig := sigOf p_a134 F_a134
def E_a134 : Env := Env.cons 23 s_a134 E_a105
abbrev p_a135 : List PS := []
def F_a135 : Unit → Prop × AV × List AB := fun x => match x with
  | () => (True, .bool true, [])
def L_a135 : Unit → Nat → Option LoopAnn := fun _ _ => none
def s_a135 : Sig := sigOf p_a135 F_a135
def E_a135 : Env := Env.cons 12 s_a135 E_a134
abbrev p_a145 : List PS := [.one (.slice [.slice [.int .u8]]), .agg [.int .i64, .int .i64], .one (.str)]
def F_a145 : List (List UInt8) × Int × Int × List UInt8 → Prop × AV × List AB := fun x => match x with
  | (docs, s1, s2, t) => (True, .bool true, [])
def L_a145 : List (List UInt8) × Int × Int × List UInt8 → Nat → Option LoopAnn := fun x => match x with
  | (docs, s1, s2, t) => fun id => (match id with
    | 0 => some { τ := Nat, slots := [(10, fun k => .int .i64 ((k : Nat) : Int))], keys := [], ren := [], drop := [], ties := [], inv := fun k => S.minv docs k, meas := fun k => S.meas (S.len docs) k }
    | _ => none)
def s_a145 : Sig := sigOf p_a145 F_a145
end Go.J
end
section
namespace Go.Vg
open Go Go.Shelf Go.RowKit Go.Proofs
def encS (s : List UInt8) : Value := .string ⟨s.toArray⟩
section
variable {w w' : World} {A : Nat → Prop} {G : Nat → Option GD}
theorem rdl_str : ∀ (l : List (List UInt8)) (cs : List Value), RdL (RdV w A [.str]) cs l → cs = l.map encS ∧ ∀ s ∈ l, s.length ≤ maxLen
  | [], cs, h => by simp only [RdL] at h; simp [h]
  | s :: l, cs, ⟨c1, c2, hc, h1, h2⟩ => by
    subst hc
    simp only [RdV] at h1
    obtain ⟨v, vs', rfl, hv, rfl⟩ := h1
    simp only [Rd] at hv
    obtain ⟨g1, g2⟩ := rdl_str l c2 h2
    obtain ⟨rfl, hl⟩ := hv
    refine ⟨by rw [g1]; rfl, fun s' hs' => ?_⟩
    rcases List.mem_cons.1 hs' with rfl | hs'
    · exact hl
    · exact g2 s' hs'
theorem rdl_str' : ∀ (l : List (List UInt8)), (∀ s ∈ l, s.length ≤ maxLen) → RdL (RdV w A [.str]) (l.map encS) l
  | [], _ => rfl
  | s :: l, h => ⟨[encS s], l.map encS, rfl, by
      simp only [RdV]
      exact ⟨_, [], rfl, by simp only [Rd]; exact ⟨rfl, h s (by simp)⟩, rfl⟩, rdl_str' l fun s' hs' => h s' (by simp [hs'])⟩
theorem rdl_int : ∀ (l : List Int) (cs : List Value), RdL (RdV w A [.int .i64]) cs l → cs = l.map (Value.int .i64) ∧ ∀ z ∈ l, lo .i64 ≤ z ∧ z ≤ hi .i64
  | [], cs, h => by simp only [RdL] at h; simp [h]
  | s :: l, cs, ⟨c1, c2, hc, h1, h2⟩ => by
    subst hc
    simp only [RdV] at h1
    obtain ⟨v, vs', rfl, hv, rfl⟩ := h1
    simp only [Rd] at hv
    obtain ⟨g1, g2⟩ := rdl_int l c2 h2
    obtain ⟨rfl, hl⟩ := hv
    refine ⟨by rw [g1]; rfl, fun s' hs' => ?_⟩
    rcases List.mem_cons.1 hs' with rfl | hs'
    · exact hl
    · exact g2 s' hs'
theorem rdl_int' : ∀ (l : List Int), (∀ z ∈ l, lo .i64 ≤ z ∧ z ≤ hi .i64) → RdL (RdV w A [.int .i64]) (l.map (Value.int .i64)) l
  | [], _ => rfl
  | s :: l, h => ⟨[.int .i64 s], l.map (Value.int .i64), rfl, by
      simp only [RdV]
      exact ⟨_, [], rfl, by simp only [Rd]; exact ⟨rfl, h s (by simp)⟩, rfl⟩, rdl_int' l fun s' hs' => h s' (by simp [hs'])⟩
theorem post_row {e : Nat} {row : List Ty} {l : List (Row row)} {v : Value} {xs : List Value} (hA : ∀ b, A b → b < w.heap.size) (hb : Below w.heap.size w w') (ho : w'.ownsRow w.heap.size e row.length v l.length xs) (hr : RdL (RdV w' A row) xs l) :
    ∃ A' β', CallPost w A w' v (.own 0) [.row e row l false] A' β' := by
  have hblk : ∀ b, blkOf v = some b → w.heap.size ≤ b := by
    intro b hb'
    rcases ho.2 with ⟨rfl, _⟩ | ⟨g, cap, cur, rfl, hg, _⟩
    · cases hb'
    · simp only [blkOf, Option.some.injEq] at hb'; omega
  have h1 : v.oneCell' = true := by
    rcases ho.2 with ⟨rfl, _⟩ | ⟨g, cap, cur, rfl, hg, _⟩ <;> rfl
  have ho0 : w'.ownsRow 0 e row.length v l.length xs := by
    refine ⟨ho.1, ?_⟩
    rcases ho.2 with h | ⟨g, cap, cur, g1, g2, g3⟩
    · exact .inl h
    · exact .inr ⟨g, cap, cur, g1, Nat.zero_le _, g3⟩
  refine ⟨A, fun _ => v, { os := hb.os, tape := hb.tape, output := hb.output, size := hb.size, same := hb.block, mono := fun _ h => h, old := fun _ _ h => h, bound := fun b h => Nat.lt_of_lt_of_le (hA b h) hb.size, res := ?_, rows := ?_, apart := ?_ }⟩
  · simp only [AVrel]; exact ⟨trivial, h1⟩
  · intro i ab hi
    match i, hi with
    | 0, hi =>
      simp only [List.getElem?_cons_zero, Option.some.injEq] at hi
      subst hi
      refine ⟨⟨xs, ho0, hr, fun b hb' => ?_⟩, hblk⟩
      simp only [Bool.false_eq_true, if_false]
      intro hAb
      have := hA b hAb
      have := hblk b hb'
      omega
    | i + 1, hi => simp at hi
  · intro i j b hi hj _ _
    simp at hi hj; omega
end
theorem getD_map_lt {α γ : Type} (f : α → γ) (l : List α) (j : Nat) (d : γ) (hj : j < l.length) : (l.map f).getD j d = f l[j] := by
  rw [List.getD_eq_getElem?_getD, List.getElem?_map, List.getElem?_eq_getElem hj]; rfl
theorem calls_of_nil {P : Program} {f : FuncId} {args : Array Value} {w : World} {A : Nat → Prop} {e : Nat} {row : List Ty} (hA : ∀ b, A b → b < w.heap.size)
    (h : Calls P f args w fun e w' => e = .returned (.slice none 0 0) ∧ w' = w) : Calls P f args w fun ex w' => ∃ v, ex = .returned v ∧ ∃ A' β', CallPost w A w' v (.own 0) [.row e row [] false] A' β' :=
  h.mono fun ex w' ⟨he, hw⟩ => by
    subst hw
    exact ⟨_, he, post_row (xs := []) hA (Below.refl _ _) ⟨by simp, .inl ⟨rfl, rfl⟩⟩ rfl⟩
theorem calls_of_row {P : Program} {f : FuncId} {args : Array Value} {w : World} {A : Nat → Prop} {e : Nat} {row : List Ty} {l : List (Row row)} {xs : List Value} (hA : ∀ b, A b → b < w.heap.size)
    (hr : ∀ w', RdL (RdV w' A row) xs l)
    (h : Calls P f args w fun ex w' => ∃ v', ex = .returned v' ∧ w'.ownsRow w.heap.size e row.length v' l.length xs ∧ v' ≠ .slice none 0 0 ∧ Below w.heap.size w w') :
    Calls P f args w fun ex w' => ∃ v, ex = .returned v ∧ ∃ A' β', CallPost w A w' v (.own 0) [.row e row l false] A' β' :=
  h.mono fun ex w' ⟨v', he, ho, _, hb⟩ => ⟨v', he, post_row hA hb ho (hr w')⟩
theorem args_one {w : World} {A : Nat → Prop} {β : Nat → Value} {row : List Ty} {args : List Value} {l : List (Row row)} (h : AVrels w A β args [.sl row l]) : ∃ a cap cs, args = [.slice a l.length cap] ∧ l.length ≤ cap ∧ cap ≤ maxLen ∧ RdL (RdV w A row) cs l ∧
      (cs ≠ [] → ∃ b o, a = some ⟨b, o, none⟩ ∧ A b ∧ w.rangeAt b o cs) := by
  simp only [AVrels] at h
  obtain ⟨v, vs', rfl, hv, rfl⟩ := h
  simp only [AVrel, Rd] at hv
  obtain ⟨a, cap, cs, rfl, h1, h2, h3, h4⟩ := hv
  exact ⟨a, cap, cs, rfl, h1, h2, h3, h4⟩
theorem valid_clone_str {P : Program} {ρ : Ren} {G : Nat → Option GD} (L : SlLaysN.n42 P ρ) {F : Row (PS.flat [.one (.slice [.str])]) → Prop × AV × List AB}
    (hF : ∀ l : List (List UInt8), F l = (l.length ≤ 1099511627776, .own 0, [.row (ρ.t 26) [.str] l false])) : Valid P G (ρ.f 42) (sigOf [.one (.slice [.str])] F) := by
  intro w A β args avs pre res bs hA hG hargs hs hp
  unfold sigOf at hs
  split at hs
  · rename_i x hx
    change List (List UInt8) at x
    have hs' := hs
    rw [hF x] at hs'
    simp only [Option.some.injEq, Prod.mk.injEq] at hs'
    obtain ⟨rfl, rfl, rfl⟩ := hs'
    obtain ⟨g1, g2⟩ := backD_rel _ hx hargs
    obtain ⟨a, cap, cs, rfl, h1, h2, h3, h4⟩ := args_one (row := [.str]) (l := x) g1
    obtain ⟨rfl, hl⟩ := rdl_str x cs h3
    cases x with
    | nil => cases a with
      | none => exact calls_of_nil hA (AnyG.slices_Clone_string_nil L 0 cap w)
      | some ad => exact calls_of_row (xs := []) hA (fun _ => rfl) (AnyG.slices_Clone_string_zero L ad cap w)
    | cons s x =>
      obtain ⟨b, o, rfl, hAb, hr⟩ := h4 (by simp)
      refine calls_of_row (xs := (s :: x).map encS) hA (fun _ => rdl_str' _ hl) ?_
      have := AnyG.slices_Clone_string L b o (s :: x).length cap ((s :: x).map fun s => ⟨s.toArray⟩) w (by simp) (by omega) (fun j hj => by
        refine hr j _ ?_
        simp only [List.length_map] at hj
        rw [getD_map_lt _ _ _ _ hj, List.getElem?_map, List.getElem?_eq_getElem hj]
        rfl)
      have e1 : (((s :: x).map fun s => (⟨s.toArray⟩ : ByteArray)).take (s :: x).length).map Value.string = (s :: x).map encS := by
        rw [List.take_of_length_le (by simp), List.map_map]; rfl
      rw [e1] at this
      exact this
  · cases hs
theorem valid_clone_int {P : Program} {ρ : Ren} {G : Nat → Option GD} (L : SlLaysN.n41 P ρ) {F : Row (PS.flat [.one (.slice [.int .i64])]) → Prop × AV × List AB}
    (hF : ∀ l : List Int, F l = (l.length ≤ 1099511627776, .own 0, [.row (ρ.t 23) [.int .i64] l false])) : Valid P G (ρ.f 41) (sigOf [.one (.slice [.int .i64])] F) := by
  intro w A β args avs pre res bs hA hG hargs hs hp
  unfold sigOf at hs
  split at hs
  · rename_i x hx
    change List Int at x
    have hs' := hs
    rw [hF x] at hs'
    simp only [Option.some.injEq, Prod.mk.injEq] at hs'
    obtain ⟨rfl, rfl, rfl⟩ := hs'
    obtain ⟨g1, g2⟩ := backD_rel _ hx hargs
    obtain ⟨a, cap, cs, rfl, h1, h2, h3, h4⟩ := args_one (row := [.int .i64]) (l := x) g1
    obtain ⟨rfl, hl⟩ := rdl_int x cs h3
    cases x with
    | nil => cases a with
      | none => exact calls_of_nil hA (AnyG.slices_Clone_int_nil L 0 cap w)
      | some ad => exact calls_of_row (xs := []) hA (fun _ => rfl) (AnyG.slices_Clone_int_zero L ad cap w)
    | cons s x =>
      obtain ⟨b, o, rfl, hAb, hr⟩ := h4 (by simp)
      refine calls_of_row (xs := (s :: x).map (Value.int .i64)) hA (fun _ => rdl_int' _ hl) ?_
      have := AnyG.slices_Clone_int L b o (s :: x).length cap (s :: x) w (by simp) (by omega) (fun j hj => by
        refine hr j _ ?_
        rw [List.getElem?_map, List.getElem?_eq_getElem hj]
        simp [List.getD, List.getElem?_eq_getElem hj])
      rw [List.take_of_length_le (by simp)] at this
      exact this
  · cases hs
end Go.Vg
end
section
namespace Go.Vg
open Go Go.Shelf Go.RowKit Go.Proofs Go.Sort Go.Lib
theorem cmpS_lt (a b : List UInt8) : ltOf S.cmpS a b = Op.bytesLess a b := by
  unfold ltOf S.cmpS
  by_cases h : Op.bytesLess a b
  · simp [h]
  · simp only [h]
    by_cases h2 : Op.bytesLess b a <;> simp [h2]
theorem cmpS_swo : SWO (ltOf S.cmpS) where
  irrefl x := by rw [cmpS_lt]; exact S.bl_irrefl x
  trans x y z h1 h2 := by rw [cmpS_lt] at *; exact S.bl_trans _ _ _ h1 h2
  ntrans x y z h1 h2 := by
    rw [cmpS_lt] at *
    cases h : Op.bytesLess x z with
    | false => rfl
    | true =>
      rcases S.bl_tri x y with t | t | t
      · rw [t] at h1; cases h1
      · subst t; rw [h] at h2; cases h2
      · rw [S.bl_trans _ _ _ t h] at h2; cases h2
theorem cmpS_total (x y : List UInt8) (h1 : ltOf S.cmpS x y = false) (h2 : ltOf S.cmpS y x = false) : x = y := by
  rw [cmpS_lt] at *
  rcases S.bl_tri x y with t | t | t
  · rw [t] at h1; cases h1
  · exact t
  · rw [t] at h2; cases h2
theorem heap_putRow {α : Type} [Inhabited α] (enc : α → Value) (w : World) (blk off : Nat) (d : Array α) {c : Array Value} {e : TypeId} {fr : Nat × Nat} (h : w.heap[blk]? = some (.cells c e fr)) :
    (putRow enc w blk off d).heap[blk]? = some (.cells (putCells enc off d c) e fr) := by
  unfold putRow mapBlock
  simp [Array.getElem?_modify, h, onCells]
theorem heap_putRow_ne {α : Type} [Inhabited α] (enc : α → Value) (w : World) (blk off k : Nat) (d : Array α) (h : k ≠ blk) : (putRow enc w blk off d).heap[k]? = w.heap[k]? := by
  unfold putRow mapBlock
  simp [Array.getElem?_modify, Ne.symm h]
theorem size_putRow {α : Type} [Inhabited α] (enc : α → Value) (w : World) (blk off : Nat) (d : Array α) : (putRow enc w blk off d).heap.size = w.heap.size := by
  unfold putRow mapBlock
  simp
theorem putCells_take (l : List (List UInt8)) (c : Array Value) (h : l.length ≤ c.size) : (putCells encS 0 l.toArray c).toList.take l.length = l.map encS := by
  apply List.ext_getElem?
  intro k
  rw [List.getElem?_take]
  by_cases hk : k < l.length
  · rw [if_pos hk, List.getElem?_map, List.getElem?_eq_getElem hk, Array.getElem?_toList]
    simp only [putCells, Array.getElem?_mapIdx, Array.getElem?_eq_getElem (show k < c.size by omega), Option.map_some]
    rw [if_pos ⟨Nat.zero_le _, by simpa using hk⟩]
    simp [hk]
  · rw [if_neg hk, List.getElem?_eq_none (by simp; omega)]
theorem putCells_size {α : Type} [Inhabited α] (enc : α → Value) (d : Array α) (c : Array Value) : (putCells enc 0 d c).size = c.size := by simp [putCells]
theorem valid_sort_str {P : Program} {ρ : Ren} {G : Nat → Option GD} (L : SlLaysF.n6 P ρ) {g e : Nat} (eg : ∀ args w, (callFunc g args).run P w = .ok (.enter g args) w)
    (hcmp : ∀ (x y : List UInt8) (w : World), Calls P g #[encS x, encS y] w fun e w' => e = .returned (.int .i64 (S.cmpS x y)) ∧ w' = w)
    {F : Row (TA.tyss [.own 50000, .fn (.func g) [] []]) → BsD [.row e [.str]] → HRes}
    (hF : ∀ l : List (List UInt8), F () (l, ()) = { pre := l.length ≤ 1099511627776, res := .tup [], heap := [some (.row e [.str] (S.sortS l) false)], new := [] }) :
    ValidH P G (ρ.f 6) (hsigOf [.own 50000, .fn (.func g) [] []] [.row e [.str]] F) := by
  intro w A β args avs hs r hA hG hargs hbr hap hsr hp hlen h100
  unfold hsigOf at hsr
  split at hsr
  · rename_i cs hcs
    split at hsr
    · rename_i x y hx hy
      obtain ⟨l, u⟩ := y
      simp only [Option.some.injEq] at hsr
      have hxu : x = () := rfl
      subst hxu
      rw [hF l] at hsr
      subst hsr
      obtain ⟨g1, g2⟩ := TAs_data hcs hx hargs
      obtain ⟨q1, q2, q3⟩ := BsD_rel (w := w) (A := A) (β := β) [.row e [.str]] hs (l, u) 50000 hy hbr
      have hb := q2 0 (.row e [.str] l false) rfl
      have hlen1 : hs.length = 1 := by rw [← q1]; rfl
      simp only [TA.puts, TA.put, AVrels] at g1
      obtain ⟨v0, vs', rfl, hv0, v1, vs'', rfl, hv1, rfl⟩ := g1
      simp only [AVrel] at hv0 hv1
      obtain ⟨hv0, hone⟩ := hv0
      obtain ⟨a1, a2, rfl, ha1, ha2⟩ := hv1
      simp only [TA.puts, AVrels, List.drop_nil, List.take_nil] at ha1 ha2
      have ea1 : a1 = #[] := by apply Array.ext'; simpa using ha1
      have ea2 : a2 = #[] := by apply Array.ext'; simpa using ha2
      subst ea1; subst ea2
      obtain ⟨xs, ho, hrd, hnA⟩ := hb
      obtain ⟨rfl, hl⟩ := rdl_str l xs hrd
      have hsl : ∀ s ∈ S.sortS l, s.length ≤ maxLen := fun s hs' => hl s ((List.mergeSort_perm l _).subset hs')
      have hslen : (S.sortS l).length = l.length := (List.mergeSort_perm l _).length_eq
      simp only [Bool.false_eq_true, if_false] at hnA
      rcases ho.2 with ⟨hn1, hn2⟩ | ⟨g0, cap, cur, hv, _, hg0, hcap, hcap2, hsz, htk⟩
      ·
        have hl0 : l = [] := List.length_eq_zero_iff.1 hn2
        subst hl0
        rw [hv0, hn1]
        have hs0 : S.sortS [] = [] := List.length_eq_zero_iff.1 hslen
        rw [hs0]
        refine (AnyF.slices_SortFunc_none { L with } none 0 (.func (.func g) #[] #[]) w).mono fun ex w' ⟨he, hw⟩ => ?_
        subst hw
        refine ⟨_, he, A, β, { os := rfl, tape := rfl, output := rfl, size := Nat.le_refl _, same := fun _ _ _ => rfl, mono := fun b h => ⟨h, rfl⟩, old := fun _ _ h => .inl h, bound := hA, res := by simp only [AVrel]; exact ⟨#[], rfl, by simp [AVrels]⟩, kept := ?_, rows := ?_, apart := ?_ }⟩
        · intro i ab hi
          match i, hi with
          | 0, hi =>
            simp only [List.getElem?_cons_zero, Option.some.injEq] at hi
            subst hi
            exact ⟨⟨_, ho, hrd, by simpa using hnA⟩, rfl⟩
          | i + 1, hi => simp at hi
        · intro j ab hj; simp at hj
        · intro k k' b hk hk' _ _
          rcases hk with ⟨i, ab, rfl, _, hi⟩ | ⟨j, _, hj⟩
          · rcases hk' with ⟨i', ab', rfl, _, hi'⟩ | ⟨j, _, hj⟩
            · match i, i', hi, hi' with
              | 0, 0, _, _ => rfl
              | i + 1, _, hi, _ => simp at hi
              | 0, i + 1, _, hi' => simp at hi'
            · simp at hj
          · simp at hj
      · have hg0lt : g0 < w.heap.size := (Array.getElem?_eq_some_iff.1 hg0).1
        simp only [List.length_cons, List.length_nil, Nat.zero_add, Nat.mul_one] at hsz htk
        have hcur : ∀ j, j < l.length → cur[j]? = some (encS (l.toArray)[j]!) := fun j hj => by
          have h1 : (cur.toList.take l.length)[j]? = some (encS l[j]) := by rw [htk, List.getElem?_map, List.getElem?_eq_getElem hj]; rfl
          rw [List.getElem?_take, if_pos hj, Array.getElem?_toList] at h1
          rw [h1]; simp [hj]
        have hH : Holds encS w g0 0 l.toArray := fun j hj => by
          have hj' : j < l.length := by simpa using hj
          refine ⟨?_, ?_⟩
          · simp only [World.cell?, hg0]
            simpa using hcur j hj'
          · simp only [World.frozen?, hg0]
            simp
        rw [hv0, hv]
        have hc := Any.slices_SortFunc_total L encS (fun _ => rfl) S.cmpS cmpS_swo g #[] g0 0 cap l.toArray w eg (fun m os dk _ x y => (hcmp x y _).mono fun ex w' ⟨he, hw⟩ => ⟨he, 0, #[], by rw [hw]; rfl⟩) hH hg0lt (by simp only [List.size_toArray]; omega) cmpS_total
        have e1 : (l.toArray.toList.mergeSort fun x y => !(ltOf S.cmpS) y x) = S.sortS l := by
          unfold S.sortS
          simp only [List.toList_toArray, cmpS_lt]
        rw [e1] at hc
        refine hc.mono fun ex w' ⟨he, n, os, hw⟩ => ?_
        have hw0 : (putRow encS (Go.Sort.ahead w n) g0 0 (S.sortS l).toArray).heap[g0]? = some (.cells (putCells encS 0 (S.sortS l).toArray cur) e (0, 0)) := heap_putRow encS (Go.Sort.ahead w n) g0 0 _ hg0
        have hg1 : w'.heap[g0]? = some (.cells (putCells encS 0 (S.sortS l).toArray cur) e (0, 0)) := by
          rw [hw]; unfold sortWorld grow
          simp only
          rw [Array.getElem?_append_left (by rw [size_putRow]; exact hg0lt)]
          exact hw0
        have hsame : ∀ b, b < w.heap.size → b ≠ g0 → w'.heap[b]? = w.heap[b]? := fun b hb hne => by
          rw [hw]; unfold sortWorld grow
          simp only
          rw [Array.getElem?_append_left (by rw [size_putRow]; exact hb), heap_putRow_ne encS (Go.Sort.ahead w n) g0 0 b _ hne]
          rfl
        have hsize : w.heap.size ≤ w'.heap.size := by
          rw [hw]; unfold sortWorld grow
          simp only [Array.size_append, size_putRow]
          exact Nat.le_add_right _ _
        have hHM : HM β 1 g0 := ⟨0, by omega, by rw [show β (50000 + 0) = β 50000 from rfl, hv]; rfl⟩
        have hnA0 : ¬ A g0 := hnA g0 (by rw [hv]; rfl)
        refine ⟨_, he, A, β, { os := by rw [hw]; rfl, tape := by rw [hw]; rfl, output := by rw [hw]; rfl, size := hsize, same := ?_, mono := ?_, old := fun _ _ h => .inl h, bound := fun b h => Nat.lt_of_lt_of_le (hA b h) hsize, res := by simp only [AVrel]; exact ⟨#[], rfl, by simp [AVrels]⟩, kept := ?_, rows := ?_, apart := ?_ }⟩
        · intro b hb hne
          rw [hlen1] at hne
          exact hsame b hb (fun h => hne (h ▸ hHM))
        · intro b hAb
          exact ⟨hAb, hsame b (hA b hAb) (fun h => hnA0 (h ▸ hAb))⟩
        · intro i ab hi
          match i, hi with
          | 0, hi =>
            simp only [List.getElem?_cons_zero, Option.some.injEq] at hi
            subst hi
            refine ⟨⟨(S.sortS l).map encS, ⟨by simp, .inr ⟨g0, cap, _, ?_, Nat.zero_le _, hg1, by omega, hcap2, by rw [putCells_size]; simpa using hsz, ?_⟩⟩, rdl_str' _ hsl, by simpa using hnA⟩, rfl⟩
            · rw [hslen]; exact hv
            · have := putCells_take (S.sortS l) cur (by omega)
              simpa using this
          | i + 1, hi => simp at hi
        · intro j ab hj; simp at hj
        · intro k k' b hk hk' _ _
          rcases hk with ⟨i, ab, rfl, _, hi⟩ | ⟨j, _, hj⟩
          · rcases hk' with ⟨i', ab', rfl, _, hi'⟩ | ⟨j, _, hj⟩
            · match i, i', hi, hi' with
              | 0, 0, _, _ => rfl
              | i + 1, _, hi, _ => simp at hi
              | 0, i + 1, _, hi' => simp at hi'
            · simp at hj
          · simp at hj
    · cases hsr
  · cases hsr
end Go.Vg
end
section
namespace Go.Proofs
open Go.Shelf
def Tryz.keys59_ren : Go.Shelf.Ren := ⟨fun | 7 => 59 | 10 => 88 | n => n, fun | 23 => 99 | 26 => 9 | 3 => 28 | 28 => 104 | 0 => 0 | 27 => 103 | 33 => 113 | 4 => 4 | n => n, fun | n => n⟩
theorem Tryz.keys59 : Go.Proofs.SlLaysZ.n7 Tryz.prog Tryz.keys59_ren := {
  mixed := by kernel_rfl
  f7 := ⟨Tryz.f59.name, by decide, Tryz.func59.trans (congrArg some (by kernel_rfl))⟩
  f10 := ⟨Tryz.f88.name, by decide, Tryz.func88.trans (congrArg some (by kernel_rfl))⟩
  t0 := Tryz.underlying0
  a0 := Tryz.isAgg0
  z0 := Tryz.sizeOf0
  v0 := Tryz.zeroValue0
  t4 := Tryz.underlying4
  a4 := Tryz.isAgg4
  z4 := Tryz.sizeOf4
  v4 := Tryz.zeroValue4
  t23 := Tryz.underlying99
  a23 := Tryz.isAgg99
  z23 := Tryz.sizeOf99
  v23 := Tryz.zeroValue99
  t26 := Tryz.underlying9
  a26 := Tryz.isAgg9
  z26 := Tryz.sizeOf9
  v26 := Tryz.zeroValue9
  t27 := Tryz.underlying103
  a27 := Tryz.isAgg103
  z27 := Tryz.sizeOf103
  v27 := Tryz.zeroValue103
  t28 := Tryz.underlying104
  a28 := Tryz.isAgg104
  z28 := Tryz.sizeOf104
  v28 := Tryz.zeroValue104
  t33 := Tryz.underlying113
  a33 := Tryz.isAgg113
  z33 := Tryz.sizeOf113
  v33 := Tryz.zeroValue113 }
def Tryz.sorted58_ren : Go.Shelf.Ren := ⟨fun | 6 => 58 | 8 => 86 | 9 => 87 | 11 => 120 | 13 => 122 | 12 => 121 | 23 => 151 | 24 => 152 | 14 => 142 | 15 => 143 | 16 => 144 | 17 => 145 | 18 => 146 | 19 => 147 | 20 => 148 | 21 => 149 | 22 => 150 | 25 => 172 | 26 => 173 | 27 => 174 | 28 => 175 | 29 => 176 | 30 => 119 | 31 => 183 | n => n, fun | 26 => 9 | 28 => 104 | 24 => 100 | 0 => 0 | 3 => 3 | 37 => 150 | 48 => 157 | 50 => 176 | 4 => 4 | 40 => 169 | 39 => 168 | 45 => 25 | 5 => 5 | 9 => 9 | 51 => 196 | 55 => 200 | 57 => 208 | 58 => 161 | 33 => 113 | n => n, fun | n => n⟩
theorem Tryz.sorted58 : Go.Proofs.SlLaysZ.n6 Tryz.prog Tryz.sorted58_ren := {
  mixed := by kernel_rfl
  f6 := ⟨Tryz.f58.name, by decide, Tryz.func58.trans (congrArg some (by kernel_rfl))⟩
  f8 := ⟨Tryz.f86.name, by decide, Tryz.func86.trans (congrArg some (by kernel_rfl))⟩
  f11 := ⟨Tryz.f120.name, by decide, Tryz.func120.trans (congrArg some (by kernel_rfl))⟩
  t0 := Tryz.underlying0
  a0 := Tryz.isAgg0
  z0 := Tryz.sizeOf0
  v0 := Tryz.zeroValue0
  t24 := Tryz.underlying100
  a24 := Tryz.isAgg100
  z24 := Tryz.sizeOf100
  v24 := Tryz.zeroValue100
  t26 := Tryz.underlying9
  a26 := Tryz.isAgg9
  z26 := Tryz.sizeOf9
  v26 := Tryz.zeroValue9
  t28 := Tryz.underlying104
  a28 := Tryz.isAgg104
  z28 := Tryz.sizeOf104
  v28 := Tryz.zeroValue104
  i26 := by kernel_rfl }
def Tryz.sort87_ren : Go.Shelf.Ren := ⟨fun | 6 => 87 | 8 => 122 | 9 => 121 | 19 => 151 | 20 => 152 | 21 => 142 | 22 => 143 | 23 => 144 | 24 => 145 | 25 => 146 | 26 => 147 | 27 => 148 | 28 => 149 | 29 => 150 | 36 => 172 | 31 => 173 | 32 => 174 | 37 => 175 | 38 => 176 | 39 => 119 | 41 => 183 | n => n, fun | 27 => 100 | 29 => 9 | 3 => 3 | 32 => 150 | 26 => 100 | 0 => 0 | 44 => 157 | 46 => 176 | 4 => 4 | 36 => 169 | 35 => 168 | 41 => 25 | 5 => 5 | 9 => 9 | 53 => 196 | 57 => 200 | 63 => 208 | 64 => 161 | n => n, fun | n => n⟩
theorem Tryz.sort87 : Go.Proofs.SlLaysM.n6 Tryz.prog Tryz.sort87_ren := {
  mixed := by kernel_rfl
  f6 := ⟨Tryz.f87.name, by decide, Tryz.func87.trans (congrArg some (by kernel_rfl))⟩
  f8 := Tryz.func122.trans (congrArg some (by kernel_rfl))
  f9 := ⟨Tryz.f121.name, by decide, Tryz.func121.trans (congrArg some (by kernel_rfl))⟩
  f19 := Tryz.func151.trans (congrArg some (by kernel_rfl))
  f20 := Tryz.func152.trans (congrArg some (by kernel_rfl))
  f21 := ⟨Tryz.f142.name, by decide, Tryz.func142.trans (congrArg some (by kernel_rfl))⟩
  f22 := ⟨Tryz.f143.name, by decide, Tryz.func143.trans (congrArg some (by kernel_rfl))⟩
  f23 := ⟨Tryz.f144.name, by decide, Tryz.func144.trans (congrArg some (by kernel_rfl))⟩
  f24 := ⟨Tryz.f145.name, by decide, Tryz.func145.trans (congrArg some (by kernel_rfl))⟩
  f25 := ⟨Tryz.f146.name, by decide, Tryz.func146.trans (congrArg some (by kernel_rfl))⟩
  f26 := ⟨Tryz.f147.name, by decide, Tryz.func147.trans (congrArg some (by kernel_rfl))⟩
  f27 := ⟨Tryz.f148.name, by decide, Tryz.func148.trans (congrArg some (by kernel_rfl))⟩
  f28 := ⟨Tryz.f149.name, by decide, Tryz.func149.trans (congrArg some (by kernel_rfl))⟩
  f29 := ⟨Tryz.f150.name, by decide, Tryz.func150.trans (congrArg some (by kernel_rfl))⟩
  f31 := Tryz.func173.trans (congrArg some (by kernel_rfl))
  f32 := Tryz.func174.trans (congrArg some (by kernel_rfl))
  f36 := ⟨Tryz.f172.name, by decide, Tryz.func172.trans (congrArg some (by kernel_rfl))⟩
  f37 := ⟨Tryz.f175.name, by decide, Tryz.func175.trans (congrArg some (by kernel_rfl))⟩
  f38 := ⟨Tryz.f176.name, by decide, Tryz.func176.trans (congrArg some (by kernel_rfl))⟩
  f39 := ⟨Tryz.f119.name, by decide, Tryz.func119.trans (congrArg some (by kernel_rfl))⟩
  f41 := ⟨Tryz.f183.name, by decide, Tryz.func183.trans (congrArg some (by kernel_rfl))⟩
  t0 := Tryz.underlying0
  a0 := Tryz.isAgg0
  z0 := Tryz.sizeOf0
  v0 := Tryz.zeroValue0
  t3 := Tryz.underlying3
  a3 := Tryz.isAgg3
  z3 := Tryz.sizeOf3
  v3 := Tryz.zeroValue3
  t4 := Tryz.underlying4
  a4 := Tryz.isAgg4
  z4 := Tryz.sizeOf4
  v4 := Tryz.zeroValue4
  t5 := Tryz.underlying5
  a5 := Tryz.isAgg5
  z5 := Tryz.sizeOf5
  v5 := Tryz.zeroValue5
  t9 := Tryz.underlying9
  a9 := Tryz.isAgg9
  z9 := Tryz.sizeOf9
  v9 := Tryz.zeroValue9
  t26 := Tryz.underlying100
  a26 := Tryz.isAgg100
  z26 := Tryz.sizeOf100
  v26 := Tryz.zeroValue100
  t27 := Tryz.underlying100
  a27 := Tryz.isAgg100
  z27 := Tryz.sizeOf100
  v27 := Tryz.zeroValue100
  t29 := Tryz.underlying9
  a29 := Tryz.isAgg9
  z29 := Tryz.sizeOf9
  v29 := Tryz.zeroValue9
  t32 := Tryz.underlying150
  a32 := Tryz.isAgg150
  z32 := Tryz.sizeOf150
  v32 := Tryz.zeroValue150
  t35 := Tryz.underlying168
  a35 := Tryz.isAgg168
  z35 := Tryz.sizeOf168
  v35 := Tryz.zeroValue168
  t36 := Tryz.underlying169
  a36 := Tryz.isAgg169
  z36 := Tryz.sizeOf169
  v36 := Tryz.zeroValue169
  t41 := Tryz.underlying25
  a41 := Tryz.isAgg25
  z41 := Tryz.sizeOf25
  v41 := Tryz.zeroValue25
  t44 := Tryz.underlying157
  a44 := Tryz.isAgg157
  z44 := Tryz.sizeOf157
  v44 := Tryz.zeroValue157
  t46 := Tryz.underlying176
  a46 := Tryz.isAgg176
  z46 := Tryz.sizeOf176
  v46 := Tryz.zeroValue176
  t53 := Tryz.underlying196
  a53 := Tryz.isAgg196
  z53 := Tryz.sizeOf196
  v53 := Tryz.zeroValue196
  t57 := Tryz.underlying200
  a57 := Tryz.isAgg200
  z57 := Tryz.sizeOf200
  v57 := Tryz.zeroValue200
  t63 := Tryz.underlying208
  a63 := Tryz.isAgg208
  z63 := Tryz.sizeOf208
  v63 := Tryz.zeroValue208
  t64 := Tryz.underlying161
  a64 := Tryz.isAgg161
  z64 := Tryz.sizeOf161
  v64 := Tryz.zeroValue161 }
def Tryz.clone_str_ren : Go.Shelf.Ren := ⟨fun | 42 => 111 | n => n, fun | 25 => 100 | 26 => 9 | 4 => 4 | n => n, fun | n => n⟩
theorem Tryz.clone_str : Go.Proofs.SlLaysN.n42 Tryz.prog Tryz.clone_str_ren := {
  mixed := by kernel_rfl
  f42 := ⟨Tryz.f111.name, by decide, Tryz.func111.trans (congrArg some (by kernel_rfl))⟩
  t4 := Tryz.underlying4
  a4 := Tryz.isAgg4
  z4 := Tryz.sizeOf4
  v4 := Tryz.zeroValue4
  t25 := Tryz.underlying100
  a25 := Tryz.isAgg100
  z25 := Tryz.sizeOf100
  v25 := Tryz.zeroValue100
  t26 := Tryz.underlying9
  a26 := Tryz.isAgg9
  z26 := Tryz.sizeOf9
  v26 := Tryz.zeroValue9
  i26 := by kernel_rfl }
def Tryz.clone_int_ren : Go.Shelf.Ren := ⟨fun | 41 => 50 | n => n, fun | 22 => 28 | 23 => 3 | 4 => 4 | n => n, fun | n => n⟩
theorem Tryz.clone_int : Go.Proofs.SlLaysN.n41 Tryz.prog Tryz.clone_int_ren := {
  mixed := by kernel_rfl
  f41 := ⟨Tryz.f50.name, by decide, Tryz.func50.trans (congrArg some (by kernel_rfl))⟩
  t4 := Tryz.underlying4
  a4 := Tryz.isAgg4
  z4 := Tryz.sizeOf4
  v4 := Tryz.zeroValue4
  t22 := Tryz.underlying28
  a22 := Tryz.isAgg28
  z22 := Tryz.sizeOf28
  v22 := Tryz.zeroValue28
  t23 := Tryz.underlying3
  a23 := Tryz.isAgg3
  z23 := Tryz.sizeOf3
  v23 := Tryz.zeroValue3
  i23 := by kernel_rfl }
def Tryz.sortf_ren : Go.Shelf.Ren := ⟨fun | 6 => 112 | 15 => 122 | 14 => 138 | 28 => 151 | 29 => 152 | 20 => 161 | 21 => 162 | 22 => 163 | 23 => 164 | 24 => 165 | 25 => 166 | 26 => 167 | 27 => 168 | 46 => 180 | 47 => 173 | 48 => 174 | 49 => 181 | 50 => 182 | 57 => 186 | n => n, fun | 22 => 100 | 24 => 9 | 25 => 126 | 3 => 3 | 39 => 150 | 0 => 0 | 53 => 157 | 55 => 176 | 4 => 4 | 46 => 169 | 45 => 168 | 50 => 25 | 5 => 5 | 9 => 9 | 66 => 196 | 70 => 200 | 76 => 208 | 77 => 161 | n => n, fun | n => n⟩
theorem Tryz.sortf : Go.Proofs.SlLaysF.n6 Tryz.prog Tryz.sortf_ren := {
  mixed := by kernel_rfl
  f6 := ⟨Tryz.f112.name, by decide, Tryz.func112.trans (congrArg some (by kernel_rfl))⟩
  f14 := ⟨Tryz.f138.name, by decide, Tryz.func138.trans (congrArg some (by kernel_rfl))⟩
  f15 := Tryz.func122.trans (congrArg some (by kernel_rfl))
  f20 := ⟨Tryz.f161.name, by decide, Tryz.func161.trans (congrArg some (by kernel_rfl))⟩
  f21 := ⟨Tryz.f162.name, by decide, Tryz.func162.trans (congrArg some (by kernel_rfl))⟩
  f22 := ⟨Tryz.f163.name, by decide, Tryz.func163.trans (congrArg some (by kernel_rfl))⟩
  f23 := ⟨Tryz.f164.name, by decide, Tryz.func164.trans (congrArg some (by kernel_rfl))⟩
  f24 := ⟨Tryz.f165.name, by decide, Tryz.func165.trans (congrArg some (by kernel_rfl))⟩
  f25 := ⟨Tryz.f166.name, by decide, Tryz.func166.trans (congrArg some (by kernel_rfl))⟩
  f26 := ⟨Tryz.f167.name, by decide, Tryz.func167.trans (congrArg some (by kernel_rfl))⟩
  f27 := ⟨Tryz.f168.name, by decide, Tryz.func168.trans (congrArg some (by kernel_rfl))⟩
  f28 := Tryz.func151.trans (congrArg some (by kernel_rfl))
  f29 := Tryz.func152.trans (congrArg some (by kernel_rfl))
  f46 := ⟨Tryz.f180.name, by decide, Tryz.func180.trans (congrArg some (by kernel_rfl))⟩
  f47 := Tryz.func173.trans (congrArg some (by kernel_rfl))
  f48 := Tryz.func174.trans (congrArg some (by kernel_rfl))
  f49 := ⟨Tryz.f181.name, by decide, Tryz.func181.trans (congrArg some (by kernel_rfl))⟩
  f50 := ⟨Tryz.f182.name, by decide, Tryz.func182.trans (congrArg some (by kernel_rfl))⟩
  f57 := ⟨Tryz.f186.name, by decide, Tryz.func186.trans (congrArg some (by kernel_rfl))⟩
  t0 := Tryz.underlying0
  a0 := Tryz.isAgg0
  z0 := Tryz.sizeOf0
  v0 := Tryz.zeroValue0
  t3 := Tryz.underlying3
  a3 := Tryz.isAgg3
  z3 := Tryz.sizeOf3
  v3 := Tryz.zeroValue3
  t4 := Tryz.underlying4
  a4 := Tryz.isAgg4
  z4 := Tryz.sizeOf4
  v4 := Tryz.zeroValue4
  t5 := Tryz.underlying5
  a5 := Tryz.isAgg5
  z5 := Tryz.sizeOf5
  v5 := Tryz.zeroValue5
  t9 := Tryz.underlying9
  a9 := Tryz.isAgg9
  z9 := Tryz.sizeOf9
  v9 := Tryz.zeroValue9
  t22 := Tryz.underlying100
  a22 := Tryz.isAgg100
  z22 := Tryz.sizeOf100
  v22 := Tryz.zeroValue100
  a24 := Tryz.isAgg9
  z24 := Tryz.sizeOf9
  t25 := Tryz.underlying126
  a25 := Tryz.isAgg126
  z25 := Tryz.sizeOf126
  v25 := Tryz.zeroValue126
  t39 := Tryz.underlying150
  a39 := Tryz.isAgg150
  z39 := Tryz.sizeOf150
  v39 := Tryz.zeroValue150
  t45 := Tryz.underlying168
  a45 := Tryz.isAgg168
  z45 := Tryz.sizeOf168
  v45 := Tryz.zeroValue168
  t46 := Tryz.underlying169
  a46 := Tryz.isAgg169
  z46 := Tryz.sizeOf169
  v46 := Tryz.zeroValue169
  t50 := Tryz.underlying25
  a50 := Tryz.isAgg25
  z50 := Tryz.sizeOf25
  v50 := Tryz.zeroValue25
  t53 := Tryz.underlying157
  a53 := Tryz.isAgg157
  z53 := Tryz.sizeOf157
  v53 := Tryz.zeroValue157
  t55 := Tryz.underlying176
  a55 := Tryz.isAgg176
  z55 := Tryz.sizeOf176
  v55 := Tryz.zeroValue176
  t66 := Tryz.underlying196
  a66 := Tryz.isAgg196
  z66 := Tryz.sizeOf196
  v66 := Tryz.zeroValue196
  t70 := Tryz.underlying200
  a70 := Tryz.isAgg200
  z70 := Tryz.sizeOf200
  v70 := Tryz.zeroValue200
  t76 := Tryz.underlying208
  a76 := Tryz.isAgg208
  z76 := Tryz.sizeOf208
  v76 := Tryz.zeroValue208
  t77 := Tryz.underlying161
  a77 := Tryz.isAgg161
  z77 := Tryz.sizeOf161
  v77 := Tryz.zeroValue161 }
end Go.Proofs
end
section
namespace Go.Proofs
open Go.RowKit Go.Maps Go.Sort Go.Shelf
theorem Tryz.sorts58 (m : Nat) : AnyZ.SortsIn Tryz.prog Tryz.sorted58_ren Fence.wide m :=
  ⟨fun blk off cap ss W hH hblk hsz => callsIn_wide.2 (AnyM.slices_Sort_string Tryz.sort87 blk off cap ss W hH hblk hsz),
   fun p cap W => callsIn_wide.2 (AnyM.slices_Sort_string_none Tryz.sort87 p cap W)⟩
theorem Tryz.maps_Keys_59 (mb : Option Nat) (W : World) : CallsIn Fence.wide 5 Tryz.prog 59 #[.map mb] W fun e w' => e = .returned (.func (.func 88) #[] #[.pointer (some ⟨W.heap.size, 0, none⟩)]) ∧ w' = W.alloc (.cells #[.map mb] 99) :=
  AnyZ.keys_in Tryz.keys59 Fence.wide 5 trivial rfl mb W
set_option maxHeartbeats 1000000 in
theorem Tryz.slices_Sorted_keys_58_59 {H : Type} (b nn : Nat) (D0 : DataW H) (R : Value → Option (DataW H × List MemPlace)) (w : World) (hown : w.ownsMap Tryz.prog 9 R b nn D0) (hmax : Maps.size D0 ≤ maxLen) (hbytes : Maps.size D0 * 16 ≤ 140737488355328) :
    CallsIn Fence.wide 5 Tryz.prog 58 #[.func (.func 88) #[] #[.pointer (some ⟨w.heap.size, 0, none⟩)]] (w.alloc (.cells #[.map (some b)] 99)) fun e w' => ∃ (v : Value) (ss : List (List UInt8)), e = .returned v ∧ ss.Perm (strKeys D0) ∧
      w'.ownsRow (w.alloc (.cells #[.map (some b)] 99)).heap.size 9 1 v ss.length ((ss.mergeSort (fun x y => decide (x ≤ y))).map encStr) ∧ (v = .slice none 0 0 ↔ ss = []) ∧ Below (w.alloc (.cells #[.map (some b)] 99)).heap.size (w.alloc (.cells #[.map (some b)] 99)) w' := by
  have hbl := hown.lt
  have hseq : SeqGives Fence.wide 2 Tryz.prog 88 #[.pointer (some ⟨w.heap.size, 0, none⟩)] encStr (fun ss => ss.Perm (strKeys D0)) (Maps.size D0) (w.alloc (.cells #[.map (some b)] 99)) :=
    AnyZ.keys_gives (ρ := Tryz.keys59_ren) { Tryz.keys59 with } Fence.wide _ trivial rfl (by omega) w.heap.size b nn D0 _ (by simp) (by simp) (by
      obtain ⟨es, clock, hb, Ft, hs, hD⟩ := hown
      exact ⟨es, clock, (Below.heap_alloc _ _ b hbl).trans hb, Ft, hs, hD⟩)
  exact AnyZ.sorted_in Tryz.sorted58 Fence.wide 5 trivial trivial trivial trivial rfl (by omega) (Tryz.sorts58 _) (enters_of Tryz.func87 (by kernel_rfl) rfl) 88 #[.pointer (some ⟨w.heap.size, 0, none⟩)] trivial (enters_of Tryz.func88 (by kernel_rfl) rfl) _ _ hmax hbytes _ hseq
end Go.Proofs
end
section
namespace Go.Proofs
open Go.Shelf Go.RowKit Go.Lib Go.Sort
theorem cmpS_1 {x y : List UInt8} (h : Op.bytesLess x y = true) : S.cmpS x y = -1 := by unfold S.cmpS; rw [if_pos h]
theorem cmpS_2 {x y : List UInt8} (h : Op.bytesLess x y = false) (h2 : (!x == y) = true) : S.cmpS x y = 1 := by
  have hne : x ≠ y := by simpa using h2
  unfold S.cmpS
  rw [h]
  rcases S.bl_tri x y with t | t | t
  · rw [t] at h; cases h
  · exact absurd t hne
  · rw [t]; rfl
theorem cmpS_3 {x y : List UInt8} (h : Op.bytesLess x y = false) (h2 : (!x == y) = false) : S.cmpS x y = 0 := by
  have he : x = y := by simpa using h2
  subst he
  unfold S.cmpS
  rw [h]; rfl
theorem Tryz.cmp_isNaN (x : ByteArray) (w : World) : Calls Tryz.prog 119 #[.string x] w fun e w' => e = .returned (.bool false) ∧ w' = w := by
  go_enter Tryz.func119, Tryz.ntmps119
  go_wp2
  go_ret
  exact ⟨by simp, rfl⟩
set_option maxHeartbeats 1000000 in
theorem Tryz.cmp_Compare (x y : List UInt8) (w : World) : Calls Tryz.prog 85 #[Vg.encS x, Vg.encS y] w fun e w' => e = .returned (.int .i64 (S.cmpS x y)) ∧ w' = w := by
  unfold Vg.encS
  go_enter Tryz.func85, Tryz.ntmps85
  go_wp2_with (go_at_call 119; refine (Tryz.cmp_isNaN _ _).mono ?_; rintro e w' ⟨rfl, rfl⟩)
  all_goals go_ret
  all_goals refine ⟨?_, rfl⟩
  all_goals first
    | (rw [cmpS_1 (by assumption)]; rfl)
    | (rw [cmpS_2 (by assumption) (by assumption)]; rfl)
    | (rw [cmpS_3 (by assumption) (by assumption)]; rfl)
theorem Tryz.v_sort {G : Nat → Option Vg.GD} {F : Vg.Row (Vg.TA.tyss [.own 50000, .fn (.func 85) [] []]) → Vg.BsD [.row 9 [.str]] → Vg.HRes}
    (hF : ∀ l : List (List UInt8), F () (l, ()) = { pre := l.length ≤ 1099511627776, res := .tup [], heap := [some (.row 9 [.str] (S.sortS l) false)], new := [] }) :
    Vg.ValidH Tryz.prog G 112 (Vg.hsigOf [.own 50000, .fn (.func 85) [] []] [.row 9 [.str]] F) :=
  Vg.valid_sort_str Tryz.sortf (enters_of Tryz.func85 (by kernel_rfl) rfl) Tryz.cmp_Compare hF
end Go.Proofs
end
section
namespace Go.DM
open Go Go.Vg Go.Maps Go.RowKit Go.ChangeShapes
section
variable {H : Type}
def items : DataW H → List Int
  | .slice ls _ => ls.filterMap fun d => match d with | .lit (.int _ z) => some z | _ => none
  | _ => []
theorem items_lits (zs : List Int) : items (H := H) (.slice (lits .i64 zs) []) = zs := by
  induction zs with
  | nil => rfl
  | cons z zs ih =>
    simp only [items, lits, List.map_cons, List.filterMap_cons] at ih ⊢
    rw [ih]
theorem items_row {w : World} {base : Nat} {e : TypeId} {v : Value} {zs : List Int} (h : w.ownsInts base e .i64 v zs) : items (H := H) (rowDatum .i64 v zs) = zs := by
  rcases h.datum (H := H) with ⟨h1, h2⟩ | h1
  · rw [h1, h2]; rfl
  · rw [h1]; exact items_lits zs
def Repr (D : DataW H) (m : List UInt8 → List Int) : Prop := IsMap D ∧ ∀ s, items (D.atKey (.string s) .nil) = m s ∧ (has D (.string s) = true ↔ m s ≠ [])
theorem Repr.empty : Repr (H := H) (.map []) (fun _ => []) := ⟨isMap_empty, fun s => ⟨rfl, by simp [has]⟩⟩
theorem Repr.ext {D : DataW H} {m m' : List UInt8 → List Int} (h : Repr D m) (e : ∀ s, m s = m' s) : Repr D m' := by
  rw [← funext e]; exact h
theorem Repr.put {D : DataW H} {m m' : List UInt8 → List Int} (h : Repr D m) {t : List UInt8} {w : World} {base : Nat} {e : TypeId} {v : Value} {zs : List Int} (ho : w.ownsInts base e .i64 v zs) (hz : zs ≠ [])
    (h1 : m' t = zs) (h2 : ∀ s, s ≠ t → m' s = m s) : Repr (D.put (.string t) (rowDatum .i64 v zs)) m' := by
  refine ⟨h.1.put _ _, fun s => ?_⟩
  by_cases hs : s = t
  · subst hs
    refine ⟨?_, ?_⟩
    · rw [atKey_put_same h.1 (by trivial), items_row ho, h1]
    · rw [has_put_same h.1 (by trivial), h1]; simp [hz]
  · have hne : Lit.string s ≠ Lit.string t := fun hh => hs (by injection hh)
    rw [atKey_put_other hne, has_put_other hne, h2 s hs]
    exact h.2 s
theorem rd_ints {w : World} {Q : Nat → Prop} {base : Nat} {e : TypeId} {v : Value} {zs : List Int} (h : w.ownsInts base e .i64 v zs) (hq : ∀ g, v.ownBlock = some g → Q g) : Rd w Q (.slice [.int .i64]) v zs := by
  obtain ⟨ho, hw⟩ := h
  have hz : ∀ z ∈ zs, lo .i64 ≤ z ∧ z ≤ hi .i64 := fun z hz => by
    have := hw z hz
    simp [Lit.wf, IntKind.min, IntKind.max, IntKind.signed, IntKind.bits] at this
    simp only [lo, hi]; omega
  simp only [Rd]
  rcases ho.2 with ⟨rfl, h0⟩ | ⟨g, cap, cur, rfl, hg, hh, hn, hc, hsz, htk⟩
  · have : zs = [] := List.length_eq_zero_iff.1 h0
    subst this
    exact ⟨none, 0, [], rfl, Nat.le_refl _, Nat.zero_le _, rfl, fun h => absurd rfl h⟩
  · refine ⟨some ⟨g, 0, none⟩, cap, zs.map (Value.int .i64), rfl, hn, hc, rdl_int' zs hz, fun _ => ⟨g, 0, rfl, hq g rfl, fun j v hj => ?_⟩⟩
    have := ho.cells (g := g) rfl j v hj
    rwa [Addr.add_mid] at this
end
end Go.DM
namespace Go.DM
open Go Go.Vg Go.Maps Go.RowKit Go.ChangeShapes
section
variable {H : Type} {P : Program}
theorem cell_alloc_alloc (w : World) (c : Array Value) (e : TypeId) (o : Obj) (j : Nat) : ((w.alloc (.cells c e)).alloc o).cell? ⟨w.heap.size, j, none⟩ = c[j]? := by
  have h1 : ((w.alloc (.cells c e)).alloc o).heap[w.heap.size]? = some (.cells c e (0, 0)) := by
    rw [((World.grownBy_alloc (w.alloc (.cells c e)) o none).block w.heap.size (by simp) (by simp))]
    exact (MapKept.heap_alloc w _).1
  simp [World.cell?, h1]
theorem row_form {w : World} {base : Nat} {e : TypeId} {size : Nat} {v : Value} {n : Nat} {xs : List Value} (h : w.ownsRow base e size v n xs) : ∃ av cp, v = .slice av n cp ∧ (0 < n → ∃ g, av = some ⟨g, 0, none⟩ ∧ base ≤ g ∧ g < w.heap.size) := by
  have hl := h.lt
  rcases h.2 with ⟨rfl, h0⟩ | ⟨g, cap, cur, rfl, hg, _⟩
  · exact ⟨none, 0, by rw [h0], fun h => by omega⟩
  · exact ⟨_, cap, rfl, fun _ => ⟨g, rfl, hl g rfl⟩⟩
theorem grown_of_below {w w' : World} (h : Below w.heap.size w w') : w.grownBy w' none := ⟨h.os, h.tape, h.output, h.size, fun i hi _ => h.block i hi⟩
theorem groups_below {w w' : World} {k : TypeId} {base : Nat} {e : TypeId} {q : IntKind} {b n : Nat} {D : DataW H} (h : w.ownsGroups P k base e q b n D) (hb : Below w.heap.size w w') : w'.ownsGroups P k base e q b n D :=
  h.kept (grown_of_below hb) (by simp) (fun es clock _ x _ => by cases x.val.ownBlock <;> simp)
theorem groups_lt {w : World} {k : TypeId} {base : Nat} {e : TypeId} {q : IntKind} {b n : Nat} {D : DataW H} (h : w.ownsGroups P k base e q b n D) : b < w.heap.size := by
  obtain ⟨es, clock, hb, _⟩ := h
  exact (Array.getElem?_eq_some_iff.1 hb).1
theorem shuns_new {w w' : World} {k : TypeId} {base : Nat} {e : TypeId} {q : IntKind} {b n : Nat} {D : DataW H} (h : w.ownsGroups P k base e q b n D) (hb : Below w.heap.size w w') {No : Nat → Prop} (hn : ∀ g, No g → w.heap.size ≤ g) : w'.Shuns b No := by
  have h1 : w.Shuns b (fun _ => False) := fun _ _ _ _ _ _ _ hf => hf
  exact (h1.reno (No' := No) h (fun g hg => .inr (hn g hg))).kept (grown_of_below hb) (groups_lt h) (by simp)
theorem row_cell {w : World} {base : Nat} {e : TypeId} {g cp : Nat} {n : Nat} {l : List (List UInt8)} (h : w.ownsRow base e 1 (.slice (some ⟨g, 0, none⟩) n cp) n (l.map encS)) {j : Nat} (hj : j < l.length) : w.cell? ⟨g, 0 + j, none⟩ = some (encS (l.getD j [])) := by
  have := h.cells (g := g) rfl j (encS (l.getD j [])) (by rw [List.getElem?_map, List.getElem?_eq_getElem hj, List.getD_eq_getElem?_getD, List.getElem?_eq_getElem hj]; rfl)
  rwa [Addr.add_mid] at this
end
end Go.DM
namespace Go.DM
open Go Go.Vg Go.Maps Go.RowKit Go.ChangeShapes
section
variable {H : Type} {P : Program}
theorem cell_gr {w w' : World} {row : Option Nat} (h : w.grownBy w' row) {a : Addr} {v : Value} (hl : a.block < w.heap.size) (hn : some a.block ≠ row) (hc : w.cell? a = some v) : w'.cell? a = some v :=
  (World.cell?_of_block (h.block _ hl hn)).trans hc
theorem key_str {k : TypeId} (hk : P.underlying k = some .string) {s : List UInt8} (h : s.length ≤ maxLen) : keyOf P k (.string ⟨s.toArray⟩) = some (.string s) := by
  have := Go.WideMaps.keyOf_string_mk (P := P) (k := k) (s := ⟨s.toArray⟩) hk (by simpa [ByteArray.size] using h)
  simpa using this
theorem hno_of {wr : World} {b g : Nat} {v v' : Value} {o : Obj} {n cp : Nat} (hsh : ∀ No : Nat → Prop, wr.Shuns b No → ∀ g, v.ownBlock = some g → ¬ No g) (hs : wr.Shuns b (fun g' => (Value.slice (some ⟨g, 0, none⟩) n cp).ownBlock = some g'))
    (hloc : v'.ownBlock = v.ownBlock ∨ v'.ownBlock = some (wr.alloc o).heap.size) (hg : g < wr.heap.size) : ∀ g', v'.ownBlock = some g' → ¬ ((Value.slice (some ⟨g, 0, none⟩) n cp).ownBlock = some g') := fun g' hg' hh => by
  rcases hloc with h | h
  · rw [h] at hg'
    exact hsh _ hs g' hg' hh
  · rw [h] at hg'
    simp only [Value.ownBlock, Option.some.injEq] at hg' hh
    simp at hg'
    omega
end
end Go.DM
namespace Go.DM
open Go Go.Vg Go.Maps Go.RowKit Go.ChangeShapes
section
variable {H : Type} {P : Program}
theorem map_of_groups {w : World} {k : TypeId} {base : Nat} {e : TypeId} {q : IntKind} {b n : Nat} {D : DataW H} (h : w.ownsGroups P k base e q b n D) : w.ownsMap P k (rowElem w base e q) b n D := by
  obtain ⟨es, clock, hb, F, hs, hD, _⟩ := h
  exact ⟨es, clock, hb, F, hs, hD⟩
theorem map_size {w : World} {k : TypeId} {R : Value → Option (DataW H × List MemPlace)} {b n : Nat} {D : DataW H} (h : w.ownsMap P k R b n D) : Maps.size D ≤ n := by
  obtain ⟨es, clock, hb, F, hs, rfl⟩ := h
  rw [size_eq, length_sorted]
  simpa using hs
theorem makeK_mem (docs : List (List UInt8)) (a b : Int) (x : List UInt8) : x ∈ S.makeK docs a b ↔ S.grp docs a (b - a).toNat 0 x ≠ [] := by
  unfold S.makeK
  rw [S.sorted_mem, S.allTo_mem]
  simp [S.grp]
theorem keys_law {w : World} {R : Value → Option (DataW H × List MemPlace)} {k : TypeId} {b n : Nat} {D : DataW H} (h : w.ownsMap P k R b n D) (K : Keyed P k) (hk : P.underlying k = some .string) {docs : List (List UInt8)} {f t : Int}
    (hr : Repr D (S.grp docs f (t - f).toNat 0)) {ss : List (List UInt8)} (hs : ss.Perm (strKeys D)) : ss.mergeSort (fun x y => decide (x ≤ y)) = S.makeK docs f t ∧ ss.length = (S.makeK docs f t).length ∧ (∀ s ∈ S.makeK docs f t, s.length ≤ maxLen) ∧ (S.makeK docs f t).length ≤ n := by
  obtain ⟨es, hD, hpw, _⟩ := h.entries K
  obtain ⟨es', hD', hko⟩ := h.keysOf
  have hle := strKeys_le h hk
  have hsz := map_size h
  obtain rfl : es = es' := by rw [hD] at hD'; simpa using hD'
  subst hD
  have hi : S.incr (S.makeK docs f t) := S.sorted_incr _
  have hp0 := perm_strKeys hpw (fun p hp => by obtain ⟨v, hv⟩ := hko p hp; obtain ⟨x, _, hx, _⟩ := Maps.keyOf_str hk hv; exact ⟨x, hx⟩) (S.incr_nodup hi) (fun x => by rw [makeK_mem, (hr.2 x).2])
  have hp1 := hs.trans hp0.symm
  have hlen : (S.makeK docs f t).length ≤ n := by
    rw [hp0.length_eq]
    simpa [strKeys, size_eq] using hsz
  refine ⟨?_, hp1.length_eq, fun s hs' => hle s (hp0.subset hs'), hlen⟩
  have e1 : ss.mergeSort leB = (S.makeK docs f t).mergeSort leB := mergeSort_of_perm hp1
  have e2 : (S.makeK docs f t).mergeSort leB = S.makeK docs f t := by
    refine List.mergeSort_of_pairwise (hi.imp fun {a b} hab => ?_)
    rw [Go.Proofs.bytesLess_eq] at hab
    simp only [leB, decide_eq_true_eq] at hab ⊢
    exact List.le_of_lt hab
  exact e1.trans e2
end
end Go.DM
namespace Go.DM
open Go Go.Vg Go.Maps Go.RowKit Go.ChangeShapes
section
variable {H : Type} {P : Program}
theorem rd_entry {w : World} {Q : Nat → Prop} {s : List UInt8} {v : Value} {zs : List Int} (hs : s.length ≤ maxLen) (hv : Rd w Q (.slice [.int .i64]) v zs) : RdV w Q [.str, .slice [.int .i64]] [.string ⟨s.toArray⟩, v] (s, zs) := by
  simp only [RdV]
  refine ⟨_, [v], rfl, ?_, v, [], rfl, hv, rfl⟩
  simp only [Rd]
  exact ⟨rfl, hs⟩
theorem rdl_snoc {α : Type} {R : List Value → α → Prop} : ∀ (l : List α) (cs : List Value) (c : List Value) (x : α), RdL R cs l → R c x → RdL R (cs ++ c) (l ++ [x])
  | [], cs, c, x, h, hx => by
    simp only [RdL] at h
    subst h
    exact ⟨c, [], by simp, hx, rfl⟩
  | y :: l, cs, c, x, ⟨c1, c2, hc, h1, h2⟩, hx => by
    subst hc
    exact ⟨c1, c2 ++ c, by simp, h1, rdl_snoc l c2 c x h2 hx⟩
theorem rd_back {w w' : World} {base : Nat} {e : TypeId} {v : Value} {zs : List Int} {Q : Nat → Prop} (h : w'.ownsInts base e .i64 v zs) (hb : Below w.heap.size w w') (hl : ∀ g, v.ownBlock = some g → g < w.heap.size) (hq : ∀ g, base ≤ g → g < w.heap.size → Q g) : Rd w Q (.slice [.int .i64]) v zs := by
  have h' : w.ownsInts base e .i64 v zs := by
    refine ⟨⟨h.1.1, ?_⟩, h.2⟩
    rcases h.1.2 with hn | ⟨g, cap, cur, rfl, hg, hh, rest⟩
    · exact .inl hn
    · exact .inr ⟨g, cap, cur, rfl, hg, (hb.block g (hl g rfl)).symm.trans hh, rest⟩
  exact rd_ints h' (fun g hg => hq g (h'.1.lt g hg).1 (hl g hg))
theorem entry_cells (w : World) (a b : Value) (t : TypeId) : ∀ j u, [a, b][j]? = some u → (w.alloc (.cells #[a, b] t)).cell? ((⟨w.heap.size, 0, none⟩ : Addr).add j) = some u := by
  intro j u hj
  rw [Addr.add_mid, Nat.zero_add]
  have h1 : (w.alloc (.cells #[a, b] t)).heap[w.heap.size]? = some (.cells #[a, b] t (0, 0)) := (MapKept.heap_alloc w _).1
  simp only [World.cell?, h1]
  simpa using hj
end
end Go.DM
end
section
namespace Go.Proofs
open Go Go.Vg Go.Maps Go.RowKit Go.ChangeShapes Go.DM Go.WideMaps
theorem Tryz.law9 : Keyed Tryz.prog 9 := string_keyed Tryz.underlying9
theorem Tryz.info3 : (Tryz.prog.info? 3).map (fun i => (i.zero, i.size, i.bytes)) = some (some (.int .i64 0), 1, 8) := by kernel_rfl
theorem Tryz.info87 : (Tryz.prog.info? 87).map (fun i => (i.zero, i.size, i.bytes)) = some (some (.agg #[.string ⟨#[]⟩, .slice none 0 0]), 2, 40) := by kernel_rfl
theorem Tryz.zero28 (w : World) : (zeroValue 28).run Tryz.prog w = .ok (.slice none 0 0) w := by kernel_rfl
theorem Tryz.keys_at (mb : Option Nat) (W : World) : Calls Tryz.prog 59 #[.map mb] W fun e w' => e = .returned (.func (.func 88) #[] #[.pointer (some ⟨W.heap.size, 0, none⟩)]) ∧ w' = W.alloc (.cells #[.map mb] 99) := callsIn_wide.1 (Tryz.maps_Keys_59 mb W)
set_option maxRecDepth 100000 in
set_option maxHeartbeats 4000000 in
theorem Tryz.make_walk {H : Type} (docs : List (List UInt8)) (f t : Int) (da : Option Addr) (cap : Nat) (w : World)
    (hp : S.makePre docs f t) (h4 : ∀ j, (docs.getD j []).length ≤ 2000) (dv : Nat → Value)
    (hd : ∀ j, j < docs.length → ∃ b o aj cj, da = some ⟨b, o, none⟩ ∧ b < w.heap.size ∧ w.cell? ⟨b, o + j, none⟩ = some (dv j) ∧ dv j = .slice aj (docs.getD j []).length cj)
    (hset : ∀ (j : Nat) (W : World), j < docs.length → Below w.heap.size w W → Calls Tryz.prog 57 #[dv j] W fun e w' => ∃ v, e = .returned v ∧ w'.ownsRow W.heap.size 9 1 v (S.setK docs 0 j).length ((S.setK docs 0 j).map encS) ∧ Below W.heap.size W w')
    (hterm : ∀ (j : Nat), ∀ s ∈ S.setK docs 0 j, s.length ≤ maxLen) :
    Calls Tryz.prog 24 #[.slice da docs.length cap, .agg #[.int .i64 f, .int .i64 t]] w fun e w' => ∃ v xs W1, e = .returned (.tuple #[v, .int .i64 0]) ∧ Below w.heap.size w w' ∧ Below W1.heap.size W1 w' ∧ w.heap.size ≤ W1.heap.size ∧
      w'.ownsRow W1.heap.size 87 2 v (S.make docs f t).length xs ∧ RdL (RdV W1 (fun b => w.heap.size ≤ b ∧ b < W1.heap.size) [.str, .slice [.int .i64]]) xs (S.make docs f t) := by
  have hmm := @run_makeMap Tryz.prog
  have h0 : 0 ≤ f := hp.1
  have h1 : f ≤ t := hp.2.1
  have h2 : t ≤ docs.length := hp.2.2.1
  have h3 : docs.length ≤ 1000 := hp.2.2.2.1
  obtain ⟨i0, hi, hz0, hz1, hz2⟩ := info_parts Tryz.info3
  obtain ⟨i1, hi1, hy0, hy1, hy2⟩ := info_parts Tryz.info87
  go_enter Tryz.func24, Tryz.ntmps24
  go_wp2
  go_loopw [39] (fun i wr => ∃ k : Nat, k ≤ docs.length ∧ i = .int .i64 k ∧ wr = w.alloc (.cells #[.int .i64 f, .int .i64 t] 47))
    (fun i _ => docs.length - (intOf i).toNat)
  case atStart => exact ⟨0, Nat.zero_le _, rfl, rfl⟩
  case round =>
    obtain ⟨k, hk, rfl, rfl⟩ := hrel
    by_cases hlt : k < docs.length
    · obtain ⟨b, o, aj, cj, rfl, hb, hc, hv⟩ := hd k hlt
      rw [hv] at hc
      have hl := h4 k
      generalize (docs.getD k []).length = n at hc hl
      have hc' : (w.alloc (.cells #[.int .i64 f, .int .i64 t] 47)).cell? ⟨b, o + k, none⟩ = some (.slice aj n cj) := by
        rw [← hc]; exact World.cell?_of_block ((World.grownBy_alloc w _ none).block b hb (by simp))
      clear hd hset
      go_wp2
      go_roundw
      case rel => exact ⟨k + 1, by omega, by go_num, by first | rfl | trivial⟩
      case measure => simp [intOf]; omega
    · have : k = docs.length := by omega
      subst this
      clear hlt
      go_wp2
      go_loopw [9] (fun i wr => ∃ k : Nat, i = .int .i64 (f + k) ∧ f + k ≤ t ∧ ∃ (m : Nat) (D : DataW H), m ≤ 4000 * k ∧ wr.ownsGroups Tryz.prog 9 (w.heap.size + 2) 3 .i64 (w.heap.size + 1) m D ∧ Repr D (S.grp docs f k 0) ∧
          Below w.heap.size w wr ∧ wr.cell? ⟨w.heap.size, 1, none⟩ = some (.int .i64 t) ∧ w.heap.size + 2 ≤ wr.heap.size)
        (fun i _ => (t - intOf i).toNat)
      case atStart =>
        have hsz : (w.alloc (.cells #[.int .i64 f, .int .i64 t] 47)).heap.size = w.heap.size + 1 := by simp
        have hg := World.ownsGroups_made (H := H) (w.alloc (.cells #[.int .i64 f, .int .i64 t] 47)) Tryz.prog 9 3 .i64
        rw [hsz] at hg
        refine ⟨0, by simp, by simpa using h1, 0, _, Nat.le_refl _, hg, Repr.empty.ext (fun s => (S.grp_0 docs f s).symm), ((Below.refl _ _).alloc (Nat.le_refl _) _).alloc (by simp) _, ?_, by simp⟩
        rw [cell_alloc_alloc]; rfl
      case round =>
        obtain ⟨k, rfl, hk, m, D, hm, hown, hrep, hnx, hbox, hws⟩ := hrel
        by_cases hlt : f + k < t
        · obtain ⟨n, hn⟩ : ∃ n : Nat, f + (k : Int) = n := ⟨(f + k).toNat, by omega⟩
          have hnl : n < docs.length := by omega
          obtain ⟨b, o, aj, cj, rfl, hb, hc, hv⟩ := hd n hnl
          have hs := hset n wr hnl hnx
          rw [hv] at hs hc
          have hc' : wr.cell? ⟨b, o + n, none⟩ = some (.slice aj (docs.getD n []).length cj) := (hnx.cell (by exact hb)).trans hc
          have eL : S.setK docs 0 n = S.setK docs f k := by unfold S.setK; rw [hn]; simp
          rw [eL] at hs
          have hterm' := hterm n
          rw [eL] at hterm'
          obtain ⟨w0r, rfl⟩ : ∃ x, x = wr := ⟨wr, rfl⟩
          have hL : (S.setK docs f k).length ≤ 4000 := by unfold S.setK; exact S.doc_sorted hp _
          simp only [hn] at hk ⊢
          generalize (docs.getD n []).length = dl at hc' hs
          clear hd hset hc hv
          go_wp2_with (first
            | (go_at_call 57; refine hs.mono ?_; rintro e w1 ⟨vs, rfl, hrow, hb1⟩; obtain ⟨av, cp, rfl, hav⟩ := row_form hrow)
            | go_in)
          have hgrp1 := groups_below hown hb1
          have hsh1 : w1.Shuns (w.heap.size + 1) (fun g => (Value.slice av (S.setK docs f k).length cp).ownBlock = some g) := shuns_new hown hb1 (fun g hg => (hrow.lt g hg).1)
          have hnx1 : Below w.heap.size w w1 := hnx.trans (hb1.mono (by omega))
          have hbox1 : w1.cell? ⟨w.heap.size, 1, none⟩ = some (.int .i64 t) := (hb1.cell (by show w.heap.size < w0r.heap.size; omega)).trans hbox
          have hwr1 : w0r.heap.size ≤ w1.heap.size := hb1.size
          clear hs hb1 hc'
          go_loopw [62] (fun i wq => ∃ j : Nat, i = .int .i64 j ∧ j ≤ (S.setK docs f k).length ∧ ∃ (m2 : Nat) (D2 : DataW H), m2 ≤ m + j ∧ wq.ownsGroups Tryz.prog 9 (w.heap.size + 2) 3 .i64 (w.heap.size + 1) m2 D2 ∧ Repr D2 (S.grp docs f k j) ∧
              wq.Shuns (w.heap.size + 1) (fun g => (Value.slice av (S.setK docs f k).length cp).ownBlock = some g) ∧ Below w.heap.size w wq ∧ wq.cell? ⟨w.heap.size, 1, none⟩ = some (.int .i64 t) ∧
              wq.ownsRow w0r.heap.size 9 1 (.slice av (S.setK docs f k).length cp) (S.setK docs f k).length ((S.setK docs f k).map encS) ∧ w0r.heap.size ≤ wq.heap.size)
            (fun i _ => (S.setK docs f k).length - (intOf i).toNat)
          case atStart => exact ⟨0, rfl, Nat.zero_le _, m, D, by omega, hgrp1, hrep, hsh1, hnx1, hbox1, hrow, hwr1⟩
          case round =>
            obtain ⟨j, rfl, hj, m2, D2, hm2, hown2, hrep2, hsh2, hnx2, hbox2, hrow2, hwq⟩ := hrel
            by_cases hjl : j < (S.setK docs f k).length
            · obtain ⟨g, rfl, hg1, hg2⟩ := hav (by omega)
              have hcell := row_cell hrow2 hjl
              rw [Nat.zero_add] at hcell
              have hkey := key_str (P := Tryz.prog) Tryz.underlying9 (hterm' _ (S.getD_mem _ j [] hjl))
              have hhit := S.grp_hit (docs := docs) (a := f) (k := k) hjl
              have hmiss := fun s => S.grp_miss (docs := docs) (a := f) (k := k) (j := j) hjl (s := s)
              have hglen := S.grp_len docs f k j ((S.setK docs f k).getD j [])
              unfold Vg.encS at hcell
              generalize (S.setK docs f k).getD j [] = sj at hcell hkey hhit hmiss hglen
              have hg2' : g < wr.heap.size := (hrow2.lt g rfl).2
              have hmm2 : m2 < maxLen := by unfold maxLen; omega
              clear hterm hterm' hav
              go_wp2_with (first
                | (at_lookup; refine wpList_lookup_groups_shuns _ rfl _ _ 99 rfl 9 28 3 .i64 Tryz.law9 Tryz.underlying99 (Tryz.zero28 _) (w.heap.size + 2) (w.heap.size + 1) m2 _ rfl hown2 hmm2 _ _ rfl hkey ?_; intro v zs hat hoi hzl hback hsh)
                | (at_builtin; refine wpList_append_own_at _ rfl _ _ 28 rfl (w.heap.size + 2) 3 i0 (.int .i64 0) 1 8 Tryz.underlying28 hi hz0 hz1 hz2 rfl (by decide) _ _ _ rfl (hoi.1.alloc _) ⟨wr.heap.size, 0, none⟩ 1 1 [.int .i64 n] rfl rfl (cell_one_new _ _ _) (ints_oneCell .i64 [(n : Int)]) (by unfold maxLen; omega) (by omega) (by simp; omega) ?_; intro v' w3 hown3 hgrow hnil hloc)
                | (at_mapUpdate; have hno := hno_of hsh hsh2 hloc hg2'; refine wpList_mapUpdate_back_shuns _ rfl _ _ _ 99 rfl Tryz.law9 Tryz.underlying99 hkey hown2 hmm2 hoi hsh2 hno hback rfl rfl rfl ((World.grownBy_alloc _ _ _).trans hgrow) (hoi.appended hown3 (WalkArith.wf_i64 (by omega))) (by simp; omega) (hloc.imp id (fun h => ⟨_, h, by simp⟩)) ?_; intro w4 hown4 hgrow4 hsh4)
                | go_in)
              have hall := (World.grownBy_alloc wr _ _).trans hgrow
              have hw3 : wr.heap.size ≤ w3.heap.size := hall.size
              have hvb : ∀ g', v.ownBlock = some g' → w.heap.size + 2 ≤ g' := fun g' hg' => (hoi.1.lt g' hg').1
              refine ⟨⟨j + 1, by go_num, by omega, m2 + 1, _, by omega, hown4, ?_, hsh4, ?_, ?_, ?_, ?_⟩, by simp [intOf]; omega⟩
              · refine hrep2.put (hoi.appended hown3 (WalkArith.wf_i64 (by omega))) (by simp) ?_ hmiss
                rw [hhit, hn]
                have := items_row (H := H) hoi
                rw [← hat, (hrep2.2 sj).1] at this
                rw [this]
              · exact hnx2.groups hoi hall hgrow4 hnx2.size (by omega) (by omega)
              · refine cell_gr hgrow4 (by show w.heap.size < w3.heap.size; omega) (by show some w.heap.size ≠ some (w.heap.size + 1); simp) (cell_gr hall (by show w.heap.size < wr.heap.size; omega) ?_ hbox2)
                show some w.heap.size ≠ v.ownBlock
                intro h
                have := hvb _ h.symm
                omega
              · refine (hrow2.kept hall (.inr ?_)).kept hgrow4 (.inr ?_)
                · intro h
                  exact hsh _ hsh2 g h.symm rfl
                · intro h
                  simp only [Value.ownBlock, Option.some.injEq] at h
                  omega
              · exact Nat.le_trans hwq (Nat.le_trans hw3 hgrow4.size)
            · have : j = (S.setK docs f k).length := by omega
              subst this
              clear hjl hterm hterm'
              have hrep3 := hrep2.ext (fun s => S.grp_next (docs := docs) (a := f) (k := k) (j := (S.setK docs f k).length) (by omega) s)
              clear hrep2
              go_wp2
              exact ⟨⟨k + 1, by rw [show f + ((k + 1 : Nat) : Int) = (n : Int) + 1 by omega], by omega, m2, D2, by omega, hown2, hrep3, hnx2, hbox2, by omega⟩, by simp [intOf]; omega⟩
        · have hk2 : t = f + k := by omega
          have hkk : (t - f).toNat = k := by omega
          have hmap := map_of_groups hown
          have hcS := callsIn_wide.1 (Tryz.slices_Sorted_keys_58_59 (w.heap.size + 1) m D _ wr hmap (by have := map_size hmap; unfold maxLen; omega) (by have := map_size hmap; omega))
          have hkl := fun (ss : List (List UInt8)) (hss : ss.Perm (strKeys D)) => keys_law (docs := docs) (f := f) (t := t) hmap Tryz.law9 Tryz.underlying9 (by rw [hkk]; exact hrep) hss
          obtain ⟨w0r, rfl⟩ : ∃ x, x = wr := ⟨wr, rfl⟩
          clear hd hset hterm
          subst hk2
          go_wp2_with (first
            | (go_at_call 59; refine (Tryz.keys_at _ _).mono ?_; rintro e w4 ⟨rfl, rfl⟩)
            | (go_at_call 58; refine hcS.mono ?_; rintro e w5 ⟨vs, ss, rfl, hS, hrow, hnil, hb5⟩; obtain ⟨hk3, hk4, hk5, hk6⟩ := hkl ss hS; rw [hk3, hk4] at hrow; obtain ⟨av, cp, rfl, hav⟩ := row_form hrow)
            | go_in)
          have hb5' : Below w0r.heap.size w0r w5 := ((Below.refl _ w0r).alloc (Nat.le_refl _) _).trans (hb5.mono (by simp))
          have hown5 := groups_below hown hb5'
          have hnx5 : Below w.heap.size w w5 := hnx.trans (hb5'.mono (by omega))
          have hsz5 : w0r.heap.size ≤ w5.heap.size := hb5'.size
          clear hcS hkl hmap hb5 hown hS hnil hk3
          go_loopw [12, 79] (fun d i wq => ∃ j : Nat, i = .int .i64 j ∧ j ≤ (S.makeK docs f (f + k)).length ∧ ∃ xs, wq.ownsRow w5.heap.size 87 2 d j xs ∧
              RdL (RdV w5 (fun b => w.heap.size ≤ b ∧ b < w5.heap.size) [.str, .slice [.int .i64]]) xs (S.makeTo docs f (f + k) j) ∧ Below w5.heap.size w5 wq)
            (fun _ i _ => (S.makeK docs f (f + k)).length - (intOf i).toNat)
          case atStart => exact ⟨0, rfl, Nat.zero_le _, [], World.ownsRow_nil _ _ _ _, rfl, Below.refl _ _⟩
          case round =>
            obtain ⟨j, rfl, hj, xs, hrowd, hrdl, hbq⟩ := hrel
            by_cases hjl : j < (S.makeK docs f (f + k)).length
            · obtain ⟨g, rfl, hg1, hg2⟩ := hav (by omega)
              have hcell5 := row_cell hrow hjl
              have hcell : wr.cell? ⟨g, 0 + j, none⟩ = some (Vg.encS ((S.makeK docs f (f + k)).getD j [])) := (hbq.cell hg2).trans hcell5
              rw [Nat.zero_add] at hcell
              have hkl := hk5 _ (S.getD_mem _ j [] hjl)
              have hkey := key_str (P := Tryz.prog) Tryz.underlying9 hkl
              have hsucc := fun tt (ht : (S.makeK docs f (f + k)).getD j [] = tt) => S.makeTo_succ (docs := docs) (a := f) (b := f + k) (k := j) (j := k) hjl hkk.symm ht
              unfold Vg.encS at hcell
              have hownq := groups_below hown5 hbq
              have hshq : wr.Shuns (w.heap.size + 1) (fun g => w5.heap.size ≤ g) := shuns_new hown5 hbq (fun g hg => hg)
              have hat0 := fun s => (hrep.2 s).1
              generalize (S.makeK docs f (f + k)).getD j [] = sj at hcell hkey hkl hsucc
              have hmm2 : m < maxLen := by unfold maxLen; omega
              clear hcell5 hk5
              go_wp2_with (first
                | (at_lookup; refine wpList_lookup_groups_shuns _ rfl _ _ 99 rfl 9 28 3 .i64 Tryz.law9 Tryz.underlying99 (Tryz.zero28 _) (w.heap.size + 2) (w.heap.size + 1) m _ rfl hownq hmm2 _ _ rfl hkey ?_; intro v zs hat hoi hzl hback hsh; obtain ⟨av2, cp2, rfl, hav2⟩ := row_form hoi.1)
                | (at_builtin; refine wpList_append_own_at _ rfl _ _ 22 rfl w5.heap.size 87 i1 (.agg #[.string ⟨#[]⟩, .slice none 0 0]) 2 40 Tryz.underlying22 hi1 hy0 hy1 hy2 rfl (by decide) _ j xs rfl (hrowd.alloc _) ⟨wr.heap.size, 0, none⟩ 1 1 [.string ⟨sj.toArray⟩, .slice av2 zs.length cp2] rfl rfl (entry_cells _ _ _ _) (by intro u hu; simp at hu; rcases hu with rfl | rfl <;> rfl) (by unfold maxLen; omega) (by omega) (by have := hbq.size; simp; omega) ?_; intro v' w6 hown6 hgrow hnil hloc)
                | go_in)
              have hrd : Rd w5 (fun b => w.heap.size ≤ b ∧ b < w5.heap.size) (.slice [.int .i64]) (.slice av2 zs.length cp2) zs :=
                rd_back hoi hbq (fun g' hg' => by have := hsh _ hshq g' hg'; omega) (fun g' h1 h2 => ⟨by omega, h2⟩)
              have hz : zs = S.docsTo docs f sj k := by
                have e1 := items_row (H := H) hoi
                rw [← hat, hat0] at e1
                rw [← e1]; simp [S.grp]
              have hall := (World.grownBy_alloc wr (.cells #[.string ⟨sj.toArray⟩, .slice av2 zs.length cp2] 87) _).trans hgrow
              refine ⟨⟨j + 1, by go_num, by omega, xs ++ [.string ⟨sj.toArray⟩, .slice av2 zs.length cp2], hown6, ?_, ?_⟩, by simp [intOf]; omega⟩
              · rw [← hsucc sj rfl, ← hz]
                exact rdl_snoc _ _ _ _ hrdl (rd_entry hkl hrd)
              · exact hbq.grown hall hbq.size (fun g' hg' => (hrowd.lt g' hg').1)
            · have hje : j = (S.makeK docs f (f + k)).length := by omega
              subst hje
              rw [S.makeTo_end (by omega)] at hrdl
              clear hav hk5
              go_wp2
              go_ret2
              refine ⟨_, xs, w5, rfl, hnx5.trans (hbq.mono (by omega)), hbq, by omega, ?_, hrdl⟩
              have hml : (S.make docs f (f + k)).length = (S.makeK docs f (f + k)).length := by simp [S.make]
              rw [hml]
              exact hrowd
set_option maxRecDepth 100000 in
set_option maxHeartbeats 4000000 in
theorem Tryz.make_bad1 (docs : List (List UInt8)) (f t : Int) (da : Option Addr) (cap : Nat) (w : World) (hc : 1000 < docs.length ∨ f < 0 ∨ t < f ∨ (docs.length : Int) < t) :
    Calls Tryz.prog 24 #[.slice da docs.length cap, .agg #[.int .i64 f, .int .i64 t]] w fun e w' => e = .returned (.tuple #[.slice none 0 0, .int .i64 1]) ∧ Below w.heap.size w w' := by
  generalize docs.length = n at hc
  go_enter Tryz.func24, Tryz.ntmps24
  go_wp2
  all_goals (go_ret2; exact ⟨rfl, (Below.refl _ _).alloc (Nat.le_refl _) _⟩)
set_option maxRecDepth 100000 in
set_option maxHeartbeats 4000000 in
theorem Tryz.make_bad2 (docs : List (List UInt8)) (f t : Int) (da : Option Addr) (cap : Nat) (w : World) (h0 : 0 ≤ f) (h1 : f ≤ t) (h2 : t ≤ docs.length) (h3 : docs.length ≤ 1000) (dv : Nat → Value)
    (hd : ∀ j, j < docs.length → ∃ b o aj cj, da = some ⟨b, o, none⟩ ∧ b < w.heap.size ∧ w.cell? ⟨b, o + j, none⟩ = some (dv j) ∧ dv j = .slice aj (docs.getD j []).length cj)
    (hc : ¬ ∀ j, j < docs.length → (docs.getD j []).length ≤ 2000) :
    Calls Tryz.prog 24 #[.slice da docs.length cap, .agg #[.int .i64 f, .int .i64 t]] w fun e w' => e = .returned (.tuple #[.slice none 0 0, .int .i64 1]) ∧ Below w.heap.size w w' := by
  go_enter Tryz.func24, Tryz.ntmps24
  go_wp2
  go_loopw [39] (fun i wr => ∃ k : Nat, k ≤ docs.length ∧ i = .int .i64 k ∧ wr = w.alloc (.cells #[.int .i64 f, .int .i64 t] 47) ∧ ∀ j, j < k → (docs.getD j []).length ≤ 2000)
    (fun i _ => docs.length - (intOf i).toNat)
  case atStart => exact ⟨0, Nat.zero_le _, rfl, rfl, fun j hj => by omega⟩
  case round =>
    obtain ⟨k, hk, rfl, rfl, hall⟩ := hrel
    by_cases hlt : k < docs.length
    · obtain ⟨b, o, aj, cj, rfl, hb, hcl, hv⟩ := hd k hlt
      rw [hv] at hcl
      have hc' : (w.alloc (.cells #[.int .i64 f, .int .i64 t] 47)).cell? ⟨b, o + k, none⟩ = some (.slice aj (docs.getD k []).length cj) := by
        rw [← hcl]; exact World.cell?_of_block ((World.grownBy_alloc w _ none).block b hb (by simp))
      clear hd hcl hv hc
      by_cases hl : (docs.getD k []).length ≤ 2000
      · have hall' : ∀ j, j < k + 1 → (docs.getD j []).length ≤ 2000 := fun j hj => by
          by_cases e : j = k
          · subst e; exact hl
          · exact hall j (by omega)
        clear hall
        generalize (docs.getD k []).length = n at hc' hl
        go_wp2
        go_roundw
        case rel => exact ⟨k + 1, by omega, by go_num, by first | rfl | trivial, hall'⟩
        case measure => simp [intOf]; omega
      · clear hall
        generalize (docs.getD k []).length = n at hc' hl
        go_wp2
        go_ret2
        exact ⟨rfl, (Below.refl _ _).alloc (Nat.le_refl _) _⟩
    · exact absurd (fun j hj => hall j (by omega)) hc
end Go.Proofs
end
section
namespace Go.S
theorem term_short {docs : List (List UInt8)} {a : Int} {j : Nat} : ∀ s ∈ setK docs a j, s.length ≤ maxLen := fun s hs => by
  have h1 := (sorted_mem _ _).1 hs
  simp only [terms, List.mem_map] at h1
  obtain ⟨w, _, rfl⟩ := h1
  have := termF_le w [] (by simp)
  unfold termOf maxLen
  omega
theorem fair_pre {docs : List (List UInt8)} {f t : Int} (h : fairD docs f t = true) : makePre docs f t ∧ ∀ j, (docs.getD j []).length ≤ 2000 := by
  simp only [fairD, Bool.and_eq_true, List.all_eq_true, decide_eq_true_eq] at h
  obtain ⟨h1, h2, h3, h4, h5⟩ := h
  refine ⟨⟨h3, h4, h5, by omega, fun d hd => by have := h1 d hd; omega⟩, fun j => ?_⟩
  by_cases hj : j < docs.length
  · have := h1 _ (getD_mem docs j [] hj)
    omega
  · rw [List.getD_eq_getElem?_getD, List.getElem?_eq_none (by omega)]; simp
end Go.S
namespace Go.DM
open Go Go.Vg Go.Maps Go.RowKit Go.Proofs
theorem rdl_at {w : World} {A : Nat → Prop} {τ : Ty} : ∀ (l : List (D τ)) (cs : List Value), RdL (RdV w A [τ]) cs l → cs.length = l.length ∧ ∀ (j : Nat) (x : D τ), l[j]? = some x → Rd w A τ (cs.getD j undef) x
  | [], cs, h => by simp only [RdL] at h; subst h; exact ⟨rfl, fun j x hx => by simp at hx⟩
  | y :: l, cs, ⟨c1, c2, hc, h1, h2⟩ => by
    subst hc
    simp only [RdV] at h1
    obtain ⟨v, vs', rfl, hv, rfl⟩ := h1
    obtain ⟨g1, g2⟩ := rdl_at l c2 h2
    refine ⟨by simp [g1], fun j x hx => ?_⟩
    cases j with
    | zero => simp at hx; subst hx; exact hv
    | succ j => simpa using g2 j x (by simpa using hx)
theorem argsD_bytes (b : List UInt8) : argsD [.one (.slice [.int .u8])] [.sl [.int .u8] b] = some b := rfl
set_option maxRecDepth 100000 in
theorem make_valid {G : Nat → Option GD} {Fs : Row (PS.flat [.one (.slice [.int .u8])]) → Prop × AV × List AB} (hset : Valid Tryz.prog G 57 (sigOf [.one (.slice [.int .u8])] Fs))
    (hFs : ∀ b : List UInt8, Fs b = (S.small b, .own 0, [.row 9 [.str] (S.sorted (S.terms b)) false]))
    {F : Row (PS.flat [.one (.slice [.slice [.int .u8]]), .agg [.int .i64, .int .i64]]) → Prop × AV × List AB}
    (hF : ∀ (docs : List (List UInt8)) (f t : Int), F (docs, f, t) = (True, .tup [.sl [.str, .slice [.int .i64]] (S.dMake docs f t).1, .int .i64 ((S.dMake docs f t).2 : Int)], [])) :
    Valid Tryz.prog G 24 (sigOf [.one (.slice [.slice [.int .u8]]), .agg [.int .i64, .int .i64]] F) := by
  intro w A β args avs pre res bs hA hG hargs hs hp
  unfold sigOf at hs
  split at hs
  · rename_i x hx
    obtain ⟨docs, f, t⟩ := x
    change List (List UInt8) at docs
    change Int at f
    change Int at t
    have hs' := hs
    rw [hF docs f t] at hs'
    simp only [Option.some.injEq, Prod.mk.injEq] at hs'
    obtain ⟨rfl, rfl, rfl⟩ := hs'
    obtain ⟨g1, g2⟩ := backD_rel _ hx hargs
    clear hs hp hx hargs g2
    change AVrels w A β args [.sl [.slice [.int .u8]] docs, .agg [.int .i64 f, .int .i64 t]] at g1
    simp only [AVrels, AVrel] at g1
    obtain ⟨vd, vs', rfl, hvd, va, vs'', rfl, ⟨arr, rfl, harr⟩, rfl⟩ := g1
    obtain ⟨u1, us, e1, ⟨rfl, hf⟩, u2, us', rfl, ⟨rfl, ht⟩, rfl⟩ := harr
    obtain rfl : arr = #[.int .i64 f, .int .i64 t] := by apply Array.ext'; simpa using e1
    simp only [Rd] at hvd
    obtain ⟨a, cap, cs, rfl, hcap, hcap2, hrdl, hmem⟩ := hvd
    obtain ⟨hcl, hcs⟩ := rdl_at (τ := .slice [.int .u8]) docs cs hrdl
    have hd : ∀ j, j < docs.length → ∃ b o aj cj, a = some ⟨b, o, none⟩ ∧ b < w.heap.size ∧ w.cell? ⟨b, o + j, none⟩ = some (cs.getD j undef) ∧ cs.getD j undef = .slice aj (docs.getD j []).length cj := by
      intro j hj
      obtain ⟨b, o, rfl, hAb, hr⟩ := hmem (by intro h; rw [h] at hcl; simp at hcl; omega)
      have h1 := hcs j (docs.getD j []) (by rw [List.getD_eq_getElem?_getD, List.getElem?_eq_getElem hj]; rfl)
      simp only [Rd] at h1
      obtain ⟨aj, cj, cs', h2, _⟩ := h1
      refine ⟨b, o, aj, cj, rfl, hA b hAb, hr j _ ?_, h2⟩
      rw [List.getD_eq_getElem?_getD, List.getElem?_eq_getElem (by omega)]; rfl
    show Calls Tryz.prog 24 #[.slice a docs.length cap, .agg #[.int .i64 f, .int .i64 t]] w _
    have bad : Calls Tryz.prog 24 #[.slice a docs.length cap, .agg #[.int .i64 f, .int .i64 t]] w (fun e w' => e = .returned (.tuple #[.slice none 0 0, .int .i64 1]) ∧ Below w.heap.size w w') → S.fairD docs f t = false →
        Calls Tryz.prog 24 #[.slice a docs.length cap, .agg #[.int .i64 f, .int .i64 t]] w (fun e w' => ∃ v, e = .returned v ∧ ∃ A' β', CallPost w A w' v (.tup [.sl [.str, .slice [.int .i64]] (S.dMake docs f t).1, .int .i64 ((S.dMake docs f t).2 : Int)]) [] A' β') := by
      intro hc hb
      refine hc.mono fun e w' ⟨he, hbl⟩ => ⟨_, he, A, β, { os := hbl.os, tape := hbl.tape, output := hbl.output, size := hbl.size, same := hbl.block, mono := fun _ h => h, old := fun _ _ h => h, bound := fun b h => Nat.lt_of_lt_of_le (hA b h) hbl.size, res := ?_, rows := fun i ab hi => by simp at hi, apart := fun i j b hi => by simp at hi }⟩
      have e2 : S.dMake docs f t = ([], 1) := by unfold S.dMake; rw [hb]; rfl
      rw [e2]
      simp only [AVrel, AVrels]
      refine ⟨_, rfl, _, _, rfl, ?_, _, _, rfl, ⟨rfl, by simp only [lo, hi]; omega⟩, rfl⟩
      simp only [Rd]
      exact ⟨none, 0, [], rfl, Nat.le_refl _, Nat.zero_le _, rfl, fun h => absurd rfl h⟩
    cases hfair : S.fairD docs f t with
    | false =>
      refine bad ?_ hfair
      by_cases hc : 1000 < docs.length ∨ f < 0 ∨ t < f ∨ (docs.length : Int) < t
      · exact Tryz.make_bad1 docs f t a cap w hc
      · refine Tryz.make_bad2 docs f t a cap w (by omega) (by omega) (by omega) (by omega) _ hd fun hall => ?_
        have : S.fairD docs f t = true := by
          simp only [S.fairD, Bool.and_eq_true, List.all_eq_true, decide_eq_true_eq]
          refine ⟨fun d hd' => ?_, by omega, by omega, by omega, by omega⟩
          obtain ⟨i, hi', rfl⟩ := List.getElem_of_mem hd'
          have := hall i hi'
          rw [List.getD_eq_getElem?_getD, List.getElem?_eq_getElem hi'] at this
          simp only [Option.getD_some] at this
          omega
        rw [this] at hfair; cases hfair
    | true =>
      obtain ⟨hmp, h4⟩ := S.fair_pre hfair
      have hset' : ∀ (j : Nat) (W : World), j < docs.length → Below w.heap.size w W → Calls Tryz.prog 57 #[cs.getD j undef] W fun e w' => ∃ v, e = .returned v ∧ w'.ownsRow W.heap.size 9 1 v (S.setK docs 0 j).length ((S.setK docs 0 j).map Vg.encS) ∧ Below W.heap.size W w' := by
        intro j W hj hW
        have hk : Keeps w W A A := fun b hb => ⟨hb, hW.block b (hA b hb)⟩
        have h1 := Rd_mono hk _ _ _ (hcs j (docs.getD j []) (by rw [List.getD_eq_getElem?_getD, List.getElem?_eq_getElem hj]; rfl))
        have h2 := hset W A β [cs.getD j undef] [.sl [.int .u8] (docs.getD j [])] (S.small (docs.getD j [])) (.own 0) [.row 9 [.str] (S.sorted (S.terms (docs.getD j []))) false]
          (fun b hb => Nat.lt_of_lt_of_le (hA b hb) hW.size) (fun i d hi => (hG i d hi).mono hk) (by simp only [AVrels, AVrel]; exact ⟨_, _, rfl, h1, rfl⟩)
          (by unfold sigOf; rw [argsD_bytes]; simp only [hFs]) (by have := h4 j; unfold S.small; omega)
        refine h2.mono fun e w' ⟨v, he, A', β', hpost⟩ => ⟨v, he, ?_, hpost.os, hpost.tape, hpost.output, hpost.size, hpost.same⟩
        have hr := hpost.res
        simp only [AVrel] at hr
        obtain ⟨⟨xs, ho, hrd, _⟩, hblk⟩ := hpost.rows 0 _ rfl
        obtain ⟨rfl, _⟩ := rdl_str _ xs hrd
        have eK : S.setK docs 0 j = S.sorted (S.terms (docs.getD j [])) := by unfold S.setK; simp
        rw [eK, hr.1]
        refine ⟨ho.1, ?_⟩
        rcases ho.2 with hn | ⟨g, cap', cur, hv, _, rest⟩
        · exact .inl hn
        · exact .inr ⟨g, cap', cur, hv, hblk g (by rw [hv]; rfl), rest⟩
      refine (Tryz.make_walk (H := Unit) docs f t a cap w hmp h4 _ hd hset' (fun j s hs => S.term_short s hs)).mono fun e w' ⟨v, xs, W1, he, hbl, hbl1, hW1, ho, hrd⟩ => ?_
      have e2 : S.dMake docs f t = (S.make docs f t, 0) := by unfold S.dMake; rw [hfair]; rfl
      rw [e2]
      refine ⟨_, he, fun b => A b ∨ (w.heap.size ≤ b ∧ b < w'.heap.size), β, { os := hbl.os, tape := hbl.tape, output := hbl.output, size := hbl.size, same := hbl.block, mono := fun _ h => .inl h, old := fun b hb h => ?_, bound := fun b h => ?_, res := ?_, rows := fun i ab hi => by simp at hi, apart := fun i j b hi => by simp at hi }⟩
      · rcases h with h | h
        · exact h
        · omega
      · rcases h with h | h
        · exact Nat.lt_of_lt_of_le (hA b h) hbl.size
        · exact h.2
      · simp only [AVrel, AVrels]
        refine ⟨_, rfl, _, _, rfl, ?_, _, _, rfl, ⟨rfl, by simp only [lo, hi]; omega⟩, rfl⟩
        have hk : Keeps W1 w' (fun b => w.heap.size ≤ b ∧ b < W1.heap.size) (fun b => A b ∨ (w.heap.size ≤ b ∧ b < w'.heap.size)) := fun b hb => ⟨.inr ⟨hb.1, Nat.lt_of_lt_of_le hb.2 hbl1.size⟩, hbl1.block b hb.2⟩
        have hrd' := RdL_mono (fun c x hx => RdV_mono hk _ c x hx) _ _ hrd
        simp only [Rd]
        rcases ho.2 with ⟨rfl, h0⟩ | ⟨g, cap', cur, rfl, hg, hh, hn, hc, hsz, htk⟩
        · have hm0 : S.make docs f t = [] := List.length_eq_zero_iff.1 h0
          rw [hm0]
          exact ⟨none, 0, [], rfl, Nat.le_refl _, Nat.zero_le _, rfl, fun h => absurd rfl h⟩
        · refine ⟨some ⟨g, 0, none⟩, cap', xs, rfl, hn, hc, hrd', fun _ => ⟨g, 0, rfl, .inr ⟨by omega, (Array.getElem?_eq_some_iff.1 hh).1⟩, fun j u hj => ?_⟩⟩
          have := ho.cells (g := g) rfl j u hj
          rwa [Addr.add_mid] at this
  · cases hs
end Go.DM
end
section
set_option linter.unusedVariables false
set_option maxHeartbeats 0
set_option maxRecDepth 100000
namespace Go.J
open Go.Proofs
open Go Vg
theorem mixed : Tryz.prog.follows .mixedOrders = true := by kernel_rfl
theorem ok_E0 : EnvOk Tryz.prog E0 := EnvOk.none G0 (TabOk.of tab_ok)
theorem v_a6 : Valid Tryz.prog G0 187 s_a6 := valid_sigOf ok_E0 mixed p_a6 L_a6 Tryz.func187 (c := body Tryz.f187) (by kernel_rfl) (by
  rintro ⟨x, k⟩ hp hf
  have h := H_a6 x k hp hf
  with_reducible refine Eq.mp ?_ h
  kernel_rfl)
theorem ok_E_a6 : EnvOk Tryz.prog E_a6 := EnvOk.cons ok_E0 v_a6 (FnOk.of Tryz.func187 (c := body Tryz.f187) (by kernel_rfl) (by kernel_rfl))
theorem v_a7 : Valid Tryz.prog G0 155 s_a7 := valid_sigOf ok_E_a6 mixed p_a7 L_a7 Tryz.func155 (c := body Tryz.f155) (by kernel_rfl) (by
  rintro ⟨⟩ hp hf
  have h := H_a7  hp hf
  with_reducible refine Eq.mp ?_ h
  kernel_rfl)
theorem ok_E_a7 : EnvOk Tryz.prog E_a7 := EnvOk.cons ok_E_a6 v_a7 (FnOk.of Tryz.func155 (c := body Tryz.f155) (by kernel_rfl) (by kernel_rfl))
theorem v_a8 : Valid Tryz.prog G0 177 s_a8 := valid_sigOf ok_E_a7 mixed p_a8 L_a8 Tryz.func177 (c := body Tryz.f177) (by kernel_rfl) (by
  rintro ⟨s1, s2, s3, s4, s5, s6, s7, s8, s9, s10⟩ hp hf
  have h := H_a8 s1 s2 s3 s4 s5 s6 s7 s8 s9 s10 hp hf
  with_reducible refine Eq.mp ?_ h
  kernel_rfl)
theorem ok_E_a8 : EnvOk Tryz.prog E_a8 := EnvOk.cons ok_E_a7 v_a8 (FnOk.of Tryz.func177 (c := body Tryz.f177) (by kernel_rfl) (by kernel_rfl))
theorem v_a9 : Valid Tryz.prog G0 184 s_a9 := valid_sigOf ok_E_a8 mixed p_a9 L_a9 Tryz.func184 (c := body Tryz.f184) (by kernel_rfl) (by
  rintro ⟨u1, u2, u3, u4, u5, u6, u7, u8, p⟩ hp hf
  have h := H_a9 u1 u2 u3 u4 u5 u6 u7 u8 p hp hf
  with_reducible refine Eq.mp ?_ h
  kernel_rfl)
theorem ok_E_a9 : EnvOk Tryz.prog E_a9 := EnvOk.cons ok_E_a8 v_a9 (FnOk.of Tryz.func184 (c := body Tryz.f184) (by kernel_rfl) (by kernel_rfl))
theorem v_a10 : Valid Tryz.prog G0 178 s_a10 := valid_sigOf ok_E_a9 mixed p_a10 L_a10 Tryz.func178 (c := body Tryz.f178) (by kernel_rfl) (by
  rintro ⟨u1, u2, u3, u4, u5, u6, u7, u8, b⟩ hp hf
  have h := H_a10 u1 u2 u3 u4 u5 u6 u7 u8 b hp hf
  with_reducible refine Eq.mp ?_ h
  kernel_rfl)
theorem ok_E_a10 : EnvOk Tryz.prog E_a10 := EnvOk.cons ok_E_a9 v_a10 (FnOk.of Tryz.func178 (c := body Tryz.f178) (by kernel_rfl) (by kernel_rfl))
theorem v_a11 : Valid Tryz.prog G0 154 s_a11 := valid_sigOf ok_E_a10 mixed p_a11 L_a11 Tryz.func154 (c := body Tryz.f154) (by kernel_rfl) (by
  rintro ⟨s1, s2, s3, s4, s5, s6, s7, s8, s9, s10, b⟩ hp hf
  have h := H_a11 s1 s2 s3 s4 s5 s6 s7 s8 s9 s10 b hp hf
  with_reducible refine Eq.mp ?_ h
  kernel_rfl)
theorem ok_E_a11 : EnvOk Tryz.prog E_a11 := EnvOk.cons ok_E_a10 v_a11 (FnOk.of Tryz.func154 (c := body Tryz.f154) (by kernel_rfl) (by kernel_rfl))
theorem v_a12 : Valid Tryz.prog G0 153 s_a12 := valid_sigOf ok_E_a11 mixed p_a12 L_a12 Tryz.func153 (c := body Tryz.f153) (by kernel_rfl) (by
  rintro ⟨s1, s2, s3, s4, s5, s6, s7, s8, s9, s10⟩ hp hf
  have h := H_a12 s1 s2 s3 s4 s5 s6 s7 s8 s9 s10 hp hf
  with_reducible refine Eq.mp ?_ h
  kernel_rfl)
theorem ok_E_a12 : EnvOk Tryz.prog E_a12 := EnvOk.cons ok_E_a11 v_a12 (FnOk.of Tryz.func153 (c := body Tryz.f153) (by kernel_rfl) (by kernel_rfl))
theorem v_a13 : Valid Tryz.prog G0 130 s_a13 := valid_sigOf ok_E_a12 mixed p_a13 L_a13 Tryz.func130 (c := body Tryz.f130) (by kernel_rfl) (by
  rintro b hp hf
  have h := H_a13 b hp hf
  with_reducible refine Eq.mp ?_ h
  kernel_rfl)
theorem ok_E_a13 : EnvOk Tryz.prog E_a13 := EnvOk.cons ok_E_a12 v_a13 (FnOk.of Tryz.func130 (c := body Tryz.f130) (by kernel_rfl) (by kernel_rfl))
theorem v_a18 : Valid Tryz.prog G0 77 s_a18 := valid_sigOf ok_E_a13 mixed p_a18 L_a18 Tryz.func77 (c := body Tryz.f77) (by kernel_rfl) (by
  rintro b hp hf
  have h := H_a18 b hp hf
  with_reducible refine Eq.mp ?_ h
  kernel_rfl)
theorem ok_E_a18 : EnvOk Tryz.prog E_a18 := EnvOk.cons ok_E_a13 v_a18 (FnOk.of Tryz.func77 (c := body Tryz.f77) (by kernel_rfl) (by kernel_rfl))
theorem v_a19 : ValidH Tryz.prog G0 109 s_a19 := valid_hsigOf ok_E_a18 mixed p_a19 q_a19 L_a19 Tryz.func109 (c := body Tryz.f109) (by kernel_rfl) (by
  rintro v ⟨l, ⟨⟩⟩ hp hf hg
  have h := H_a19 v l hp hf hg
  with_reducible refine Eq.mp ?_ h
  kernel_rfl)
theorem cv_a19 : ValidH Tryz.prog G0 109 c_a19 := v_a19
theorem ok_E_a19 : EnvOk Tryz.prog E_a19 := EnvOk.consH ok_E_a18 cv_a19 (FnOk.of Tryz.func109 (c := body Tryz.f109) (by kernel_rfl) (by kernel_rfl))
theorem v_a20 : ValidH Tryz.prog G0 76 s_a20 := valid_hsigOf ok_E_a19 mixed p_a20 q_a20 L_a20 Tryz.func76 (c := body Tryz.f76) (by kernel_rfl) (by
  rintro s ⟨l, ⟨⟩⟩ hp hf hg
  have h := H_a20 s l hp hf hg
  with_reducible refine Eq.mp ?_ h
  kernel_rfl)
theorem cv_a20 : ValidH Tryz.prog G0 76 c_a20 := v_a20
theorem ok_E_a20 : EnvOk Tryz.prog E_a20 := EnvOk.consH ok_E_a19 cv_a20 (FnOk.of Tryz.func76 (c := body Tryz.f76) (by kernel_rfl) (by kernel_rfl))
theorem v_a21 : Valid Tryz.prog G0 129 s_a21 := valid_sigOf ok_E_a20 mixed p_a21 L_a21 Tryz.func129 (c := body Tryz.f129) (by kernel_rfl) (by
  rintro ⟨b, v⟩ hp hf
  have h := H_a21 b v hp hf
  with_reducible refine Eq.mp ?_ h
  kernel_rfl)
theorem ok_E_a21 : EnvOk Tryz.prog E_a21 := EnvOk.cons ok_E_a20 v_a21 (FnOk.of Tryz.func129 (c := body Tryz.f129) (by kernel_rfl) (by kernel_rfl))
theorem v_a22 : Valid Tryz.prog G0 51 s_a22 := valid_sigOf ok_E_a21 mixed p_a22 L_a22 Tryz.func51 (c := body Tryz.f51) (by kernel_rfl) (by
  rintro ⟨b, s⟩ hp hf
  have h := H_a22 b s hp hf
  with_reducible refine Eq.mp ?_ h
  kernel_rfl)
theorem ok_E_a22 : EnvOk Tryz.prog E_a22 := EnvOk.cons ok_E_a21 v_a22 (FnOk.of Tryz.func51 (c := body Tryz.f51) (by kernel_rfl) (by kernel_rfl))
theorem v_a23 : Valid Tryz.prog G0 80 s_a23 := valid_sigOf ok_E_a22 mixed p_a23 L_a23 Tryz.func80 (c := body Tryz.f80) (by kernel_rfl) (by
  rintro ⟨r1, r2, r3⟩ hp hf
  have h := H_a23 r1 r2 r3 hp hf
  with_reducible refine Eq.mp ?_ h
  kernel_rfl)
theorem ok_E_a23 : EnvOk Tryz.prog E_a23 := EnvOk.cons ok_E_a22 v_a23 (FnOk.of Tryz.func80 (c := body Tryz.f80) (by kernel_rfl) (by kernel_rfl))
theorem v_a24 : Valid Tryz.prog G0 78 s_a24 := valid_sigOf ok_E_a23 mixed p_a24 L_a24 Tryz.func78 (c := body Tryz.f78) (by kernel_rfl) (by
  rintro ⟨r1, r2, r3⟩ hp hf
  have h := H_a24 r1 r2 r3 hp hf
  with_reducible refine Eq.mp ?_ h
  kernel_rfl)
theorem ok_E_a24 : EnvOk Tryz.prog E_a24 := EnvOk.cons ok_E_a23 v_a24 (FnOk.of Tryz.func78 (c := body Tryz.f78) (by kernel_rfl) (by kernel_rfl))
theorem v_a25 : Valid Tryz.prog G0 110 s_a25 := valid_sigOf ok_E_a24 mixed p_a25 L_a25 Tryz.func110 (c := body Tryz.f110) (by kernel_rfl) (by
  rintro ⟨b, p⟩ hp hf
  have h := H_a25 b p hp hf
  with_reducible refine Eq.mp ?_ h
  kernel_rfl)
theorem ok_E_a25 : EnvOk Tryz.prog E_a25 := EnvOk.cons ok_E_a24 v_a25 (FnOk.of Tryz.func110 (c := body Tryz.f110) (by kernel_rfl) (by kernel_rfl))
theorem v_a26 : Valid Tryz.prog G0 79 s_a26 := valid_sigOf ok_E_a25 mixed p_a26 L_a26 Tryz.func79 (c := body Tryz.f79) (by kernel_rfl) (by
  rintro ⟨b, p, most⟩ hp hf
  have h := H_a26 b p most hp hf
  with_reducible refine Eq.mp ?_ h
  kernel_rfl)
theorem ok_E_a26 : EnvOk Tryz.prog E_a26 := EnvOk.cons ok_E_a25 v_a26 (FnOk.of Tryz.func79 (c := body Tryz.f79) (by kernel_rfl) (by kernel_rfl))
theorem v_a27 : Valid Tryz.prog G0 52 s_a27 := valid_sigOf ok_E_a26 mixed p_a27 L_a27 Tryz.func52 (c := body Tryz.f52) (by kernel_rfl) (by
  rintro ⟨r1, r2, r3, most⟩ hp hf
  have h := H_a27 r1 r2 r3 most hp hf
  with_reducible refine Eq.mp ?_ h
  kernel_rfl)
theorem ok_E_a27 : EnvOk Tryz.prog E_a27 := EnvOk.cons ok_E_a26 v_a27 (FnOk.of Tryz.func52 (c := body Tryz.f52) (by kernel_rfl) (by kernel_rfl))
theorem v_a28 : Valid Tryz.prog G0 53 s_a28 := valid_sigOf ok_E_a27 mixed p_a28 L_a28 Tryz.func53 (c := body Tryz.f53) (by kernel_rfl) (by
  rintro ⟨r1, r2, r3⟩ hp hf
  have h := H_a28 r1 r2 r3 hp hf
  with_reducible refine Eq.mp ?_ h
  kernel_rfl)
theorem ok_E_a28 : EnvOk Tryz.prog E_a28 := EnvOk.cons ok_E_a27 v_a28 (FnOk.of Tryz.func53 (c := body Tryz.f53) (by kernel_rfl) (by kernel_rfl))
theorem v_a29 : Valid Tryz.prog G0 54 s_a29 := valid_sigOf ok_E_a28 mixed p_a29 L_a29 Tryz.func54 (c := body Tryz.f54) (by kernel_rfl) (by
  rintro ⟨r1, r2, r3⟩ hp hf
  have h := H_a29 r1 r2 r3 hp hf
  with_reducible refine Eq.mp ?_ h
  kernel_rfl)
theorem ok_E_a29 : EnvOk Tryz.prog E_a29 := EnvOk.cons ok_E_a28 v_a29 (FnOk.of Tryz.func54 (c := body Tryz.f54) (by kernel_rfl) (by kernel_rfl))
theorem v_a34 : Valid Tryz.prog G0 156 s_a34 := valid_sigOf ok_E_a29 mixed p_a34 L_a34 Tryz.func156 (c := body Tryz.f156) (by kernel_rfl) (by
  rintro ⟨kind, parts⟩ hp hf
  have h := H_a34 kind parts hp hf
  with_reducible refine Eq.mp ?_ h
  kernel_rfl)
theorem ok_E_a34 : EnvOk Tryz.prog E_a34 := EnvOk.cons ok_E_a29 v_a34 (FnOk.of Tryz.func156 (c := body Tryz.f156) (by kernel_rfl) (by kernel_rfl))
theorem v_a37 : Valid Tryz.prog G0 131 s_a37 := valid_sigOf ok_E_a34 mixed p_a37 L_a37 Tryz.func131 (c := body Tryz.f131) (by kernel_rfl) (by
  rintro b hp hf
  have h := H_a37 b hp hf
  with_reducible refine Eq.mp ?_ h
  kernel_rfl)
theorem ok_E_a37 : EnvOk Tryz.prog E_a37 := EnvOk.cons ok_E_a34 v_a37 (FnOk.of Tryz.func131 (c := body Tryz.f131) (by kernel_rfl) (by kernel_rfl))
theorem v_a40 : Valid Tryz.prog G0 98 s_a40 := valid_sigOf ok_E_a37 mixed p_a40 L_a40 Tryz.func98 (c := body Tryz.f98) (by kernel_rfl) (by
  rintro b hp hf
  have h := H_a40 b hp hf
  with_reducible refine Eq.mp ?_ h
  kernel_rfl)
theorem ok_E_a40 : EnvOk Tryz.prog E_a40 := EnvOk.cons ok_E_a37 v_a40 (FnOk.of Tryz.func98 (c := body Tryz.f98) (by kernel_rfl) (by kernel_rfl))
theorem v_a41 : Valid Tryz.prog G0 169 s_a41 := valid_sigOf ok_E_a40 mixed p_a41 L_a41 Tryz.func169 (c := body Tryz.f169) (by kernel_rfl) (by
  rintro c hp hf
  have h := H_a41 c hp hf
  with_reducible refine Eq.mp ?_ h
  kernel_rfl)
theorem ok_E_a41 : EnvOk Tryz.prog E_a41 := EnvOk.cons ok_E_a40 v_a41 (FnOk.of Tryz.func169 (c := body Tryz.f169) (by kernel_rfl) (by kernel_rfl))
theorem v_a42 : Valid Tryz.prog G0 170 s_a42 := valid_sigOf ok_E_a41 mixed p_a42 L_a42 Tryz.func170 (c := body Tryz.f170) (by kernel_rfl) (by
  rintro c hp hf
  have h := H_a42 c hp hf
  with_reducible refine Eq.mp ?_ h
  kernel_rfl)
theorem ok_E_a42 : EnvOk Tryz.prog E_a42 := EnvOk.cons ok_E_a41 v_a42 (FnOk.of Tryz.func170 (c := body Tryz.f170) (by kernel_rfl) (by kernel_rfl))
theorem v_a43 : Valid Tryz.prog G0 171 s_a43 := valid_sigOf ok_E_a42 mixed p_a43 L_a43 Tryz.func171 (c := body Tryz.f171) (by kernel_rfl) (by
  rintro c hp hf
  have h := H_a43 c hp hf
  with_reducible refine Eq.mp ?_ h
  kernel_rfl)
theorem ok_E_a43 : EnvOk Tryz.prog E_a43 := EnvOk.cons ok_E_a42 v_a43 (FnOk.of Tryz.func171 (c := body Tryz.f171) (by kernel_rfl) (by kernel_rfl))
theorem v_a44 : Valid Tryz.prog G0 140 s_a44 := valid_sigOf ok_E_a43 mixed p_a44 L_a44 Tryz.func140 (c := body Tryz.f140) (by kernel_rfl) (by
  rintro c hp hf
  have h := H_a44 c hp hf
  with_reducible refine Eq.mp ?_ h
  kernel_rfl)
theorem ok_E_a44 : EnvOk Tryz.prog E_a44 := EnvOk.cons ok_E_a43 v_a44 (FnOk.of Tryz.func140 (c := body Tryz.f140) (by kernel_rfl) (by kernel_rfl))
theorem v_a45 : Valid Tryz.prog G0 139 s_a45 := valid_sigOf ok_E_a44 mixed p_a45 L_a45 Tryz.func139 (c := body Tryz.f139) (by kernel_rfl) (by
  rintro b hp hf
  have h := H_a45 b hp hf
  with_reducible refine Eq.mp ?_ h
  kernel_rfl)
theorem ok_E_a45 : EnvOk Tryz.prog E_a45 := EnvOk.cons ok_E_a44 v_a45 (FnOk.of Tryz.func139 (c := body Tryz.f139) (by kernel_rfl) (by kernel_rfl))
theorem v_a46 : Valid Tryz.prog G0 115 s_a46 := valid_sigOf ok_E_a45 mixed p_a46 L_a46 Tryz.func115 (c := body Tryz.f115) (by kernel_rfl) (by
  rintro b hp hf
  have h := H_a46 b hp hf
  with_reducible refine Eq.mp ?_ h
  kernel_rfl)
theorem ok_E_a46 : EnvOk Tryz.prog E_a46 := EnvOk.cons ok_E_a45 v_a46 (FnOk.of Tryz.func115 (c := body Tryz.f115) (by kernel_rfl) (by kernel_rfl))
theorem v_a47 : Valid Tryz.prog G0 116 s_a47 := valid_sigOf ok_E_a46 mixed p_a47 L_a47 Tryz.func116 (c := body Tryz.f116) (by kernel_rfl) (by
  rintro c hp hf
  have h := H_a47 c hp hf
  with_reducible refine Eq.mp ?_ h
  kernel_rfl)
theorem ok_E_a47 : EnvOk Tryz.prog E_a47 := EnvOk.cons ok_E_a46 v_a47 (FnOk.of Tryz.func116 (c := body Tryz.f116) (by kernel_rfl) (by kernel_rfl))
theorem v_a48 : Valid Tryz.prog G0 117 s_a48 := valid_sigOf ok_E_a47 mixed p_a48 L_a48 Tryz.func117 (c := body Tryz.f117) (by kernel_rfl) (by
  rintro c hp hf
  have h := H_a48 c hp hf
  with_reducible refine Eq.mp ?_ h
  kernel_rfl)
theorem ok_E_a48 : EnvOk Tryz.prog E_a48 := EnvOk.cons ok_E_a47 v_a48 (FnOk.of Tryz.func117 (c := body Tryz.f117) (by kernel_rfl) (by kernel_rfl))
theorem v_a49 : Valid Tryz.prog G0 141 s_a49 := valid_sigOf ok_E_a48 mixed p_a49 L_a49 Tryz.func141 (c := body Tryz.f141) (by kernel_rfl) (by
  rintro c hp hf
  have h := H_a49 c hp hf
  with_reducible refine Eq.mp ?_ h
  kernel_rfl)
theorem ok_E_a49 : EnvOk Tryz.prog E_a49 := EnvOk.cons ok_E_a48 v_a49 (FnOk.of Tryz.func141 (c := body Tryz.f141) (by kernel_rfl) (by kernel_rfl))
theorem v_a50 : Valid Tryz.prog G0 134 s_a50 := valid_sigOf ok_E_a49 mixed p_a50 L_a50 Tryz.func134 (c := body Tryz.f134) (by kernel_rfl) (by
  rintro ⟨c, a, b⟩ hp hf
  have h := H_a50 c a b hp hf
  with_reducible refine Eq.mp ?_ h
  kernel_rfl)
theorem ok_E_a50 : EnvOk Tryz.prog E_a50 := EnvOk.cons ok_E_a49 v_a50 (FnOk.of Tryz.func134 (c := body Tryz.f134) (by kernel_rfl) (by kernel_rfl))
theorem v_a51 : Valid Tryz.prog G0 124 s_a51 := valid_sigOf ok_E_a50 mixed p_a51 L_a51 Tryz.func124 (c := body Tryz.f124) (by kernel_rfl) (by
  rintro c hp hf
  have h := H_a51 c hp hf
  with_reducible refine Eq.mp ?_ h
  kernel_rfl)
theorem ok_E_a51 : EnvOk Tryz.prog E_a51 := EnvOk.cons ok_E_a50 v_a51 (FnOk.of Tryz.func124 (c := body Tryz.f124) (by kernel_rfl) (by kernel_rfl))
theorem v_a52 : Valid Tryz.prog G0 125 s_a52 := valid_sigOf ok_E_a51 mixed p_a52 L_a52 Tryz.func125 (c := body Tryz.f125) (by kernel_rfl) (by
  rintro c hp hf
  have h := H_a52 c hp hf
  with_reducible refine Eq.mp ?_ h
  kernel_rfl)
theorem ok_E_a52 : EnvOk Tryz.prog E_a52 := EnvOk.cons ok_E_a51 v_a52 (FnOk.of Tryz.func125 (c := body Tryz.f125) (by kernel_rfl) (by kernel_rfl))
theorem v_a53 : Valid Tryz.prog G0 126 s_a53 := valid_sigOf ok_E_a52 mixed p_a53 L_a53 Tryz.func126 (c := body Tryz.f126) (by kernel_rfl) (by
  rintro ⟨a, b⟩ hp hf
  have h := H_a53 a b hp hf
  with_reducible refine Eq.mp ?_ h
  kernel_rfl)
theorem ok_E_a53 : EnvOk Tryz.prog E_a53 := EnvOk.cons ok_E_a52 v_a53 (FnOk.of Tryz.func126 (c := body Tryz.f126) (by kernel_rfl) (by kernel_rfl))
theorem v_a54 : Valid Tryz.prog G0 127 s_a54 := valid_sigOf ok_E_a53 mixed p_a54 L_a54 Tryz.func127 (c := body Tryz.f127) (by kernel_rfl) (by
  rintro c hp hf
  have h := H_a54 c hp hf
  with_reducible refine Eq.mp ?_ h
  kernel_rfl)
theorem ok_E_a54 : EnvOk Tryz.prog E_a54 := EnvOk.cons ok_E_a53 v_a54 (FnOk.of Tryz.func127 (c := body Tryz.f127) (by kernel_rfl) (by kernel_rfl))
theorem v_a55 : Valid Tryz.prog G0 102 s_a55 := valid_sigOf ok_E_a54 mixed p_a55 L_a55 Tryz.func102 (c := body Tryz.f102) (by kernel_rfl) (by
  rintro c hp hf
  have h := H_a55 c hp hf
  with_reducible refine Eq.mp ?_ h
  kernel_rfl)
theorem ok_E_a55 : EnvOk Tryz.prog E_a55 := EnvOk.cons ok_E_a54 v_a55 (FnOk.of Tryz.func102 (c := body Tryz.f102) (by kernel_rfl) (by kernel_rfl))
theorem v_a56 : Valid Tryz.prog G0 123 s_a56 := valid_sigOf ok_E_a55 mixed p_a56 L_a56 Tryz.func123 (c := body Tryz.f123) (by kernel_rfl) (by
  rintro ⟨b, n⟩ hp hf
  have h := H_a56 b n hp hf
  with_reducible refine Eq.mp ?_ h
  kernel_rfl)
theorem ok_E_a56 : EnvOk Tryz.prog E_a56 := EnvOk.cons ok_E_a55 v_a56 (FnOk.of Tryz.func123 (c := body Tryz.f123) (by kernel_rfl) (by kernel_rfl))
theorem v_a57 : Valid Tryz.prog G0 89 s_a57 := valid_sigOf ok_E_a56 mixed p_a57 L_a57 Tryz.func89 (c := body Tryz.f89) (by kernel_rfl) (by
  rintro b hp hf
  have h := H_a57 b hp hf
  with_reducible refine Eq.mp ?_ h
  kernel_rfl)
theorem ok_E_a57 : EnvOk Tryz.prog E_a57 := EnvOk.cons ok_E_a56 v_a57 (FnOk.of Tryz.func89 (c := body Tryz.f89) (by kernel_rfl) (by kernel_rfl))
theorem v_a58 : Valid Tryz.prog G0 118 s_a58 := valid_sigOf ok_E_a57 mixed p_a58 L_a58 Tryz.func118 (c := body Tryz.f118) (by kernel_rfl) (by
  rintro u hp hf
  have h := H_a58 u hp hf
  with_reducible refine Eq.mp ?_ h
  kernel_rfl)
theorem ok_E_a58 : EnvOk Tryz.prog E_a58 := EnvOk.cons ok_E_a57 v_a58 (FnOk.of Tryz.func118 (c := body Tryz.f118) (by kernel_rfl) (by kernel_rfl))
theorem v_a59 : Valid Tryz.prog G0 84 s_a59 := valid_sigOf ok_E_a58 mixed p_a59 L_a59 Tryz.func84 (c := body Tryz.f84) (by kernel_rfl) (by
  rintro b hp hf
  have h := H_a59 b hp hf
  with_reducible refine Eq.mp ?_ h
  kernel_rfl)
theorem ok_E_a59 : EnvOk Tryz.prog E_a59 := EnvOk.cons ok_E_a58 v_a59 (FnOk.of Tryz.func84 (c := body Tryz.f84) (by kernel_rfl) (by kernel_rfl))
theorem v_a60 : Valid Tryz.prog G0 72 s_a60 := valid_sigOf ok_E_a59 mixed p_a60 L_a60 Tryz.func72 (c := body Tryz.f72) (by kernel_rfl) (by
  rintro s hp hf
  have h := H_a60 s hp hf
  with_reducible refine Eq.mp ?_ h
  kernel_rfl)
theorem ok_E_a60 : EnvOk Tryz.prog E_a60 := EnvOk.cons ok_E_a59 v_a60 (FnOk.of Tryz.func72 (c := body Tryz.f72) (by kernel_rfl) (by kernel_rfl))
theorem v_a61 : Valid Tryz.prog G0 90 s_a61 := valid_sigOf ok_E_a60 mixed p_a61 L_a61 Tryz.func90 (c := body Tryz.f90) (by kernel_rfl) (by
  rintro c hp hf
  have h := H_a61 c hp hf
  with_reducible refine Eq.mp ?_ h
  kernel_rfl)
theorem ok_E_a61 : EnvOk Tryz.prog E_a61 := EnvOk.cons ok_E_a60 v_a61 (FnOk.of Tryz.func90 (c := body Tryz.f90) (by kernel_rfl) (by kernel_rfl))
theorem v_a62 : Valid Tryz.prog G0 91 s_a62 := valid_sigOf ok_E_a61 mixed p_a62 L_a62 Tryz.func91 (c := body Tryz.f91) (by kernel_rfl) (by
  rintro u hp hf
  have h := H_a62 u hp hf
  with_reducible refine Eq.mp ?_ h
  kernel_rfl)
theorem ok_E_a62 : EnvOk Tryz.prog E_a62 := EnvOk.cons ok_E_a61 v_a62 (FnOk.of Tryz.func91 (c := body Tryz.f91) (by kernel_rfl) (by kernel_rfl))
theorem v_a63 : Valid Tryz.prog G0 60 s_a63 := valid_sigOf ok_E_a62 mixed p_a63 L_a63 Tryz.func60 (c := body Tryz.f60) (by kernel_rfl) (by
  rintro b hp hf
  have h := H_a63 b hp hf
  with_reducible refine Eq.mp ?_ h
  kernel_rfl)
theorem ok_E_a63 : EnvOk Tryz.prog E_a63 := EnvOk.cons ok_E_a62 v_a63 (FnOk.of Tryz.func60 (c := body Tryz.f60) (by kernel_rfl) (by kernel_rfl))
theorem v_a67 : Valid Tryz.prog G0 25 s_a67 := valid_sigOf ok_E_a63 mixed p_a67 L_a67 Tryz.func25 (c := body Tryz.f25) (by kernel_rfl) (by
  rintro ⟨b, t⟩ hp hf
  have h := H_a67 b t hp hf
  with_reducible refine Eq.mp ?_ h
  kernel_rfl)
theorem ok_E_a67 : EnvOk Tryz.prog E_a67 := EnvOk.cons ok_E_a63 v_a67 (FnOk.of Tryz.func25 (c := body Tryz.f25) (by kernel_rfl) (by kernel_rfl))
theorem v_a69 : Valid Tryz.prog G0 119 s_a69 := valid_sigOf ok_E_a67 mixed p_a69 L_a69 Tryz.func119 (c := body Tryz.f119) (by kernel_rfl) (by
  rintro s hp hf
  have h := H_a69 s hp hf
  with_reducible refine Eq.mp ?_ h
  kernel_rfl)
theorem ok_E_a69 : EnvOk Tryz.prog E_a69 := EnvOk.cons ok_E_a67 v_a69 (FnOk.of Tryz.func119 (c := body Tryz.f119) (by kernel_rfl) (by kernel_rfl))
theorem v_a70 : Valid Tryz.prog G0 85 s_a70 := valid_sigOf ok_E_a69 mixed p_a70 L_a70 Tryz.func85 (c := body Tryz.f85) (by kernel_rfl) (by
  rintro ⟨a, b⟩ hp hf
  have h := H_a70 a b hp hf
  with_reducible refine Eq.mp ?_ h
  kernel_rfl)
theorem ok_E_a70 : EnvOk Tryz.prog E_a70 := EnvOk.cons ok_E_a69 v_a70 (FnOk.of Tryz.func85 (c := body Tryz.f85) (by kernel_rfl) (by kernel_rfl))
theorem v_a71 : ValidH Tryz.prog G0 114 s_a71 := valid_hsigOf ok_E_a70 mixed p_a71 q_a71 L_a71 Tryz.func114 (c := body Tryz.f114) (by kernel_rfl) (by
  rintro ⟨a, b⟩ ⟨⟨⟩, ⟨⟩⟩ hp hf hg
  have h := H_a71 a b hp hf hg
  with_reducible refine Eq.mp ?_ h
  kernel_rfl)
theorem cv_a71 : ValidH Tryz.prog G0 114 c_a71 := v_a71
theorem ok_E_a71 : EnvOk Tryz.prog E_a71 := EnvOk.consH ok_E_a70 cv_a71 (FnOk.of Tryz.func114 (c := body Tryz.f114) (by kernel_rfl) (by kernel_rfl))
theorem v_a72 : ValidH Tryz.prog G0 113 s_a72 := valid_hsigOf ok_E_a71 mixed p_a72 q_a72 L_a72 Tryz.func113 (c := body Tryz.f113) (by kernel_rfl) (by
  rintro ⟨⟩ ⟨l, ⟨⟨⟩, ⟨⟩⟩⟩ hp hf hg
  have h := H_a72 l hp hf hg
  with_reducible refine Eq.mp ?_ h
  kernel_rfl)
theorem cv_a72 : ValidH Tryz.prog G0 113 c_a72 := v_a72
theorem ok_E_a72 : EnvOk Tryz.prog E_a72 := EnvOk.consH ok_E_a71 cv_a72 (FnOk.of Tryz.func113 (c := body Tryz.f113) (by kernel_rfl) (by kernel_rfl))
theorem v_a73 : Valid Tryz.prog G0 111 s_a73 := Vg.valid_clone_str Tryz.clone_str (fun _ => rfl)
theorem ok_E_a73 : EnvOk Tryz.prog E_a73 := EnvOk.cons ok_E_a72 v_a73 (FnOk.of Tryz.func111 (c := body Tryz.f111) (by kernel_rfl) (by kernel_rfl))
theorem v_a74 : Valid Tryz.prog G0 50 s_a74 := Vg.valid_clone_int Tryz.clone_int (fun _ => rfl)
theorem ok_E_a74 : EnvOk Tryz.prog E_a74 := EnvOk.cons ok_E_a73 v_a74 (FnOk.of Tryz.func50 (c := body Tryz.f50) (by kernel_rfl) (by kernel_rfl))
theorem v_a75 : ValidH Tryz.prog G0 112 s_a75 := Tryz.v_sort (fun _ => rfl)
theorem cv_a75 : ValidH Tryz.prog G0 112 c_a75 := v_a75
theorem ok_E_a75 : EnvOk Tryz.prog E_a75 := EnvOk.consH ok_E_a74 cv_a75 (FnOk.of Tryz.func112 (c := body Tryz.f112) (by kernel_rfl) (by kernel_rfl))
theorem v_a76 : ValidH Tryz.prog G0 83 s_a76 := valid_hsigOf ok_E_a75 mixed p_a76 q_a76 L_a76 Tryz.func83 (c := body Tryz.f83) (by kernel_rfl) (by
  rintro l ⟨⟩ hp hf hg
  have h := H_a76 l hp hf hg
  with_reducible refine Eq.mp ?_ h
  kernel_rfl)
theorem cv_a76 : ValidH Tryz.prog G0 83 c_a76 := v_a76
theorem ok_E_a76 : EnvOk Tryz.prog E_a76 := EnvOk.consH ok_E_a75 cv_a76 (FnOk.of Tryz.func83 (c := body Tryz.f83) (by kernel_rfl) (by kernel_rfl))
theorem v_a77 : Valid Tryz.prog G0 57 s_a77 := valid_sigOf ok_E_a76 mixed p_a77 L_a77 Tryz.func57 (c := body Tryz.f57) (by kernel_rfl) (by
  rintro b hp hf
  have h := H_a77 b hp hf
  with_reducible refine Eq.mp ?_ h
  kernel_rfl)
theorem ok_E_a77 : EnvOk Tryz.prog E_a77 := EnvOk.cons ok_E_a76 v_a77 (FnOk.of Tryz.func57 (c := body Tryz.f57) (by kernel_rfl) (by kernel_rfl))
theorem v_a87 : Valid Tryz.prog G0 71 s_a87 := valid_sigOf ok_E_a77 mixed p_a87 L_a87 Tryz.func71 (c := body Tryz.f71) (by kernel_rfl) (by
  rintro l hp hf
  have h := H_a87 l hp hf
  with_reducible refine Eq.mp ?_ h
  kernel_rfl)
theorem ok_E_a87 : EnvOk Tryz.prog E_a87 := EnvOk.cons ok_E_a77 v_a87 (FnOk.of Tryz.func71 (c := body Tryz.f71) (by kernel_rfl) (by kernel_rfl))
theorem v_a88 : Valid Tryz.prog G0 97 s_a88 := valid_sigOf ok_E_a87 mixed p_a88 L_a88 Tryz.func97 (c := body Tryz.f97) (by kernel_rfl) (by
  rintro l hp hf
  have h := H_a88 l hp hf
  with_reducible refine Eq.mp ?_ h
  kernel_rfl)
theorem ok_E_a88 : EnvOk Tryz.prog E_a88 := EnvOk.cons ok_E_a87 v_a88 (FnOk.of Tryz.func97 (c := body Tryz.f97) (by kernel_rfl) (by kernel_rfl))
theorem v_a89 : Valid Tryz.prog G0 66 s_a89 := valid_sigOf ok_E_a88 mixed p_a89 L_a89 Tryz.func66 (c := body Tryz.f66) (by kernel_rfl) (by
  rintro l hp hf
  have h := H_a89 l hp hf
  with_reducible refine Eq.mp ?_ h
  kernel_rfl)
theorem ok_E_a89 : EnvOk Tryz.prog E_a89 := EnvOk.cons ok_E_a88 v_a89 (FnOk.of Tryz.func66 (c := body Tryz.f66) (by kernel_rfl) (by kernel_rfl))
theorem v_a96 : Valid Tryz.prog G0 15 s_a96 := valid_sigOf ok_E_a89 mixed p_a96 L_a96 Tryz.func15 (c := body Tryz.f15) (by kernel_rfl) (by
  rintro ⟨a, b⟩ hp hf
  have h := H_a96 a b hp hf
  with_reducible refine Eq.mp ?_ h
  kernel_rfl)
theorem ok_E_a96 : EnvOk Tryz.prog E_a96 := EnvOk.cons ok_E_a89 v_a96 (FnOk.of Tryz.func15 (c := body Tryz.f15) (by kernel_rfl) (by kernel_rfl))
theorem v_a97 : Valid Tryz.prog G0 26 s_a97 := valid_sigOf ok_E_a96 mixed p_a97 L_a97 Tryz.func26 (c := body Tryz.f26) (by kernel_rfl) (by
  rintro ⟨l, n⟩ hp hf
  have h := H_a97 l n hp hf
  with_reducible refine Eq.mp ?_ h
  kernel_rfl)
theorem ok_E_a97 : EnvOk Tryz.prog E_a97 := EnvOk.cons ok_E_a96 v_a97 (FnOk.of Tryz.func26 (c := body Tryz.f26) (by kernel_rfl) (by kernel_rfl))
theorem v_a98 : Valid Tryz.prog G0 46 s_a98 := valid_sigOf ok_E_a97 mixed p_a98 L_a98 Tryz.func46 (c := body Tryz.f46) (by kernel_rfl) (by
  rintro d hp hf
  have h := H_a98 d hp hf
  with_reducible refine Eq.mp ?_ h
  kernel_rfl)
theorem ok_E_a98 : EnvOk Tryz.prog E_a98 := EnvOk.cons ok_E_a97 v_a98 (FnOk.of Tryz.func46 (c := body Tryz.f46) (by kernel_rfl) (by kernel_rfl))
theorem v_a99 : Valid Tryz.prog G0 18 s_a99 := valid_sigOf ok_E_a98 mixed p_a99 L_a99 Tryz.func18 (c := body Tryz.f18) (by kernel_rfl) (by
  rintro ⟨l1, l2, l3⟩ hp hf
  have h := H_a99 l1 l2 l3 hp hf
  with_reducible refine Eq.mp ?_ h
  kernel_rfl)
theorem ok_E_a99 : EnvOk Tryz.prog E_a99 := EnvOk.cons ok_E_a98 v_a99 (FnOk.of Tryz.func18 (c := body Tryz.f18) (by kernel_rfl) (by kernel_rfl))
theorem v_a100 : Valid Tryz.prog G0 19 s_a100 := valid_sigOf ok_E_a99 mixed p_a100 L_a100 Tryz.func19 (c := body Tryz.f19) (by kernel_rfl) (by
  rintro b hp hf
  have h := H_a100 b hp hf
  with_reducible refine Eq.mp ?_ h
  kernel_rfl)
theorem ok_E_a100 : EnvOk Tryz.prog E_a100 := EnvOk.cons ok_E_a99 v_a100 (FnOk.of Tryz.func19 (c := body Tryz.f19) (by kernel_rfl) (by kernel_rfl))
theorem v_a101 : Valid Tryz.prog G0 43 s_a101 := valid_sigOf ok_E_a100 mixed p_a101 L_a101 Tryz.func43 (c := body Tryz.f43) (by kernel_rfl) (by
  rintro d hp hf
  have h := H_a101 d hp hf
  with_reducible refine Eq.mp ?_ h
  kernel_rfl)
theorem ok_E_a101 : EnvOk Tryz.prog E_a101 := EnvOk.cons ok_E_a100 v_a101 (FnOk.of Tryz.func43 (c := body Tryz.f43) (by kernel_rfl) (by kernel_rfl))
theorem v_a103 : Valid Tryz.prog G0 13 s_a103 := valid_sigOf ok_E_a101 mixed p_a103 L_a103 Tryz.func13 (c := body Tryz.f13) (by kernel_rfl) (by
  rintro ⟨d, t⟩ hp hf
  have h := H_a103 d t hp hf
  with_reducible refine Eq.mp ?_ h
  kernel_rfl)
theorem ok_E_a103 : EnvOk Tryz.prog E_a103 := EnvOk.cons ok_E_a101 v_a103 (FnOk.of Tryz.func13 (c := body Tryz.f13) (by kernel_rfl) (by kernel_rfl))
theorem v_a104 : Valid Tryz.prog G0 16 s_a104 := valid_sigOf ok_E_a103 mixed p_a104 L_a104 Tryz.func16 (c := body Tryz.f16) (by kernel_rfl) (by
  rintro ⟨d, t⟩ hp hf
  have h := H_a104 d t hp hf
  with_reducible refine Eq.mp ?_ h
  kernel_rfl)
theorem ok_E_a104 : EnvOk Tryz.prog E_a104 := EnvOk.cons ok_E_a103 v_a104 (FnOk.of Tryz.func16 (c := body Tryz.f16) (by kernel_rfl) (by kernel_rfl))
theorem v_a105 : Valid Tryz.prog G0 24 s_a105 := Go.DM.make_valid v_a77 (fun _ => rfl) (fun _ _ _ => rfl)
theorem ok_E_a105 : EnvOk Tryz.prog E_a105 := EnvOk.cons ok_E_a104 v_a105 (FnOk.of Tryz.func24 (c := body Tryz.f24) (by kernel_rfl) (by kernel_rfl))
theorem v_a134 : Valid Tryz.prog G0 23 s_a134 := valid_sigOf ok_E_a105 mixed p_a134 L_a134 Tryz.func23 (c := body Tryz.f23) (by kernel_rfl) (by
  rintro docs hp hf
  have h := H_a134 docs hp hf
  with_reducible refine Eq.mp ?_ h
  kernel_rfl)
theorem ok_E_a134 : EnvOk Tryz.prog E_a134 := EnvOk.cons ok_E_a105 v_a134 (FnOk.of Tryz.func23 (c := body Tryz.f23) (by kernel_rfl) (by kernel_rfl))
theorem v_a135 : Valid Tryz.prog G0 12 s_a135 := valid_sigOf ok_E_a134 mixed p_a135 L_a135 Tryz.func12 (c := body Tryz.f12) (by kernel_rfl) (by
  rintro ⟨⟩ hp hf
  have h := H_a135  hp hf
  with_reducible refine Eq.mp ?_ h
  kernel_rfl)
theorem ok_E_a135 : EnvOk Tryz.prog E_a135 := EnvOk.cons ok_E_a134 v_a135 (FnOk.of Tryz.func12 (c := body Tryz.f12) (by kernel_rfl) (by kernel_rfl))
theorem v_a145 : Valid Tryz.prog G0 5 s_a145 := valid_sigOf ok_E_a135 mixed p_a145 L_a145 Tryz.func5 (c := body Tryz.f5) (by kernel_rfl) (by
  rintro ⟨docs, s1, s2, t⟩ hp hf
  have h := H_a145 docs s1 s2 t hp hf
  with_reducible refine Eq.mp ?_ h
  kernel_rfl)
end Go.J
end
section
set_option linter.unusedVariables false
namespace Go.Proofs.YtepaodgmfpbapaaGreatDoor
open Go Go.Vg Go.ChangeShapes Go.WideShapes Go.ChangeAt Go.RowKit
theorem own : ownKnob Tryz.prog.godebug = none := by kernel_rfl
theorem laidOut : laidOutB Tryz.prog = true := by kernel_rfl
set_option maxRecDepth 100000 in
theorem laidG {W : World} (h : laidMet Tryz.prog [("rubrick/sha.begin", Rows.laid_rubrick_sha_begin), ("rubrick/sha.rounds", Rows.laid_rubrick_sha_rounds), ("rubrick/utf.letters", Rows.laid_rubrick_utf_letters), ("rubrick/utf.shifts", Rows.laid_rubrick_utf_shifts)] W) : ∀ i d, Go.J.G0 i = some d → LaidG W (fun b => b < W.heap.size) i d := by
  intro i d hd
  match i, hd with
  | 0, hd =>
    cases hd
    exact laid_rows (k := .i64) (zss := [[65, 90], [97, 122], [192, 214], [216, 246], [248, 255], [913, 929], [931, 937], [945, 969], [1024, 1119]]) h (.tail _ (.tail _ (.head _))) (by kernel_rfl) (by kernel_rfl) Tryz.underlying165 Tryz.underlying164 (by kernel_rfl) (by kernel_rfl) rfl (fun i f hf => by
      match i, hf with
      | 0, hf => cases hf; exact ⟨rfl, Tryz.underlying3, by kernel_rfl⟩
      | 1, hf => cases hf; exact ⟨rfl, Tryz.underlying3, by kernel_rfl⟩
      | i + 2, hf => simp at hf) (by decide) (by decide) (by simp [allOk, intsOk, lo, hi, Row.hd, Row.tl, DI.toInt])
  | 1, hd =>
    cases hd
    exact laid_rows (k := .i64) (zss := [[65, 90, 32], [192, 214, 32], [216, 222, 32], [913, 929, 32], [931, 937, 32], [1024, 1039, 80], [1040, 1071, 32]]) h (.tail _ (.tail _ (.tail _ (.head _)))) (by kernel_rfl) (by kernel_rfl) Tryz.underlying195 Tryz.underlying194 (by kernel_rfl) (by kernel_rfl) rfl (fun i f hf => by
      match i, hf with
      | 0, hf => cases hf; exact ⟨rfl, Tryz.underlying3, by kernel_rfl⟩
      | 1, hf => cases hf; exact ⟨rfl, Tryz.underlying3, by kernel_rfl⟩
      | 2, hf => cases hf; exact ⟨rfl, Tryz.underlying3, by kernel_rfl⟩
      | i + 3, hf => simp at hf) (by decide) (by decide) (by simp [allOk, intsOk, lo, hi, Row.hd, Row.tl, DI.toInt])
  | 2, hd =>
    cases hd
    exact laid_ints (k := .u32) (zs := [1779033703, 3144134277, 1013904242, 2773480762, 1359893119, 2600822924, 528734635, 1541459225]) h (.head _) (by kernel_rfl) (by kernel_rfl) Tryz.underlying178 Tryz.underlying157 (by kernel_rfl) (by kernel_rfl) (by decide) (by simp [allOk, intsOk, lo, hi, Row.hd, Row.tl, DI.toInt])
  | 3, hd =>
    cases hd
    exact laid_ints (k := .u32) (zs := [1116352408, 1899447441, 3049323471, 3921009573, 961987163, 1508970993, 2453635748, 2870763221, 3624381080, 310598401, 607225278, 1426881987, 1925078388, 2162078206, 2614888103, 3248222580, 3835390401, 4022224774, 264347078, 604807628, 770255983, 1249150122, 1555081692, 1996064986, 2554220882, 2821834349, 2952996808, 3210313671, 3336571891, 3584528711, 113926993, 338241895, 666307205, 773529912, 1294757372, 1396182291, 1695183700, 1986661051, 2177026350, 2456956037, 2730485921, 2820302411, 3259730800, 3345764771, 3516065817, 3600352804, 4094571909, 275423344, 430227734, 506948616, 659060556, 883997877, 958139571, 1322822218, 1537002063, 1747873779, 1955562222, 2024104815, 2227730452, 2361852424, 2428436474, 2756734187, 3204031479, 3329325298]) h (.tail _ (.head _)) (by kernel_rfl) (by kernel_rfl) Tryz.underlying213 Tryz.underlying157 (by kernel_rfl) (by kernel_rfl) (by decide) (by simp [allOk, intsOk, lo, hi, Row.hd, Row.tl, DI.toInt, S.K256])
  | _ + 4, hd => cases hd
def tab0 (w : World) (cs : Array Value) : World := { w with heap := w.heap.modify 0 fun
    | .cells _ t frozen => .cells cs t frozen
    | o => o }
def tab1 (w : World) (cs : Array Value) : World := { w with heap := w.heap.modify 1 fun
    | .cells _ t frozen => .cells cs t frozen
    | o => o }
def tab2 (w : World) (cs : Array Value) : World := { w with heap := w.heap.modify 2 fun
    | .cells _ t frozen => .cells cs t frozen
    | o => o }
def tab3 (w : World) (cs : Array Value) : World := { w with heap := w.heap.modify 3 fun
    | .cells _ t frozen => .cells cs t frozen
    | o => o }
noncomputable def laidWorld (os : Os) : World := tab3 (tab2 (tab1 (tab0 (World.holding Tryz.prog os ⟨#[], #[], []⟩) #[.int .i64 65, .int .i64 90, .int .i64 97, .int .i64 122, .int .i64 192, .int .i64 214, .int .i64 216, .int .i64 246, .int .i64 248, .int .i64 255, .int .i64 913, .int .i64 929, .int .i64 931, .int .i64 937, .int .i64 945, .int .i64 969, .int .i64 1024, .int .i64 1119]) #[.int .i64 65, .int .i64 90, .int .i64 32, .int .i64 192, .int .i64 214, .int .i64 32, .int .i64 216, .int .i64 222, .int .i64 32, .int .i64 913, .int .i64 929, .int .i64 32, .int .i64 931, .int .i64 937, .int .i64 32, .int .i64 1024, .int .i64 1039, .int .i64 80, .int .i64 1040, .int .i64 1071, .int .i64 32]) #[.int .u32 1779033703, .int .u32 3144134277, .int .u32 1013904242, .int .u32 2773480762, .int .u32 1359893119, .int .u32 2600822924, .int .u32 528734635, .int .u32 1541459225]) #[.int .u32 1116352408, .int .u32 1899447441, .int .u32 3049323471, .int .u32 3921009573, .int .u32 961987163, .int .u32 1508970993, .int .u32 2453635748, .int .u32 2870763221, .int .u32 3624381080, .int .u32 310598401, .int .u32 607225278, .int .u32 1426881987, .int .u32 1925078388, .int .u32 2162078206, .int .u32 2614888103, .int .u32 3248222580, .int .u32 3835390401, .int .u32 4022224774, .int .u32 264347078, .int .u32 604807628, .int .u32 770255983, .int .u32 1249150122, .int .u32 1555081692, .int .u32 1996064986, .int .u32 2554220882, .int .u32 2821834349, .int .u32 2952996808, .int .u32 3210313671, .int .u32 3336571891, .int .u32 3584528711, .int .u32 113926993, .int .u32 338241895, .int .u32 666307205, .int .u32 773529912, .int .u32 1294757372, .int .u32 1396182291, .int .u32 1695183700, .int .u32 1986661051, .int .u32 2177026350, .int .u32 2456956037, .int .u32 2730485921, .int .u32 2820302411, .int .u32 3259730800, .int .u32 3345764771, .int .u32 3516065817, .int .u32 3600352804, .int .u32 4094571909, .int .u32 275423344, .int .u32 430227734, .int .u32 506948616, .int .u32 659060556, .int .u32 883997877, .int .u32 958139571, .int .u32 1322822218, .int .u32 1537002063, .int .u32 1747873779, .int .u32 1955562222, .int .u32 2024104815, .int .u32 2227730452, .int .u32 2361852424, .int .u32 2428436474, .int .u32 2756734187, .int .u32 3204031479, .int .u32 3329325298]
theorem dictHas_valid : Valid Tryz.prog Go.J.G0 5 (sigOf Go.J.p_a145 fun _ => (True, .bool true, [])) := Go.J.v_a145
theorem dictHas_laid_met (os : Os) : laidMet Tryz.prog Rows.dictHasRow.laid ((laidWorld os).forCall (fun _ _ => 0) ⟨#[], #[.slice none 0 0, .agg #[.int .i64 0, .int .i64 0], .string ⟨#[]⟩], []⟩).memory :=
  laidMet_of_run' 8 (by kernel_rfl) (by kernel_rfl)
theorem dictHas_reads (os : Os) {H : Type} (enc : TypeId × Value → H) : ∃ places, DataW.whole enc Tryz.prog ((laidWorld os).forCall (fun _ _ => 0) ⟨#[], #[.slice none 0 0, .agg #[.int .i64 0, .int .i64 0], .string ⟨#[]⟩], []⟩).memory Tryz.f5.params.toList Rows.dictHasSpec.vars false (#[.slice none 0 0, .agg #[.int .i64 0, .int .i64 0], .string ⟨#[]⟩] : Array Value).toList 8 = some ([.nil, .agg [.lit (.int .i64 0), .lit (.int .i64 0)], .lit (.string [])], [], places) :=
  ⟨[], by kernel_rfl⟩
set_option maxRecDepth 100000 in
theorem dictHas_lifted (os : Os) (started : os.Started) (H : Type) (enc : TypeId × Value → H) (F : Stop.Interp) :
    ReturnsInHanded {} Tryz.checked os 5 .any ((OpenSpec.ofChange Rows.dictHasSpec).preRow enc Tryz.prog Tryz.f5 Rows.dictHasRow.domain false Rows.dictHasRow.laid) (((OpenSpec.ofChange Rows.dictHasSpec).at F).post enc Tryz.prog Tryz.f5 false true false false) := by
  obtain ⟨places, hx⟩ := dictHas_reads os enc
  refine returnsInHanded_of_row (C := Tryz.checked) (s := OpenSpec.ofChange Rows.dictHasSpec) own started (by kernel_rfl) Tryz.func5
    (witness_row_at (enc := enc) (C := Tryz.checked) false (laidWorld os) #[.slice none 0 0, .agg #[.int .i64 0, .int .i64 0], .string ⟨#[]⟩] rfl (by kernel_rfl) (by kernel_rfl) (by kernel_rfl)
      (OpenSpec.preRow_of_cond 8 hx (by kernel_rfl) (fun k hk => by cases hk) (by kernel_rfl) (dictHas_laid_met os))) ?_
  intro W base args ds gs before hval hW _ _ _ hL _ _
  refine law_contract (s := Rows.dictHasSpec) (TabOk.of tab_ok) laidOut dictHas_valid (show PS.ofs tab Tryz.f5.params.toList = _ by kernel_rfl) (by kernel_rfl) (show Tryz.f5.resultTypes = #[4] by kernel_rfl) Tryz.underlying4 rfl ?_ (laidG hL) hval hW
  intro H ds hds
  have hn : Tryz.f5.params.toList.length = 3 := by kernel_rfl
  rw [hn] at hds
  match ds, hds with
  | [d0, d1, d2], _ => rfl
theorem dictHas_said : Rows.DictHasSaid :=
  OpenClaim.holds_of_cond 5 Tryz.f5 rfl rfl rfl rfl rfl rfl rfl ⟨rfl, rfl, rfl, rfl, rfl⟩ rfl rfl rfl rfl rfl (by kernel_rfl) Tryz.func5 (by kernel_rfl)
    (of_decide_eq_true (by kernel_rfl)) (by unfold Func.isWrapper; first | (rw [if_pos (by decide +kernel)]; kernel_rfl) | (rw [if_neg (by decide +kernel)]; exact ⟨rfl, rfl⟩))
    (fun os started H enc _ F => by rw [OpenClaim.pre_eq_preRow]; exact dictHas_lifted os started H enc F)
theorem dictHas_plain (f : FuncId) (fn : Func) (hf : Tryz.pinned.checked.prog.funcNamed "rubrick/rubricklaw10.DictHas" = some f) (hfn : Tryz.pinned.checked.prog.funcs[f]? = some fn) :
    false = Tryz.pinned.checked.prog.looks [] ∧ ∀ (j : Nat) t, fn.params[j]? = some t → Tryz.pinned.checked.prog.wantsStandIn t = false := by
  obtain rfl : f = 5 := Option.some.inj ((show Tryz.prog.funcNamed "rubrick/rubricklaw10.DictHas" = some 5 by kernel_rfl).symm.trans hf) |>.symm
  obtain rfl : fn = Tryz.f5 := (Option.some.inj (Tryz.func5.symm.trans hfn)).symm
  refine ⟨by kernel_rfl, fun j t ht => ?_⟩
  have h1 : (Tryz.f5.params.toList.all fun t => !Tryz.prog.wantsStandIn t) = true := by kernel_rfl
  have h2 := List.all_eq_true.1 h1 t (by simpa using Array.mem_of_getElem? ht)
  have h3 : Tryz.prog.wantsStandIn t = false := by simpa using h2
  exact h3
theorem dictHas_card : Rows.DictHasCardSaid :=
  Claim7.holds_tied_plain_at .later [] _ _ _ _ dictHas_said (fun _ h => by cases h) (by kernel_rfl) (fun _ h => by cases h) dictHas_row_tie rfl ⟨rfl, rfl⟩ (by kernel_rfl) rfl dictHas_plain (by kernel_rfl)
#print axioms dictHas_card
end Go.Proofs.YtepaodgmfpbapaaGreatDoor
end
