import Derived.Test.YtepaodgmfpbapaaGreatDoorPartC
set_option linter.unusedVariables false
set_option linter.unusedSimpArgs false
section
set_option linter.unusedVariables false
namespace Go
def V_a6 (x : Int) (k : Int) : Prop :=
 ((0 : Int) ≤ Vg.natAnd (k % (18446744073709551616 : Int)) (31 : Int) ∧ Vg.natAnd (k % (18446744073709551616 : Int)) (31 : Int) ≤ (32 : Int)) ∧ ((0 : Int) ≤ ((32 : Int) - Vg.natAnd (k % (18446744073709551616 : Int)) (31 : Int)) % (18446744073709551616 : Int) ∧ ((32 : Int) - Vg.natAnd (k % (18446744073709551616 : Int)) (31 : Int)) % (18446744073709551616 : Int) ≤ (32 : Int)) ∧ Vg.natOr (x * (2 : Int) ^ Int.toNat (Vg.natAnd (k % (18446744073709551616 : Int)) (31 : Int)) % (4294967296 : Int)) (x / (2 : Int) ^ Int.toNat (((32 : Int) - Vg.natAnd (k % (18446744073709551616 : Int)) (31 : Int)) % (18446744073709551616 : Int))) = S.rotl x k
def V_a7 : Prop :=
 (1779033703 : Int) = (1779033703 : Int) ∧ (3144134277 : Int) = (3144134277 : Int) ∧ (1013904242 : Int) = (1013904242 : Int) ∧ (2773480762 : Int) = (2773480762 : Int) ∧ (1359893119 : Int) = (1359893119 : Int) ∧ (2600822924 : Int) = (2600822924 : Int) ∧ (528734635 : Int) = (528734635 : Int) ∧ (1541459225 : Int) = (1541459225 : Int) ∧ (0 : Int) = (0 : Int)
def V_a8 (s1 : Int) (s2 : Int) (s3 : Int) (s4 : Int) (s5 : Int) (s6 : Int) (s7 : Int) (s8 : Int) (s9 : List UInt8) (s10 : Int) : Prop :=
 ((decide ((0 : Int) ≤ s10) = true → (decide (s10 ≤ (1099511627776 : Int)) = true → (0 : Int) ≤ s10 ∧ (0 : Int) < (64 : Int)) ∧ (decide (s10 ≤ (1099511627776 : Int)) = false → True)) ∧ (decide ((0 : Int) ≤ s10) = false → True)) ∧ (bif decide ((0 : Int) ≤ s10) then bif decide (s10 ≤ (1099511627776 : Int)) then decide ((s9.length : Int) = s10 % (64 : Int)) else false else false) = S.stValid s9 s10
def V_a9 (u1 : Int) (u2 : Int) (u3 : Int) (u4 : Int) (u5 : Int) (u6 : Int) (u7 : Int) (u8 : Int) (p : List UInt8) : Prop :=
 (∃ (x : Nat), ((0 : Int) = (x : Int) ∧ [(0 : Int), (0 : Int), (0 : Int), (0 : Int), (0 : Int), (0 : Int), (0 : Int), (0 : Int), (0 : Int), (0 : Int), (0 : Int), (0 : Int), (0 : Int), (0 : Int), (0 : Int), (0 : Int), (0 : Int), (0 : Int), (0 : Int), (0 : Int), (0 : Int), (0 : Int), (0 : Int), (0 : Int), (0 : Int), (0 : Int), (0 : Int), (0 : Int), (0 : Int), (0 : Int), (0 : Int), (0 : Int), (0 : Int), (0 : Int), (0 : Int), (0 : Int), (0 : Int), (0 : Int), (0 : Int), (0 : Int), (0 : Int), (0 : Int), (0 : Int), (0 : Int), (0 : Int), (0 : Int), (0 : Int), (0 : Int), (0 : Int), (0 : Int), (0 : Int), (0 : Int), (0 : Int), (0 : Int), (0 : Int), (0 : Int), (0 : Int), (0 : Int), (0 : Int), (0 : Int), (0 : Int), (0 : Int), (0 : Int), (0 : Int)] = S.schedArr p x) ∧ S.leN x (16 : Nat)) ∧ ∀ (x : Nat), S.leN x (16 : Nat) → (decide ((x : Int) < (16 : Int)) = true → ((-9223372036854775808 : Int) ≤ (4 : Int) * (x : Int) ∧ (4 : Int) * (x : Int) ≤ (9223372036854775807 : Int)) ∧ ((0 : Int) ≤ (4 : Int) * (x : Int) ∧ (4 : Int) * (x : Int) < (p.length : Int)) ∧ ((0 : Int) ≤ (24 : Int) ∧ (24 : Int) ≤ (32 : Int)) ∧ ((-9223372036854775808 : Int) ≤ (4 : Int) * (x : Int) ∧ (4 : Int) * (x : Int) ≤ (9223372036854775807 : Int)) ∧ ((-9223372036854775808 : Int) ≤ (4 : Int) * (x : Int) + (1 : Int) ∧ (4 : Int) * (x : Int) + (1 : Int) ≤ (9223372036854775807 : Int)) ∧ ((0 : Int) ≤ (4 : Int) * (x : Int) + (1 : Int) ∧ (4 : Int) * (x : Int) + (1 : Int) < (p.length : Int)) ∧ ((0 : Int) ≤ (16 : Int) ∧ (16 : Int) ≤ (32 : Int)) ∧ ((-9223372036854775808 : Int) ≤ (4 : Int) * (x : Int) ∧ (4 : Int) * (x : Int) ≤ (9223372036854775807 : Int)) ∧ ((-9223372036854775808 : Int) ≤ (4 : Int) * (x : Int) + (2 : Int) ∧ (4 : Int) * (x : Int) + (2 : Int) ≤ (9223372036854775807 : Int)) ∧ ((0 : Int) ≤ (4 : Int) * (x : Int) + (2 : Int) ∧ (4 : Int) * (x : Int) + (2 : Int) < (p.length : Int)) ∧ ((0 : Int) ≤ (8 : Int) ∧ (8 : Int) ≤ (32 : Int)) ∧ ((-9223372036854775808 : Int) ≤ (4 : Int) * (x : Int) ∧ (4 : Int) * (x : Int) ≤ (9223372036854775807 : Int)) ∧ ((-9223372036854775808 : Int) ≤ (4 : Int) * (x : Int) + (3 : Int) ∧ (4 : Int) * (x : Int) + (3 : Int) ≤ (9223372036854775807 : Int)) ∧ ((0 : Int) ≤ (4 : Int) * (x : Int) + (3 : Int) ∧ (4 : Int) * (x : Int) + (3 : Int) < (p.length : Int)) ∧ ((0 : Int) ≤ (x : Int) ∧ (x : Int) < (↑(64 : Nat) : Int)) ∧ (0 : Nat) + (x : Int).toNat * (1 : Nat) < List.length (S.schedArr p x) ∧ ((-9223372036854775808 : Int) ≤ (x : Int) + (1 : Int) ∧ (x : Int) + (1 : Int) ≤ (9223372036854775807 : Int)) ∧ ∃ (x_1 : Nat), ((x : Int) + (1 : Int) = (x_1 : Int) ∧ List.set (S.schedArr p x) ((0 : Nat) + (x : Int).toNat * (1 : Nat)) (Vg.natOr (Vg.natOr (Vg.natOr ((↑(UInt8.toNat (List.getD p (Int.toNat ((4 : Int) * (x : Int))) (0 : UInt8))) : Int) * (2 : Int) ^ (24 : Int).toNat % (4294967296 : Int)) ((↑(UInt8.toNat (List.getD p (Int.toNat ((4 : Int) * (x : Int) + (1 : Int))) (0 : UInt8))) : Int) * (2 : Int) ^ (16 : Int).toNat % (4294967296 : Int))) ((↑(UInt8.toNat (List.getD p (Int.toNat ((4 : Int) * (x : Int) + (2 : Int))) (0 : UInt8))) : Int) * (2 : Int) ^ (8 : Int).toNat % (4294967296 : Int))) (↑(UInt8.toNat (List.getD p (Int.toNat ((4 : Int) * (x : Int) + (3 : Int))) (0 : UInt8))) : Int)) = S.schedArr p x_1) ∧ S.leN x_1 (16 : Nat) ∧ S.meas (16 : Nat) x_1 < S.meas (16 : Nat) x) ∧ (decide ((x : Int) < (16 : Int)) = false → (∃ (x_1 : Nat), ((16 : Int) = (x_1 : Int) ∧ S.schedArr p x = S.schedArr p x_1) ∧ (16 : Nat) ≤ x_1 ∧ x_1 ≤ (64 : Nat)) ∧ ∀ (x : Nat), (16 : Nat) ≤ x ∧ x ≤ (64 : Nat) → (decide ((x : Int) < (64 : Int)) = true → ((-9223372036854775808 : Int) ≤ (x : Int) - (15 : Int) ∧ (x : Int) - (15 : Int) ≤ (9223372036854775807 : Int)) ∧ ((0 : Int) ≤ (x : Int) - (15 : Int) ∧ (x : Int) - (15 : Int) < (↑(64 : Nat) : Int)) ∧ (0 : Nat) + Int.toNat ((x : Int) - (15 : Int)) * (1 : Nat) < List.length (S.schedArr p x) ∧ ((-9223372036854775808 : Int) ≤ (x : Int) - (2 : Int) ∧ (x : Int) - (2 : Int) ≤ (9223372036854775807 : Int)) ∧ ((0 : Int) ≤ (x : Int) - (2 : Int) ∧ (x : Int) - (2 : Int) < (↑(64 : Nat) : Int)) ∧ (0 : Nat) + Int.toNat ((x : Int) - (2 : Int)) * (1 : Nat) < List.length (S.schedArr p x) ∧ S.rotPre (List.getD (S.schedArr p x) ((0 : Nat) + Int.toNat ((x : Int) - (15 : Int)) * (1 : Nat)) (0 : Int)) (-7 : Int) ∧ S.rotPre (List.getD (S.schedArr p x) ((0 : Nat) + Int.toNat ((x : Int) - (15 : Int)) * (1 : Nat)) (0 : Int)) (-18 : Int) ∧ ((0 : Int) ≤ (3 : Int) ∧ (3 : Int) ≤ (32 : Int)) ∧ S.rotPre (List.getD (S.schedArr p x) ((0 : Nat) + Int.toNat ((x : Int) - (2 : Int)) * (1 : Nat)) (0 : Int)) (-17 : Int) ∧ S.rotPre (List.getD (S.schedArr p x) ((0 : Nat) + Int.toNat ((x : Int) - (2 : Int)) * (1 : Nat)) (0 : Int)) (-19 : Int) ∧ ((0 : Int) ≤ (10 : Int) ∧ (10 : Int) ≤ (32 : Int)) ∧ ((-9223372036854775808 : Int) ≤ (x : Int) - (16 : Int) ∧ (x : Int) - (16 : Int) ≤ (9223372036854775807 : Int)) ∧ ((0 : Int) ≤ (x : Int) - (16 : Int) ∧ (x : Int) - (16 : Int) < (↑(64 : Nat) : Int)) ∧ (0 : Nat) + Int.toNat ((x : Int) - (16 : Int)) * (1 : Nat) < List.length (S.schedArr p x) ∧ ((-9223372036854775808 : Int) ≤ (x : Int) - (7 : Int) ∧ (x : Int) - (7 : Int) ≤ (9223372036854775807 : Int)) ∧ ((0 : Int) ≤ (x : Int) - (7 : Int) ∧ (x : Int) - (7 : Int) < (↑(64 : Nat) : Int)) ∧ (0 : Nat) + Int.toNat ((x : Int) - (7 : Int)) * (1 : Nat) < List.length (S.schedArr p x) ∧ ((0 : Int) ≤ (x : Int) ∧ (x : Int) < (↑(64 : Nat) : Int)) ∧ (0 : Nat) + (x : Int).toNat * (1 : Nat) < List.length (S.schedArr p x) ∧ ((-9223372036854775808 : Int) ≤ (x : Int) + (1 : Int) ∧ (x : Int) + (1 : Int) ≤ (9223372036854775807 : Int)) ∧ ∃ (x_1 : Nat), ((x : Int) + (1 : Int) = (x_1 : Int) ∧ List.set (S.schedArr p x) ((0 : Nat) + (x : Int).toNat * (1 : Nat)) ((((List.getD (S.schedArr p x) ((0 : Nat) + Int.toNat ((x : Int) - (16 : Int)) * (1 : Nat)) (0 : Int) + Vg.natXor (Vg.natXor (S.rotl (List.getD (S.schedArr p x) ((0 : Nat) + Int.toNat ((x : Int) - (15 : Int)) * (1 : Nat)) (0 : Int)) (-7 : Int)) (S.rotl (List.getD (S.schedArr p x) ((0 : Nat) + Int.toNat ((x : Int) - (15 : Int)) * (1 : Nat)) (0 : Int)) (-18 : Int))) (List.getD (S.schedArr p x) ((0 : Nat) + Int.toNat ((x : Int) - (15 : Int)) * (1 : Nat)) (0 : Int) / (2 : Int) ^ (3 : Int).toNat)) % (4294967296 : Int) + List.getD (S.schedArr p x) ((0 : Nat) + Int.toNat ((x : Int) - (7 : Int)) * (1 : Nat)) (0 : Int)) % (4294967296 : Int) + Vg.natXor (Vg.natXor (S.rotl (List.getD (S.schedArr p x) ((0 : Nat) + Int.toNat ((x : Int) - (2 : Int)) * (1 : Nat)) (0 : Int)) (-17 : Int)) (S.rotl (List.getD (S.schedArr p x) ((0 : Nat) + Int.toNat ((x : Int) - (2 : Int)) * (1 : Nat)) (0 : Int)) (-19 : Int))) (List.getD (S.schedArr p x) ((0 : Nat) + Int.toNat ((x : Int) - (2 : Int)) * (1 : Nat)) (0 : Int) / (2 : Int) ^ (10 : Int).toNat)) % (4294967296 : Int)) = S.schedArr p x_1) ∧ ((16 : Nat) ≤ x_1 ∧ x_1 ≤ (64 : Nat)) ∧ S.meas (64 : Nat) x_1 < S.meas (64 : Nat) x) ∧ (decide ((x : Int) < (64 : Int)) = false → ((0 : Int) ≤ (0 : Int) ∧ (0 : Int) < (↑(8 : Nat) : Int)) ∧ ((0 : Int) ≤ (1 : Int) ∧ (1 : Int) < (↑(8 : Nat) : Int)) ∧ ((0 : Int) ≤ (2 : Int) ∧ (2 : Int) < (↑(8 : Nat) : Int)) ∧ ((0 : Int) ≤ (3 : Int) ∧ (3 : Int) < (↑(8 : Nat) : Int)) ∧ ((0 : Int) ≤ (4 : Int) ∧ (4 : Int) < (↑(8 : Nat) : Int)) ∧ ((0 : Int) ≤ (5 : Int) ∧ (5 : Int) < (↑(8 : Nat) : Int)) ∧ ((0 : Int) ≤ (6 : Int) ∧ (6 : Int) < (↑(8 : Nat) : Int)) ∧ ((0 : Int) ≤ (7 : Int) ∧ (7 : Int) < (↑(8 : Nat) : Int)) ∧ (∃ (x : Nat), ((0 : Int) = (x : Int) ∧ u1 = (S.rnds (S.sched p (64 : Nat)) (u1, u2, u3, u4, u5, u6, u7, u8) x).1 ∧ u2 = ((S.rnds (S.sched p (64 : Nat)) (u1, u2, u3, u4, u5, u6, u7, u8) x).2).1 ∧ u3 = (((S.rnds (S.sched p (64 : Nat)) (u1, u2, u3, u4, u5, u6, u7, u8) x).2).2).1 ∧ u4 = ((((S.rnds (S.sched p (64 : Nat)) (u1, u2, u3, u4, u5, u6, u7, u8) x).2).2).2).1 ∧ u5 = (((((S.rnds (S.sched p (64 : Nat)) (u1, u2, u3, u4, u5, u6, u7, u8) x).2).2).2).2).1 ∧ u6 = ((((((S.rnds (S.sched p (64 : Nat)) (u1, u2, u3, u4, u5, u6, u7, u8) x).2).2).2).2).2).1 ∧ u7 = (((((((S.rnds (S.sched p (64 : Nat)) (u1, u2, u3, u4, u5, u6, u7, u8) x).2).2).2).2).2).2).1 ∧ u8 = (((((((S.rnds (S.sched p (64 : Nat)) (u1, u2, u3, u4, u5, u6, u7, u8) x).2).2).2).2).2).2).2) ∧ S.leN x (64 : Nat)) ∧ ∀ (x_1 : Nat), S.leN x_1 (64 : Nat) → (decide ((x_1 : Int) < (64 : Int)) = true → S.rotPre ((((((S.rnds (S.sched p (64 : Nat)) (u1, u2, u3, u4, u5, u6, u7, u8) x_1).2).2).2).2).1) (-6 : Int) ∧ S.rotPre ((((((S.rnds (S.sched p (64 : Nat)) (u1, u2, u3, u4, u5, u6, u7, u8) x_1).2).2).2).2).1) (-11 : Int) ∧ S.rotPre ((((((S.rnds (S.sched p (64 : Nat)) (u1, u2, u3, u4, u5, u6, u7, u8) x_1).2).2).2).2).1) (-25 : Int) ∧ (64 : Nat) = List.length S.K256 ∧ ((0 : Int) ≤ (x_1 : Int) ∧ (x_1 : Int) < (↑(List.length S.K256) : Int)) ∧ ((0 : Int) ≤ (x_1 : Int) ∧ (x_1 : Int) < (↑(64 : Nat) : Int)) ∧ (0 : Nat) + (x_1 : Int).toNat * (1 : Nat) < List.length (S.schedArr p x) ∧ S.rotPre ((S.rnds (S.sched p (64 : Nat)) (u1, u2, u3, u4, u5, u6, u7, u8) x_1).1) (-2 : Int) ∧ S.rotPre ((S.rnds (S.sched p (64 : Nat)) (u1, u2, u3, u4, u5, u6, u7, u8) x_1).1) (-13 : Int) ∧ S.rotPre ((S.rnds (S.sched p (64 : Nat)) (u1, u2, u3, u4, u5, u6, u7, u8) x_1).1) (-22 : Int) ∧ ((-9223372036854775808 : Int) ≤ (x_1 : Int) + (1 : Int) ∧ (x_1 : Int) + (1 : Int) ≤ (9223372036854775807 : Int)) ∧ ∃ (x_2 : Nat), ((x_1 : Int) + (1 : Int) = (x_2 : Int) ∧ ((((((((((((S.rnds (S.sched p (64 : Nat)) (u1, u2, u3, u4, u5, u6, u7, u8) x_1).2).2).2).2).2).2).2 + Vg.natXor (Vg.natXor (S.rotl ((((((S.rnds (S.sched p (64 : Nat)) (u1, u2, u3, u4, u5, u6, u7, u8) x_1).2).2).2).2).1) (-6 : Int)) (S.rotl ((((((S.rnds (S.sched p (64 : Nat)) (u1, u2, u3, u4, u5, u6, u7, u8) x_1).2).2).2).2).1) (-11 : Int))) (S.rotl ((((((S.rnds (S.sched p (64 : Nat)) (u1, u2, u3, u4, u5, u6, u7, u8) x_1).2).2).2).2).1) (-25 : Int))) % (4294967296 : Int) + Vg.natXor (Vg.natAnd ((((((S.rnds (S.sched p (64 : Nat)) (u1, u2, u3, u4, u5, u6, u7, u8) x_1).2).2).2).2).1) (((((((S.rnds (S.sched p (64 : Nat)) (u1, u2, u3, u4, u5, u6, u7, u8) x_1).2).2).2).2).2).1)) (Vg.natAnd ((4294967296 : Int) - (1 : Int) - (((((S.rnds (S.sched p (64 : Nat)) (u1, u2, u3, u4, u5, u6, u7, u8) x_1).2).2).2).2).1) ((((((((S.rnds (S.sched p (64 : Nat)) (u1, u2, u3, u4, u5, u6, u7, u8) x_1).2).2).2).2).2).2).1))) % (4294967296 : Int) + List.getD S.K256 ((x_1 : Int).toNat) (0 : Int)) % (4294967296 : Int) + List.getD (S.schedArr p x) ((0 : Nat) + (x_1 : Int).toNat * (1 : Nat)) (0 : Int)) % (4294967296 : Int) + (Vg.natXor (Vg.natXor (S.rotl ((S.rnds (S.sched p (64 : Nat)) (u1, u2, u3, u4, u5, u6, u7, u8) x_1).1) (-2 : Int)) (S.rotl ((S.rnds (S.sched p (64 : Nat)) (u1, u2, u3, u4, u5, u6, u7, u8) x_1).1) (-13 : Int))) (S.rotl ((S.rnds (S.sched p (64 : Nat)) (u1, u2, u3, u4, u5, u6, u7, u8) x_1).1) (-22 : Int)) + Vg.natXor (Vg.natXor (Vg.natAnd ((S.rnds (S.sched p (64 : Nat)) (u1, u2, u3, u4, u5, u6, u7, u8) x_1).1) (((S.rnds (S.sched p (64 : Nat)) (u1, u2, u3, u4, u5, u6, u7, u8) x_1).2).1)) (Vg.natAnd ((S.rnds (S.sched p (64 : Nat)) (u1, u2, u3, u4, u5, u6, u7, u8) x_1).1) ((((S.rnds (S.sched p (64 : Nat)) (u1, u2, u3, u4, u5, u6, u7, u8) x_1).2).2).1))) (Vg.natAnd (((S.rnds (S.sched p (64 : Nat)) (u1, u2, u3, u4, u5, u6, u7, u8) x_1).2).1) ((((S.rnds (S.sched p (64 : Nat)) (u1, u2, u3, u4, u5, u6, u7, u8) x_1).2).2).1))) % (4294967296 : Int)) % (4294967296 : Int) = (S.rnds (S.sched p (64 : Nat)) (u1, u2, u3, u4, u5, u6, u7, u8) x_2).1 ∧ (S.rnds (S.sched p (64 : Nat)) (u1, u2, u3, u4, u5, u6, u7, u8) x_1).1 = ((S.rnds (S.sched p (64 : Nat)) (u1, u2, u3, u4, u5, u6, u7, u8) x_2).2).1 ∧ ((S.rnds (S.sched p (64 : Nat)) (u1, u2, u3, u4, u5, u6, u7, u8) x_1).2).1 = (((S.rnds (S.sched p (64 : Nat)) (u1, u2, u3, u4, u5, u6, u7, u8) x_2).2).2).1 ∧ (((S.rnds (S.sched p (64 : Nat)) (u1, u2, u3, u4, u5, u6, u7, u8) x_1).2).2).1 = ((((S.rnds (S.sched p (64 : Nat)) (u1, u2, u3, u4, u5, u6, u7, u8) x_2).2).2).2).1 ∧ (((((S.rnds (S.sched p (64 : Nat)) (u1, u2, u3, u4, u5, u6, u7, u8) x_1).2).2).2).1 + (((((((((((S.rnds (S.sched p (64 : Nat)) (u1, u2, u3, u4, u5, u6, u7, u8) x_1).2).2).2).2).2).2).2 + Vg.natXor (Vg.natXor (S.rotl ((((((S.rnds (S.sched p (64 : Nat)) (u1, u2, u3, u4, u5, u6, u7, u8) x_1).2).2).2).2).1) (-6 : Int)) (S.rotl ((((((S.rnds (S.sched p (64 : Nat)) (u1, u2, u3, u4, u5, u6, u7, u8) x_1).2).2).2).2).1) (-11 : Int))) (S.rotl ((((((S.rnds (S.sched p (64 : Nat)) (u1, u2, u3, u4, u5, u6, u7, u8) x_1).2).2).2).2).1) (-25 : Int))) % (4294967296 : Int) + Vg.natXor (Vg.natAnd ((((((S.rnds (S.sched p (64 : Nat)) (u1, u2, u3, u4, u5, u6, u7, u8) x_1).2).2).2).2).1) (((((((S.rnds (S.sched p (64 : Nat)) (u1, u2, u3, u4, u5, u6, u7, u8) x_1).2).2).2).2).2).1)) (Vg.natAnd ((4294967296 : Int) - (1 : Int) - (((((S.rnds (S.sched p (64 : Nat)) (u1, u2, u3, u4, u5, u6, u7, u8) x_1).2).2).2).2).1) ((((((((S.rnds (S.sched p (64 : Nat)) (u1, u2, u3, u4, u5, u6, u7, u8) x_1).2).2).2).2).2).2).1))) % (4294967296 : Int) + List.getD S.K256 ((x_1 : Int).toNat) (0 : Int)) % (4294967296 : Int) + List.getD (S.schedArr p x) ((0 : Nat) + (x_1 : Int).toNat * (1 : Nat)) (0 : Int)) % (4294967296 : Int)) % (4294967296 : Int) = (((((S.rnds (S.sched p (64 : Nat)) (u1, u2, u3, u4, u5, u6, u7, u8) x_2).2).2).2).2).1 ∧ (((((S.rnds (S.sched p (64 : Nat)) (u1, u2, u3, u4, u5, u6, u7, u8) x_1).2).2).2).2).1 = ((((((S.rnds (S.sched p (64 : Nat)) (u1, u2, u3, u4, u5, u6, u7, u8) x_2).2).2).2).2).2).1 ∧ ((((((S.rnds (S.sched p (64 : Nat)) (u1, u2, u3, u4, u5, u6, u7, u8) x_1).2).2).2).2).2).1 = (((((((S.rnds (S.sched p (64 : Nat)) (u1, u2, u3, u4, u5, u6, u7, u8) x_2).2).2).2).2).2).2).1 ∧ (((((((S.rnds (S.sched p (64 : Nat)) (u1, u2, u3, u4, u5, u6, u7, u8) x_1).2).2).2).2).2).2).1 = (((((((S.rnds (S.sched p (64 : Nat)) (u1, u2, u3, u4, u5, u6, u7, u8) x_2).2).2).2).2).2).2).2) ∧ S.leN x_2 (64 : Nat) ∧ S.meas (64 : Nat) x_2 < S.meas (64 : Nat) x_1) ∧ (decide ((x_1 : Int) < (64 : Int)) = false → ((0 : Int) ≤ (0 : Int) ∧ (0 : Int) < (↑(8 : Nat) : Int)) ∧ ((0 : Int) ≤ (1 : Int) ∧ (1 : Int) < (↑(8 : Nat) : Int)) ∧ ((0 : Int) ≤ (2 : Int) ∧ (2 : Int) < (↑(8 : Nat) : Int)) ∧ ((0 : Int) ≤ (3 : Int) ∧ (3 : Int) < (↑(8 : Nat) : Int)) ∧ ((0 : Int) ≤ (4 : Int) ∧ (4 : Int) < (↑(8 : Nat) : Int)) ∧ ((0 : Int) ≤ (5 : Int) ∧ (5 : Int) < (↑(8 : Nat) : Int)) ∧ ((0 : Int) ≤ (6 : Int) ∧ (6 : Int) < (↑(8 : Nat) : Int)) ∧ ((0 : Int) ≤ (7 : Int) ∧ (7 : Int) < (↑(8 : Nat) : Int)) ∧ (u1 + (S.rnds (S.sched p (64 : Nat)) (u1, u2, u3, u4, u5, u6, u7, u8) x_1).1) % (4294967296 : Int) = (S.block (u1, u2, u3, u4, u5, u6, u7, u8) p).1 ∧ (u2 + ((S.rnds (S.sched p (64 : Nat)) (u1, u2, u3, u4, u5, u6, u7, u8) x_1).2).1) % (4294967296 : Int) = ((S.block (u1, u2, u3, u4, u5, u6, u7, u8) p).2).1 ∧ (u3 + (((S.rnds (S.sched p (64 : Nat)) (u1, u2, u3, u4, u5, u6, u7, u8) x_1).2).2).1) % (4294967296 : Int) = (((S.block (u1, u2, u3, u4, u5, u6, u7, u8) p).2).2).1 ∧ (u4 + ((((S.rnds (S.sched p (64 : Nat)) (u1, u2, u3, u4, u5, u6, u7, u8) x_1).2).2).2).1) % (4294967296 : Int) = ((((S.block (u1, u2, u3, u4, u5, u6, u7, u8) p).2).2).2).1 ∧ (u5 + (((((S.rnds (S.sched p (64 : Nat)) (u1, u2, u3, u4, u5, u6, u7, u8) x_1).2).2).2).2).1) % (4294967296 : Int) = (((((S.block (u1, u2, u3, u4, u5, u6, u7, u8) p).2).2).2).2).1 ∧ (u6 + ((((((S.rnds (S.sched p (64 : Nat)) (u1, u2, u3, u4, u5, u6, u7, u8) x_1).2).2).2).2).2).1) % (4294967296 : Int) = ((((((S.block (u1, u2, u3, u4, u5, u6, u7, u8) p).2).2).2).2).2).1 ∧ (u7 + (((((((S.rnds (S.sched p (64 : Nat)) (u1, u2, u3, u4, u5, u6, u7, u8) x_1).2).2).2).2).2).2).1) % (4294967296 : Int) = (((((((S.block (u1, u2, u3, u4, u5, u6, u7, u8) p).2).2).2).2).2).2).1 ∧ (u8 + (((((((S.rnds (S.sched p (64 : Nat)) (u1, u2, u3, u4, u5, u6, u7, u8) x_1).2).2).2).2).2).2).2) % (4294967296 : Int) = (((((((S.block (u1, u2, u3, u4, u5, u6, u7, u8) p).2).2).2).2).2).2).2)))
def V_a10 (u1 : Int) (u2 : Int) (u3 : Int) (u4 : Int) (u5 : Int) (u6 : Int) (u7 : Int) (u8 : Int) (b : List UInt8) : Prop :=
 (∃ (x : Nat), (b = S.dropBlk b x ∧ u1 = (S.proc (u1, u2, u3, u4, u5, u6, u7, u8) b x).1 ∧ u2 = ((S.proc (u1, u2, u3, u4, u5, u6, u7, u8) b x).2).1 ∧ u3 = (((S.proc (u1, u2, u3, u4, u5, u6, u7, u8) b x).2).2).1 ∧ u4 = ((((S.proc (u1, u2, u3, u4, u5, u6, u7, u8) b x).2).2).2).1 ∧ u5 = (((((S.proc (u1, u2, u3, u4, u5, u6, u7, u8) b x).2).2).2).2).1 ∧ u6 = ((((((S.proc (u1, u2, u3, u4, u5, u6, u7, u8) b x).2).2).2).2).2).1 ∧ u7 = (((((((S.proc (u1, u2, u3, u4, u5, u6, u7, u8) b x).2).2).2).2).2).2).1 ∧ u8 = (((((((S.proc (u1, u2, u3, u4, u5, u6, u7, u8) b x).2).2).2).2).2).2).2) ∧ (64 : Nat) * x ≤ b.length) ∧ ∀ (x : Nat), (64 : Nat) * x ≤ b.length → (decide ((64 : Int) ≤ (↑(List.length (S.dropBlk b x)) : Int)) = true → ((0 : Int) ≤ (64 : Int) ∧ (64 : Int) ≤ (↑(List.length (S.dropBlk b x)) : Int)) ∧ S.blkPre ((S.proc (u1, u2, u3, u4, u5, u6, u7, u8) b x).1, ((S.proc (u1, u2, u3, u4, u5, u6, u7, u8) b x).2).1, (((S.proc (u1, u2, u3, u4, u5, u6, u7, u8) b x).2).2).1, ((((S.proc (u1, u2, u3, u4, u5, u6, u7, u8) b x).2).2).2).1, (((((S.proc (u1, u2, u3, u4, u5, u6, u7, u8) b x).2).2).2).2).1, ((((((S.proc (u1, u2, u3, u4, u5, u6, u7, u8) b x).2).2).2).2).2).1, (((((((S.proc (u1, u2, u3, u4, u5, u6, u7, u8) b x).2).2).2).2).2).2).1, (((((((S.proc (u1, u2, u3, u4, u5, u6, u7, u8) b x).2).2).2).2).2).2).2) (List.take ((64 : Int).toNat) (S.dropBlk b x)) ∧ ((0 : Int) ≤ (64 : Int) ∧ (64 : Int) ≤ (↑(List.length (S.dropBlk b x)) : Int)) ∧ ∃ (x_1 : Nat), (List.drop ((64 : Int).toNat) (S.dropBlk b x) = S.dropBlk b x_1 ∧ (S.block ((S.proc (u1, u2, u3, u4, u5, u6, u7, u8) b x).1, ((S.proc (u1, u2, u3, u4, u5, u6, u7, u8) b x).2).1, (((S.proc (u1, u2, u3, u4, u5, u6, u7, u8) b x).2).2).1, ((((S.proc (u1, u2, u3, u4, u5, u6, u7, u8) b x).2).2).2).1, (((((S.proc (u1, u2, u3, u4, u5, u6, u7, u8) b x).2).2).2).2).1, ((((((S.proc (u1, u2, u3, u4, u5, u6, u7, u8) b x).2).2).2).2).2).1, (((((((S.proc (u1, u2, u3, u4, u5, u6, u7, u8) b x).2).2).2).2).2).2).1, (((((((S.proc (u1, u2, u3, u4, u5, u6, u7, u8) b x).2).2).2).2).2).2).2) (List.take ((64 : Int).toNat) (S.dropBlk b x))).1 = (S.proc (u1, u2, u3, u4, u5, u6, u7, u8) b x_1).1 ∧ ((S.block ((S.proc (u1, u2, u3, u4, u5, u6, u7, u8) b x).1, ((S.proc (u1, u2, u3, u4, u5, u6, u7, u8) b x).2).1, (((S.proc (u1, u2, u3, u4, u5, u6, u7, u8) b x).2).2).1, ((((S.proc (u1, u2, u3, u4, u5, u6, u7, u8) b x).2).2).2).1, (((((S.proc (u1, u2, u3, u4, u5, u6, u7, u8) b x).2).2).2).2).1, ((((((S.proc (u1, u2, u3, u4, u5, u6, u7, u8) b x).2).2).2).2).2).1, (((((((S.proc (u1, u2, u3, u4, u5, u6, u7, u8) b x).2).2).2).2).2).2).1, (((((((S.proc (u1, u2, u3, u4, u5, u6, u7, u8) b x).2).2).2).2).2).2).2) (List.take ((64 : Int).toNat) (S.dropBlk b x))).2).1 = ((S.proc (u1, u2, u3, u4, u5, u6, u7, u8) b x_1).2).1 ∧ (((S.block ((S.proc (u1, u2, u3, u4, u5, u6, u7, u8) b x).1, ((S.proc (u1, u2, u3, u4, u5, u6, u7, u8) b x).2).1, (((S.proc (u1, u2, u3, u4, u5, u6, u7, u8) b x).2).2).1, ((((S.proc (u1, u2, u3, u4, u5, u6, u7, u8) b x).2).2).2).1, (((((S.proc (u1, u2, u3, u4, u5, u6, u7, u8) b x).2).2).2).2).1, ((((((S.proc (u1, u2, u3, u4, u5, u6, u7, u8) b x).2).2).2).2).2).1, (((((((S.proc (u1, u2, u3, u4, u5, u6, u7, u8) b x).2).2).2).2).2).2).1, (((((((S.proc (u1, u2, u3, u4, u5, u6, u7, u8) b x).2).2).2).2).2).2).2) (List.take ((64 : Int).toNat) (S.dropBlk b x))).2).2).1 = (((S.proc (u1, u2, u3, u4, u5, u6, u7, u8) b x_1).2).2).1 ∧ ((((S.block ((S.proc (u1, u2, u3, u4, u5, u6, u7, u8) b x).1, ((S.proc (u1, u2, u3, u4, u5, u6, u7, u8) b x).2).1, (((S.proc (u1, u2, u3, u4, u5, u6, u7, u8) b x).2).2).1, ((((S.proc (u1, u2, u3, u4, u5, u6, u7, u8) b x).2).2).2).1, (((((S.proc (u1, u2, u3, u4, u5, u6, u7, u8) b x).2).2).2).2).1, ((((((S.proc (u1, u2, u3, u4, u5, u6, u7, u8) b x).2).2).2).2).2).1, (((((((S.proc (u1, u2, u3, u4, u5, u6, u7, u8) b x).2).2).2).2).2).2).1, (((((((S.proc (u1, u2, u3, u4, u5, u6, u7, u8) b x).2).2).2).2).2).2).2) (List.take ((64 : Int).toNat) (S.dropBlk b x))).2).2).2).1 = ((((S.proc (u1, u2, u3, u4, u5, u6, u7, u8) b x_1).2).2).2).1 ∧ (((((S.block ((S.proc (u1, u2, u3, u4, u5, u6, u7, u8) b x).1, ((S.proc (u1, u2, u3, u4, u5, u6, u7, u8) b x).2).1, (((S.proc (u1, u2, u3, u4, u5, u6, u7, u8) b x).2).2).1, ((((S.proc (u1, u2, u3, u4, u5, u6, u7, u8) b x).2).2).2).1, (((((S.proc (u1, u2, u3, u4, u5, u6, u7, u8) b x).2).2).2).2).1, ((((((S.proc (u1, u2, u3, u4, u5, u6, u7, u8) b x).2).2).2).2).2).1, (((((((S.proc (u1, u2, u3, u4, u5, u6, u7, u8) b x).2).2).2).2).2).2).1, (((((((S.proc (u1, u2, u3, u4, u5, u6, u7, u8) b x).2).2).2).2).2).2).2) (List.take ((64 : Int).toNat) (S.dropBlk b x))).2).2).2).2).1 = (((((S.proc (u1, u2, u3, u4, u5, u6, u7, u8) b x_1).2).2).2).2).1 ∧ ((((((S.block ((S.proc (u1, u2, u3, u4, u5, u6, u7, u8) b x).1, ((S.proc (u1, u2, u3, u4, u5, u6, u7, u8) b x).2).1, (((S.proc (u1, u2, u3, u4, u5, u6, u7, u8) b x).2).2).1, ((((S.proc (u1, u2, u3, u4, u5, u6, u7, u8) b x).2).2).2).1, (((((S.proc (u1, u2, u3, u4, u5, u6, u7, u8) b x).2).2).2).2).1, ((((((S.proc (u1, u2, u3, u4, u5, u6, u7, u8) b x).2).2).2).2).2).1, (((((((S.proc (u1, u2, u3, u4, u5, u6, u7, u8) b x).2).2).2).2).2).2).1, (((((((S.proc (u1, u2, u3, u4, u5, u6, u7, u8) b x).2).2).2).2).2).2).2) (List.take ((64 : Int).toNat) (S.dropBlk b x))).2).2).2).2).2).1 = ((((((S.proc (u1, u2, u3, u4, u5, u6, u7, u8) b x_1).2).2).2).2).2).1 ∧ (((((((S.block ((S.proc (u1, u2, u3, u4, u5, u6, u7, u8) b x).1, ((S.proc (u1, u2, u3, u4, u5, u6, u7, u8) b x).2).1, (((S.proc (u1, u2, u3, u4, u5, u6, u7, u8) b x).2).2).1, ((((S.proc (u1, u2, u3, u4, u5, u6, u7, u8) b x).2).2).2).1, (((((S.proc (u1, u2, u3, u4, u5, u6, u7, u8) b x).2).2).2).2).1, ((((((S.proc (u1, u2, u3, u4, u5, u6, u7, u8) b x).2).2).2).2).2).1, (((((((S.proc (u1, u2, u3, u4, u5, u6, u7, u8) b x).2).2).2).2).2).2).1, (((((((S.proc (u1, u2, u3, u4, u5, u6, u7, u8) b x).2).2).2).2).2).2).2) (List.take ((64 : Int).toNat) (S.dropBlk b x))).2).2).2).2).2).2).1 = (((((((S.proc (u1, u2, u3, u4, u5, u6, u7, u8) b x_1).2).2).2).2).2).2).1 ∧ (((((((S.block ((S.proc (u1, u2, u3, u4, u5, u6, u7, u8) b x).1, ((S.proc (u1, u2, u3, u4, u5, u6, u7, u8) b x).2).1, (((S.proc (u1, u2, u3, u4, u5, u6, u7, u8) b x).2).2).1, ((((S.proc (u1, u2, u3, u4, u5, u6, u7, u8) b x).2).2).2).1, (((((S.proc (u1, u2, u3, u4, u5, u6, u7, u8) b x).2).2).2).2).1, ((((((S.proc (u1, u2, u3, u4, u5, u6, u7, u8) b x).2).2).2).2).2).1, (((((((S.proc (u1, u2, u3, u4, u5, u6, u7, u8) b x).2).2).2).2).2).2).1, (((((((S.proc (u1, u2, u3, u4, u5, u6, u7, u8) b x).2).2).2).2).2).2).2) (List.take ((64 : Int).toNat) (S.dropBlk b x))).2).2).2).2).2).2).2 = (((((((S.proc (u1, u2, u3, u4, u5, u6, u7, u8) b x_1).2).2).2).2).2).2).2) ∧ (64 : Nat) * x_1 ≤ b.length ∧ S.meas (S.blocks b) x_1 < S.meas (S.blocks b) x) ∧ (decide ((64 : Int) ≤ (↑(List.length (S.dropBlk b x)) : Int)) = false → (S.proc (u1, u2, u3, u4, u5, u6, u7, u8) b x).1 = (S.procAll (u1, u2, u3, u4, u5, u6, u7, u8) b).1 ∧ ((S.proc (u1, u2, u3, u4, u5, u6, u7, u8) b x).2).1 = ((S.procAll (u1, u2, u3, u4, u5, u6, u7, u8) b).2).1 ∧ (((S.proc (u1, u2, u3, u4, u5, u6, u7, u8) b x).2).2).1 = (((S.procAll (u1, u2, u3, u4, u5, u6, u7, u8) b).2).2).1 ∧ ((((S.proc (u1, u2, u3, u4, u5, u6, u7, u8) b x).2).2).2).1 = ((((S.procAll (u1, u2, u3, u4, u5, u6, u7, u8) b).2).2).2).1 ∧ (((((S.proc (u1, u2, u3, u4, u5, u6, u7, u8) b x).2).2).2).2).1 = (((((S.procAll (u1, u2, u3, u4, u5, u6, u7, u8) b).2).2).2).2).1 ∧ ((((((S.proc (u1, u2, u3, u4, u5, u6, u7, u8) b x).2).2).2).2).2).1 = ((((((S.procAll (u1, u2, u3, u4, u5, u6, u7, u8) b).2).2).2).2).2).1 ∧ (((((((S.proc (u1, u2, u3, u4, u5, u6, u7, u8) b x).2).2).2).2).2).2).1 = (((((((S.procAll (u1, u2, u3, u4, u5, u6, u7, u8) b).2).2).2).2).2).2).1 ∧ (((((((S.proc (u1, u2, u3, u4, u5, u6, u7, u8) b x).2).2).2).2).2).2).2 = (((((((S.procAll (u1, u2, u3, u4, u5, u6, u7, u8) b).2).2).2).2).2).2).2 ∧ S.dropBlk b x = S.restOf b)
def V_a11 (s1 : Int) (s2 : Int) (s3 : Int) (s4 : Int) (s5 : Int) (s6 : Int) (s7 : Int) (s8 : Int) (s9 : List UInt8) (s10 : Int) (b : List UInt8) : Prop :=
 True ∧ (((!S.stValid s9 s10) = true → True) ∧ ((!S.stValid s9 s10) = false → (-9223372036854775808 : Int) ≤ (1099511627776 : Int) - s10 ∧ (1099511627776 : Int) - s10 ≤ (9223372036854775807 : Int))) ∧ (((bif !S.stValid s9 s10 then true else decide ((1099511627776 : Int) - s10 < (b.length : Int))) = true → True) ∧ ((bif !S.stValid s9 s10 then true else decide ((1099511627776 : Int) - s10 < (b.length : Int))) = false → True)) ∧ ((-9223372036854775808 : Int) ≤ (↑(List.length (bif bif !S.stValid s9 s10 then true else decide ((1099511627776 : Int) - s10 < (b.length : Int)) then [] else s9)) : Int) + (b.length : Int) ∧ (↑(List.length (bif bif !S.stValid s9 s10 then true else decide ((1099511627776 : Int) - s10 < (b.length : Int)) then [] else s9)) : Int) + (b.length : Int) ≤ (9223372036854775807 : Int)) ∧ ((0 : Int) ≤ (0 : Int) ∧ (0 : Int) ≤ (↑(List.length (bif bif !S.stValid s9 s10 then true else decide ((1099511627776 : Int) - s10 < (b.length : Int)) then [] else s9)) : Int) + (b.length : Int) ∧ (↑(List.length (bif bif !S.stValid s9 s10 then true else decide ((1099511627776 : Int) - s10 < (b.length : Int)) then [] else s9)) : Int) + (b.length : Int) ≤ (140737488355328 : Int) / (↑(1 : Nat) : Int)) ∧ List.length (List.replicate ((0 : Int).toNat) (0 : UInt8)) + List.length (bif bif !S.stValid s9 s10 then true else decide ((1099511627776 : Int) - s10 < (b.length : Int)) then [] else s9) ≤ (140737488355328 : Nat) ∧ List.length (List.replicate ((0 : Int).toNat) (0 : UInt8) ++ bif bif !S.stValid s9 s10 then true else decide ((1099511627776 : Int) - s10 < (b.length : Int)) then [] else s9) + b.length ≤ (140737488355328 : Nat) ∧ S.ok8 (bif bif !S.stValid s9 s10 then true else decide ((1099511627776 : Int) - s10 < (b.length : Int)) then (1779033703 : Int) else s1, bif bif !S.stValid s9 s10 then true else decide ((1099511627776 : Int) - s10 < (b.length : Int)) then (3144134277 : Int) else s2, bif bif !S.stValid s9 s10 then true else decide ((1099511627776 : Int) - s10 < (b.length : Int)) then (1013904242 : Int) else s3, bif bif !S.stValid s9 s10 then true else decide ((1099511627776 : Int) - s10 < (b.length : Int)) then (2773480762 : Int) else s4, bif bif !S.stValid s9 s10 then true else decide ((1099511627776 : Int) - s10 < (b.length : Int)) then (1359893119 : Int) else s5, bif bif !S.stValid s9 s10 then true else decide ((1099511627776 : Int) - s10 < (b.length : Int)) then (2600822924 : Int) else s6, bif bif !S.stValid s9 s10 then true else decide ((1099511627776 : Int) - s10 < (b.length : Int)) then (528734635 : Int) else s7, bif bif !S.stValid s9 s10 then true else decide ((1099511627776 : Int) - s10 < (b.length : Int)) then (1541459225 : Int) else s8) ∧ List.length (S.restOf ((List.replicate ((0 : Int).toNat) (0 : UInt8) ++ bif bif !S.stValid s9 s10 then true else decide ((1099511627776 : Int) - s10 < (b.length : Int)) then [] else s9) ++ b)) ≤ (140737488355328 : Nat) ∧ ((-9223372036854775808 : Int) ≤ (bif bif !S.stValid s9 s10 then true else decide ((1099511627776 : Int) - s10 < (b.length : Int)) then (0 : Int) else s10) + (b.length : Int) ∧ (bif bif !S.stValid s9 s10 then true else decide ((1099511627776 : Int) - s10 < (b.length : Int)) then (0 : Int) else s10) + (b.length : Int) ≤ (9223372036854775807 : Int)) ∧ (S.procAll (bif bif !S.stValid s9 s10 then true else decide ((1099511627776 : Int) - s10 < (b.length : Int)) then (1779033703 : Int) else s1, bif bif !S.stValid s9 s10 then true else decide ((1099511627776 : Int) - s10 < (b.length : Int)) then (3144134277 : Int) else s2, bif bif !S.stValid s9 s10 then true else decide ((1099511627776 : Int) - s10 < (b.length : Int)) then (1013904242 : Int) else s3, bif bif !S.stValid s9 s10 then true else decide ((1099511627776 : Int) - s10 < (b.length : Int)) then (2773480762 : Int) else s4, bif bif !S.stValid s9 s10 then true else decide ((1099511627776 : Int) - s10 < (b.length : Int)) then (1359893119 : Int) else s5, bif bif !S.stValid s9 s10 then true else decide ((1099511627776 : Int) - s10 < (b.length : Int)) then (2600822924 : Int) else s6, bif bif !S.stValid s9 s10 then true else decide ((1099511627776 : Int) - s10 < (b.length : Int)) then (528734635 : Int) else s7, bif bif !S.stValid s9 s10 then true else decide ((1099511627776 : Int) - s10 < (b.length : Int)) then (1541459225 : Int) else s8) ((List.replicate ((0 : Int).toNat) (0 : UInt8) ++ bif bif !S.stValid s9 s10 then true else decide ((1099511627776 : Int) - s10 < (b.length : Int)) then [] else s9) ++ b)).1 = (S.procAll (s1, s2, s3, s4, s5, s6, s7, s8) b).1 ∧ ((S.procAll (bif bif !S.stValid s9 s10 then true else decide ((1099511627776 : Int) - s10 < (b.length : Int)) then (1779033703 : Int) else s1, bif bif !S.stValid s9 s10 then true else decide ((1099511627776 : Int) - s10 < (b.length : Int)) then (3144134277 : Int) else s2, bif bif !S.stValid s9 s10 then true else decide ((1099511627776 : Int) - s10 < (b.length : Int)) then (1013904242 : Int) else s3, bif bif !S.stValid s9 s10 then true else decide ((1099511627776 : Int) - s10 < (b.length : Int)) then (2773480762 : Int) else s4, bif bif !S.stValid s9 s10 then true else decide ((1099511627776 : Int) - s10 < (b.length : Int)) then (1359893119 : Int) else s5, bif bif !S.stValid s9 s10 then true else decide ((1099511627776 : Int) - s10 < (b.length : Int)) then (2600822924 : Int) else s6, bif bif !S.stValid s9 s10 then true else decide ((1099511627776 : Int) - s10 < (b.length : Int)) then (528734635 : Int) else s7, bif bif !S.stValid s9 s10 then true else decide ((1099511627776 : Int) - s10 < (b.length : Int)) then (1541459225 : Int) else s8) ((List.replicate ((0 : Int).toNat) (0 : UInt8) ++ bif bif !S.stValid s9 s10 then true else decide ((1099511627776 : Int) - s10 < (b.length : Int)) then [] else s9) ++ b)).2).1 = ((S.procAll (s1, s2, s3, s4, s5, s6, s7, s8) b).2).1 ∧ (((S.procAll (bif bif !S.stValid s9 s10 then true else decide ((1099511627776 : Int) - s10 < (b.length : Int)) then (1779033703 : Int) else s1, bif bif !S.stValid s9 s10 then true else decide ((1099511627776 : Int) - s10 < (b.length : Int)) then (3144134277 : Int) else s2, bif bif !S.stValid s9 s10 then true else decide ((1099511627776 : Int) - s10 < (b.length : Int)) then (1013904242 : Int) else s3, bif bif !S.stValid s9 s10 then true else decide ((1099511627776 : Int) - s10 < (b.length : Int)) then (2773480762 : Int) else s4, bif bif !S.stValid s9 s10 then true else decide ((1099511627776 : Int) - s10 < (b.length : Int)) then (1359893119 : Int) else s5, bif bif !S.stValid s9 s10 then true else decide ((1099511627776 : Int) - s10 < (b.length : Int)) then (2600822924 : Int) else s6, bif bif !S.stValid s9 s10 then true else decide ((1099511627776 : Int) - s10 < (b.length : Int)) then (528734635 : Int) else s7, bif bif !S.stValid s9 s10 then true else decide ((1099511627776 : Int) - s10 < (b.length : Int)) then (1541459225 : Int) else s8) ((List.replicate ((0 : Int).toNat) (0 : UInt8) ++ bif bif !S.stValid s9 s10 then true else decide ((1099511627776 : Int) - s10 < (b.length : Int)) then [] else s9) ++ b)).2).2).1 = (((S.procAll (s1, s2, s3, s4, s5, s6, s7, s8) b).2).2).1 ∧ ((((S.procAll (bif bif !S.stValid s9 s10 then true else decide ((1099511627776 : Int) - s10 < (b.length : Int)) then (1779033703 : Int) else s1, bif bif !S.stValid s9 s10 then true else decide ((1099511627776 : Int) - s10 < (b.length : Int)) then (3144134277 : Int) else s2, bif bif !S.stValid s9 s10 then true else decide ((1099511627776 : Int) - s10 < (b.length : Int)) then (1013904242 : Int) else s3, bif bif !S.stValid s9 s10 then true else decide ((1099511627776 : Int) - s10 < (b.length : Int)) then (2773480762 : Int) else s4, bif bif !S.stValid s9 s10 then true else decide ((1099511627776 : Int) - s10 < (b.length : Int)) then (1359893119 : Int) else s5, bif bif !S.stValid s9 s10 then true else decide ((1099511627776 : Int) - s10 < (b.length : Int)) then (2600822924 : Int) else s6, bif bif !S.stValid s9 s10 then true else decide ((1099511627776 : Int) - s10 < (b.length : Int)) then (528734635 : Int) else s7, bif bif !S.stValid s9 s10 then true else decide ((1099511627776 : Int) - s10 < (b.length : Int)) then (1541459225 : Int) else s8) ((List.replicate ((0 : Int).toNat) (0 : UInt8) ++ bif bif !S.stValid s9 s10 then true else decide ((1099511627776 : Int) - s10 < (b.length : Int)) then [] else s9) ++ b)).2).2).2).1 = ((((S.procAll (s1, s2, s3, s4, s5, s6, s7, s8) b).2).2).2).1 ∧ (((((S.procAll (bif bif !S.stValid s9 s10 then true else decide ((1099511627776 : Int) - s10 < (b.length : Int)) then (1779033703 : Int) else s1, bif bif !S.stValid s9 s10 then true else decide ((1099511627776 : Int) - s10 < (b.length : Int)) then (3144134277 : Int) else s2, bif bif !S.stValid s9 s10 then true else decide ((1099511627776 : Int) - s10 < (b.length : Int)) then (1013904242 : Int) else s3, bif bif !S.stValid s9 s10 then true else decide ((1099511627776 : Int) - s10 < (b.length : Int)) then (2773480762 : Int) else s4, bif bif !S.stValid s9 s10 then true else decide ((1099511627776 : Int) - s10 < (b.length : Int)) then (1359893119 : Int) else s5, bif bif !S.stValid s9 s10 then true else decide ((1099511627776 : Int) - s10 < (b.length : Int)) then (2600822924 : Int) else s6, bif bif !S.stValid s9 s10 then true else decide ((1099511627776 : Int) - s10 < (b.length : Int)) then (528734635 : Int) else s7, bif bif !S.stValid s9 s10 then true else decide ((1099511627776 : Int) - s10 < (b.length : Int)) then (1541459225 : Int) else s8) ((List.replicate ((0 : Int).toNat) (0 : UInt8) ++ bif bif !S.stValid s9 s10 then true else decide ((1099511627776 : Int) - s10 < (b.length : Int)) then [] else s9) ++ b)).2).2).2).2).1 = (((((S.procAll (s1, s2, s3, s4, s5, s6, s7, s8) b).2).2).2).2).1 ∧ ((((((S.procAll (bif bif !S.stValid s9 s10 then true else decide ((1099511627776 : Int) - s10 < (b.length : Int)) then (1779033703 : Int) else s1, bif bif !S.stValid s9 s10 then true else decide ((1099511627776 : Int) - s10 < (b.length : Int)) then (3144134277 : Int) else s2, bif bif !S.stValid s9 s10 then true else decide ((1099511627776 : Int) - s10 < (b.length : Int)) then (1013904242 : Int) else s3, bif bif !S.stValid s9 s10 then true else decide ((1099511627776 : Int) - s10 < (b.length : Int)) then (2773480762 : Int) else s4, bif bif !S.stValid s9 s10 then true else decide ((1099511627776 : Int) - s10 < (b.length : Int)) then (1359893119 : Int) else s5, bif bif !S.stValid s9 s10 then true else decide ((1099511627776 : Int) - s10 < (b.length : Int)) then (2600822924 : Int) else s6, bif bif !S.stValid s9 s10 then true else decide ((1099511627776 : Int) - s10 < (b.length : Int)) then (528734635 : Int) else s7, bif bif !S.stValid s9 s10 then true else decide ((1099511627776 : Int) - s10 < (b.length : Int)) then (1541459225 : Int) else s8) ((List.replicate ((0 : Int).toNat) (0 : UInt8) ++ bif bif !S.stValid s9 s10 then true else decide ((1099511627776 : Int) - s10 < (b.length : Int)) then [] else s9) ++ b)).2).2).2).2).2).1 = ((((((S.procAll (s1, s2, s3, s4, s5, s6, s7, s8) b).2).2).2).2).2).1 ∧ (((((((S.procAll (bif bif !S.stValid s9 s10 then true else decide ((1099511627776 : Int) - s10 < (b.length : Int)) then (1779033703 : Int) else s1, bif bif !S.stValid s9 s10 then true else decide ((1099511627776 : Int) - s10 < (b.length : Int)) then (3144134277 : Int) else s2, bif bif !S.stValid s9 s10 then true else decide ((1099511627776 : Int) - s10 < (b.length : Int)) then (1013904242 : Int) else s3, bif bif !S.stValid s9 s10 then true else decide ((1099511627776 : Int) - s10 < (b.length : Int)) then (2773480762 : Int) else s4, bif bif !S.stValid s9 s10 then true else decide ((1099511627776 : Int) - s10 < (b.length : Int)) then (1359893119 : Int) else s5, bif bif !S.stValid s9 s10 then true else decide ((1099511627776 : Int) - s10 < (b.length : Int)) then (2600822924 : Int) else s6, bif bif !S.stValid s9 s10 then true else decide ((1099511627776 : Int) - s10 < (b.length : Int)) then (528734635 : Int) else s7, bif bif !S.stValid s9 s10 then true else decide ((1099511627776 : Int) - s10 < (b.length : Int)) then (1541459225 : Int) else s8) ((List.replicate ((0 : Int).toNat) (0 : UInt8) ++ bif bif !S.stValid s9 s10 then true else decide ((1099511627776 : Int) - s10 < (b.length : Int)) then [] else s9) ++ b)).2).2).2).2).2).2).1 = (((((((S.procAll (s1, s2, s3, s4, s5, s6, s7, s8) b).2).2).2).2).2).2).1 ∧ (((((((S.procAll (bif bif !S.stValid s9 s10 then true else decide ((1099511627776 : Int) - s10 < (b.length : Int)) then (1779033703 : Int) else s1, bif bif !S.stValid s9 s10 then true else decide ((1099511627776 : Int) - s10 < (b.length : Int)) then (3144134277 : Int) else s2, bif bif !S.stValid s9 s10 then true else decide ((1099511627776 : Int) - s10 < (b.length : Int)) then (1013904242 : Int) else s3, bif bif !S.stValid s9 s10 then true else decide ((1099511627776 : Int) - s10 < (b.length : Int)) then (2773480762 : Int) else s4, bif bif !S.stValid s9 s10 then true else decide ((1099511627776 : Int) - s10 < (b.length : Int)) then (1359893119 : Int) else s5, bif bif !S.stValid s9 s10 then true else decide ((1099511627776 : Int) - s10 < (b.length : Int)) then (2600822924 : Int) else s6, bif bif !S.stValid s9 s10 then true else decide ((1099511627776 : Int) - s10 < (b.length : Int)) then (528734635 : Int) else s7, bif bif !S.stValid s9 s10 then true else decide ((1099511627776 : Int) - s10 < (b.length : Int)) then (1541459225 : Int) else s8) ((List.replicate ((0 : Int).toNat) (0 : UInt8) ++ bif bif !S.stValid s9 s10 then true else decide ((1099511627776 : Int) - s10 < (b.length : Int)) then [] else s9) ++ b)).2).2).2).2).2).2).2 = (((((((S.procAll (s1, s2, s3, s4, s5, s6, s7, s8) b).2).2).2).2).2).2).2 ∧ S.restOf ((List.replicate ((0 : Int).toNat) (0 : UInt8) ++ bif bif !S.stValid s9 s10 then true else decide ((1099511627776 : Int) - s10 < (b.length : Int)) then [] else s9) ++ b) = S.restOf b ∧ (bif bif !S.stValid s9 s10 then true else decide ((1099511627776 : Int) - s10 < (b.length : Int)) then (0 : Int) else s10) + (b.length : Int) = S.lenI b
def V_a12 (s1 : Int) (s2 : Int) (s3 : Int) (s4 : Int) (s5 : Int) (s6 : Int) (s7 : Int) (s8 : Int) (s9 : List UInt8) (s10 : Int) : Prop :=
 True ∧ (((!S.stValid s9 s10) = true → True) ∧ ((!S.stValid s9 s10) = false → True)) ∧ List.length (bif !S.stValid s9 s10 then [] else s9) ≤ (140737488355328 : Nat) ∧ List.length (bif !S.stValid s9 s10 then [] else s9) + List.length [(128 : UInt8)] ≤ (140737488355328 : Nat) ∧ (∃ (x : Nat), (bif !S.stValid s9 s10 then [] else s9) ++ [(128 : UInt8)] = S.tailZ s9 x ∧ S.tailInv s9 x) ∧ ∀ (x : Nat), S.tailInv s9 x → (0 : Int) ≤ (↑(List.length (S.tailZ s9 x)) : Int) ∧ (0 : Int) < (64 : Int) ∧ ((!decide ((↑(List.length (S.tailZ s9 x)) : Int) % (64 : Int) = (56 : Int))) = true → List.length (S.tailZ s9 x) + List.length [(0 : UInt8)] ≤ (140737488355328 : Nat) ∧ ∃ (x_1 : Nat), S.tailZ s9 x ++ [(0 : UInt8)] = S.tailZ s9 x_1 ∧ S.tailInv s9 x_1 ∧ S.meas (S.padZ (S.len s9)) x_1 < S.meas (S.padZ (S.len s9)) x) ∧ ((!decide ((↑(List.length (S.tailZ s9 x)) : Int) % (64 : Int) = (56 : Int))) = false → (∃ (x_1 : Nat), ((0 : Int) = (x_1 : Int) ∧ S.tailZ s9 x = S.tailL s9 s10 x_1) ∧ S.leN x_1 (8 : Nat)) ∧ ∀ (x : Nat), S.leN x (8 : Nat) → (decide ((x : Int) < (8 : Int)) = true → ((-9223372036854775808 : Int) ≤ (8 : Int) * (x : Int) ∧ (8 : Int) * (x : Int) ≤ (9223372036854775807 : Int)) ∧ ((-9223372036854775808 : Int) ≤ (56 : Int) - (8 : Int) * (x : Int) ∧ (56 : Int) - (8 : Int) * (x : Int) ≤ (9223372036854775807 : Int)) ∧ ((0 : Int) ≤ (56 : Int) - (8 : Int) * (x : Int) ∧ (56 : Int) - (8 : Int) * (x : Int) ≤ (64 : Int)) ∧ List.length (S.tailL s9 s10 x) + List.length [UInt8.ofNat (Int.toNat ((bif !S.stValid s9 s10 then (0 : Int) else s10) % (18446744073709551616 : Int) * (8 : Int) % (18446744073709551616 : Int) / (2 : Int) ^ Int.toNat ((56 : Int) - (8 : Int) * (x : Int)) % (256 : Int)))] ≤ (140737488355328 : Nat) ∧ ((-9223372036854775808 : Int) ≤ (x : Int) + (1 : Int) ∧ (x : Int) + (1 : Int) ≤ (9223372036854775807 : Int)) ∧ ∃ (x_1 : Nat), ((x : Int) + (1 : Int) = (x_1 : Int) ∧ S.tailL s9 s10 x ++ [UInt8.ofNat (Int.toNat ((bif !S.stValid s9 s10 then (0 : Int) else s10) % (18446744073709551616 : Int) * (8 : Int) % (18446744073709551616 : Int) / (2 : Int) ^ Int.toNat ((56 : Int) - (8 : Int) * (x : Int)) % (256 : Int)))] = S.tailL s9 s10 x_1) ∧ S.leN x_1 (8 : Nat) ∧ S.meas (8 : Nat) x_1 < S.meas (8 : Nat) x) ∧ (decide ((x : Int) < (8 : Int)) = false → S.ok8 (bif !S.stValid s9 s10 then (1779033703 : Int) else s1, bif !S.stValid s9 s10 then (3144134277 : Int) else s2, bif !S.stValid s9 s10 then (1013904242 : Int) else s3, bif !S.stValid s9 s10 then (2773480762 : Int) else s4, bif !S.stValid s9 s10 then (1359893119 : Int) else s5, bif !S.stValid s9 s10 then (2600822924 : Int) else s6, bif !S.stValid s9 s10 then (528734635 : Int) else s7, bif !S.stValid s9 s10 then (1541459225 : Int) else s8) ∧ ((0 : Int) ≤ (0 : Int) ∧ (0 : Int) ≤ (32 : Int) ∧ (32 : Int) ≤ (140737488355328 : Int) / (↑(1 : Nat) : Int)) ∧ (∃ (x : Nat), ((0 : Int) = (x : Int) ∧ List.replicate ((0 : Int).toNat) (0 : UInt8) = S.digN (S.procAll (s1, s2, s3, s4, s5, s6, s7, s8) (S.tail s9 s10)) x) ∧ S.leN x (8 : Nat)) ∧ ∀ (x_1 : Nat), S.leN x_1 (8 : Nat) → (decide ((x_1 : Int) < (8 : Int)) = true → ((0 : Int) ≤ (x_1 : Int) ∧ (x_1 : Int) < (↑(8 : Nat) : Int)) ∧ ((0 : Int) ≤ (24 : Int) ∧ (24 : Int) ≤ (32 : Int)) ∧ ((0 : Int) ≤ (16 : Int) ∧ (16 : Int) ≤ (32 : Int)) ∧ ((0 : Int) ≤ (8 : Int) ∧ (8 : Int) ≤ (32 : Int)) ∧ List.length (S.digN (S.procAll (s1, s2, s3, s4, s5, s6, s7, s8) (S.tail s9 s10)) x_1) + List.length [UInt8.ofNat (Int.toNat (List.getD [(S.procAll (bif !S.stValid s9 s10 then (1779033703 : Int) else s1, bif !S.stValid s9 s10 then (3144134277 : Int) else s2, bif !S.stValid s9 s10 then (1013904242 : Int) else s3, bif !S.stValid s9 s10 then (2773480762 : Int) else s4, bif !S.stValid s9 s10 then (1359893119 : Int) else s5, bif !S.stValid s9 s10 then (2600822924 : Int) else s6, bif !S.stValid s9 s10 then (528734635 : Int) else s7, bif !S.stValid s9 s10 then (1541459225 : Int) else s8) (S.tailL s9 s10 x)).1, ((S.procAll (bif !S.stValid s9 s10 then (1779033703 : Int) else s1, bif !S.stValid s9 s10 then (3144134277 : Int) else s2, bif !S.stValid s9 s10 then (1013904242 : Int) else s3, bif !S.stValid s9 s10 then (2773480762 : Int) else s4, bif !S.stValid s9 s10 then (1359893119 : Int) else s5, bif !S.stValid s9 s10 then (2600822924 : Int) else s6, bif !S.stValid s9 s10 then (528734635 : Int) else s7, bif !S.stValid s9 s10 then (1541459225 : Int) else s8) (S.tailL s9 s10 x)).2).1, (((S.procAll (bif !S.stValid s9 s10 then (1779033703 : Int) else s1, bif !S.stValid s9 s10 then (3144134277 : Int) else s2, bif !S.stValid s9 s10 then (1013904242 : Int) else s3, bif !S.stValid s9 s10 then (2773480762 : Int) else s4, bif !S.stValid s9 s10 then (1359893119 : Int) else s5, bif !S.stValid s9 s10 then (2600822924 : Int) else s6, bif !S.stValid s9 s10 then (528734635 : Int) else s7, bif !S.stValid s9 s10 then (1541459225 : Int) else s8) (S.tailL s9 s10 x)).2).2).1, ((((S.procAll (bif !S.stValid s9 s10 then (1779033703 : Int) else s1, bif !S.stValid s9 s10 then (3144134277 : Int) else s2, bif !S.stValid s9 s10 then (1013904242 : Int) else s3, bif !S.stValid s9 s10 then (2773480762 : Int) else s4, bif !S.stValid s9 s10 then (1359893119 : Int) else s5, bif !S.stValid s9 s10 then (2600822924 : Int) else s6, bif !S.stValid s9 s10 then (528734635 : Int) else s7, bif !S.stValid s9 s10 then (1541459225 : Int) else s8) (S.tailL s9 s10 x)).2).2).2).1, (((((S.procAll (bif !S.stValid s9 s10 then (1779033703 : Int) else s1, bif !S.stValid s9 s10 then (3144134277 : Int) else s2, bif !S.stValid s9 s10 then (1013904242 : Int) else s3, bif !S.stValid s9 s10 then (2773480762 : Int) else s4, bif !S.stValid s9 s10 then (1359893119 : Int) else s5, bif !S.stValid s9 s10 then (2600822924 : Int) else s6, bif !S.stValid s9 s10 then (528734635 : Int) else s7, bif !S.stValid s9 s10 then (1541459225 : Int) else s8) (S.tailL s9 s10 x)).2).2).2).2).1, ((((((S.procAll (bif !S.stValid s9 s10 then (1779033703 : Int) else s1, bif !S.stValid s9 s10 then (3144134277 : Int) else s2, bif !S.stValid s9 s10 then (1013904242 : Int) else s3, bif !S.stValid s9 s10 then (2773480762 : Int) else s4, bif !S.stValid s9 s10 then (1359893119 : Int) else s5, bif !S.stValid s9 s10 then (2600822924 : Int) else s6, bif !S.stValid s9 s10 then (528734635 : Int) else s7, bif !S.stValid s9 s10 then (1541459225 : Int) else s8) (S.tailL s9 s10 x)).2).2).2).2).2).1, (((((((S.procAll (bif !S.stValid s9 s10 then (1779033703 : Int) else s1, bif !S.stValid s9 s10 then (3144134277 : Int) else s2, bif !S.stValid s9 s10 then (1013904242 : Int) else s3, bif !S.stValid s9 s10 then (2773480762 : Int) else s4, bif !S.stValid s9 s10 then (1359893119 : Int) else s5, bif !S.stValid s9 s10 then (2600822924 : Int) else s6, bif !S.stValid s9 s10 then (528734635 : Int) else s7, bif !S.stValid s9 s10 then (1541459225 : Int) else s8) (S.tailL s9 s10 x)).2).2).2).2).2).2).1, (((((((S.procAll (bif !S.stValid s9 s10 then (1779033703 : Int) else s1, bif !S.stValid s9 s10 then (3144134277 : Int) else s2, bif !S.stValid s9 s10 then (1013904242 : Int) else s3, bif !S.stValid s9 s10 then (2773480762 : Int) else s4, bif !S.stValid s9 s10 then (1359893119 : Int) else s5, bif !S.stValid s9 s10 then (2600822924 : Int) else s6, bif !S.stValid s9 s10 then (528734635 : Int) else s7, bif !S.stValid s9 s10 then (1541459225 : Int) else s8) (S.tailL s9 s10 x)).2).2).2).2).2).2).2] ((x_1 : Int).toNat) (0 : Int) / (2 : Int) ^ (24 : Int).toNat % (256 : Int))), UInt8.ofNat (Int.toNat (List.getD [(S.procAll (bif !S.stValid s9 s10 then (1779033703 : Int) else s1, bif !S.stValid s9 s10 then (3144134277 : Int) else s2, bif !S.stValid s9 s10 then (1013904242 : Int) else s3, bif !S.stValid s9 s10 then (2773480762 : Int) else s4, bif !S.stValid s9 s10 then (1359893119 : Int) else s5, bif !S.stValid s9 s10 then (2600822924 : Int) else s6, bif !S.stValid s9 s10 then (528734635 : Int) else s7, bif !S.stValid s9 s10 then (1541459225 : Int) else s8) (S.tailL s9 s10 x)).1, ((S.procAll (bif !S.stValid s9 s10 then (1779033703 : Int) else s1, bif !S.stValid s9 s10 then (3144134277 : Int) else s2, bif !S.stValid s9 s10 then (1013904242 : Int) else s3, bif !S.stValid s9 s10 then (2773480762 : Int) else s4, bif !S.stValid s9 s10 then (1359893119 : Int) else s5, bif !S.stValid s9 s10 then (2600822924 : Int) else s6, bif !S.stValid s9 s10 then (528734635 : Int) else s7, bif !S.stValid s9 s10 then (1541459225 : Int) else s8) (S.tailL s9 s10 x)).2).1, (((S.procAll (bif !S.stValid s9 s10 then (1779033703 : Int) else s1, bif !S.stValid s9 s10 then (3144134277 : Int) else s2, bif !S.stValid s9 s10 then (1013904242 : Int) else s3, bif !S.stValid s9 s10 then (2773480762 : Int) else s4, bif !S.stValid s9 s10 then (1359893119 : Int) else s5, bif !S.stValid s9 s10 then (2600822924 : Int) else s6, bif !S.stValid s9 s10 then (528734635 : Int) else s7, bif !S.stValid s9 s10 then (1541459225 : Int) else s8) (S.tailL s9 s10 x)).2).2).1, ((((S.procAll (bif !S.stValid s9 s10 then (1779033703 : Int) else s1, bif !S.stValid s9 s10 then (3144134277 : Int) else s2, bif !S.stValid s9 s10 then (1013904242 : Int) else s3, bif !S.stValid s9 s10 then (2773480762 : Int) else s4, bif !S.stValid s9 s10 then (1359893119 : Int) else s5, bif !S.stValid s9 s10 then (2600822924 : Int) else s6, bif !S.stValid s9 s10 then (528734635 : Int) else s7, bif !S.stValid s9 s10 then (1541459225 : Int) else s8) (S.tailL s9 s10 x)).2).2).2).1, (((((S.procAll (bif !S.stValid s9 s10 then (1779033703 : Int) else s1, bif !S.stValid s9 s10 then (3144134277 : Int) else s2, bif !S.stValid s9 s10 then (1013904242 : Int) else s3, bif !S.stValid s9 s10 then (2773480762 : Int) else s4, bif !S.stValid s9 s10 then (1359893119 : Int) else s5, bif !S.stValid s9 s10 then (2600822924 : Int) else s6, bif !S.stValid s9 s10 then (528734635 : Int) else s7, bif !S.stValid s9 s10 then (1541459225 : Int) else s8) (S.tailL s9 s10 x)).2).2).2).2).1, ((((((S.procAll (bif !S.stValid s9 s10 then (1779033703 : Int) else s1, bif !S.stValid s9 s10 then (3144134277 : Int) else s2, bif !S.stValid s9 s10 then (1013904242 : Int) else s3, bif !S.stValid s9 s10 then (2773480762 : Int) else s4, bif !S.stValid s9 s10 then (1359893119 : Int) else s5, bif !S.stValid s9 s10 then (2600822924 : Int) else s6, bif !S.stValid s9 s10 then (528734635 : Int) else s7, bif !S.stValid s9 s10 then (1541459225 : Int) else s8) (S.tailL s9 s10 x)).2).2).2).2).2).1, (((((((S.procAll (bif !S.stValid s9 s10 then (1779033703 : Int) else s1, bif !S.stValid s9 s10 then (3144134277 : Int) else s2, bif !S.stValid s9 s10 then (1013904242 : Int) else s3, bif !S.stValid s9 s10 then (2773480762 : Int) else s4, bif !S.stValid s9 s10 then (1359893119 : Int) else s5, bif !S.stValid s9 s10 then (2600822924 : Int) else s6, bif !S.stValid s9 s10 then (528734635 : Int) else s7, bif !S.stValid s9 s10 then (1541459225 : Int) else s8) (S.tailL s9 s10 x)).2).2).2).2).2).2).1, (((((((S.procAll (bif !S.stValid s9 s10 then (1779033703 : Int) else s1, bif !S.stValid s9 s10 then (3144134277 : Int) else s2, bif !S.stValid s9 s10 then (1013904242 : Int) else s3, bif !S.stValid s9 s10 then (2773480762 : Int) else s4, bif !S.stValid s9 s10 then (1359893119 : Int) else s5, bif !S.stValid s9 s10 then (2600822924 : Int) else s6, bif !S.stValid s9 s10 then (528734635 : Int) else s7, bif !S.stValid s9 s10 then (1541459225 : Int) else s8) (S.tailL s9 s10 x)).2).2).2).2).2).2).2] ((x_1 : Int).toNat) (0 : Int) / (2 : Int) ^ (16 : Int).toNat % (256 : Int))), UInt8.ofNat (Int.toNat (List.getD [(S.procAll (bif !S.stValid s9 s10 then (1779033703 : Int) else s1, bif !S.stValid s9 s10 then (3144134277 : Int) else s2, bif !S.stValid s9 s10 then (1013904242 : Int) else s3, bif !S.stValid s9 s10 then (2773480762 : Int) else s4, bif !S.stValid s9 s10 then (1359893119 : Int) else s5, bif !S.stValid s9 s10 then (2600822924 : Int) else s6, bif !S.stValid s9 s10 then (528734635 : Int) else s7, bif !S.stValid s9 s10 then (1541459225 : Int) else s8) (S.tailL s9 s10 x)).1, ((S.procAll (bif !S.stValid s9 s10 then (1779033703 : Int) else s1, bif !S.stValid s9 s10 then (3144134277 : Int) else s2, bif !S.stValid s9 s10 then (1013904242 : Int) else s3, bif !S.stValid s9 s10 then (2773480762 : Int) else s4, bif !S.stValid s9 s10 then (1359893119 : Int) else s5, bif !S.stValid s9 s10 then (2600822924 : Int) else s6, bif !S.stValid s9 s10 then (528734635 : Int) else s7, bif !S.stValid s9 s10 then (1541459225 : Int) else s8) (S.tailL s9 s10 x)).2).1, (((S.procAll (bif !S.stValid s9 s10 then (1779033703 : Int) else s1, bif !S.stValid s9 s10 then (3144134277 : Int) else s2, bif !S.stValid s9 s10 then (1013904242 : Int) else s3, bif !S.stValid s9 s10 then (2773480762 : Int) else s4, bif !S.stValid s9 s10 then (1359893119 : Int) else s5, bif !S.stValid s9 s10 then (2600822924 : Int) else s6, bif !S.stValid s9 s10 then (528734635 : Int) else s7, bif !S.stValid s9 s10 then (1541459225 : Int) else s8) (S.tailL s9 s10 x)).2).2).1, ((((S.procAll (bif !S.stValid s9 s10 then (1779033703 : Int) else s1, bif !S.stValid s9 s10 then (3144134277 : Int) else s2, bif !S.stValid s9 s10 then (1013904242 : Int) else s3, bif !S.stValid s9 s10 then (2773480762 : Int) else s4, bif !S.stValid s9 s10 then (1359893119 : Int) else s5, bif !S.stValid s9 s10 then (2600822924 : Int) else s6, bif !S.stValid s9 s10 then (528734635 : Int) else s7, bif !S.stValid s9 s10 then (1541459225 : Int) else s8) (S.tailL s9 s10 x)).2).2).2).1, (((((S.procAll (bif !S.stValid s9 s10 then (1779033703 : Int) else s1, bif !S.stValid s9 s10 then (3144134277 : Int) else s2, bif !S.stValid s9 s10 then (1013904242 : Int) else s3, bif !S.stValid s9 s10 then (2773480762 : Int) else s4, bif !S.stValid s9 s10 then (1359893119 : Int) else s5, bif !S.stValid s9 s10 then (2600822924 : Int) else s6, bif !S.stValid s9 s10 then (528734635 : Int) else s7, bif !S.stValid s9 s10 then (1541459225 : Int) else s8) (S.tailL s9 s10 x)).2).2).2).2).1, ((((((S.procAll (bif !S.stValid s9 s10 then (1779033703 : Int) else s1, bif !S.stValid s9 s10 then (3144134277 : Int) else s2, bif !S.stValid s9 s10 then (1013904242 : Int) else s3, bif !S.stValid s9 s10 then (2773480762 : Int) else s4, bif !S.stValid s9 s10 then (1359893119 : Int) else s5, bif !S.stValid s9 s10 then (2600822924 : Int) else s6, bif !S.stValid s9 s10 then (528734635 : Int) else s7, bif !S.stValid s9 s10 then (1541459225 : Int) else s8) (S.tailL s9 s10 x)).2).2).2).2).2).1, (((((((S.procAll (bif !S.stValid s9 s10 then (1779033703 : Int) else s1, bif !S.stValid s9 s10 then (3144134277 : Int) else s2, bif !S.stValid s9 s10 then (1013904242 : Int) else s3, bif !S.stValid s9 s10 then (2773480762 : Int) else s4, bif !S.stValid s9 s10 then (1359893119 : Int) else s5, bif !S.stValid s9 s10 then (2600822924 : Int) else s6, bif !S.stValid s9 s10 then (528734635 : Int) else s7, bif !S.stValid s9 s10 then (1541459225 : Int) else s8) (S.tailL s9 s10 x)).2).2).2).2).2).2).1, (((((((S.procAll (bif !S.stValid s9 s10 then (1779033703 : Int) else s1, bif !S.stValid s9 s10 then (3144134277 : Int) else s2, bif !S.stValid s9 s10 then (1013904242 : Int) else s3, bif !S.stValid s9 s10 then (2773480762 : Int) else s4, bif !S.stValid s9 s10 then (1359893119 : Int) else s5, bif !S.stValid s9 s10 then (2600822924 : Int) else s6, bif !S.stValid s9 s10 then (528734635 : Int) else s7, bif !S.stValid s9 s10 then (1541459225 : Int) else s8) (S.tailL s9 s10 x)).2).2).2).2).2).2).2] ((x_1 : Int).toNat) (0 : Int) / (2 : Int) ^ (8 : Int).toNat % (256 : Int))), UInt8.ofNat (Int.toNat (List.getD [(S.procAll (bif !S.stValid s9 s10 then (1779033703 : Int) else s1, bif !S.stValid s9 s10 then (3144134277 : Int) else s2, bif !S.stValid s9 s10 then (1013904242 : Int) else s3, bif !S.stValid s9 s10 then (2773480762 : Int) else s4, bif !S.stValid s9 s10 then (1359893119 : Int) else s5, bif !S.stValid s9 s10 then (2600822924 : Int) else s6, bif !S.stValid s9 s10 then (528734635 : Int) else s7, bif !S.stValid s9 s10 then (1541459225 : Int) else s8) (S.tailL s9 s10 x)).1, ((S.procAll (bif !S.stValid s9 s10 then (1779033703 : Int) else s1, bif !S.stValid s9 s10 then (3144134277 : Int) else s2, bif !S.stValid s9 s10 then (1013904242 : Int) else s3, bif !S.stValid s9 s10 then (2773480762 : Int) else s4, bif !S.stValid s9 s10 then (1359893119 : Int) else s5, bif !S.stValid s9 s10 then (2600822924 : Int) else s6, bif !S.stValid s9 s10 then (528734635 : Int) else s7, bif !S.stValid s9 s10 then (1541459225 : Int) else s8) (S.tailL s9 s10 x)).2).1, (((S.procAll (bif !S.stValid s9 s10 then (1779033703 : Int) else s1, bif !S.stValid s9 s10 then (3144134277 : Int) else s2, bif !S.stValid s9 s10 then (1013904242 : Int) else s3, bif !S.stValid s9 s10 then (2773480762 : Int) else s4, bif !S.stValid s9 s10 then (1359893119 : Int) else s5, bif !S.stValid s9 s10 then (2600822924 : Int) else s6, bif !S.stValid s9 s10 then (528734635 : Int) else s7, bif !S.stValid s9 s10 then (1541459225 : Int) else s8) (S.tailL s9 s10 x)).2).2).1, ((((S.procAll (bif !S.stValid s9 s10 then (1779033703 : Int) else s1, bif !S.stValid s9 s10 then (3144134277 : Int) else s2, bif !S.stValid s9 s10 then (1013904242 : Int) else s3, bif !S.stValid s9 s10 then (2773480762 : Int) else s4, bif !S.stValid s9 s10 then (1359893119 : Int) else s5, bif !S.stValid s9 s10 then (2600822924 : Int) else s6, bif !S.stValid s9 s10 then (528734635 : Int) else s7, bif !S.stValid s9 s10 then (1541459225 : Int) else s8) (S.tailL s9 s10 x)).2).2).2).1, (((((S.procAll (bif !S.stValid s9 s10 then (1779033703 : Int) else s1, bif !S.stValid s9 s10 then (3144134277 : Int) else s2, bif !S.stValid s9 s10 then (1013904242 : Int) else s3, bif !S.stValid s9 s10 then (2773480762 : Int) else s4, bif !S.stValid s9 s10 then (1359893119 : Int) else s5, bif !S.stValid s9 s10 then (2600822924 : Int) else s6, bif !S.stValid s9 s10 then (528734635 : Int) else s7, bif !S.stValid s9 s10 then (1541459225 : Int) else s8) (S.tailL s9 s10 x)).2).2).2).2).1, ((((((S.procAll (bif !S.stValid s9 s10 then (1779033703 : Int) else s1, bif !S.stValid s9 s10 then (3144134277 : Int) else s2, bif !S.stValid s9 s10 then (1013904242 : Int) else s3, bif !S.stValid s9 s10 then (2773480762 : Int) else s4, bif !S.stValid s9 s10 then (1359893119 : Int) else s5, bif !S.stValid s9 s10 then (2600822924 : Int) else s6, bif !S.stValid s9 s10 then (528734635 : Int) else s7, bif !S.stValid s9 s10 then (1541459225 : Int) else s8) (S.tailL s9 s10 x)).2).2).2).2).2).1, (((((((S.procAll (bif !S.stValid s9 s10 then (1779033703 : Int) else s1, bif !S.stValid s9 s10 then (3144134277 : Int) else s2, bif !S.stValid s9 s10 then (1013904242 : Int) else s3, bif !S.stValid s9 s10 then (2773480762 : Int) else s4, bif !S.stValid s9 s10 then (1359893119 : Int) else s5, bif !S.stValid s9 s10 then (2600822924 : Int) else s6, bif !S.stValid s9 s10 then (528734635 : Int) else s7, bif !S.stValid s9 s10 then (1541459225 : Int) else s8) (S.tailL s9 s10 x)).2).2).2).2).2).2).1, (((((((S.procAll (bif !S.stValid s9 s10 then (1779033703 : Int) else s1, bif !S.stValid s9 s10 then (3144134277 : Int) else s2, bif !S.stValid s9 s10 then (1013904242 : Int) else s3, bif !S.stValid s9 s10 then (2773480762 : Int) else s4, bif !S.stValid s9 s10 then (1359893119 : Int) else s5, bif !S.stValid s9 s10 then (2600822924 : Int) else s6, bif !S.stValid s9 s10 then (528734635 : Int) else s7, bif !S.stValid s9 s10 then (1541459225 : Int) else s8) (S.tailL s9 s10 x)).2).2).2).2).2).2).2] ((x_1 : Int).toNat) (0 : Int) % (256 : Int)))] ≤ (140737488355328 : Nat) ∧ ((-9223372036854775808 : Int) ≤ (x_1 : Int) + (1 : Int) ∧ (x_1 : Int) + (1 : Int) ≤ (9223372036854775807 : Int)) ∧ ∃ (x_2 : Nat), ((x_1 : Int) + (1 : Int) = (x_2 : Int) ∧ S.digN (S.procAll (s1, s2, s3, s4, s5, s6, s7, s8) (S.tail s9 s10)) x_1 ++ [UInt8.ofNat (Int.toNat (List.getD [(S.procAll (bif !S.stValid s9 s10 then (1779033703 : Int) else s1, bif !S.stValid s9 s10 then (3144134277 : Int) else s2, bif !S.stValid s9 s10 then (1013904242 : Int) else s3, bif !S.stValid s9 s10 then (2773480762 : Int) else s4, bif !S.stValid s9 s10 then (1359893119 : Int) else s5, bif !S.stValid s9 s10 then (2600822924 : Int) else s6, bif !S.stValid s9 s10 then (528734635 : Int) else s7, bif !S.stValid s9 s10 then (1541459225 : Int) else s8) (S.tailL s9 s10 x)).1, ((S.procAll (bif !S.stValid s9 s10 then (1779033703 : Int) else s1, bif !S.stValid s9 s10 then (3144134277 : Int) else s2, bif !S.stValid s9 s10 then (1013904242 : Int) else s3, bif !S.stValid s9 s10 then (2773480762 : Int) else s4, bif !S.stValid s9 s10 then (1359893119 : Int) else s5, bif !S.stValid s9 s10 then (2600822924 : Int) else s6, bif !S.stValid s9 s10 then (528734635 : Int) else s7, bif !S.stValid s9 s10 then (1541459225 : Int) else s8) (S.tailL s9 s10 x)).2).1, (((S.procAll (bif !S.stValid s9 s10 then (1779033703 : Int) else s1, bif !S.stValid s9 s10 then (3144134277 : Int) else s2, bif !S.stValid s9 s10 then (1013904242 : Int) else s3, bif !S.stValid s9 s10 then (2773480762 : Int) else s4, bif !S.stValid s9 s10 then (1359893119 : Int) else s5, bif !S.stValid s9 s10 then (2600822924 : Int) else s6, bif !S.stValid s9 s10 then (528734635 : Int) else s7, bif !S.stValid s9 s10 then (1541459225 : Int) else s8) (S.tailL s9 s10 x)).2).2).1, ((((S.procAll (bif !S.stValid s9 s10 then (1779033703 : Int) else s1, bif !S.stValid s9 s10 then (3144134277 : Int) else s2, bif !S.stValid s9 s10 then (1013904242 : Int) else s3, bif !S.stValid s9 s10 then (2773480762 : Int) else s4, bif !S.stValid s9 s10 then (1359893119 : Int) else s5, bif !S.stValid s9 s10 then (2600822924 : Int) else s6, bif !S.stValid s9 s10 then (528734635 : Int) else s7, bif !S.stValid s9 s10 then (1541459225 : Int) else s8) (S.tailL s9 s10 x)).2).2).2).1, (((((S.procAll (bif !S.stValid s9 s10 then (1779033703 : Int) else s1, bif !S.stValid s9 s10 then (3144134277 : Int) else s2, bif !S.stValid s9 s10 then (1013904242 : Int) else s3, bif !S.stValid s9 s10 then (2773480762 : Int) else s4, bif !S.stValid s9 s10 then (1359893119 : Int) else s5, bif !S.stValid s9 s10 then (2600822924 : Int) else s6, bif !S.stValid s9 s10 then (528734635 : Int) else s7, bif !S.stValid s9 s10 then (1541459225 : Int) else s8) (S.tailL s9 s10 x)).2).2).2).2).1, ((((((S.procAll (bif !S.stValid s9 s10 then (1779033703 : Int) else s1, bif !S.stValid s9 s10 then (3144134277 : Int) else s2, bif !S.stValid s9 s10 then (1013904242 : Int) else s3, bif !S.stValid s9 s10 then (2773480762 : Int) else s4, bif !S.stValid s9 s10 then (1359893119 : Int) else s5, bif !S.stValid s9 s10 then (2600822924 : Int) else s6, bif !S.stValid s9 s10 then (528734635 : Int) else s7, bif !S.stValid s9 s10 then (1541459225 : Int) else s8) (S.tailL s9 s10 x)).2).2).2).2).2).1, (((((((S.procAll (bif !S.stValid s9 s10 then (1779033703 : Int) else s1, bif !S.stValid s9 s10 then (3144134277 : Int) else s2, bif !S.stValid s9 s10 then (1013904242 : Int) else s3, bif !S.stValid s9 s10 then (2773480762 : Int) else s4, bif !S.stValid s9 s10 then (1359893119 : Int) else s5, bif !S.stValid s9 s10 then (2600822924 : Int) else s6, bif !S.stValid s9 s10 then (528734635 : Int) else s7, bif !S.stValid s9 s10 then (1541459225 : Int) else s8) (S.tailL s9 s10 x)).2).2).2).2).2).2).1, (((((((S.procAll (bif !S.stValid s9 s10 then (1779033703 : Int) else s1, bif !S.stValid s9 s10 then (3144134277 : Int) else s2, bif !S.stValid s9 s10 then (1013904242 : Int) else s3, bif !S.stValid s9 s10 then (2773480762 : Int) else s4, bif !S.stValid s9 s10 then (1359893119 : Int) else s5, bif !S.stValid s9 s10 then (2600822924 : Int) else s6, bif !S.stValid s9 s10 then (528734635 : Int) else s7, bif !S.stValid s9 s10 then (1541459225 : Int) else s8) (S.tailL s9 s10 x)).2).2).2).2).2).2).2] ((x_1 : Int).toNat) (0 : Int) / (2 : Int) ^ (24 : Int).toNat % (256 : Int))), UInt8.ofNat (Int.toNat (List.getD [(S.procAll (bif !S.stValid s9 s10 then (1779033703 : Int) else s1, bif !S.stValid s9 s10 then (3144134277 : Int) else s2, bif !S.stValid s9 s10 then (1013904242 : Int) else s3, bif !S.stValid s9 s10 then (2773480762 : Int) else s4, bif !S.stValid s9 s10 then (1359893119 : Int) else s5, bif !S.stValid s9 s10 then (2600822924 : Int) else s6, bif !S.stValid s9 s10 then (528734635 : Int) else s7, bif !S.stValid s9 s10 then (1541459225 : Int) else s8) (S.tailL s9 s10 x)).1, ((S.procAll (bif !S.stValid s9 s10 then (1779033703 : Int) else s1, bif !S.stValid s9 s10 then (3144134277 : Int) else s2, bif !S.stValid s9 s10 then (1013904242 : Int) else s3, bif !S.stValid s9 s10 then (2773480762 : Int) else s4, bif !S.stValid s9 s10 then (1359893119 : Int) else s5, bif !S.stValid s9 s10 then (2600822924 : Int) else s6, bif !S.stValid s9 s10 then (528734635 : Int) else s7, bif !S.stValid s9 s10 then (1541459225 : Int) else s8) (S.tailL s9 s10 x)).2).1, (((S.procAll (bif !S.stValid s9 s10 then (1779033703 : Int) else s1, bif !S.stValid s9 s10 then (3144134277 : Int) else s2, bif !S.stValid s9 s10 then (1013904242 : Int) else s3, bif !S.stValid s9 s10 then (2773480762 : Int) else s4, bif !S.stValid s9 s10 then (1359893119 : Int) else s5, bif !S.stValid s9 s10 then (2600822924 : Int) else s6, bif !S.stValid s9 s10 then (528734635 : Int) else s7, bif !S.stValid s9 s10 then (1541459225 : Int) else s8) (S.tailL s9 s10 x)).2).2).1, ((((S.procAll (bif !S.stValid s9 s10 then (1779033703 : Int) else s1, bif !S.stValid s9 s10 then (3144134277 : Int) else s2, bif !S.stValid s9 s10 then (1013904242 : Int) else s3, bif !S.stValid s9 s10 then (2773480762 : Int) else s4, bif !S.stValid s9 s10 then (1359893119 : Int) else s5, bif !S.stValid s9 s10 then (2600822924 : Int) else s6, bif !S.stValid s9 s10 then (528734635 : Int) else s7, bif !S.stValid s9 s10 then (1541459225 : Int) else s8) (S.tailL s9 s10 x)).2).2).2).1, (((((S.procAll (bif !S.stValid s9 s10 then (1779033703 : Int) else s1, bif !S.stValid s9 s10 then (3144134277 : Int) else s2, bif !S.stValid s9 s10 then (1013904242 : Int) else s3, bif !S.stValid s9 s10 then (2773480762 : Int) else s4, bif !S.stValid s9 s10 then (1359893119 : Int) else s5, bif !S.stValid s9 s10 then (2600822924 : Int) else s6, bif !S.stValid s9 s10 then (528734635 : Int) else s7, bif !S.stValid s9 s10 then (1541459225 : Int) else s8) (S.tailL s9 s10 x)).2).2).2).2).1, ((((((S.procAll (bif !S.stValid s9 s10 then (1779033703 : Int) else s1, bif !S.stValid s9 s10 then (3144134277 : Int) else s2, bif !S.stValid s9 s10 then (1013904242 : Int) else s3, bif !S.stValid s9 s10 then (2773480762 : Int) else s4, bif !S.stValid s9 s10 then (1359893119 : Int) else s5, bif !S.stValid s9 s10 then (2600822924 : Int) else s6, bif !S.stValid s9 s10 then (528734635 : Int) else s7, bif !S.stValid s9 s10 then (1541459225 : Int) else s8) (S.tailL s9 s10 x)).2).2).2).2).2).1, (((((((S.procAll (bif !S.stValid s9 s10 then (1779033703 : Int) else s1, bif !S.stValid s9 s10 then (3144134277 : Int) else s2, bif !S.stValid s9 s10 then (1013904242 : Int) else s3, bif !S.stValid s9 s10 then (2773480762 : Int) else s4, bif !S.stValid s9 s10 then (1359893119 : Int) else s5, bif !S.stValid s9 s10 then (2600822924 : Int) else s6, bif !S.stValid s9 s10 then (528734635 : Int) else s7, bif !S.stValid s9 s10 then (1541459225 : Int) else s8) (S.tailL s9 s10 x)).2).2).2).2).2).2).1, (((((((S.procAll (bif !S.stValid s9 s10 then (1779033703 : Int) else s1, bif !S.stValid s9 s10 then (3144134277 : Int) else s2, bif !S.stValid s9 s10 then (1013904242 : Int) else s3, bif !S.stValid s9 s10 then (2773480762 : Int) else s4, bif !S.stValid s9 s10 then (1359893119 : Int) else s5, bif !S.stValid s9 s10 then (2600822924 : Int) else s6, bif !S.stValid s9 s10 then (528734635 : Int) else s7, bif !S.stValid s9 s10 then (1541459225 : Int) else s8) (S.tailL s9 s10 x)).2).2).2).2).2).2).2] ((x_1 : Int).toNat) (0 : Int) / (2 : Int) ^ (16 : Int).toNat % (256 : Int))), UInt8.ofNat (Int.toNat (List.getD [(S.procAll (bif !S.stValid s9 s10 then (1779033703 : Int) else s1, bif !S.stValid s9 s10 then (3144134277 : Int) else s2, bif !S.stValid s9 s10 then (1013904242 : Int) else s3, bif !S.stValid s9 s10 then (2773480762 : Int) else s4, bif !S.stValid s9 s10 then (1359893119 : Int) else s5, bif !S.stValid s9 s10 then (2600822924 : Int) else s6, bif !S.stValid s9 s10 then (528734635 : Int) else s7, bif !S.stValid s9 s10 then (1541459225 : Int) else s8) (S.tailL s9 s10 x)).1, ((S.procAll (bif !S.stValid s9 s10 then (1779033703 : Int) else s1, bif !S.stValid s9 s10 then (3144134277 : Int) else s2, bif !S.stValid s9 s10 then (1013904242 : Int) else s3, bif !S.stValid s9 s10 then (2773480762 : Int) else s4, bif !S.stValid s9 s10 then (1359893119 : Int) else s5, bif !S.stValid s9 s10 then (2600822924 : Int) else s6, bif !S.stValid s9 s10 then (528734635 : Int) else s7, bif !S.stValid s9 s10 then (1541459225 : Int) else s8) (S.tailL s9 s10 x)).2).1, (((S.procAll (bif !S.stValid s9 s10 then (1779033703 : Int) else s1, bif !S.stValid s9 s10 then (3144134277 : Int) else s2, bif !S.stValid s9 s10 then (1013904242 : Int) else s3, bif !S.stValid s9 s10 then (2773480762 : Int) else s4, bif !S.stValid s9 s10 then (1359893119 : Int) else s5, bif !S.stValid s9 s10 then (2600822924 : Int) else s6, bif !S.stValid s9 s10 then (528734635 : Int) else s7, bif !S.stValid s9 s10 then (1541459225 : Int) else s8) (S.tailL s9 s10 x)).2).2).1, ((((S.procAll (bif !S.stValid s9 s10 then (1779033703 : Int) else s1, bif !S.stValid s9 s10 then (3144134277 : Int) else s2, bif !S.stValid s9 s10 then (1013904242 : Int) else s3, bif !S.stValid s9 s10 then (2773480762 : Int) else s4, bif !S.stValid s9 s10 then (1359893119 : Int) else s5, bif !S.stValid s9 s10 then (2600822924 : Int) else s6, bif !S.stValid s9 s10 then (528734635 : Int) else s7, bif !S.stValid s9 s10 then (1541459225 : Int) else s8) (S.tailL s9 s10 x)).2).2).2).1, (((((S.procAll (bif !S.stValid s9 s10 then (1779033703 : Int) else s1, bif !S.stValid s9 s10 then (3144134277 : Int) else s2, bif !S.stValid s9 s10 then (1013904242 : Int) else s3, bif !S.stValid s9 s10 then (2773480762 : Int) else s4, bif !S.stValid s9 s10 then (1359893119 : Int) else s5, bif !S.stValid s9 s10 then (2600822924 : Int) else s6, bif !S.stValid s9 s10 then (528734635 : Int) else s7, bif !S.stValid s9 s10 then (1541459225 : Int) else s8) (S.tailL s9 s10 x)).2).2).2).2).1, ((((((S.procAll (bif !S.stValid s9 s10 then (1779033703 : Int) else s1, bif !S.stValid s9 s10 then (3144134277 : Int) else s2, bif !S.stValid s9 s10 then (1013904242 : Int) else s3, bif !S.stValid s9 s10 then (2773480762 : Int) else s4, bif !S.stValid s9 s10 then (1359893119 : Int) else s5, bif !S.stValid s9 s10 then (2600822924 : Int) else s6, bif !S.stValid s9 s10 then (528734635 : Int) else s7, bif !S.stValid s9 s10 then (1541459225 : Int) else s8) (S.tailL s9 s10 x)).2).2).2).2).2).1, (((((((S.procAll (bif !S.stValid s9 s10 then (1779033703 : Int) else s1, bif !S.stValid s9 s10 then (3144134277 : Int) else s2, bif !S.stValid s9 s10 then (1013904242 : Int) else s3, bif !S.stValid s9 s10 then (2773480762 : Int) else s4, bif !S.stValid s9 s10 then (1359893119 : Int) else s5, bif !S.stValid s9 s10 then (2600822924 : Int) else s6, bif !S.stValid s9 s10 then (528734635 : Int) else s7, bif !S.stValid s9 s10 then (1541459225 : Int) else s8) (S.tailL s9 s10 x)).2).2).2).2).2).2).1, (((((((S.procAll (bif !S.stValid s9 s10 then (1779033703 : Int) else s1, bif !S.stValid s9 s10 then (3144134277 : Int) else s2, bif !S.stValid s9 s10 then (1013904242 : Int) else s3, bif !S.stValid s9 s10 then (2773480762 : Int) else s4, bif !S.stValid s9 s10 then (1359893119 : Int) else s5, bif !S.stValid s9 s10 then (2600822924 : Int) else s6, bif !S.stValid s9 s10 then (528734635 : Int) else s7, bif !S.stValid s9 s10 then (1541459225 : Int) else s8) (S.tailL s9 s10 x)).2).2).2).2).2).2).2] ((x_1 : Int).toNat) (0 : Int) / (2 : Int) ^ (8 : Int).toNat % (256 : Int))), UInt8.ofNat (Int.toNat (List.getD [(S.procAll (bif !S.stValid s9 s10 then (1779033703 : Int) else s1, bif !S.stValid s9 s10 then (3144134277 : Int) else s2, bif !S.stValid s9 s10 then (1013904242 : Int) else s3, bif !S.stValid s9 s10 then (2773480762 : Int) else s4, bif !S.stValid s9 s10 then (1359893119 : Int) else s5, bif !S.stValid s9 s10 then (2600822924 : Int) else s6, bif !S.stValid s9 s10 then (528734635 : Int) else s7, bif !S.stValid s9 s10 then (1541459225 : Int) else s8) (S.tailL s9 s10 x)).1, ((S.procAll (bif !S.stValid s9 s10 then (1779033703 : Int) else s1, bif !S.stValid s9 s10 then (3144134277 : Int) else s2, bif !S.stValid s9 s10 then (1013904242 : Int) else s3, bif !S.stValid s9 s10 then (2773480762 : Int) else s4, bif !S.stValid s9 s10 then (1359893119 : Int) else s5, bif !S.stValid s9 s10 then (2600822924 : Int) else s6, bif !S.stValid s9 s10 then (528734635 : Int) else s7, bif !S.stValid s9 s10 then (1541459225 : Int) else s8) (S.tailL s9 s10 x)).2).1, (((S.procAll (bif !S.stValid s9 s10 then (1779033703 : Int) else s1, bif !S.stValid s9 s10 then (3144134277 : Int) else s2, bif !S.stValid s9 s10 then (1013904242 : Int) else s3, bif !S.stValid s9 s10 then (2773480762 : Int) else s4, bif !S.stValid s9 s10 then (1359893119 : Int) else s5, bif !S.stValid s9 s10 then (2600822924 : Int) else s6, bif !S.stValid s9 s10 then (528734635 : Int) else s7, bif !S.stValid s9 s10 then (1541459225 : Int) else s8) (S.tailL s9 s10 x)).2).2).1, ((((S.procAll (bif !S.stValid s9 s10 then (1779033703 : Int) else s1, bif !S.stValid s9 s10 then (3144134277 : Int) else s2, bif !S.stValid s9 s10 then (1013904242 : Int) else s3, bif !S.stValid s9 s10 then (2773480762 : Int) else s4, bif !S.stValid s9 s10 then (1359893119 : Int) else s5, bif !S.stValid s9 s10 then (2600822924 : Int) else s6, bif !S.stValid s9 s10 then (528734635 : Int) else s7, bif !S.stValid s9 s10 then (1541459225 : Int) else s8) (S.tailL s9 s10 x)).2).2).2).1, (((((S.procAll (bif !S.stValid s9 s10 then (1779033703 : Int) else s1, bif !S.stValid s9 s10 then (3144134277 : Int) else s2, bif !S.stValid s9 s10 then (1013904242 : Int) else s3, bif !S.stValid s9 s10 then (2773480762 : Int) else s4, bif !S.stValid s9 s10 then (1359893119 : Int) else s5, bif !S.stValid s9 s10 then (2600822924 : Int) else s6, bif !S.stValid s9 s10 then (528734635 : Int) else s7, bif !S.stValid s9 s10 then (1541459225 : Int) else s8) (S.tailL s9 s10 x)).2).2).2).2).1, ((((((S.procAll (bif !S.stValid s9 s10 then (1779033703 : Int) else s1, bif !S.stValid s9 s10 then (3144134277 : Int) else s2, bif !S.stValid s9 s10 then (1013904242 : Int) else s3, bif !S.stValid s9 s10 then (2773480762 : Int) else s4, bif !S.stValid s9 s10 then (1359893119 : Int) else s5, bif !S.stValid s9 s10 then (2600822924 : Int) else s6, bif !S.stValid s9 s10 then (528734635 : Int) else s7, bif !S.stValid s9 s10 then (1541459225 : Int) else s8) (S.tailL s9 s10 x)).2).2).2).2).2).1, (((((((S.procAll (bif !S.stValid s9 s10 then (1779033703 : Int) else s1, bif !S.stValid s9 s10 then (3144134277 : Int) else s2, bif !S.stValid s9 s10 then (1013904242 : Int) else s3, bif !S.stValid s9 s10 then (2773480762 : Int) else s4, bif !S.stValid s9 s10 then (1359893119 : Int) else s5, bif !S.stValid s9 s10 then (2600822924 : Int) else s6, bif !S.stValid s9 s10 then (528734635 : Int) else s7, bif !S.stValid s9 s10 then (1541459225 : Int) else s8) (S.tailL s9 s10 x)).2).2).2).2).2).2).1, (((((((S.procAll (bif !S.stValid s9 s10 then (1779033703 : Int) else s1, bif !S.stValid s9 s10 then (3144134277 : Int) else s2, bif !S.stValid s9 s10 then (1013904242 : Int) else s3, bif !S.stValid s9 s10 then (2773480762 : Int) else s4, bif !S.stValid s9 s10 then (1359893119 : Int) else s5, bif !S.stValid s9 s10 then (2600822924 : Int) else s6, bif !S.stValid s9 s10 then (528734635 : Int) else s7, bif !S.stValid s9 s10 then (1541459225 : Int) else s8) (S.tailL s9 s10 x)).2).2).2).2).2).2).2] ((x_1 : Int).toNat) (0 : Int) % (256 : Int)))] = S.digN (S.procAll (s1, s2, s3, s4, s5, s6, s7, s8) (S.tail s9 s10)) x_2) ∧ S.leN x_2 (8 : Nat) ∧ S.meas (8 : Nat) x_2 < S.meas (8 : Nat) x_1) ∧ (decide ((x_1 : Int) < (8 : Int)) = false → S.digN (S.procAll (s1, s2, s3, s4, s5, s6, s7, s8) (S.tail s9 s10)) x_1 = S.dig (S.procAll (s1, s2, s3, s4, s5, s6, s7, s8) (S.tail s9 s10)))))
def V_a13 (b : List UInt8) : Prop :=
 True ∧ S.addPre ((1779033703 : Int), (3144134277 : Int), (1013904242 : Int), (2773480762 : Int), (1359893119 : Int), (2600822924 : Int), (528734635 : Int), (1541459225 : Int)) (Vg.nilL UInt8) (0 : Int) b ∧ S.endPre ((S.procAll ((1779033703 : Int), (3144134277 : Int), (1013904242 : Int), (2773480762 : Int), (1359893119 : Int), (2600822924 : Int), (528734635 : Int), (1541459225 : Int)) b).1, ((S.procAll ((1779033703 : Int), (3144134277 : Int), (1013904242 : Int), (2773480762 : Int), (1359893119 : Int), (2600822924 : Int), (528734635 : Int), (1541459225 : Int)) b).2).1, (((S.procAll ((1779033703 : Int), (3144134277 : Int), (1013904242 : Int), (2773480762 : Int), (1359893119 : Int), (2600822924 : Int), (528734635 : Int), (1541459225 : Int)) b).2).2).1, ((((S.procAll ((1779033703 : Int), (3144134277 : Int), (1013904242 : Int), (2773480762 : Int), (1359893119 : Int), (2600822924 : Int), (528734635 : Int), (1541459225 : Int)) b).2).2).2).1, (((((S.procAll ((1779033703 : Int), (3144134277 : Int), (1013904242 : Int), (2773480762 : Int), (1359893119 : Int), (2600822924 : Int), (528734635 : Int), (1541459225 : Int)) b).2).2).2).2).1, ((((((S.procAll ((1779033703 : Int), (3144134277 : Int), (1013904242 : Int), (2773480762 : Int), (1359893119 : Int), (2600822924 : Int), (528734635 : Int), (1541459225 : Int)) b).2).2).2).2).2).1, (((((((S.procAll ((1779033703 : Int), (3144134277 : Int), (1013904242 : Int), (2773480762 : Int), (1359893119 : Int), (2600822924 : Int), (528734635 : Int), (1541459225 : Int)) b).2).2).2).2).2).2).1, (((((((S.procAll ((1779033703 : Int), (3144134277 : Int), (1013904242 : Int), (2773480762 : Int), (1359893119 : Int), (2600822924 : Int), (528734635 : Int), (1541459225 : Int)) b).2).2).2).2).2).2).2) (S.restOf b) (S.lenI b) ∧ S.dig (S.procAll ((S.procAll ((1779033703 : Int), (3144134277 : Int), (1013904242 : Int), (2773480762 : Int), (1359893119 : Int), (2600822924 : Int), (528734635 : Int), (1541459225 : Int)) b).1, ((S.procAll ((1779033703 : Int), (3144134277 : Int), (1013904242 : Int), (2773480762 : Int), (1359893119 : Int), (2600822924 : Int), (528734635 : Int), (1541459225 : Int)) b).2).1, (((S.procAll ((1779033703 : Int), (3144134277 : Int), (1013904242 : Int), (2773480762 : Int), (1359893119 : Int), (2600822924 : Int), (528734635 : Int), (1541459225 : Int)) b).2).2).1, ((((S.procAll ((1779033703 : Int), (3144134277 : Int), (1013904242 : Int), (2773480762 : Int), (1359893119 : Int), (2600822924 : Int), (528734635 : Int), (1541459225 : Int)) b).2).2).2).1, (((((S.procAll ((1779033703 : Int), (3144134277 : Int), (1013904242 : Int), (2773480762 : Int), (1359893119 : Int), (2600822924 : Int), (528734635 : Int), (1541459225 : Int)) b).2).2).2).2).1, ((((((S.procAll ((1779033703 : Int), (3144134277 : Int), (1013904242 : Int), (2773480762 : Int), (1359893119 : Int), (2600822924 : Int), (528734635 : Int), (1541459225 : Int)) b).2).2).2).2).2).1, (((((((S.procAll ((1779033703 : Int), (3144134277 : Int), (1013904242 : Int), (2773480762 : Int), (1359893119 : Int), (2600822924 : Int), (528734635 : Int), (1541459225 : Int)) b).2).2).2).2).2).2).1, (((((((S.procAll ((1779033703 : Int), (3144134277 : Int), (1013904242 : Int), (2773480762 : Int), (1359893119 : Int), (2600822924 : Int), (528734635 : Int), (1541459225 : Int)) b).2).2).2).2).2).2).2) (S.tail (S.restOf b) (S.lenI b))) = S.sum b
def V_a18 (b : List UInt8) : Prop :=
 b.length ≤ (140737488355328 : Nat) ∧ b = b
def V_a19 (v : Int) (l : List UInt8) : Prop :=
 (∃ (x : List UInt8 × Int), (v = x.2 ∧ l = x.1) ∧ S.putInv l v x.1 x.2) ∧ ∀ (x : List UInt8 × Int), S.putInv l v x.1 x.2 → (decide ((127 : Int) < x.2) = true → (0 : Int) ≤ x.2 ∧ (0 : Int) ≤ (127 : Int) ∧ List.length x.1 + List.length [UInt8.ofNat (Int.toNat (Vg.natOr (Vg.natAnd x.2 (127 : Int) % (256 : Int)) (128 : Int)))] ≤ (140737488355328 : Nat) ∧ ((0 : Int) ≤ (7 : Int) ∧ (7 : Int) ≤ (64 : Int)) ∧ ∃ (x_1 : List UInt8 × Int), (x.2 / (2 : Int) ^ (7 : Int).toNat = x_1.2 ∧ x.1 ++ [UInt8.ofNat (Int.toNat (Vg.natOr (Vg.natAnd x.2 (127 : Int) % (256 : Int)) (128 : Int)))] = x_1.1) ∧ S.putInv l v x_1.1 x_1.2 ∧ Int.toNat x_1.2 < Int.toNat x.2) ∧ (decide ((127 : Int) < x.2) = false → List.length x.1 + List.length [UInt8.ofNat (Int.toNat (x.2 % (256 : Int)))] ≤ (140737488355328 : Nat) ∧ x.1 ++ [UInt8.ofNat (Int.toNat (x.2 % (256 : Int)))] = l ++ S.num v)
def V_a20 (s : List UInt8) (l : List UInt8) : Prop :=
 S.putPre l (s.length : Int) ∧ List.length (l ++ S.num (s.length : Int)) + s.length ≤ (140737488355328 : Nat) ∧ l ++ S.num (s.length : Int) ++ s = l ++ S.text s
def V_a21 (b : List UInt8) (v : Int) : Prop :=
 ((bif decide (v < (0 : Int)) then true else decide ((4611686018427387904 : Int) < v)) = true → (1 : Int) = S.numE v ∧ [] = S.numB b v) ∧ ((bif decide (v < (0 : Int)) then true else decide ((4611686018427387904 : Int) < v)) = false → b.length ≤ (140737488355328 : Nat) ∧ S.putPre b v ∧ (0 : Int) = S.numE v ∧ b ++ S.num v = S.numB b v)
def V_a22 (b : List UInt8) (s : List UInt8) : Prop :=
 b.length ≤ (140737488355328 : Nat) ∧ S.textPre b s ∧ b ++ S.text s = b ++ S.text s
def V_a34 (kind : UInt8) (parts : List (List UInt8)) : Prop :=
 (∃ (x : Nat), ((0 : Int) = (x : Int) ∧ [UInt8.ofNat (Int.toNat (↑(UInt8.toNat kind) : Int))] = S.joinAt kind parts x) ∧ S.minv parts x) ∧ ∀ (x : Nat), S.minv parts x → (decide ((x : Int) < (parts.length : Int)) = true → ((0 : Int) ≤ (x : Int) ∧ (x : Int) < (parts.length : Int)) ∧ List.length (S.joinAt kind parts x) + List.length (List.getD parts ((x : Int).toNat) []) ≤ (140737488355328 : Nat) ∧ ((-9223372036854775808 : Int) ≤ (x : Int) + (1 : Int) ∧ (x : Int) + (1 : Int) ≤ (9223372036854775807 : Int)) ∧ ∃ (x_1 : Nat), ((x : Int) + (1 : Int) = (x_1 : Int) ∧ S.joinAt kind parts x ++ List.getD parts ((x : Int).toNat) [] = S.joinAt kind parts x_1) ∧ S.minv parts x_1 ∧ S.meas (S.len parts) x_1 < S.meas (S.len parts) x) ∧ (decide ((x : Int) < (parts.length : Int)) = false → S.joinAt kind parts x = S.sealJoin kind parts)
def V_a35 (b : List UInt8) : Prop :=
 S.joinPre [b] ∧ S.sealJoin ((0 : UInt8)) [b] = S.sealB (0 : Nat) b
def V_a36 (l : List UInt8) (r : List UInt8) : Prop :=
 S.joinPre [l, r] ∧ S.sealJoin ((1 : UInt8)) [l, r] = S.sealB (1 : Nat) (l ++ r)
def V_a37 (b : List UInt8) : Prop :=
 S.joinPre [b] ∧ S.sealJoin ((2 : UInt8)) [b] = S.sealB (2 : Nat) b
def V_a38 (b : List UInt8) : Prop :=
 S.sealPre b ∧ S.small (S.sealB (0 : Nat) b) ∧ S.sum (S.sealB (0 : Nat) b) = S.leaf b
def V_a39 (l : List UInt8) (r : List UInt8) : Prop :=
 ((bif !decide ((l.length : Int) = (32 : Int)) then true else !decide ((r.length : Int) = (32 : Int))) = true → [] = S.sealNode l r ∧ (1 : Int) = S.sealNodeE l r) ∧ ((bif !decide ((l.length : Int) = (32 : Int)) then true else !decide ((r.length : Int) = (32 : Int))) = false → S.sealPre (l ++ r) ∧ S.small (S.sealB (1 : Nat) (l ++ r)) ∧ S.sum (S.sealB (1 : Nat) (l ++ r)) = S.sealNode l r ∧ (0 : Int) = S.sealNodeE l r)
def V_a40 (b : List UInt8) : Prop :=
 S.sealPre b ∧ S.small (S.sealB (2 : Nat) b) ∧ S.sum (S.sealB (2 : Nat) b) = S.sealD (2 : Nat) b
def V_a41 (c : Int) : Prop :=
 (bif decide ((0 : Int) ≤ c) then bif decide (c ≤ (1114111 : Int)) then bif decide (c < (55296 : Int)) then true else decide ((57343 : Int) < c) else false else false) = S.uRight c
def V_a42 (c : Int) : Prop :=
 (decide (c < (128 : Int)) = true → (1 : Int) = S.uSize c) ∧ (decide (c < (128 : Int)) = false → (decide (c < (2048 : Int)) = true → (2 : Int) = S.uSize c) ∧ (decide (c < (2048 : Int)) = false → (decide (c < (65536 : Int)) = true → (3 : Int) = S.uSize c) ∧ (decide (c < (65536 : Int)) = false → (4 : Int) = S.uSize c)))
def V_a43 (c : Int) : Prop :=
 (0 : Int) ≤ c ∧ (0 : Int) ≤ (63 : Int) ∧ Vg.natOr (128 : Int) (Vg.natAnd c (63 : Int) % (256 : Int)) = (↑(UInt8.toNat (S.more c)) : Int)
def V_a44 (c : Int) : Prop :=
 True ∧ ((!S.uRight c) = true → (1 : Int) = S.encE c ∧ [] = S.encR c) ∧ ((!S.uRight c) = false → True ∧ (decide (S.uSize c = (1 : Int)) = true → (0 : Int) = S.encE c ∧ [UInt8.ofNat (Int.toNat (c % (256 : Int)))] = S.encR c) ∧ (decide (S.uSize c = (1 : Int)) = false → (decide (S.uSize c = (2 : Int)) = true → ((0 : Int) ≤ (6 : Int) ∧ (6 : Int) ≤ (64 : Int)) ∧ (0 : Int) ≤ c ∧ (0 : Int) = S.encE c ∧ [UInt8.ofNat (Int.toNat (Vg.natOr (192 : Int) (c / (2 : Int) ^ (6 : Int).toNat % (256 : Int)))), UInt8.ofNat (Int.toNat (↑(UInt8.toNat (S.more c)) : Int))] = S.encR c) ∧ (decide (S.uSize c = (2 : Int)) = false → (decide (S.uSize c = (3 : Int)) = true → ((0 : Int) ≤ (12 : Int) ∧ (12 : Int) ≤ (64 : Int)) ∧ ((0 : Int) ≤ (6 : Int) ∧ (6 : Int) ≤ (64 : Int)) ∧ (0 : Int) ≤ c / (2 : Int) ^ (6 : Int).toNat ∧ (0 : Int) ≤ c ∧ (0 : Int) = S.encE c ∧ [UInt8.ofNat (Int.toNat (Vg.natOr (224 : Int) (c / (2 : Int) ^ (12 : Int).toNat % (256 : Int)))), UInt8.ofNat (Int.toNat (↑(UInt8.toNat (S.more (c / (2 : Int) ^ (6 : Int).toNat))) : Int)), UInt8.ofNat (Int.toNat (↑(UInt8.toNat (S.more c)) : Int))] = S.encR c) ∧ (decide (S.uSize c = (3 : Int)) = false → ((0 : Int) ≤ (18 : Int) ∧ (18 : Int) ≤ (64 : Int)) ∧ ((0 : Int) ≤ (12 : Int) ∧ (12 : Int) ≤ (64 : Int)) ∧ (0 : Int) ≤ c / (2 : Int) ^ (12 : Int).toNat ∧ ((0 : Int) ≤ (6 : Int) ∧ (6 : Int) ≤ (64 : Int)) ∧ (0 : Int) ≤ c / (2 : Int) ^ (6 : Int).toNat ∧ (0 : Int) ≤ c ∧ (0 : Int) = S.encE c ∧ [UInt8.ofNat (Int.toNat (Vg.natOr (240 : Int) (c / (2 : Int) ^ (18 : Int).toNat % (256 : Int)))), UInt8.ofNat (Int.toNat (↑(UInt8.toNat (S.more (c / (2 : Int) ^ (12 : Int).toNat))) : Int)), UInt8.ofNat (Int.toNat (↑(UInt8.toNat (S.more (c / (2 : Int) ^ (6 : Int).toNat))) : Int)), UInt8.ofNat (Int.toNat (↑(UInt8.toNat (S.more c)) : Int))] = S.encR c))))
def V_a45 (b : List UInt8) : Prop :=
 ((0 : Int) ≤ (0 : Int) ∧ (0 : Int) < (b.length : Int)) ∧ (decide ((↑(UInt8.toNat (List.getD b ((0 : Int).toNat) (0 : UInt8))) : Int) < (128 : Int)) = true → (↑(UInt8.toNat (List.getD b ((0 : Int).toNat) (0 : UInt8))) : Int) = (S.uFirst b).1 ∧ (1 : Int) = (S.uFirst b).2) ∧ (decide ((↑(UInt8.toNat (List.getD b ((0 : Int).toNat) (0 : UInt8))) : Int) < (128 : Int)) = false → ((0 : Int) ≤ (5 : Int) ∧ (5 : Int) ≤ (64 : Int)) ∧ (decide ((↑(UInt8.toNat (List.getD b ((0 : Int).toNat) (0 : UInt8))) : Int) / (2 : Int) ^ (5 : Int).toNat = (6 : Int)) = true → (0 : Int) ≤ (↑(UInt8.toNat (List.getD b ((0 : Int).toNat) (0 : UInt8))) : Int) ∧ (0 : Int) ≤ (31 : Int) ∧ (decide ((b.length : Int) < (2 : Int)) = true → (65533 : Int) = (S.uFirst b).1 ∧ (1 : Int) = (S.uFirst b).2) ∧ (decide ((b.length : Int) < (2 : Int)) = false → ((0 : Int) ≤ (1 : Int) ∧ (1 : Int) ≤ (2 : Int) ∧ (2 : Int) ≤ (b.length : Int)) ∧ (∃ (x : Nat), ((0 : Int) = (x : Int) ∧ Vg.natAnd (↑(UInt8.toNat (List.getD b ((0 : Int).toNat) (0 : UInt8))) : Int) (31 : Int) = S.uAcc b x) ∧ S.uInv b x) ∧ ∀ (x : Nat), S.uInv b x → (decide ((x : Int) < (↑(List.length (List.drop ((1 : Int).toNat) (List.take ((2 : Int).toNat) b))) : Int)) = true → ((0 : Int) ≤ (x : Int) ∧ (x : Int) < (↑(List.length (List.drop ((1 : Int).toNat) (List.take ((2 : Int).toNat) b))) : Int)) ∧ ((0 : Int) ≤ (6 : Int) ∧ (6 : Int) ≤ (8 : Int)) ∧ ((!decide ((↑(UInt8.toNat (List.getD (List.drop ((1 : Int).toNat) (List.take ((2 : Int).toNat) b)) ((x : Int).toNat) (0 : UInt8))) : Int) / (2 : Int) ^ (6 : Int).toNat = (2 : Int))) = true → (65533 : Int) = (S.uFirst b).1 ∧ (1 : Int) = (S.uFirst b).2) ∧ ((!decide ((↑(UInt8.toNat (List.getD (List.drop ((1 : Int).toNat) (List.take ((2 : Int).toNat) b)) ((x : Int).toNat) (0 : UInt8))) : Int) / (2 : Int) ^ (6 : Int).toNat = (2 : Int))) = false → ((0 : Int) ≤ (6 : Int) ∧ (6 : Int) ≤ (64 : Int)) ∧ ((-9223372036854775808 : Int) ≤ S.uAcc b x * (2 : Int) ^ (6 : Int).toNat ∧ S.uAcc b x * (2 : Int) ^ (6 : Int).toNat ≤ (9223372036854775807 : Int)) ∧ (0 : Int) ≤ S.uAcc b x * (2 : Int) ^ (6 : Int).toNat ∧ (0 : Int) ≤ Vg.natAnd (↑(UInt8.toNat (List.getD (List.drop ((1 : Int).toNat) (List.take ((2 : Int).toNat) b)) ((x : Int).toNat) (0 : UInt8))) : Int) (63 : Int) ∧ ((-9223372036854775808 : Int) ≤ (x : Int) + (1 : Int) ∧ (x : Int) + (1 : Int) ≤ (9223372036854775807 : Int)) ∧ ∃ (x_1 : Nat), ((x : Int) + (1 : Int) = (x_1 : Int) ∧ Vg.natOr (S.uAcc b x * (2 : Int) ^ (6 : Int).toNat) (Vg.natAnd (↑(UInt8.toNat (List.getD (List.drop ((1 : Int).toNat) (List.take ((2 : Int).toNat) b)) ((x : Int).toNat) (0 : UInt8))) : Int) (63 : Int)) = S.uAcc b x_1) ∧ S.uInv b x_1 ∧ S.meas (4 : Nat) x_1 < S.meas (4 : Nat) x)) ∧ (decide ((x : Int) < (↑(List.length (List.drop ((1 : Int).toNat) (List.take ((2 : Int).toNat) b))) : Int)) = false → True ∧ (((!S.uRight (S.uAcc b x)) = true → True) ∧ ((!S.uRight (S.uAcc b x)) = false → True)) ∧ ((bif !S.uRight (S.uAcc b x) then true else !decide (S.uSize (S.uAcc b x) = (2 : Int))) = true → (65533 : Int) = (S.uFirst b).1 ∧ (1 : Int) = (S.uFirst b).2) ∧ ((bif !S.uRight (S.uAcc b x) then true else !decide (S.uSize (S.uAcc b x) = (2 : Int))) = false → S.uAcc b x = (S.uFirst b).1 ∧ (2 : Int) = (S.uFirst b).2)))) ∧ (decide ((↑(UInt8.toNat (List.getD b ((0 : Int).toNat) (0 : UInt8))) : Int) / (2 : Int) ^ (5 : Int).toNat = (6 : Int)) = false → ((0 : Int) ≤ (4 : Int) ∧ (4 : Int) ≤ (64 : Int)) ∧ (decide ((↑(UInt8.toNat (List.getD b ((0 : Int).toNat) (0 : UInt8))) : Int) / (2 : Int) ^ (4 : Int).toNat = (14 : Int)) = true → (0 : Int) ≤ (↑(UInt8.toNat (List.getD b ((0 : Int).toNat) (0 : UInt8))) : Int) ∧ (0 : Int) ≤ (15 : Int) ∧ (decide ((b.length : Int) < (3 : Int)) = true → (65533 : Int) = (S.uFirst b).1 ∧ (1 : Int) = (S.uFirst b).2) ∧ (decide ((b.length : Int) < (3 : Int)) = false → ((0 : Int) ≤ (1 : Int) ∧ (1 : Int) ≤ (3 : Int) ∧ (3 : Int) ≤ (b.length : Int)) ∧ (∃ (x : Nat), ((0 : Int) = (x : Int) ∧ Vg.natAnd (↑(UInt8.toNat (List.getD b ((0 : Int).toNat) (0 : UInt8))) : Int) (15 : Int) = S.uAcc b x) ∧ S.uInv b x) ∧ ∀ (x : Nat), S.uInv b x → (decide ((x : Int) < (↑(List.length (List.drop ((1 : Int).toNat) (List.take ((3 : Int).toNat) b))) : Int)) = true → ((0 : Int) ≤ (x : Int) ∧ (x : Int) < (↑(List.length (List.drop ((1 : Int).toNat) (List.take ((3 : Int).toNat) b))) : Int)) ∧ ((0 : Int) ≤ (6 : Int) ∧ (6 : Int) ≤ (8 : Int)) ∧ ((!decide ((↑(UInt8.toNat (List.getD (List.drop ((1 : Int).toNat) (List.take ((3 : Int).toNat) b)) ((x : Int).toNat) (0 : UInt8))) : Int) / (2 : Int) ^ (6 : Int).toNat = (2 : Int))) = true → (65533 : Int) = (S.uFirst b).1 ∧ (1 : Int) = (S.uFirst b).2) ∧ ((!decide ((↑(UInt8.toNat (List.getD (List.drop ((1 : Int).toNat) (List.take ((3 : Int).toNat) b)) ((x : Int).toNat) (0 : UInt8))) : Int) / (2 : Int) ^ (6 : Int).toNat = (2 : Int))) = false → ((0 : Int) ≤ (6 : Int) ∧ (6 : Int) ≤ (64 : Int)) ∧ ((-9223372036854775808 : Int) ≤ S.uAcc b x * (2 : Int) ^ (6 : Int).toNat ∧ S.uAcc b x * (2 : Int) ^ (6 : Int).toNat ≤ (9223372036854775807 : Int)) ∧ (0 : Int) ≤ S.uAcc b x * (2 : Int) ^ (6 : Int).toNat ∧ (0 : Int) ≤ Vg.natAnd (↑(UInt8.toNat (List.getD (List.drop ((1 : Int).toNat) (List.take ((3 : Int).toNat) b)) ((x : Int).toNat) (0 : UInt8))) : Int) (63 : Int) ∧ ((-9223372036854775808 : Int) ≤ (x : Int) + (1 : Int) ∧ (x : Int) + (1 : Int) ≤ (9223372036854775807 : Int)) ∧ ∃ (x_1 : Nat), ((x : Int) + (1 : Int) = (x_1 : Int) ∧ Vg.natOr (S.uAcc b x * (2 : Int) ^ (6 : Int).toNat) (Vg.natAnd (↑(UInt8.toNat (List.getD (List.drop ((1 : Int).toNat) (List.take ((3 : Int).toNat) b)) ((x : Int).toNat) (0 : UInt8))) : Int) (63 : Int)) = S.uAcc b x_1) ∧ S.uInv b x_1 ∧ S.meas (4 : Nat) x_1 < S.meas (4 : Nat) x)) ∧ (decide ((x : Int) < (↑(List.length (List.drop ((1 : Int).toNat) (List.take ((3 : Int).toNat) b))) : Int)) = false → True ∧ (((!S.uRight (S.uAcc b x)) = true → True) ∧ ((!S.uRight (S.uAcc b x)) = false → True)) ∧ ((bif !S.uRight (S.uAcc b x) then true else !decide (S.uSize (S.uAcc b x) = (3 : Int))) = true → (65533 : Int) = (S.uFirst b).1 ∧ (1 : Int) = (S.uFirst b).2) ∧ ((bif !S.uRight (S.uAcc b x) then true else !decide (S.uSize (S.uAcc b x) = (3 : Int))) = false → S.uAcc b x = (S.uFirst b).1 ∧ (3 : Int) = (S.uFirst b).2)))) ∧ (decide ((↑(UInt8.toNat (List.getD b ((0 : Int).toNat) (0 : UInt8))) : Int) / (2 : Int) ^ (4 : Int).toNat = (14 : Int)) = false → ((0 : Int) ≤ (3 : Int) ∧ (3 : Int) ≤ (64 : Int)) ∧ (decide ((↑(UInt8.toNat (List.getD b ((0 : Int).toNat) (0 : UInt8))) : Int) / (2 : Int) ^ (3 : Int).toNat = (30 : Int)) = true → (0 : Int) ≤ (↑(UInt8.toNat (List.getD b ((0 : Int).toNat) (0 : UInt8))) : Int) ∧ (0 : Int) ≤ (7 : Int) ∧ (decide ((b.length : Int) < (4 : Int)) = true → (65533 : Int) = (S.uFirst b).1 ∧ (1 : Int) = (S.uFirst b).2) ∧ (decide ((b.length : Int) < (4 : Int)) = false → ((0 : Int) ≤ (1 : Int) ∧ (1 : Int) ≤ (4 : Int) ∧ (4 : Int) ≤ (b.length : Int)) ∧ (∃ (x : Nat), ((0 : Int) = (x : Int) ∧ Vg.natAnd (↑(UInt8.toNat (List.getD b ((0 : Int).toNat) (0 : UInt8))) : Int) (7 : Int) = S.uAcc b x) ∧ S.uInv b x) ∧ ∀ (x : Nat), S.uInv b x → (decide ((x : Int) < (↑(List.length (List.drop ((1 : Int).toNat) (List.take ((4 : Int).toNat) b))) : Int)) = true → ((0 : Int) ≤ (x : Int) ∧ (x : Int) < (↑(List.length (List.drop ((1 : Int).toNat) (List.take ((4 : Int).toNat) b))) : Int)) ∧ ((0 : Int) ≤ (6 : Int) ∧ (6 : Int) ≤ (8 : Int)) ∧ ((!decide ((↑(UInt8.toNat (List.getD (List.drop ((1 : Int).toNat) (List.take ((4 : Int).toNat) b)) ((x : Int).toNat) (0 : UInt8))) : Int) / (2 : Int) ^ (6 : Int).toNat = (2 : Int))) = true → (65533 : Int) = (S.uFirst b).1 ∧ (1 : Int) = (S.uFirst b).2) ∧ ((!decide ((↑(UInt8.toNat (List.getD (List.drop ((1 : Int).toNat) (List.take ((4 : Int).toNat) b)) ((x : Int).toNat) (0 : UInt8))) : Int) / (2 : Int) ^ (6 : Int).toNat = (2 : Int))) = false → ((0 : Int) ≤ (6 : Int) ∧ (6 : Int) ≤ (64 : Int)) ∧ ((-9223372036854775808 : Int) ≤ S.uAcc b x * (2 : Int) ^ (6 : Int).toNat ∧ S.uAcc b x * (2 : Int) ^ (6 : Int).toNat ≤ (9223372036854775807 : Int)) ∧ (0 : Int) ≤ S.uAcc b x * (2 : Int) ^ (6 : Int).toNat ∧ (0 : Int) ≤ Vg.natAnd (↑(UInt8.toNat (List.getD (List.drop ((1 : Int).toNat) (List.take ((4 : Int).toNat) b)) ((x : Int).toNat) (0 : UInt8))) : Int) (63 : Int) ∧ ((-9223372036854775808 : Int) ≤ (x : Int) + (1 : Int) ∧ (x : Int) + (1 : Int) ≤ (9223372036854775807 : Int)) ∧ ∃ (x_1 : Nat), ((x : Int) + (1 : Int) = (x_1 : Int) ∧ Vg.natOr (S.uAcc b x * (2 : Int) ^ (6 : Int).toNat) (Vg.natAnd (↑(UInt8.toNat (List.getD (List.drop ((1 : Int).toNat) (List.take ((4 : Int).toNat) b)) ((x : Int).toNat) (0 : UInt8))) : Int) (63 : Int)) = S.uAcc b x_1) ∧ S.uInv b x_1 ∧ S.meas (4 : Nat) x_1 < S.meas (4 : Nat) x)) ∧ (decide ((x : Int) < (↑(List.length (List.drop ((1 : Int).toNat) (List.take ((4 : Int).toNat) b))) : Int)) = false → True ∧ (((!S.uRight (S.uAcc b x)) = true → True) ∧ ((!S.uRight (S.uAcc b x)) = false → True)) ∧ ((bif !S.uRight (S.uAcc b x) then true else !decide (S.uSize (S.uAcc b x) = (4 : Int))) = true → (65533 : Int) = (S.uFirst b).1 ∧ (1 : Int) = (S.uFirst b).2) ∧ ((bif !S.uRight (S.uAcc b x) then true else !decide (S.uSize (S.uAcc b x) = (4 : Int))) = false → S.uAcc b x = (S.uFirst b).1 ∧ (4 : Int) = (S.uFirst b).2)))) ∧ (decide ((↑(UInt8.toNat (List.getD b ((0 : Int).toNat) (0 : UInt8))) : Int) / (2 : Int) ^ (3 : Int).toNat = (30 : Int)) = false → (65533 : Int) = (S.uFirst b).1 ∧ (1 : Int) = (S.uFirst b).2))))
def V_a46 (b : List UInt8) : Prop :=
 (∃ (x : List UInt8 × List Int), (b = x.1 ∧ [] = x.2) ∧ S.decInv b x.1 x.2) ∧ ∀ (x : List UInt8 × List Int), S.decInv b x.1 x.2 → (decide ((0 : Int) < (↑(List.length x.1) : Int)) = true → (0 : Nat) < List.length x.1 ∧ List.length x.2 + List.length [(S.uFirst x.1).1] ≤ (17592186044416 : Nat) ∧ ((0 : Int) ≤ (S.uFirst x.1).2 ∧ (S.uFirst x.1).2 ≤ (↑(List.length x.1) : Int)) ∧ ∃ (x_1 : List UInt8 × List Int), (List.drop (Int.toNat ((S.uFirst x.1).2)) x.1 = x_1.1 ∧ x.2 ++ [(S.uFirst x.1).1] = x_1.2) ∧ S.decInv b x_1.1 x_1.2 ∧ S.len x_1.1 < S.len x.1) ∧ (decide ((0 : Int) < (↑(List.length x.1) : Int)) = false → x.2 = S.decode b)
def V_a47 (c : Int) : Prop :=
 (∃ (x : Nat), (0 : Int) = (x : Int) ∧ S.noLetter c x) ∧ ∀ (x : Nat), S.noLetter c x → (decide ((x : Int) < (9 : Int)) = true → ((0 : Int) ≤ (x : Int) ∧ (x : Int) < (↑(9 : Nat) : Int)) ∧ ((bif decide (List.getD [(65 : Int), (97 : Int), (192 : Int), (216 : Int), (248 : Int), (913 : Int), (931 : Int), (945 : Int), (1024 : Int)] ((x : Int).toNat) (0 : Int) ≤ c) then decide (c ≤ List.getD [(90 : Int), (122 : Int), (214 : Int), (246 : Int), (255 : Int), (929 : Int), (937 : Int), (969 : Int), (1119 : Int)] ((x : Int).toNat) (0 : Int)) else false) = true → true = S.letter c) ∧ ((bif decide (List.getD [(65 : Int), (97 : Int), (192 : Int), (216 : Int), (248 : Int), (913 : Int), (931 : Int), (945 : Int), (1024 : Int)] ((x : Int).toNat) (0 : Int) ≤ c) then decide (c ≤ List.getD [(90 : Int), (122 : Int), (214 : Int), (246 : Int), (255 : Int), (929 : Int), (937 : Int), (969 : Int), (1119 : Int)] ((x : Int).toNat) (0 : Int)) else false) = false → ((-9223372036854775808 : Int) ≤ (x : Int) + (1 : Int) ∧ (x : Int) + (1 : Int) ≤ (9223372036854775807 : Int)) ∧ ∃ (x_1 : Nat), (x : Int) + (1 : Int) = (x_1 : Int) ∧ S.noLetter c x_1 ∧ S.meas (9 : Nat) x_1 < S.meas (9 : Nat) x)) ∧ (decide ((x : Int) < (9 : Int)) = false → false = S.letter c)
def V_a48 (c : Int) : Prop :=
 (bif decide ((48 : Int) ≤ c) then decide (c ≤ (57 : Int)) else false) = S.digit c
def V_a49 (c : Int) : Prop :=
 (∃ (x : Nat), (0 : Int) = (x : Int) ∧ S.noShift c x) ∧ ∀ (x : Nat), S.noShift c x → (decide ((x : Int) < (7 : Int)) = true → ((0 : Int) ≤ (x : Int) ∧ (x : Int) < (↑(7 : Nat) : Int)) ∧ ((bif decide (List.getD [(65 : Int), (192 : Int), (216 : Int), (913 : Int), (931 : Int), (1024 : Int), (1040 : Int)] ((x : Int).toNat) (0 : Int) ≤ c) then decide (c ≤ List.getD [(90 : Int), (214 : Int), (222 : Int), (929 : Int), (937 : Int), (1039 : Int), (1071 : Int)] ((x : Int).toNat) (0 : Int)) else false) = true → ((-9223372036854775808 : Int) ≤ c + List.getD [(32 : Int), (32 : Int), (32 : Int), (32 : Int), (32 : Int), (80 : Int), (32 : Int)] ((x : Int).toNat) (0 : Int) ∧ c + List.getD [(32 : Int), (32 : Int), (32 : Int), (32 : Int), (32 : Int), (80 : Int), (32 : Int)] ((x : Int).toNat) (0 : Int) ≤ (9223372036854775807 : Int)) ∧ c + List.getD [(32 : Int), (32 : Int), (32 : Int), (32 : Int), (32 : Int), (80 : Int), (32 : Int)] ((x : Int).toNat) (0 : Int) = S.smallC c) ∧ ((bif decide (List.getD [(65 : Int), (192 : Int), (216 : Int), (913 : Int), (931 : Int), (1024 : Int), (1040 : Int)] ((x : Int).toNat) (0 : Int) ≤ c) then decide (c ≤ List.getD [(90 : Int), (214 : Int), (222 : Int), (929 : Int), (937 : Int), (1039 : Int), (1071 : Int)] ((x : Int).toNat) (0 : Int)) else false) = false → ((-9223372036854775808 : Int) ≤ (x : Int) + (1 : Int) ∧ (x : Int) + (1 : Int) ≤ (9223372036854775807 : Int)) ∧ ∃ (x_1 : Nat), (x : Int) + (1 : Int) = (x_1 : Int) ∧ S.noShift c x_1 ∧ S.meas (7 : Nat) x_1 < S.meas (7 : Nat) x)) ∧ (decide ((x : Int) < (7 : Int)) = false → c = S.smallC c)
def V_a58 (u : List Int) : Prop :=
 (∃ (x : Nat × List UInt8), ((0 : Int) = (x.1 : Int) ∧ [] = x.2) ∧ S.termInv u x.1 x.2) ∧ ∀ (x : Nat × List UInt8), S.termInv u x.1 x.2 → (decide ((x.1 : Int) < (u.length : Int)) = true → ((0 : Int) ≤ (x.1 : Int) ∧ (x.1 : Int) < (u.length : Int)) ∧ True ∧ True ∧ ((-9223372036854775808 : Int) ≤ (↑(List.length x.2) : Int) + (↑(List.length (S.encR (S.smallC (List.getD u ((x.1 : Int).toNat) (0 : Int))))) : Int) ∧ (↑(List.length x.2) : Int) + (↑(List.length (S.encR (S.smallC (List.getD u ((x.1 : Int).toNat) (0 : Int))))) : Int) ≤ (9223372036854775807 : Int)) ∧ (decide ((64 : Int) < (↑(List.length x.2) : Int) + (↑(List.length (S.encR (S.smallC (List.getD u ((x.1 : Int).toNat) (0 : Int))))) : Int)) = true → x.2 = S.termOf u) ∧ (decide ((64 : Int) < (↑(List.length x.2) : Int) + (↑(List.length (S.encR (S.smallC (List.getD u ((x.1 : Int).toNat) (0 : Int))))) : Int)) = false → List.length x.2 + List.length (S.encR (S.smallC (List.getD u ((x.1 : Int).toNat) (0 : Int)))) ≤ (140737488355328 : Nat) ∧ ((-9223372036854775808 : Int) ≤ (x.1 : Int) + (1 : Int) ∧ (x.1 : Int) + (1 : Int) ≤ (9223372036854775807 : Int)) ∧ ∃ (x_1 : Nat × List UInt8), ((x.1 : Int) + (1 : Int) = (x_1.1 : Int) ∧ x.2 ++ S.encR (S.smallC (List.getD u ((x.1 : Int).toNat) (0 : Int))) = x_1.2) ∧ S.termInv u x_1.1 x_1.2 ∧ S.meas (S.len u) x_1.1 < S.meas (S.len u) x.1)) ∧ (decide ((x.1 : Int) < (u.length : Int)) = false → x.2 = S.termOf u)
def V_a59 (b : List UInt8) : Prop :=
 S.small b ∧ (∃ (x : Nat × List (List UInt8) × List Int), ((0 : Int) = (x.1 : Int) ∧ [] = x.2.1 ∧ [] = x.2.2) ∧ S.tokInv (S.decode b) x.1 x.2.1 x.2.2) ∧ ∀ (x : Nat × List (List UInt8) × List Int), S.tokInv (S.decode b) x.1 x.2.1 x.2.2 → (decide ((x.1 : Int) < (↑(List.length (S.decode b)) : Int)) = true → ((0 : Int) ≤ (x.1 : Int) ∧ (x.1 : Int) < (↑(List.length (S.decode b)) : Int)) ∧ (x.1 : Int).toNat < List.length (S.decode b) ∧ True ∧ ((S.letter (List.getD (S.decode b) ((x.1 : Int).toNat) (0 : Int)) = true → True) ∧ (S.letter (List.getD (S.decode b) ((x.1 : Int).toNat) (0 : Int)) = false → True)) ∧ ((bif S.letter (List.getD (S.decode b) ((x.1 : Int).toNat) (0 : Int)) then true else S.digit (List.getD (S.decode b) ((x.1 : Int).toNat) (0 : Int))) = true → List.length x.2.2 + List.length [List.getD (S.decode b) ((x.1 : Int).toNat) (0 : Int)] ≤ (17592186044416 : Nat) ∧ ((-9223372036854775808 : Int) ≤ (x.1 : Int) + (1 : Int) ∧ (x.1 : Int) + (1 : Int) ≤ (9223372036854775807 : Int)) ∧ ∃ (x_1 : Nat × List (List UInt8) × List Int), ((x.1 : Int) + (1 : Int) = (x_1.1 : Int) ∧ x.2.1 = x_1.2.1 ∧ x.2.2 ++ [List.getD (S.decode b) ((x.1 : Int).toNat) (0 : Int)] = x_1.2.2) ∧ S.tokInv (S.decode b) x_1.1 x_1.2.1 x_1.2.2 ∧ S.meas (S.len (S.decode b)) x_1.1 < S.meas (S.len (S.decode b)) x.1) ∧ ((bif S.letter (List.getD (S.decode b) ((x.1 : Int).toNat) (0 : Int)) then true else S.digit (List.getD (S.decode b) ((x.1 : Int).toNat) (0 : Int))) = false → (decide ((0 : Int) < (↑(List.length x.2.2) : Int)) = true → S.okC x.2.2 ∧ List.length x.2.1 + List.length [S.termOf x.2.2] ≤ (8796093022208 : Nat) ∧ ((-9223372036854775808 : Int) ≤ (x.1 : Int) + (1 : Int) ∧ (x.1 : Int) + (1 : Int) ≤ (9223372036854775807 : Int)) ∧ ∃ (x_1 : Nat × List (List UInt8) × List Int), ((x.1 : Int) + (1 : Int) = (x_1.1 : Int) ∧ x.2.1 ++ [S.termOf x.2.2] = x_1.2.1 ∧ [] = x_1.2.2) ∧ S.tokInv (S.decode b) x_1.1 x_1.2.1 x_1.2.2 ∧ S.meas (S.len (S.decode b)) x_1.1 < S.meas (S.len (S.decode b)) x.1) ∧ (decide ((0 : Int) < (↑(List.length x.2.2) : Int)) = false → ((-9223372036854775808 : Int) ≤ (x.1 : Int) + (1 : Int) ∧ (x.1 : Int) + (1 : Int) ≤ (9223372036854775807 : Int)) ∧ ∃ (x_1 : Nat × List (List UInt8) × List Int), ((x.1 : Int) + (1 : Int) = (x_1.1 : Int) ∧ x.2.1 = x_1.2.1 ∧ x.2.2 = x_1.2.2) ∧ S.tokInv (S.decode b) x_1.1 x_1.2.1 x_1.2.2 ∧ S.meas (S.len (S.decode b)) x_1.1 < S.meas (S.len (S.decode b)) x.1))) ∧ (decide ((x.1 : Int) < (↑(List.length (S.decode b)) : Int)) = false → (decide ((0 : Int) < (↑(List.length x.2.2) : Int)) = true → S.okC x.2.2 ∧ List.length x.2.1 + List.length [S.termOf x.2.2] ≤ (8796093022208 : Nat) ∧ x.2.1 ++ [S.termOf x.2.2] = S.terms b) ∧ (decide ((0 : Int) < (↑(List.length x.2.2) : Int)) = false → x.2.1 = S.terms b))
def V_a60 (s : List UInt8) : Prop :=
 S.small s ∧ ((decide ((↑(List.length (S.terms s)) : Int) = (1 : Int)) = true → ((0 : Int) ≤ (0 : Int) ∧ (0 : Int) < (↑(List.length (S.terms s)) : Int)) ∧ (0 : Int).toNat < List.length (S.terms s)) ∧ (decide ((↑(List.length (S.terms s)) : Int) = (1 : Int)) = false → True)) ∧ (bif decide ((↑(List.length (S.terms s)) : Int) = (1 : Int)) then decide (List.getD (S.terms s) ((0 : Int).toNat) [] = s) else false) = S.isTerm s
def V_a69 (s : List UInt8) : Prop :=
 (!decide (s = s)) = false
def V_a70 (a : List UInt8) (b : List UInt8) : Prop :=
 True ∧ True ∧ (false = true → (false = true → (0 : Int) = S.cmpS a b) ∧ (false = false → (-1 : Int) = S.cmpS a b)) ∧ (false = false → (false = true → (1 : Int) = S.cmpS a b) ∧ (false = false → (Op.bytesLess a b = true → (-1 : Int) = S.cmpS a b) ∧ (Op.bytesLess a b = false → ((!(Op.bytesLess a b || decide (a = b))) = true → (1 : Int) = S.cmpS a b) ∧ ((!(Op.bytesLess a b || decide (a = b))) = false → (0 : Int) = S.cmpS a b))))
def V_a71 (a : List UInt8) (b : List UInt8) : Prop :=
 True ∧ decide (S.cmpS a b = (0 : Int)) = decide (a = b)
def V_a72 (l : List (List UInt8)) : Prop :=
 (decide ((l.length : Int) < (2 : Int)) = true → l = S.compact l) ∧ (decide ((l.length : Int) < (2 : Int)) = false → (∃ (x : Nat), (1 : Int) = (x : Int) ∧ S.cmpInv l x) ∧ ∀ (x : Nat), S.cmpInv l x → (decide ((x : Int) < (l.length : Int)) = true → ((0 : Int) ≤ (x : Int) ∧ (x : Int) < (l.length : Int)) ∧ (x : Int).toNat < l.length ∧ ((-9223372036854775808 : Int) ≤ (x : Int) - (1 : Int) ∧ (x : Int) - (1 : Int) ≤ (9223372036854775807 : Int)) ∧ ((0 : Int) ≤ (x : Int) - (1 : Int) ∧ (x : Int) - (1 : Int) < (l.length : Int)) ∧ Int.toNat ((x : Int) - (1 : Int)) < l.length ∧ True ∧ (decide (List.getD l ((x : Int).toNat) [] = List.getD l (Int.toNat ((x : Int) - (1 : Int))) []) = true → ((0 : Int) ≤ (x : Int) ∧ (x : Int) ≤ (l.length : Int)) ∧ (∃ (x_1 : Nat × Nat × List (List UInt8) × Nat), ((x : Int) = (x_1.1 : Int) ∧ (1 : Int) = (x_1.2.1 : Int) ∧ l = x_1.2.2.1) ∧ S.cmpInv2 l x_1.2.2.2 x_1.1 x_1.2.1 x_1.2.2.1 ∧ (x : Int) = (x_1.2.2.2 : Int)) ∧ ∀ (x_1 : Nat × Nat × List (List UInt8) × Nat), S.cmpInv2 l x_1.2.2.2 x_1.1 x_1.2.1 x_1.2.2.1 ∧ (x : Int) = (x_1.2.2.2 : Int) → (decide ((x_1.2.1 : Int) < (↑(l.length - (x : Int).toNat) : Int)) = true → ((0 : Int) ≤ (x_1.2.1 : Int) ∧ (x_1.2.1 : Int) < (↑(l.length - (x : Int).toNat) : Int)) ∧ (x : Int).toNat + (x_1.2.1 : Int).toNat < List.length x_1.2.2.1 ∧ ((-9223372036854775808 : Int) ≤ (x_1.2.1 : Int) - (1 : Int) ∧ (x_1.2.1 : Int) - (1 : Int) ≤ (9223372036854775807 : Int)) ∧ ((0 : Int) ≤ (x_1.2.1 : Int) - (1 : Int) ∧ (x_1.2.1 : Int) - (1 : Int) < (↑(l.length - (x : Int).toNat) : Int)) ∧ (x : Int).toNat + Int.toNat ((x_1.2.1 : Int) - (1 : Int)) < List.length x_1.2.2.1 ∧ True ∧ (((!decide (List.getD x_1.2.2.1 ((x : Int).toNat + (x_1.2.1 : Int).toNat) [] = List.getD x_1.2.2.1 ((x : Int).toNat + Int.toNat ((x_1.2.1 : Int) - (1 : Int))) [])) = true → ((0 : Int) ≤ (x_1.2.1 : Int) ∧ (x_1.2.1 : Int) < (↑(l.length - (x : Int).toNat) : Int)) ∧ (x : Int).toNat + (x_1.2.1 : Int).toNat < List.length x_1.2.2.1 ∧ ((0 : Int) ≤ (x_1.1 : Int) ∧ (x_1.1 : Int) < (↑(List.length x_1.2.2.1) : Int)) ∧ (x_1.1 : Int).toNat < List.length x_1.2.2.1 ∧ (-9223372036854775808 : Int) ≤ (x_1.1 : Int) + (1 : Int) ∧ (x_1.1 : Int) + (1 : Int) ≤ (9223372036854775807 : Int)) ∧ ((!decide (List.getD x_1.2.2.1 ((x : Int).toNat + (x_1.2.1 : Int).toNat) [] = List.getD x_1.2.2.1 ((x : Int).toNat + Int.toNat ((x_1.2.1 : Int) - (1 : Int))) [])) = false → True)) ∧ ((-9223372036854775808 : Int) ≤ (x_1.2.1 : Int) + (1 : Int) ∧ (x_1.2.1 : Int) + (1 : Int) ≤ (9223372036854775807 : Int)) ∧ ∃ (x_2 : Nat × Nat × List (List UInt8) × Nat), ((bif !decide (List.getD x_1.2.2.1 ((x : Int).toNat + (x_1.2.1 : Int).toNat) [] = List.getD x_1.2.2.1 ((x : Int).toNat + Int.toNat ((x_1.2.1 : Int) - (1 : Int))) []) then (x_1.1 : Int) + (1 : Int) else (x_1.1 : Int)) = (x_2.1 : Int) ∧ (x_1.2.1 : Int) + (1 : Int) = (x_2.2.1 : Int) ∧ (bif !decide (List.getD x_1.2.2.1 ((x : Int).toNat + (x_1.2.1 : Int).toNat) [] = List.getD x_1.2.2.1 ((x : Int).toNat + Int.toNat ((x_1.2.1 : Int) - (1 : Int))) []) then List.set x_1.2.2.1 ((x_1.1 : Int).toNat) (List.getD x_1.2.2.1 ((x : Int).toNat + (x_1.2.1 : Int).toNat) []) else x_1.2.2.1) = x_2.2.2.1) ∧ (S.cmpInv2 l x_2.2.2.2 x_2.1 x_2.2.1 x_2.2.2.1 ∧ (x : Int) = (x_2.2.2.2 : Int)) ∧ S.meas (S.len l) x_2.2.1 < S.meas (S.len l) x_1.2.1) ∧ (decide ((x_1.2.1 : Int) < (↑(l.length - (x : Int).toNat) : Int)) = false → ((0 : Int) ≤ (x_1.1 : Int) ∧ (x_1.1 : Int) ≤ (↑(List.length x_1.2.2.1) : Int)) ∧ (((x_1.1 : Int).toNat) + (List.length x_1.2.2.1 - (x_1.1 : Int).toNat)) ≤ List.length x_1.2.2.1 ∧ ((0 : Int) ≤ (x_1.1 : Int) ∧ (x_1.1 : Int) ≤ (↑(List.length (List.take ((x_1.1 : Int).toNat) x_1.2.2.1 ++ List.replicate (List.length x_1.2.2.1 - (x_1.1 : Int).toNat) (Vg.nilL UInt8) ++ List.drop ((((x_1.1 : Int).toNat) + (List.length x_1.2.2.1 - (x_1.1 : Int).toNat))) x_1.2.2.1)) : Int)) ∧ List.take ((x_1.1 : Int).toNat) (List.take ((x_1.1 : Int).toNat) x_1.2.2.1 ++ List.replicate (List.length x_1.2.2.1 - (x_1.1 : Int).toNat) (Vg.nilL UInt8) ++ List.drop ((((x_1.1 : Int).toNat) + (List.length x_1.2.2.1 - (x_1.1 : Int).toNat))) x_1.2.2.1) = S.compact l)) ∧ (decide (List.getD l ((x : Int).toNat) [] = List.getD l (Int.toNat ((x : Int) - (1 : Int))) []) = false → ((-9223372036854775808 : Int) ≤ (x : Int) + (1 : Int) ∧ (x : Int) + (1 : Int) ≤ (9223372036854775807 : Int)) ∧ ∃ (x_1 : Nat), (x : Int) + (1 : Int) = (x_1 : Int) ∧ S.cmpInv l x_1 ∧ S.meas (S.len l) x_1 < S.meas (S.len l) x)) ∧ (decide ((x : Int) < (l.length : Int)) = false → l = S.compact l))
def V_a76 (l : List (List UInt8)) : Prop :=
 S.small l ∧ S.small l ∧ S.small (S.sortS l) ∧ S.compact (S.sortS l) = S.compact (S.sortS l)
def V_a77 (b : List UInt8) : Prop :=
 S.small b ∧ S.small (S.terms b) ∧ S.compact (S.sortS (S.terms b)) = S.sorted (S.terms b)
def V_a78 (l : List (List UInt8)) : Prop :=
 (∃ (x : Nat), (0 : Int) = (x : Int) ∧ S.digsInv l x) ∧ ∀ (x : Nat), S.digsInv l x → (decide ((x : Int) < (l.length : Int)) = true → ((0 : Int) ≤ (x : Int) ∧ (x : Int) < (l.length : Int)) ∧ ((!decide ((↑(List.length (List.getD l ((x : Int).toNat) [])) : Int) = (32 : Int))) = true → false = S.digs l) ∧ ((!decide ((↑(List.length (List.getD l ((x : Int).toNat) [])) : Int) = (32 : Int))) = false → ((-9223372036854775808 : Int) ≤ (x : Int) + (1 : Int) ∧ (x : Int) + (1 : Int) ≤ (9223372036854775807 : Int)) ∧ ∃ (x_1 : Nat), (x : Int) + (1 : Int) = (x_1 : Int) ∧ S.digsInv l x_1 ∧ S.meas (S.len l) x_1 < S.meas (S.len l) x)) ∧ (decide ((x : Int) < (l.length : Int)) = false → true = S.digs l)
def V_a79 (a : List UInt8) (b : List UInt8) : Prop :=
 True ∧ S.sealNode a b = S.sealNode a b
def V_a80 (s : List (List UInt8)) : Prop :=
 ((-9223372036854775808 : Int) ≤ (s.length : Int) - (2 : Int) ∧ (s.length : Int) - (2 : Int) ≤ (9223372036854775807 : Int)) ∧ ((0 : Int) ≤ (s.length : Int) - (2 : Int) ∧ (s.length : Int) - (2 : Int) < (s.length : Int)) ∧ Int.toNat ((s.length : Int) - (2 : Int)) < s.length ∧ ((-9223372036854775808 : Int) ≤ (s.length : Int) - (2 : Int) + (1 : Int) ∧ (s.length : Int) - (2 : Int) + (1 : Int) ≤ (9223372036854775807 : Int)) ∧ ((0 : Int) ≤ (s.length : Int) - (2 : Int) + (1 : Int) ∧ (s.length : Int) - (2 : Int) + (1 : Int) < (s.length : Int)) ∧ Int.toNat ((s.length : Int) - (2 : Int) + (1 : Int)) < s.length ∧ True ∧ ((0 : Int) ≤ (s.length : Int) - (2 : Int) ∧ (s.length : Int) - (2 : Int) < (s.length : Int)) ∧ Int.toNat ((s.length : Int) - (2 : Int)) < s.length ∧ ((-9223372036854775808 : Int) ≤ (s.length : Int) - (2 : Int) + (1 : Int) ∧ (s.length : Int) - (2 : Int) + (1 : Int) ≤ (9223372036854775807 : Int)) ∧ ((0 : Int) ≤ (s.length : Int) - (2 : Int) + (1 : Int) ∧ (s.length : Int) - (2 : Int) + (1 : Int) ≤ (↑(List.length (List.set s (Int.toNat ((s.length : Int) - (2 : Int))) (S.sealNode (List.getD s (Int.toNat ((s.length : Int) - (2 : Int))) []) (List.getD s (Int.toNat ((s.length : Int) - (2 : Int) + (1 : Int))) [])))) : Int)) ∧ List.take (Int.toNat ((s.length : Int) - (2 : Int) + (1 : Int))) (List.set s (Int.toNat ((s.length : Int) - (2 : Int))) (S.sealNode (List.getD s (Int.toNat ((s.length : Int) - (2 : Int))) []) (List.getD s (Int.toNat ((s.length : Int) - (2 : Int) + (1 : Int))) []))) = S.comb s
def V_a81 (l : List (List UInt8)) : Prop :=
 (∃ (x : Nat), ((0 : Int) = (x : Int) ∧ [] = S.leavesTo l x) ∧ S.minv l x) ∧ ∀ (x : Nat), S.minv l x → (decide ((x : Int) < (l.length : Int)) = true → ((0 : Int) ≤ (x : Int) ∧ (x : Int) < (l.length : Int)) ∧ S.sealPre (List.getD l ((x : Int).toNat) []) ∧ List.length (S.leavesTo l x) + List.length [S.leaf (List.getD l ((x : Int).toNat) [])] ≤ (8796093022208 : Nat) ∧ ((-9223372036854775808 : Int) ≤ (x : Int) + (1 : Int) ∧ (x : Int) + (1 : Int) ≤ (9223372036854775807 : Int)) ∧ ∃ (x_1 : Nat), ((x : Int) + (1 : Int) = (x_1 : Int) ∧ S.leavesTo l x ++ [S.leaf (List.getD l ((x : Int).toNat) [])] = S.leavesTo l x_1) ∧ S.minv l x_1 ∧ S.meas (S.len l) x_1 < S.meas (S.len l) x) ∧ (decide ((x : Int) < (l.length : Int)) = false → S.leavesTo l x = S.leaves l)
def V_a82 (l : List (List UInt8)) : Prop :=
 (decide ((l.length : Int) = (0 : Int)) = true → S.small (Vg.nilL UInt8) ∧ S.sum (Vg.nilL UInt8) = S.root l) ∧ (decide ((l.length : Int) = (0 : Int)) = false → (∃ (x : Nat × List (List UInt8)), ((0 : Int) = (x.1 : Int) ∧ [] = x.2) ∧ S.rootInv l x.1 x.2) ∧ ∀ (x : Nat × List (List UInt8)), S.rootInv l x.1 x.2 → (decide ((x.1 : Int) < (l.length : Int)) = true → ((0 : Int) ≤ (x.1 : Int) ∧ (x.1 : Int) < (l.length : Int)) ∧ List.length x.2 + List.length [List.getD l ((x.1 : Int).toNat) []] ≤ (8796093022208 : Nat) ∧ (∃ (x_1 : Nat × Nat × List (List UInt8) × Nat), ((x.1 : Int) = (x_1.2.1 : Int) ∧ x.2 ++ [List.getD l ((x.1 : Int).toNat) []] = x_1.2.2.1) ∧ S.comInv l x_1.2.2.2 x_1.1 x_1.2.1 x_1.2.2.1 ∧ (x.1 : Int) = (x_1.2.2.2 : Int)) ∧ ∀ (x_1 : Nat × Nat × List (List UInt8) × Nat), S.comInv l x_1.2.2.2 x_1.1 x_1.2.1 x_1.2.2.1 ∧ (x.1 : Int) = (x_1.2.2.2 : Int) → (0 : Int) ≤ (x_1.2.1 : Int) ∧ (0 : Int) ≤ (1 : Int) ∧ (decide (Vg.natAnd (x_1.2.1 : Int) (1 : Int) = (1 : Int)) = true → S.combPre x_1.2.2.1 ∧ ((0 : Int) ≤ (1 : Int) ∧ (1 : Int) ≤ (64 : Int)) ∧ ∃ (x_2 : Nat × Nat × List (List UInt8) × Nat), ((x_1.2.1 : Int) / (2 : Int) ^ (1 : Int).toNat = (x_2.2.1 : Int) ∧ S.comb x_1.2.2.1 = x_2.2.2.1) ∧ (S.comInv l x_2.2.2.2 x_2.1 x_2.2.1 x_2.2.2.1 ∧ (x.1 : Int) = (x_2.2.2.2 : Int)) ∧ x_2.2.1 < x_1.2.1) ∧ (decide (Vg.natAnd (x_1.2.1 : Int) (1 : Int) = (1 : Int)) = false → ((-9223372036854775808 : Int) ≤ (x.1 : Int) + (1 : Int) ∧ (x.1 : Int) + (1 : Int) ≤ (9223372036854775807 : Int)) ∧ ∃ (x_2 : Nat × List (List UInt8)), ((x.1 : Int) + (1 : Int) = (x_2.1 : Int) ∧ x_1.2.2.1 = x_2.2) ∧ S.rootInv l x_2.1 x_2.2 ∧ S.meas (S.len l) x_2.1 < S.meas (S.len l) x.1)) ∧ (decide ((x.1 : Int) < (l.length : Int)) = false → (∃ (x_1 : List (List UInt8)), x.2 = x_1 ∧ S.finInv l x_1) ∧ ∀ (x : List (List UInt8)), S.finInv l x → (decide ((1 : Int) < (x.length : Int)) = true → S.combPre x ∧ ∃ (x_1 : List (List UInt8)), S.comb x = x_1 ∧ S.finInv l x_1 ∧ S.len x_1 < S.len x) ∧ (decide ((1 : Int) < (x.length : Int)) = false → ((0 : Int) ≤ (0 : Int) ∧ (0 : Int) < (x.length : Int)) ∧ (0 : Int).toNat < x.length ∧ List.getD x ((0 : Int).toNat) [] = S.root l)))
def V_a83 (l : List (List UInt8)) : Prop :=
 True ∧ ((!S.digs l) = true → [] = S.rootR l ∧ (1 : Int) = S.rootE l) ∧ ((!S.digs l) = false → S.rootPre l ∧ S.root l = S.rootR l ∧ (0 : Int) = S.rootE l)
def V_a87 (l : List Int) : Prop :=
 (∃ (x : Nat), ((0 : Int) = (x : Int) ∧ (-1 : Int) = S.prevI l x) ∧ S.postInv l x) ∧ ∀ (x : Nat), S.postInv l x → (decide ((x : Int) < (l.length : Int)) = true → ((0 : Int) ≤ (x : Int) ∧ (x : Int) < (l.length : Int)) ∧ ((bif decide (List.getD l ((x : Int).toNat) (0 : Int) ≤ S.prevI l x) then true else decide ((1000 : Int) ≤ List.getD l ((x : Int).toNat) (0 : Int))) = true → false = S.postR l) ∧ ((bif decide (List.getD l ((x : Int).toNat) (0 : Int) ≤ S.prevI l x) then true else decide ((1000 : Int) ≤ List.getD l ((x : Int).toNat) (0 : Int))) = false → ((-9223372036854775808 : Int) ≤ (x : Int) + (1 : Int) ∧ (x : Int) + (1 : Int) ≤ (9223372036854775807 : Int)) ∧ ∃ (x_1 : Nat), ((x : Int) + (1 : Int) = (x_1 : Int) ∧ List.getD l ((x : Int).toNat) (0 : Int) = S.prevI l x_1) ∧ S.postInv l x_1 ∧ S.meas (S.len l) x_1 < S.meas (S.len l) x)) ∧ (decide ((x : Int) < (l.length : Int)) = false → true = S.postR l)
def V_a88 (l : List Int) : Prop :=
 True ∧ ((!S.postR l) = true → (1 : Int) = S.postE l ∧ [] = S.postW l) ∧ ((!S.postR l) = false → List.length (Vg.nilL UInt8) ≤ (35184372088832 : Nat) ∧ (∃ (x : Nat), ((0 : Int) = (x : Int) ∧ (-1 : Int) = S.prevI l x ∧ S.numB (Vg.nilL UInt8) (l.length : Int) = S.postTo l x) ∧ x ≤ l.length) ∧ ∀ (x : Nat), x ≤ l.length → (decide ((x : Int) < (l.length : Int)) = true → ((0 : Int) ≤ (x : Int) ∧ (x : Int) < (l.length : Int)) ∧ ((-9223372036854775808 : Int) ≤ List.getD l ((x : Int).toNat) (0 : Int) - S.prevI l x ∧ List.getD l ((x : Int).toNat) (0 : Int) - S.prevI l x ≤ (9223372036854775807 : Int)) ∧ ((-9223372036854775808 : Int) ≤ List.getD l ((x : Int).toNat) (0 : Int) - S.prevI l x - (1 : Int) ∧ List.getD l ((x : Int).toNat) (0 : Int) - S.prevI l x - (1 : Int) ≤ (9223372036854775807 : Int)) ∧ List.length (Vg.nilL UInt8) ≤ (35184372088832 : Nat) ∧ List.length (S.postTo l x) + List.length (S.numB (Vg.nilL UInt8) (List.getD l ((x : Int).toNat) (0 : Int) - S.prevI l x - (1 : Int))) ≤ (140737488355328 : Nat) ∧ ((-9223372036854775808 : Int) ≤ (x : Int) + (1 : Int) ∧ (x : Int) + (1 : Int) ≤ (9223372036854775807 : Int)) ∧ ∃ (x_1 : Nat), ((x : Int) + (1 : Int) = (x_1 : Int) ∧ List.getD l ((x : Int).toNat) (0 : Int) = S.prevI l x_1 ∧ S.postTo l x ++ S.numB (Vg.nilL UInt8) (List.getD l ((x : Int).toNat) (0 : Int) - S.prevI l x - (1 : Int)) = S.postTo l x_1) ∧ x_1 ≤ l.length ∧ S.meas (S.len l) x_1 < S.meas (S.len l) x) ∧ (decide ((x : Int) < (l.length : Int)) = false → (0 : Int) = S.postE l ∧ S.postTo l x = S.postW l))
def V_a89 (l : List Int) : Prop :=
 True ∧ ((!decide (S.postE l = (0 : Int))) = true → [] = S.postD l ∧ S.postE l = S.postE l) ∧ ((!decide (S.postE l = (0 : Int))) = false → S.sealPre (S.postW l) ∧ S.sealD (2 : Nat) (S.postW l) = S.postD l ∧ (0 : Int) = S.postE l)
def V_a90 (n : Int) (p : Bool) (q : Bool) (s1 : Int) (s2 : Int) : Prop :=
 (bif decide (s1 ≤ n) then decide (n < s2) else false) = S.inSpn n s1 s2 ∧ s1 = s1 ∧ s2 = s2
def V_a91 (a : List Int) (b : List Int) (s1 : Int) (s2 : Int) : Prop :=
 True ∧ True ∧ (∃ (x : List Int × List Int), ((bif !S.postR a then [] else a) = x.1 ∧ (bif !S.postR b then [] else b) = S.noInts ∧ [] = x.2 ∧ s1 = s1 ∧ s2 = s2) ∧ S.pickInv a s1 s2 x.1 x.2) ∧ ∀ (x : List Int × List Int), S.pickInv a s1 s2 x.1 x.2 → ((bif decide ((0 : Int) < (↑(List.length x.1) : Int)) then true else decide ((0 : Int) < (↑(List.length S.noInts) : Int))) = true → ((decide ((0 : Int) < (↑(List.length x.1) : Int)) = true → (decide ((↑(List.length S.noInts) : Int) = (0 : Int)) = true → True) ∧ (decide ((↑(List.length S.noInts) : Int) = (0 : Int)) = false → ((0 : Int) ≤ (0 : Int) ∧ (0 : Int) < (↑(List.length x.1) : Int)) ∧ (0 : Int) ≤ (0 : Int) ∧ (0 : Int) < (↑(List.length S.noInts) : Int))) ∧ (decide ((0 : Int) < (↑(List.length x.1) : Int)) = false → True)) ∧ ((decide ((0 : Int) < (↑(List.length S.noInts) : Int)) = true → (decide ((↑(List.length x.1) : Int) = (0 : Int)) = true → True) ∧ (decide ((↑(List.length x.1) : Int) = (0 : Int)) = false → ((0 : Int) ≤ (0 : Int) ∧ (0 : Int) < (↑(List.length S.noInts) : Int)) ∧ (0 : Int) ≤ (0 : Int) ∧ (0 : Int) < (↑(List.length x.1) : Int))) ∧ (decide ((0 : Int) < (↑(List.length S.noInts) : Int)) = false → True)) ∧ (((bif decide ((0 : Int) < (↑(List.length x.1) : Int)) then bif decide ((↑(List.length S.noInts) : Int) = (0 : Int)) then true else decide (List.getD x.1 ((0 : Int).toNat) (0 : Int) ≤ List.getD S.noInts ((0 : Int).toNat) (0 : Int)) else false) = true → ((0 : Int) ≤ (0 : Int) ∧ (0 : Int) < (↑(List.length x.1) : Int)) ∧ (0 : Int) ≤ (1 : Int) ∧ (1 : Int) ≤ (↑(List.length x.1) : Int)) ∧ ((bif decide ((0 : Int) < (↑(List.length x.1) : Int)) then bif decide ((↑(List.length S.noInts) : Int) = (0 : Int)) then true else decide (List.getD x.1 ((0 : Int).toNat) (0 : Int) ≤ List.getD S.noInts ((0 : Int).toNat) (0 : Int)) else false) = false → True)) ∧ (((bif decide ((0 : Int) < (↑(List.length S.noInts) : Int)) then bif decide ((↑(List.length x.1) : Int) = (0 : Int)) then true else decide (List.getD S.noInts ((0 : Int).toNat) (0 : Int) ≤ List.getD x.1 ((0 : Int).toNat) (0 : Int)) else false) = true → ((0 : Int) ≤ (0 : Int) ∧ (0 : Int) < (↑(List.length S.noInts) : Int)) ∧ (0 : Int) ≤ (1 : Int) ∧ (1 : Int) ≤ (↑(List.length S.noInts) : Int)) ∧ ((bif decide ((0 : Int) < (↑(List.length S.noInts) : Int)) then bif decide ((↑(List.length x.1) : Int) = (0 : Int)) then true else decide (List.getD S.noInts ((0 : Int).toNat) (0 : Int) ≤ List.getD x.1 ((0 : Int).toNat) (0 : Int)) else false) = false → True)) ∧ True ∧ (S.inSpn (bif bif decide ((0 : Int) < (↑(List.length S.noInts) : Int)) then bif decide ((↑(List.length x.1) : Int) = (0 : Int)) then true else decide (List.getD S.noInts ((0 : Int).toNat) (0 : Int) ≤ List.getD x.1 ((0 : Int).toNat) (0 : Int)) else false then List.getD S.noInts ((0 : Int).toNat) (0 : Int) else bif bif decide ((0 : Int) < (↑(List.length x.1) : Int)) then bif decide ((↑(List.length S.noInts) : Int) = (0 : Int)) then true else decide (List.getD x.1 ((0 : Int).toNat) (0 : Int) ≤ List.getD S.noInts ((0 : Int).toNat) (0 : Int)) else false then List.getD x.1 ((0 : Int).toNat) (0 : Int) else (0 : Int)) s1 s2 = true → List.length x.2 + List.length [bif bif decide ((0 : Int) < (↑(List.length S.noInts) : Int)) then bif decide ((↑(List.length x.1) : Int) = (0 : Int)) then true else decide (List.getD S.noInts ((0 : Int).toNat) (0 : Int) ≤ List.getD x.1 ((0 : Int).toNat) (0 : Int)) else false then List.getD S.noInts ((0 : Int).toNat) (0 : Int) else bif bif decide ((0 : Int) < (↑(List.length x.1) : Int)) then bif decide ((↑(List.length S.noInts) : Int) = (0 : Int)) then true else decide (List.getD x.1 ((0 : Int).toNat) (0 : Int) ≤ List.getD S.noInts ((0 : Int).toNat) (0 : Int)) else false then List.getD x.1 ((0 : Int).toNat) (0 : Int) else (0 : Int)] ≤ (17592186044416 : Nat) ∧ ∃ (x_1 : List Int × List Int), ((bif bif decide ((0 : Int) < (↑(List.length x.1) : Int)) then bif decide ((↑(List.length S.noInts) : Int) = (0 : Int)) then true else decide (List.getD x.1 ((0 : Int).toNat) (0 : Int) ≤ List.getD S.noInts ((0 : Int).toNat) (0 : Int)) else false then List.drop ((1 : Int).toNat) x.1 else x.1) = x_1.1 ∧ (bif bif decide ((0 : Int) < (↑(List.length S.noInts) : Int)) then bif decide ((↑(List.length x.1) : Int) = (0 : Int)) then true else decide (List.getD S.noInts ((0 : Int).toNat) (0 : Int) ≤ List.getD x.1 ((0 : Int).toNat) (0 : Int)) else false then List.drop ((1 : Int).toNat) S.noInts else S.noInts) = S.noInts ∧ x.2 ++ [bif bif decide ((0 : Int) < (↑(List.length S.noInts) : Int)) then bif decide ((↑(List.length x.1) : Int) = (0 : Int)) then true else decide (List.getD S.noInts ((0 : Int).toNat) (0 : Int) ≤ List.getD x.1 ((0 : Int).toNat) (0 : Int)) else false then List.getD S.noInts ((0 : Int).toNat) (0 : Int) else bif bif decide ((0 : Int) < (↑(List.length x.1) : Int)) then bif decide ((↑(List.length S.noInts) : Int) = (0 : Int)) then true else decide (List.getD x.1 ((0 : Int).toNat) (0 : Int) ≤ List.getD S.noInts ((0 : Int).toNat) (0 : Int)) else false then List.getD x.1 ((0 : Int).toNat) (0 : Int) else (0 : Int)] = x_1.2 ∧ s1 = s1 ∧ s2 = s2) ∧ S.pickInv a s1 s2 x_1.1 x_1.2 ∧ S.len x_1.1 < S.len x.1) ∧ (S.inSpn (bif bif decide ((0 : Int) < (↑(List.length S.noInts) : Int)) then bif decide ((↑(List.length x.1) : Int) = (0 : Int)) then true else decide (List.getD S.noInts ((0 : Int).toNat) (0 : Int) ≤ List.getD x.1 ((0 : Int).toNat) (0 : Int)) else false then List.getD S.noInts ((0 : Int).toNat) (0 : Int) else bif bif decide ((0 : Int) < (↑(List.length x.1) : Int)) then bif decide ((↑(List.length S.noInts) : Int) = (0 : Int)) then true else decide (List.getD x.1 ((0 : Int).toNat) (0 : Int) ≤ List.getD S.noInts ((0 : Int).toNat) (0 : Int)) else false then List.getD x.1 ((0 : Int).toNat) (0 : Int) else (0 : Int)) s1 s2 = false → ∃ (x_1 : List Int × List Int), ((bif bif decide ((0 : Int) < (↑(List.length x.1) : Int)) then bif decide ((↑(List.length S.noInts) : Int) = (0 : Int)) then true else decide (List.getD x.1 ((0 : Int).toNat) (0 : Int) ≤ List.getD S.noInts ((0 : Int).toNat) (0 : Int)) else false then List.drop ((1 : Int).toNat) x.1 else x.1) = x_1.1 ∧ (bif bif decide ((0 : Int) < (↑(List.length S.noInts) : Int)) then bif decide ((↑(List.length x.1) : Int) = (0 : Int)) then true else decide (List.getD S.noInts ((0 : Int).toNat) (0 : Int) ≤ List.getD x.1 ((0 : Int).toNat) (0 : Int)) else false then List.drop ((1 : Int).toNat) S.noInts else S.noInts) = S.noInts ∧ x.2 = x_1.2 ∧ s1 = s1 ∧ s2 = s2) ∧ S.pickInv a s1 s2 x_1.1 x_1.2 ∧ S.len x_1.1 < S.len x.1)) ∧ ((bif decide ((0 : Int) < (↑(List.length x.1) : Int)) then true else decide ((0 : Int) < (↑(List.length S.noInts) : Int))) = false → s1 = s1 ∧ s2 = s2 ∧ x.2 = S.inL a s1 s2)
def V_a92 (l : List Int) (s1 : Int) (s2 : Int) : Prop :=
 List.length (Vg.nilL Int) = (0 : Nat) ∧ S.inL l s1 s2 = S.inL l s1 s2
def V_a96 (a : List Int) (b : List Int) : Prop :=
 ((!decide ((a.length : Int) = (b.length : Int))) = true → false = S.sameL a b) ∧ ((!decide ((a.length : Int) = (b.length : Int))) = false → (∃ (x : Nat), (0 : Int) = (x : Int) ∧ S.sameTo a b x) ∧ ∀ (x : Nat), S.sameTo a b x → (decide ((x : Int) < (a.length : Int)) = true → ((0 : Int) ≤ (x : Int) ∧ (x : Int) < (a.length : Int)) ∧ ((0 : Int) ≤ (x : Int) ∧ (x : Int) < (b.length : Int)) ∧ ((!decide (List.getD a ((x : Int).toNat) (0 : Int) = List.getD b ((x : Int).toNat) (0 : Int))) = true → false = S.sameL a b) ∧ ((!decide (List.getD a ((x : Int).toNat) (0 : Int) = List.getD b ((x : Int).toNat) (0 : Int))) = false → ((-9223372036854775808 : Int) ≤ (x : Int) + (1 : Int) ∧ (x : Int) + (1 : Int) ≤ (9223372036854775807 : Int)) ∧ ∃ (x_1 : Nat), (x : Int) + (1 : Int) = (x_1 : Int) ∧ S.sameTo a b x_1 ∧ S.meas (S.len a) x_1 < S.meas (S.len a) x)) ∧ (decide ((x : Int) < (a.length : Int)) = false → true = S.sameL a b))
def V_a98 (d : List (List UInt8 × List Int)) : Prop :=
 (∃ (x : Nat), (0 : Int) = (x : Int) ∧ S.dInv d x) ∧ ∀ (x : Nat), S.dInv d x → (decide ((x : Int) < (d.length : Int)) = true → ((0 : Int) ≤ (x : Int) ∧ (x : Int) < (d.length : Int)) ∧ ((decide ((0 : Int) < (x : Int)) = true → ((-9223372036854775808 : Int) ≤ (x : Int) - (1 : Int) ∧ (x : Int) - (1 : Int) ≤ (9223372036854775807 : Int)) ∧ (0 : Int) ≤ (x : Int) - (1 : Int) ∧ (x : Int) - (1 : Int) < (d.length : Int)) ∧ (decide ((0 : Int) < (x : Int)) = false → True)) ∧ ((bif decide ((0 : Int) < (x : Int)) then Op.bytesLess ((List.getD d ((x : Int).toNat) ([], [])).1) ((List.getD d (Int.toNat ((x : Int) - (1 : Int))) ([], [])).1) || decide ((List.getD d ((x : Int).toNat) ([], [])).1 = (List.getD d (Int.toNat ((x : Int) - (1 : Int))) ([], [])).1) else false) = true → false = S.dRight d) ∧ ((bif decide ((0 : Int) < (x : Int)) then Op.bytesLess ((List.getD d ((x : Int).toNat) ([], [])).1) ((List.getD d (Int.toNat ((x : Int) - (1 : Int))) ([], [])).1) || decide ((List.getD d ((x : Int).toNat) ([], [])).1 = (List.getD d (Int.toNat ((x : Int) - (1 : Int))) ([], [])).1) else false) = false → ((decide ((↑(List.length ((List.getD d ((x : Int).toNat) ([], [])).2)) : Int) = (0 : Int)) = true → True) ∧ (decide ((↑(List.length ((List.getD d ((x : Int).toNat) ([], [])).2)) : Int) = (0 : Int)) = false → True ∧ ((!S.postR ((List.getD d ((x : Int).toNat) ([], [])).2)) = true → True) ∧ ((!S.postR ((List.getD d ((x : Int).toNat) ([], [])).2)) = false → S.small ((List.getD d ((x : Int).toNat) ([], [])).1)))) ∧ ((bif decide ((↑(List.length ((List.getD d ((x : Int).toNat) ([], [])).2)) : Int) = (0 : Int)) then true else bif !S.postR ((List.getD d ((x : Int).toNat) ([], [])).2) then true else !S.isTerm ((List.getD d ((x : Int).toNat) ([], [])).1)) = true → false = S.dRight d) ∧ ((bif decide ((↑(List.length ((List.getD d ((x : Int).toNat) ([], [])).2)) : Int) = (0 : Int)) then true else bif !S.postR ((List.getD d ((x : Int).toNat) ([], [])).2) then true else !S.isTerm ((List.getD d ((x : Int).toNat) ([], [])).1)) = false → ((-9223372036854775808 : Int) ≤ (x : Int) + (1 : Int) ∧ (x : Int) + (1 : Int) ≤ (9223372036854775807 : Int)) ∧ ∃ (x_1 : Nat), (x : Int) + (1 : Int) = (x_1 : Int) ∧ S.dInv d x_1 ∧ S.meas (S.len d) x_1 < S.meas (S.len d) x))) ∧ (decide ((x : Int) < (d.length : Int)) = false → true = S.dRight d)
def V_a99 (l1 : List UInt8) (l2 : List UInt8) (l3 : List UInt8) : Prop :=
 ((bif decide ((64 : Int) < (l1.length : Int)) then true else bif decide ((64 : Int) < (l2.length : Int)) then true else !decide ((l3.length : Int) = (32 : Int))) = true → [] = S.linkW l1 l2 l3 ∧ (1 : Int) = S.linkE l1 l2 l3) ∧ ((bif decide ((64 : Int) < (l1.length : Int)) then true else bif decide ((64 : Int) < (l2.length : Int)) then true else !decide ((l3.length : Int) = (32 : Int))) = false → S.textPre (Vg.nilL UInt8) l1 ∧ S.textPre ([] ++ S.text l1) l2 ∧ List.length ([] ++ S.text l1 ++ S.text l2) + l3.length ≤ (140737488355328 : Nat) ∧ [] ++ S.text l1 ++ S.text l2 ++ l3 = S.linkW l1 l2 l3 ∧ (0 : Int) = S.linkE l1 l2 l3)
def V_a101 (d : List (List UInt8 × List Int)) : Prop :=
 S.dictPre d ∧ ((!S.dRight d) = true → (1 : Int) = S.dE d ∧ [] = S.dLinks d) ∧ ((!S.dRight d) = false → ((-9223372036854775808 : Int) ≤ (d.length : Int) + (1 : Int) ∧ (d.length : Int) + (1 : Int) ≤ (9223372036854775807 : Int)) ∧ (∃ (x : Nat), ((0 : Int) = (x : Int) ∧ [] = S.linksTo d x) ∧ x ≤ d.length + (1 : Nat)) ∧ ∀ (x : Nat), x ≤ d.length + (1 : Nat) → (decide ((x : Int) < (d.length : Int) + (1 : Int)) = true → ((decide ((0 : Int) < (x : Int)) = true → ((-9223372036854775808 : Int) ≤ (x : Int) - (1 : Int) ∧ (x : Int) - (1 : Int) ≤ (9223372036854775807 : Int)) ∧ ((0 : Int) ≤ (x : Int) - (1 : Int) ∧ (x : Int) - (1 : Int) < (d.length : Int)) ∧ ((-9223372036854775808 : Int) ≤ (x : Int) - (1 : Int) ∧ (x : Int) - (1 : Int) ≤ (9223372036854775807 : Int)) ∧ (0 : Int) ≤ (x : Int) - (1 : Int) ∧ (x : Int) - (1 : Int) < (d.length : Int)) ∧ (decide ((0 : Int) < (x : Int)) = false → True)) ∧ ((decide ((x : Int) < (d.length : Int)) = true → (0 : Int) ≤ (x : Int) ∧ (x : Int) < (d.length : Int)) ∧ (decide ((x : Int) < (d.length : Int)) = false → True)) ∧ True ∧ True ∧ List.length (S.linksTo d x) + List.length [S.linkW (bif decide ((x : Int) < (d.length : Int)) then bif decide ((0 : Int) < (x : Int)) then (List.getD d (Int.toNat ((x : Int) - (1 : Int))) ([], [])).1 else [] else bif decide ((0 : Int) < (x : Int)) then (List.getD d (Int.toNat ((x : Int) - (1 : Int))) ([], [])).1 else []) (bif decide ((x : Int) < (d.length : Int)) then (List.getD d ((x : Int).toNat) ([], [])).1 else bif decide ((0 : Int) < (x : Int)) then [] else []) (S.postD (bif decide ((0 : Int) < (x : Int)) then (List.getD d (Int.toNat ((x : Int) - (1 : Int))) ([], [])).2 else []))] ≤ (5864062014805 : Nat) ∧ ((-9223372036854775808 : Int) ≤ (x : Int) + (1 : Int) ∧ (x : Int) + (1 : Int) ≤ (9223372036854775807 : Int)) ∧ ∃ (x_1 : Nat), ((x : Int) + (1 : Int) = (x_1 : Int) ∧ S.linksTo d x ++ [S.linkW (bif decide ((x : Int) < (d.length : Int)) then bif decide ((0 : Int) < (x : Int)) then (List.getD d (Int.toNat ((x : Int) - (1 : Int))) ([], [])).1 else [] else bif decide ((0 : Int) < (x : Int)) then (List.getD d (Int.toNat ((x : Int) - (1 : Int))) ([], [])).1 else []) (bif decide ((x : Int) < (d.length : Int)) then (List.getD d ((x : Int).toNat) ([], [])).1 else bif decide ((0 : Int) < (x : Int)) then [] else []) (S.postD (bif decide ((0 : Int) < (x : Int)) then (List.getD d (Int.toNat ((x : Int) - (1 : Int))) ([], [])).2 else []))] = S.linksTo d x_1) ∧ x_1 ≤ d.length + (1 : Nat) ∧ S.meas (S.len d + (1 : Nat)) x_1 < S.meas (S.len d + (1 : Nat)) x) ∧ (decide ((x : Int) < (d.length : Int) + (1 : Int)) = false → (0 : Int) = S.dE d ∧ S.linksTo d x = S.dLinks d))
def V_a102 (d : List (List UInt8 × List Int)) : Prop :=
 S.dictPre d ∧ ((!decide (S.dE d = (0 : Int))) = true → [] = S.dRoot d ∧ S.dE d = S.dE d) ∧ ((!decide (S.dE d = (0 : Int))) = false → S.leavesPre (S.dLinks d) ∧ S.small (S.leaves (S.dLinks d)) ∧ S.rootR (S.leaves (S.dLinks d)) = S.dRoot d ∧ S.rootE (S.leaves (S.dLinks d)) = S.dE d)
def V_a103 (d : List (List UInt8 × List Int)) (t : List UInt8) : Prop :=
 S.dictPre d ∧ ((!S.dRight d) = true → (-1 : Int) = S.dFind d t ∧ false = S.dFindB d t) ∧ ((!S.dRight d) = false → (∃ (x : Nat), ((0 : Int) = (x : Int) ∧ (-1 : Int) = S.findTo d t x) ∧ x ≤ d.length) ∧ ∀ (x : Nat), x ≤ d.length → (decide ((x : Int) < (d.length : Int)) = true → ((0 : Int) ≤ (x : Int) ∧ (x : Int) < (d.length : Int)) ∧ ((-9223372036854775808 : Int) ≤ (x : Int) + (1 : Int) ∧ (x : Int) + (1 : Int) ≤ (9223372036854775807 : Int)) ∧ ∃ (x_1 : Nat), ((x : Int) + (1 : Int) = (x_1 : Int) ∧ (bif Op.bytesLess ((List.getD d ((x : Int).toNat) ([], [])).1) t || decide ((List.getD d ((x : Int).toNat) ([], [])).1 = t) then (x : Int) else S.findTo d t x) = S.findTo d t x_1) ∧ x_1 ≤ d.length ∧ S.meas (S.len d) x_1 < S.meas (S.len d) x) ∧ (decide ((x : Int) < (d.length : Int)) = false → ((decide ((0 : Int) ≤ S.findTo d t x) = true → (0 : Int) ≤ S.findTo d t x ∧ S.findTo d t x < (d.length : Int)) ∧ (decide ((0 : Int) ≤ S.findTo d t x) = false → True)) ∧ (bif decide ((0 : Int) ≤ S.findTo d t x) then S.findTo d t x else S.findTo d t x) = S.dFind d t ∧ (bif decide ((0 : Int) ≤ S.findTo d t x) then decide ((List.getD d (Int.toNat (S.findTo d t x)) ([], [])).1 = t) else false) = S.dFindB d t))
def V_a104 (d : List (List UInt8 × List Int)) (t : List UInt8) : Prop :=
 S.dictPre d ∧ ((!S.dFindB d t) = true → [] = S.dDocs d t) ∧ ((!S.dFindB d t) = false → ((0 : Int) ≤ S.dFind d t ∧ S.dFind d t < (d.length : Int)) ∧ S.small ((List.getD d (Int.toNat (S.dFind d t)) ([], [])).2) ∧ (List.getD d (Int.toNat (S.dFind d t)) ([], [])).2 = S.dDocs d t)
def V_a119 (s1 : Int) (s2 : Int) : Prop :=
 (bif decide ((0 : Int) ≤ s1) then bif decide (s1 < s2) then decide (s2 ≤ (1000 : Int)) else false else false) = S.wholeB s1 s2
def V_a120 (s1 : Int) (s2 : Int) (s3 : List (List UInt8 × List Int)) : Prop :=
 True ∧ (((!S.wholeB s1 s2) = true → True) ∧ ((!S.wholeB s1 s2) = false → S.dictPre s3)) ∧ ((bif !S.wholeB s1 s2 then true else !S.dRight s3) = true → false = S.sRight s1 s2 s3) ∧ ((bif !S.wholeB s1 s2 then true else !S.dRight s3) = false → (∃ (x : Nat), (0 : Int) = (x : Int) ∧ S.segInv s1 s2 s3 x) ∧ ∀ (x : Nat), S.segInv s1 s2 s3 x → (decide ((x : Int) < (s3.length : Int)) = true → ((0 : Int) ≤ (x : Int) ∧ (x : Int) < (s3.length : Int)) ∧ True ∧ ((!decide ((↑(List.length (S.inL ((List.getD s3 ((x : Int).toNat) ([], [])).2) s1 s2)) : Int) = (↑(List.length ((List.getD s3 ((x : Int).toNat) ([], [])).2)) : Int))) = true → false = S.sRight s1 s2 s3) ∧ ((!decide ((↑(List.length (S.inL ((List.getD s3 ((x : Int).toNat) ([], [])).2) s1 s2)) : Int) = (↑(List.length ((List.getD s3 ((x : Int).toNat) ([], [])).2)) : Int))) = false → ((-9223372036854775808 : Int) ≤ (x : Int) + (1 : Int) ∧ (x : Int) + (1 : Int) ≤ (9223372036854775807 : Int)) ∧ ∃ (x_1 : Nat), (x : Int) + (1 : Int) = (x_1 : Int) ∧ S.segInv s1 s2 s3 x_1 ∧ S.meas (S.len s3) x_1 < S.meas (S.len s3) x)) ∧ (decide ((x : Int) < (s3.length : Int)) = false → true = S.sRight s1 s2 s3))
def V_a121 (s1 : Int) (s2 : Int) (s3 : List (List UInt8 × List Int)) : Prop :=
 S.dictPre s3 ∧ ((!S.sRight s1 s2 s3) = true → (0 : Int) = ((S.sOf s1 s2 s3).1).1 ∧ (0 : Int) = (((S.sOf s1 s2 s3).1).2).1 ∧ (0 : Int) = ((((S.sOf s1 s2 s3).1).2).2).1 ∧ [] = ((((S.sOf s1 s2 s3).1).2).2).2 ∧ (1 : Int) = (S.sOf s1 s2 s3).2) ∧ ((!S.sRight s1 s2 s3) = false → S.dictPre s3 ∧ ((!decide (S.dE s3 = (0 : Int))) = true → (0 : Int) = ((S.sOf s1 s2 s3).1).1 ∧ (0 : Int) = (((S.sOf s1 s2 s3).1).2).1 ∧ (0 : Int) = ((((S.sOf s1 s2 s3).1).2).2).1 ∧ [] = ((((S.sOf s1 s2 s3).1).2).2).2 ∧ (1 : Int) = (S.sOf s1 s2 s3).2) ∧ ((!decide (S.dE s3 = (0 : Int))) = false → ((-9223372036854775808 : Int) ≤ (s3.length : Int) + (1 : Int) ∧ (s3.length : Int) + (1 : Int) ≤ (9223372036854775807 : Int)) ∧ s1 = ((S.sOf s1 s2 s3).1).1 ∧ s2 = (((S.sOf s1 s2 s3).1).2).1 ∧ (s3.length : Int) + (1 : Int) = ((((S.sOf s1 s2 s3).1).2).2).1 ∧ S.dRoot s3 = ((((S.sOf s1 s2 s3).1).2).2).2 ∧ (0 : Int) = (S.sOf s1 s2 s3).2))
def V_a122 (s1 : Int) (s2 : Int) (s3 : Int) (s4 : List UInt8) : Prop :=
 True ∧ (bif S.wholeB s1 s2 then bif decide ((1 : Int) ≤ s3) then bif decide (s3 ≤ (1099511627776 : Int)) then decide ((s4.length : Int) = (32 : Int)) else false else false else false) = S.sGood s1 s2 s3 s4
def V_a123 (docs : List (List UInt8)) (s1 : Int) (s2 : Int) : Prop :=
 True ∧ ((!decide ((S.dMake docs s1 s2).2 = (0 : Int))) = true → (0 : Int) = ((S.sBuild docs s1 s2).1).1 ∧ (0 : Int) = (((S.sBuild docs s1 s2).1).2).1 ∧ [] = (((S.sBuild docs s1 s2).1).2).2 ∧ (S.dMake docs s1 s2).2 = (S.sBuild docs s1 s2).2) ∧ ((!decide ((S.dMake docs s1 s2).2 = (0 : Int))) = false → (decide (s1 = s2) = true → (0 : Int) = ((S.sBuild docs s1 s2).1).1 ∧ (0 : Int) = (((S.sBuild docs s1 s2).1).2).1 ∧ [] = (((S.sBuild docs s1 s2).1).2).2 ∧ (1 : Int) = (S.sBuild docs s1 s2).2) ∧ (decide (s1 = s2) = false → s1 = ((S.sBuild docs s1 s2).1).1 ∧ s2 = (((S.sBuild docs s1 s2).1).2).1 ∧ (S.dMake docs s1 s2).1 = (((S.sBuild docs s1 s2).1).2).2 ∧ (0 : Int) = (S.sBuild docs s1 s2).2))
def V_a124 (l : List (Int × Int × Int × List UInt8)) (n : Int) : Prop :=
 (decide ((64 : Int) < (l.length : Int)) = true → false = S.rRow l n) ∧ (decide ((64 : Int) < (l.length : Int)) = false → (∃ (x : Nat), ((0 : Int) = (x : Int) ∧ (0 : Int) = S.rowAt l x) ∧ S.rowC l x) ∧ ∀ (x : Nat), S.rowC l x → (decide ((x : Int) < (l.length : Int)) = true → ((0 : Int) ≤ (x : Int) ∧ (x : Int) < (l.length : Int)) ∧ (((!Bool.rec false (Bool.rec false (decide ((((List.getD l ((x : Int).toNat) ((0 : Int), (0 : Int), (0 : Int), [])).2).2).2 = (((List.getD l ((x : Int).toNat) ((0 : Int), (0 : Int), (0 : Int), [])).2).2).2)) (decide ((((List.getD l ((x : Int).toNat) ((0 : Int), (0 : Int), (0 : Int), [])).2).2).1 = (((List.getD l ((x : Int).toNat) ((0 : Int), (0 : Int), (0 : Int), [])).2).2).1))) (Bool.rec false (decide (((List.getD l ((x : Int).toNat) ((0 : Int), (0 : Int), (0 : Int), [])).2).1 = ((List.getD l ((x : Int).toNat) ((0 : Int), (0 : Int), (0 : Int), [])).2).1)) (decide ((List.getD l ((x : Int).toNat) ((0 : Int), (0 : Int), (0 : Int), [])).1 = S.rowAt l x)))) = true → True) ∧ ((!Bool.rec false (Bool.rec false (decide ((((List.getD l ((x : Int).toNat) ((0 : Int), (0 : Int), (0 : Int), [])).2).2).2 = (((List.getD l ((x : Int).toNat) ((0 : Int), (0 : Int), (0 : Int), [])).2).2).2)) (decide ((((List.getD l ((x : Int).toNat) ((0 : Int), (0 : Int), (0 : Int), [])).2).2).1 = (((List.getD l ((x : Int).toNat) ((0 : Int), (0 : Int), (0 : Int), [])).2).2).1))) (Bool.rec false (decide (((List.getD l ((x : Int).toNat) ((0 : Int), (0 : Int), (0 : Int), [])).2).1 = ((List.getD l ((x : Int).toNat) ((0 : Int), (0 : Int), (0 : Int), [])).2).1)) (decide ((List.getD l ((x : Int).toNat) ((0 : Int), (0 : Int), (0 : Int), [])).1 = S.rowAt l x)))) = false → True)) ∧ ((bif !Bool.rec false (Bool.rec false (decide ((((List.getD l ((x : Int).toNat) ((0 : Int), (0 : Int), (0 : Int), [])).2).2).2 = (((List.getD l ((x : Int).toNat) ((0 : Int), (0 : Int), (0 : Int), [])).2).2).2)) (decide ((((List.getD l ((x : Int).toNat) ((0 : Int), (0 : Int), (0 : Int), [])).2).2).1 = (((List.getD l ((x : Int).toNat) ((0 : Int), (0 : Int), (0 : Int), [])).2).2).1))) (Bool.rec false (decide (((List.getD l ((x : Int).toNat) ((0 : Int), (0 : Int), (0 : Int), [])).2).1 = ((List.getD l ((x : Int).toNat) ((0 : Int), (0 : Int), (0 : Int), [])).2).1)) (decide ((List.getD l ((x : Int).toNat) ((0 : Int), (0 : Int), (0 : Int), [])).1 = S.rowAt l x))) then true else !S.sGood ((List.getD l ((x : Int).toNat) ((0 : Int), (0 : Int), (0 : Int), [])).1) (((List.getD l ((x : Int).toNat) ((0 : Int), (0 : Int), (0 : Int), [])).2).1) ((((List.getD l ((x : Int).toNat) ((0 : Int), (0 : Int), (0 : Int), [])).2).2).1) ((((List.getD l ((x : Int).toNat) ((0 : Int), (0 : Int), (0 : Int), [])).2).2).2)) = true → false = S.rRow l n) ∧ ((bif !Bool.rec false (Bool.rec false (decide ((((List.getD l ((x : Int).toNat) ((0 : Int), (0 : Int), (0 : Int), [])).2).2).2 = (((List.getD l ((x : Int).toNat) ((0 : Int), (0 : Int), (0 : Int), [])).2).2).2)) (decide ((((List.getD l ((x : Int).toNat) ((0 : Int), (0 : Int), (0 : Int), [])).2).2).1 = (((List.getD l ((x : Int).toNat) ((0 : Int), (0 : Int), (0 : Int), [])).2).2).1))) (Bool.rec false (decide (((List.getD l ((x : Int).toNat) ((0 : Int), (0 : Int), (0 : Int), [])).2).1 = ((List.getD l ((x : Int).toNat) ((0 : Int), (0 : Int), (0 : Int), [])).2).1)) (decide ((List.getD l ((x : Int).toNat) ((0 : Int), (0 : Int), (0 : Int), [])).1 = S.rowAt l x))) then true else !S.sGood ((List.getD l ((x : Int).toNat) ((0 : Int), (0 : Int), (0 : Int), [])).1) (((List.getD l ((x : Int).toNat) ((0 : Int), (0 : Int), (0 : Int), [])).2).1) ((((List.getD l ((x : Int).toNat) ((0 : Int), (0 : Int), (0 : Int), [])).2).2).1) ((((List.getD l ((x : Int).toNat) ((0 : Int), (0 : Int), (0 : Int), [])).2).2).2)) = false → ((-9223372036854775808 : Int) ≤ (x : Int) + (1 : Int) ∧ (x : Int) + (1 : Int) ≤ (9223372036854775807 : Int)) ∧ ∃ (x_1 : Nat), ((x : Int) + (1 : Int) = (x_1 : Int) ∧ ((List.getD l ((x : Int).toNat) ((0 : Int), (0 : Int), (0 : Int), [])).2).1 = S.rowAt l x_1) ∧ S.rowC l x_1 ∧ S.meas (S.len l) x_1 < S.meas (S.len l) x)) ∧ (decide ((x : Int) < (l.length : Int)) = false → decide (S.rowAt l x = n) = S.rRow l n))
def V_a125 (s1 : Int) (s2 : Int) : Prop :=
 (bif decide ((0 : Int) ≤ s1) then bif decide (s1 < s2) then decide (s2 ≤ (1000 : Int)) else false else false) = S.wholeB s1 s2
def V_a130 (s1 : Int) (s2 : Int) (s3 : Int) (s4 : List UInt8) : Prop :=
 True ∧ (bif S.wholeB s1 s2 then bif decide ((0 : Int) < s3) then bif decide (s3 ≤ (1099511627776 : Int)) then decide ((s4.length : Int) = (32 : Int)) else false else false else false) = S.sGood s1 s2 s3 s4
def V_a131 (l : List (Int × Int × Int × List UInt8)) (n : Int) : Prop :=
 (decide ((l.length : Int) = (0 : Int)) = true → decide (n = (0 : Int)) = S.rRow l n) ∧ (decide ((l.length : Int) = (0 : Int)) = false → (∃ (x : Nat), (0 : Int) = (x : Int) ∧ S.rowInv l x) ∧ ∀ (x : Nat), S.rowInv l x → (decide ((x : Int) < (l.length : Int)) = true → ((0 : Int) ≤ (x : Int) ∧ (x : Int) < (l.length : Int)) ∧ True ∧ (((!S.sGood ((List.getD l ((x : Int).toNat) ((0 : Int), (0 : Int), (0 : Int), [])).1) (((List.getD l ((x : Int).toNat) ((0 : Int), (0 : Int), (0 : Int), [])).2).1) ((((List.getD l ((x : Int).toNat) ((0 : Int), (0 : Int), (0 : Int), [])).2).2).1) ((((List.getD l ((x : Int).toNat) ((0 : Int), (0 : Int), (0 : Int), [])).2).2).2)) = true → True) ∧ ((!S.sGood ((List.getD l ((x : Int).toNat) ((0 : Int), (0 : Int), (0 : Int), [])).1) (((List.getD l ((x : Int).toNat) ((0 : Int), (0 : Int), (0 : Int), [])).2).1) ((((List.getD l ((x : Int).toNat) ((0 : Int), (0 : Int), (0 : Int), [])).2).2).1) ((((List.getD l ((x : Int).toNat) ((0 : Int), (0 : Int), (0 : Int), [])).2).2).2)) = false → (decide ((0 : Int) < (x : Int)) = true → ((0 : Int) ≤ (x : Int) ∧ (x : Int) < (l.length : Int)) ∧ ((-9223372036854775808 : Int) ≤ (x : Int) - (1 : Int) ∧ (x : Int) - (1 : Int) ≤ (9223372036854775807 : Int)) ∧ (0 : Int) ≤ (x : Int) - (1 : Int) ∧ (x : Int) - (1 : Int) < (l.length : Int)) ∧ (decide ((0 : Int) < (x : Int)) = false → True))) ∧ ((bif !S.sGood ((List.getD l ((x : Int).toNat) ((0 : Int), (0 : Int), (0 : Int), [])).1) (((List.getD l ((x : Int).toNat) ((0 : Int), (0 : Int), (0 : Int), [])).2).1) ((((List.getD l ((x : Int).toNat) ((0 : Int), (0 : Int), (0 : Int), [])).2).2).1) ((((List.getD l ((x : Int).toNat) ((0 : Int), (0 : Int), (0 : Int), [])).2).2).2) then true else bif decide ((0 : Int) < (x : Int)) then !decide ((List.getD l ((x : Int).toNat) ((0 : Int), (0 : Int), (0 : Int), [])).1 = ((List.getD l (Int.toNat ((x : Int) - (1 : Int))) ((0 : Int), (0 : Int), (0 : Int), [])).2).1) else false) = true → false = S.rRow l n) ∧ ((bif !S.sGood ((List.getD l ((x : Int).toNat) ((0 : Int), (0 : Int), (0 : Int), [])).1) (((List.getD l ((x : Int).toNat) ((0 : Int), (0 : Int), (0 : Int), [])).2).1) ((((List.getD l ((x : Int).toNat) ((0 : Int), (0 : Int), (0 : Int), [])).2).2).1) ((((List.getD l ((x : Int).toNat) ((0 : Int), (0 : Int), (0 : Int), [])).2).2).2) then true else bif decide ((0 : Int) < (x : Int)) then !decide ((List.getD l ((x : Int).toNat) ((0 : Int), (0 : Int), (0 : Int), [])).1 = ((List.getD l (Int.toNat ((x : Int) - (1 : Int))) ((0 : Int), (0 : Int), (0 : Int), [])).2).1) else false) = false → ((-9223372036854775808 : Int) ≤ (x : Int) + (1 : Int) ∧ (x : Int) + (1 : Int) ≤ (9223372036854775807 : Int)) ∧ ∃ (x_1 : Nat), (x : Int) + (1 : Int) = (x_1 : Int) ∧ S.rowInv l x_1 ∧ S.meas (S.len l) x_1 < S.meas (S.len l) x)) ∧ (decide ((x : Int) < (l.length : Int)) = false → ((decide ((l.length : Int) ≤ (64 : Int)) = true → ((0 : Int) ≤ (0 : Int) ∧ (0 : Int) < (l.length : Int)) ∧ (decide ((List.getD l ((0 : Int).toNat) ((0 : Int), (0 : Int), (0 : Int), [])).1 = (0 : Int)) = true → ((-9223372036854775808 : Int) ≤ (l.length : Int) - (1 : Int) ∧ (l.length : Int) - (1 : Int) ≤ (9223372036854775807 : Int)) ∧ (0 : Int) ≤ (l.length : Int) - (1 : Int) ∧ (l.length : Int) - (1 : Int) < (l.length : Int)) ∧ (decide ((List.getD l ((0 : Int).toNat) ((0 : Int), (0 : Int), (0 : Int), [])).1 = (0 : Int)) = false → True)) ∧ (decide ((l.length : Int) ≤ (64 : Int)) = false → True)) ∧ (bif decide ((l.length : Int) ≤ (64 : Int)) then bif decide ((List.getD l ((0 : Int).toNat) ((0 : Int), (0 : Int), (0 : Int), [])).1 = (0 : Int)) then decide (((List.getD l (Int.toNat ((l.length : Int) - (1 : Int))) ((0 : Int), (0 : Int), (0 : Int), [])).2).1 = n) else false else false) = S.rRow l n))
def V_a139 : Prop :=
 (0 : Nat) < List.length [(104 : UInt8), (97 : UInt8), (121 : UInt8)] ∧ (0 : Nat) < List.length [(119 : UInt8), (97 : UInt8), (105 : UInt8), (110 : UInt8), (32 : UInt8), (104 : UInt8), (97 : UInt8), (121 : UInt8)] ∧ True ∧ S.dictPre ((((S.sBuild S.kdocs (1 : Int) (2 : Int)).1).2).2) ∧ ((decide ((S.sBuild S.kdocs (1 : Int) (2 : Int)).2 = (0 : Int)) = true → (decide ((↑(List.length ((((S.sBuild S.kdocs (1 : Int) (2 : Int)).1).2).2)) : Int) = (2 : Int)) = true → S.dictPre ((((S.sBuild S.kdocs (1 : Int) (2 : Int)).1).2).2) ∧ True ∧ (S.sameL (S.dDocs ((((S.sBuild S.kdocs (1 : Int) (2 : Int)).1).2).2) [(104 : UInt8), (97 : UInt8), (121 : UInt8)]) [(1 : Int)] = true → (decide ((S.sOf (((S.sBuild S.kdocs (1 : Int) (2 : Int)).1).1) ((((S.sBuild S.kdocs (1 : Int) (2 : Int)).1).2).1) ((((S.sBuild S.kdocs (1 : Int) (2 : Int)).1).2).2)).2 = (0 : Int)) = true → (decide (((((S.sOf (((S.sBuild S.kdocs (1 : Int) (2 : Int)).1).1) ((((S.sBuild S.kdocs (1 : Int) (2 : Int)).1).2).1) ((((S.sBuild S.kdocs (1 : Int) (2 : Int)).1).2).2)).1).2).2).1 = (3 : Int)) = true → True ∧ (S.sGood (((S.sOf (((S.sBuild S.kdocs (1 : Int) (2 : Int)).1).1) ((((S.sBuild S.kdocs (1 : Int) (2 : Int)).1).2).1) ((((S.sBuild S.kdocs (1 : Int) (2 : Int)).1).2).2)).1).1) ((((S.sOf (((S.sBuild S.kdocs (1 : Int) (2 : Int)).1).1) ((((S.sBuild S.kdocs (1 : Int) (2 : Int)).1).2).1) ((((S.sBuild S.kdocs (1 : Int) (2 : Int)).1).2).2)).1).2).1) (((((S.sOf (((S.sBuild S.kdocs (1 : Int) (2 : Int)).1).1) ((((S.sBuild S.kdocs (1 : Int) (2 : Int)).1).2).1) ((((S.sBuild S.kdocs (1 : Int) (2 : Int)).1).2).2)).1).2).2).1) (((((S.sOf (((S.sBuild S.kdocs (1 : Int) (2 : Int)).1).1) ((((S.sBuild S.kdocs (1 : Int) (2 : Int)).1).2).1) ((((S.sBuild S.kdocs (1 : Int) (2 : Int)).1).2).2)).1).2).2).2) = true → True ∧ ((!S.rRow [(((S.sOf (((S.sBuild S.kdocs (1 : Int) (2 : Int)).1).1) ((((S.sBuild S.kdocs (1 : Int) (2 : Int)).1).2).1) ((((S.sBuild S.kdocs (1 : Int) (2 : Int)).1).2).2)).1).1, (((S.sOf (((S.sBuild S.kdocs (1 : Int) (2 : Int)).1).1) ((((S.sBuild S.kdocs (1 : Int) (2 : Int)).1).2).1) ((((S.sBuild S.kdocs (1 : Int) (2 : Int)).1).2).2)).1).2).1, ((((S.sOf (((S.sBuild S.kdocs (1 : Int) (2 : Int)).1).1) ((((S.sBuild S.kdocs (1 : Int) (2 : Int)).1).2).1) ((((S.sBuild S.kdocs (1 : Int) (2 : Int)).1).2).2)).1).2).2).1, ((((S.sOf (((S.sBuild S.kdocs (1 : Int) (2 : Int)).1).1) ((((S.sBuild S.kdocs (1 : Int) (2 : Int)).1).2).1) ((((S.sBuild S.kdocs (1 : Int) (2 : Int)).1).2).2)).1).2).2).2)] (2 : Int)) = true → True) ∧ ((!S.rRow [(((S.sOf (((S.sBuild S.kdocs (1 : Int) (2 : Int)).1).1) ((((S.sBuild S.kdocs (1 : Int) (2 : Int)).1).2).1) ((((S.sBuild S.kdocs (1 : Int) (2 : Int)).1).2).2)).1).1, (((S.sOf (((S.sBuild S.kdocs (1 : Int) (2 : Int)).1).1) ((((S.sBuild S.kdocs (1 : Int) (2 : Int)).1).2).1) ((((S.sBuild S.kdocs (1 : Int) (2 : Int)).1).2).2)).1).2).1, ((((S.sOf (((S.sBuild S.kdocs (1 : Int) (2 : Int)).1).1) ((((S.sBuild S.kdocs (1 : Int) (2 : Int)).1).2).1) ((((S.sBuild S.kdocs (1 : Int) (2 : Int)).1).2).2)).1).2).2).1, ((((S.sOf (((S.sBuild S.kdocs (1 : Int) (2 : Int)).1).1) ((((S.sBuild S.kdocs (1 : Int) (2 : Int)).1).2).1) ((((S.sBuild S.kdocs (1 : Int) (2 : Int)).1).2).2)).1).2).2).2)] (2 : Int)) = false → True)) ∧ (S.sGood (((S.sOf (((S.sBuild S.kdocs (1 : Int) (2 : Int)).1).1) ((((S.sBuild S.kdocs (1 : Int) (2 : Int)).1).2).1) ((((S.sBuild S.kdocs (1 : Int) (2 : Int)).1).2).2)).1).1) ((((S.sOf (((S.sBuild S.kdocs (1 : Int) (2 : Int)).1).1) ((((S.sBuild S.kdocs (1 : Int) (2 : Int)).1).2).1) ((((S.sBuild S.kdocs (1 : Int) (2 : Int)).1).2).2)).1).2).1) (((((S.sOf (((S.sBuild S.kdocs (1 : Int) (2 : Int)).1).1) ((((S.sBuild S.kdocs (1 : Int) (2 : Int)).1).2).1) ((((S.sBuild S.kdocs (1 : Int) (2 : Int)).1).2).2)).1).2).2).1) (((((S.sOf (((S.sBuild S.kdocs (1 : Int) (2 : Int)).1).1) ((((S.sBuild S.kdocs (1 : Int) (2 : Int)).1).2).1) ((((S.sBuild S.kdocs (1 : Int) (2 : Int)).1).2).2)).1).2).2).2) = false → True)) ∧ (decide (((((S.sOf (((S.sBuild S.kdocs (1 : Int) (2 : Int)).1).1) ((((S.sBuild S.kdocs (1 : Int) (2 : Int)).1).2).1) ((((S.sBuild S.kdocs (1 : Int) (2 : Int)).1).2).2)).1).2).2).1 = (3 : Int)) = false → True)) ∧ (decide ((S.sOf (((S.sBuild S.kdocs (1 : Int) (2 : Int)).1).1) ((((S.sBuild S.kdocs (1 : Int) (2 : Int)).1).2).1) ((((S.sBuild S.kdocs (1 : Int) (2 : Int)).1).2).2)).2 = (0 : Int)) = false → True)) ∧ (S.sameL (S.dDocs ((((S.sBuild S.kdocs (1 : Int) (2 : Int)).1).2).2) [(104 : UInt8), (97 : UInt8), (121 : UInt8)]) [(1 : Int)] = false → True)) ∧ (decide ((↑(List.length ((((S.sBuild S.kdocs (1 : Int) (2 : Int)).1).2).2)) : Int) = (2 : Int)) = false → True)) ∧ (decide ((S.sBuild S.kdocs (1 : Int) (2 : Int)).2 = (0 : Int)) = false → True)) ∧ (bif decide ((S.sBuild S.kdocs (1 : Int) (2 : Int)).2 = (0 : Int)) then bif decide ((↑(List.length ((((S.sBuild S.kdocs (1 : Int) (2 : Int)).1).2).2)) : Int) = (2 : Int)) then bif S.sameL (S.dDocs ((((S.sBuild S.kdocs (1 : Int) (2 : Int)).1).2).2) [(104 : UInt8), (97 : UInt8), (121 : UInt8)]) [(1 : Int)] then bif decide ((S.sOf (((S.sBuild S.kdocs (1 : Int) (2 : Int)).1).1) ((((S.sBuild S.kdocs (1 : Int) (2 : Int)).1).2).1) ((((S.sBuild S.kdocs (1 : Int) (2 : Int)).1).2).2)).2 = (0 : Int)) then bif decide (((((S.sOf (((S.sBuild S.kdocs (1 : Int) (2 : Int)).1).1) ((((S.sBuild S.kdocs (1 : Int) (2 : Int)).1).2).1) ((((S.sBuild S.kdocs (1 : Int) (2 : Int)).1).2).2)).1).2).2).1 = (3 : Int)) then bif S.sGood (((S.sOf (((S.sBuild S.kdocs (1 : Int) (2 : Int)).1).1) ((((S.sBuild S.kdocs (1 : Int) (2 : Int)).1).2).1) ((((S.sBuild S.kdocs (1 : Int) (2 : Int)).1).2).2)).1).1) ((((S.sOf (((S.sBuild S.kdocs (1 : Int) (2 : Int)).1).1) ((((S.sBuild S.kdocs (1 : Int) (2 : Int)).1).2).1) ((((S.sBuild S.kdocs (1 : Int) (2 : Int)).1).2).2)).1).2).1) (((((S.sOf (((S.sBuild S.kdocs (1 : Int) (2 : Int)).1).1) ((((S.sBuild S.kdocs (1 : Int) (2 : Int)).1).2).1) ((((S.sBuild S.kdocs (1 : Int) (2 : Int)).1).2).2)).1).2).2).1) (((((S.sOf (((S.sBuild S.kdocs (1 : Int) (2 : Int)).1).1) ((((S.sBuild S.kdocs (1 : Int) (2 : Int)).1).2).1) ((((S.sBuild S.kdocs (1 : Int) (2 : Int)).1).2).2)).1).2).2).2) then bif !S.rRow [(((S.sOf (((S.sBuild S.kdocs (1 : Int) (2 : Int)).1).1) ((((S.sBuild S.kdocs (1 : Int) (2 : Int)).1).2).1) ((((S.sBuild S.kdocs (1 : Int) (2 : Int)).1).2).2)).1).1, (((S.sOf (((S.sBuild S.kdocs (1 : Int) (2 : Int)).1).1) ((((S.sBuild S.kdocs (1 : Int) (2 : Int)).1).2).1) ((((S.sBuild S.kdocs (1 : Int) (2 : Int)).1).2).2)).1).2).1, ((((S.sOf (((S.sBuild S.kdocs (1 : Int) (2 : Int)).1).1) ((((S.sBuild S.kdocs (1 : Int) (2 : Int)).1).2).1) ((((S.sBuild S.kdocs (1 : Int) (2 : Int)).1).2).2)).1).2).2).1, ((((S.sOf (((S.sBuild S.kdocs (1 : Int) (2 : Int)).1).1) ((((S.sBuild S.kdocs (1 : Int) (2 : Int)).1).2).1) ((((S.sBuild S.kdocs (1 : Int) (2 : Int)).1).2).2)).1).2).2).2)] (2 : Int) then S.rRow (Vg.nilL (Int × Int × Int × List UInt8)) (0 : Int) else false else false else false else false else false else false else false) = true
def V_a141 (s1 : Int) (s2 : Int) (s3 : Int) (s4 : List UInt8) : Prop :=
 s1 = s1 ∧ s2 = s2 ∧ s3 = s3 ∧ s4 = s4
def V_a144 (l : List (Int × Int × Int × List UInt8)) (n : Int) : Prop :=
 (decide ((200 : Int) < (l.length : Int)) = true → True ∧ true = true) ∧ (decide ((200 : Int) < (l.length : Int)) = false → (∃ (x : Nat), ((0 : Int) = (x : Int) ∧ [] = List.take x l) ∧ S.srInv l x) ∧ ∀ (x : Nat), S.srInv l x → (decide ((x : Int) < (l.length : Int)) = true → ((0 : Int) ≤ (x : Int) ∧ (x : Int) < (l.length : Int)) ∧ ((decide ((200 : Int) < (↑(List.length ((((List.getD l ((x : Int).toNat) ((0 : Int), (0 : Int), (0 : Int), [])).2).2).2)) : Int)) = true → True) ∧ (decide ((200 : Int) < (↑(List.length ((((List.getD l ((x : Int).toNat) ((0 : Int), (0 : Int), (0 : Int), [])).2).2).2)) : Int)) = false → ((0 : Int) ≤ (x : Int) ∧ (x : Int) < (l.length : Int)) ∧ True ∧ ((0 : Int) ≤ (x : Int) ∧ (x : Int) < (l.length : Int)) ∧ True ∧ True)) ∧ ((bif decide ((200 : Int) < (↑(List.length ((((List.getD l ((x : Int).toNat) ((0 : Int), (0 : Int), (0 : Int), [])).2).2).2)) : Int)) then true else !S.sGood ((List.getD l ((x : Int).toNat) ((0 : Int), (0 : Int), (0 : Int), [])).1) (((List.getD l ((x : Int).toNat) ((0 : Int), (0 : Int), (0 : Int), [])).2).1) ((((List.getD l ((x : Int).toNat) ((0 : Int), (0 : Int), (0 : Int), [])).2).2).1) ((((List.getD l ((x : Int).toNat) ((0 : Int), (0 : Int), (0 : Int), [])).2).2).2) == S.sGood ((List.getD l ((x : Int).toNat) ((0 : Int), (0 : Int), (0 : Int), [])).1) (((List.getD l ((x : Int).toNat) ((0 : Int), (0 : Int), (0 : Int), [])).2).1) ((((List.getD l ((x : Int).toNat) ((0 : Int), (0 : Int), (0 : Int), [])).2).2).1) ((((List.getD l ((x : Int).toNat) ((0 : Int), (0 : Int), (0 : Int), [])).2).2).2)) = true → ((0 : Int) ≤ (x : Int) ∧ (x : Int) < (l.length : Int)) ∧ ((decide ((200 : Int) < (↑(List.length ((((List.getD l ((x : Int).toNat) ((0 : Int), (0 : Int), (0 : Int), [])).2).2).2)) : Int)) = true → True) ∧ (decide ((200 : Int) < (↑(List.length ((((List.getD l ((x : Int).toNat) ((0 : Int), (0 : Int), (0 : Int), [])).2).2).2)) : Int)) = false → True)) ∧ (bif decide ((200 : Int) < (↑(List.length ((((List.getD l ((x : Int).toNat) ((0 : Int), (0 : Int), (0 : Int), [])).2).2).2)) : Int)) then true else false) = true) ∧ ((bif decide ((200 : Int) < (↑(List.length ((((List.getD l ((x : Int).toNat) ((0 : Int), (0 : Int), (0 : Int), [])).2).2).2)) : Int)) then true else !S.sGood ((List.getD l ((x : Int).toNat) ((0 : Int), (0 : Int), (0 : Int), [])).1) (((List.getD l ((x : Int).toNat) ((0 : Int), (0 : Int), (0 : Int), [])).2).1) ((((List.getD l ((x : Int).toNat) ((0 : Int), (0 : Int), (0 : Int), [])).2).2).1) ((((List.getD l ((x : Int).toNat) ((0 : Int), (0 : Int), (0 : Int), [])).2).2).2) == S.sGood ((List.getD l ((x : Int).toNat) ((0 : Int), (0 : Int), (0 : Int), [])).1) (((List.getD l ((x : Int).toNat) ((0 : Int), (0 : Int), (0 : Int), [])).2).1) ((((List.getD l ((x : Int).toNat) ((0 : Int), (0 : Int), (0 : Int), [])).2).2).1) ((((List.getD l ((x : Int).toNat) ((0 : Int), (0 : Int), (0 : Int), [])).2).2).2)) = false → ((0 : Int) ≤ (x : Int) ∧ (x : Int) < (l.length : Int)) ∧ True ∧ List.length (List.take x l) + List.length [((List.getD l ((x : Int).toNat) ((0 : Int), (0 : Int), (0 : Int), [])).1, ((List.getD l ((x : Int).toNat) ((0 : Int), (0 : Int), (0 : Int), [])).2).1, (((List.getD l ((x : Int).toNat) ((0 : Int), (0 : Int), (0 : Int), [])).2).2).1, (((List.getD l ((x : Int).toNat) ((0 : Int), (0 : Int), (0 : Int), [])).2).2).2)] ≤ (3518437208883 : Nat) ∧ ((-9223372036854775808 : Int) ≤ (x : Int) + (1 : Int) ∧ (x : Int) + (1 : Int) ≤ (9223372036854775807 : Int)) ∧ ∃ (x_1 : Nat), ((x : Int) + (1 : Int) = (x_1 : Int) ∧ List.take x l ++ [((List.getD l ((x : Int).toNat) ((0 : Int), (0 : Int), (0 : Int), [])).1, ((List.getD l ((x : Int).toNat) ((0 : Int), (0 : Int), (0 : Int), [])).2).1, (((List.getD l ((x : Int).toNat) ((0 : Int), (0 : Int), (0 : Int), [])).2).2).1, (((List.getD l ((x : Int).toNat) ((0 : Int), (0 : Int), (0 : Int), [])).2).2).2)] = List.take x_1 l) ∧ S.srInv l x_1 ∧ S.meas (S.len l) x_1 < S.meas (S.len l) x)) ∧ (decide ((x : Int) < (l.length : Int)) = false → True ∧ True ∧ (((S.rRow l n == S.rRow (List.take x l) n) = true → True) ∧ ((S.rRow l n == S.rRow (List.take x l) n) = false → True)) ∧ (bif S.rRow l n == S.rRow (List.take x l) n then true else false) = true))
end Go
end
section
set_option linter.unusedVariables false
namespace Go
theorem df {p : Prop} [Decidable p] : decide p = false ↔ ¬p := decide_eq_false_iff_not
theorem dt {p : Prop} [Decidable p] : (decide p = true) = p := decide_eq_true_eq
theorem lc {α : Type} {a : α} {l : List α} : (a :: l).length = l.length + 1 := List.length_cons
theorem ln {α : Type} : ([] : List α).length = 0 := List.length_nil
theorem tn (n : Nat) : (n : Int).toNat = n := Int.toNat_natCast n
theorem nf {b : Bool} : ((!b) = false) = (b = true) := Bool.not_eq_false' b
theorem nt {b : Bool} : ((!b) = true) = (b = false) := Bool.not_eq_true' b
theorem H_a6 (x : Int) (k : Int) (hp : S.rotPre x k) (hf : Vg.Row.ok (Vg.PS.flat [.one (.int .u32), .one (.int .i64)]) (x, k)) : V_a6 x k := by
  unfold V_a6
  have hr_x : 0 ≤ x ∧ x ≤ 4294967295 := hf.1
  have hr_k : -9223372036854775808 ≤ k ∧ k ≤ 9223372036854775807 := hf.2.1
  clear hf
  have hb := S.rot_bd hp
  have hp2 := hp
  simp only [S.rotPre] at hp2
  refine ⟨⟨?_, ?_⟩, ⟨⟨?_, ?_⟩, ?_⟩⟩
  · omega
  · omega
  · omega
  · omega
  exact S.rot_or hp
theorem H_a7  (hp : True) (hf : Vg.Row.ok (Vg.PS.flat []) ()) : V_a7  := by
  unfold V_a7
  clear hf
  refine ⟨?_, ⟨?_, ⟨?_, ⟨?_, ⟨?_, ⟨?_, ⟨?_, ⟨?_, ?_⟩⟩⟩⟩⟩⟩⟩⟩
  · rfl
  · rfl
  · rfl
  · rfl
  · rfl
  · rfl
  · rfl
  · rfl
  rfl
theorem H_a8 (s1 : Int) (s2 : Int) (s3 : Int) (s4 : Int) (s5 : Int) (s6 : Int) (s7 : Int) (s8 : Int) (s9 : List UInt8) (s10 : Int) (hp : True) (hf : Vg.Row.ok (Vg.PS.flat [.agg [.int .u32, .int .u32, .int .u32, .int .u32, .int .u32, .int .u32, .int .u32, .int .u32, .slice [.int .u8], .int .i64]]) (s1, s2, s3, s4, s5, s6, s7, s8, s9, s10)) : V_a8 s1 s2 s3 s4 s5 s6 s7 s8 s9 s10 := by
  unfold V_a8
  have hr_s1 : 0 ≤ s1 ∧ s1 ≤ 4294967295 := hf.1
  have hr_s2 : 0 ≤ s2 ∧ s2 ≤ 4294967295 := hf.2.1
  have hr_s3 : 0 ≤ s3 ∧ s3 ≤ 4294967295 := hf.2.2.1
  have hr_s4 : 0 ≤ s4 ∧ s4 ≤ 4294967295 := hf.2.2.2.1
  have hr_s5 : 0 ≤ s5 ∧ s5 ≤ 4294967295 := hf.2.2.2.2.1
  have hr_s6 : 0 ≤ s6 ∧ s6 ≤ 4294967295 := hf.2.2.2.2.2.1
  have hr_s7 : 0 ≤ s7 ∧ s7 ≤ 4294967295 := hf.2.2.2.2.2.2.1
  have hr_s8 : 0 ≤ s8 ∧ s8 ≤ 4294967295 := hf.2.2.2.2.2.2.2.1
  have hr_s9 : s9.length ≤ 9223372036854775807 := hf.2.2.2.2.2.2.2.2.1.1
  have hr_s10 : -9223372036854775808 ≤ s10 ∧ s10 ≤ 9223372036854775807 := hf.2.2.2.2.2.2.2.2.2.1
  clear hf
  refine ⟨⟨?_, ?_⟩, ?_⟩
  · intro h1
    try simp only [dt] at h1
    refine ⟨?_, ?_⟩
    · intro h2
      try simp only [dt] at h2
      refine ⟨?_, ?_⟩
      · omega
      omega
    intro h3
    try simp only [df] at h3
    trivial
  · intro h4
    try simp only [df] at h4
    trivial
  simp only [S.stValid]; grind
theorem H_a9 (u1 : Int) (u2 : Int) (u3 : Int) (u4 : Int) (u5 : Int) (u6 : Int) (u7 : Int) (u8 : Int) (p : List UInt8) (hp : S.blkPre (u1, u2, u3, u4, u5, u6, u7, u8) p) (hf : Vg.Row.ok (Vg.PS.flat [.agg [.int .u32, .int .u32, .int .u32, .int .u32, .int .u32, .int .u32, .int .u32, .int .u32], .one (.slice [.int .u8])]) (u1, u2, u3, u4, u5, u6, u7, u8, p)) : V_a9 u1 u2 u3 u4 u5 u6 u7 u8 p := by
  unfold V_a9
  have hr_u1 : 0 ≤ u1 ∧ u1 ≤ 4294967295 := hf.1
  have hr_u2 : 0 ≤ u2 ∧ u2 ≤ 4294967295 := hf.2.1
  have hr_u3 : 0 ≤ u3 ∧ u3 ≤ 4294967295 := hf.2.2.1
  have hr_u4 : 0 ≤ u4 ∧ u4 ≤ 4294967295 := hf.2.2.2.1
  have hr_u5 : 0 ≤ u5 ∧ u5 ≤ 4294967295 := hf.2.2.2.2.1
  have hr_u6 : 0 ≤ u6 ∧ u6 ≤ 4294967295 := hf.2.2.2.2.2.1
  have hr_u7 : 0 ≤ u7 ∧ u7 ≤ 4294967295 := hf.2.2.2.2.2.2.1
  have hr_u8 : 0 ≤ u8 ∧ u8 ≤ 4294967295 := hf.2.2.2.2.2.2.2.1
  have hr_p : p.length ≤ 9223372036854775807 := hf.2.2.2.2.2.2.2.2.1.1
  clear hf
  obtain ⟨hp1, hp2⟩ := hp
  refine ⟨?_, ?_⟩
  · refine ⟨(nat_lit 0 : Nat), ?_⟩
    try dsimp only
    refine ⟨⟨?_, ?_⟩, ?_⟩
    · omega
    · rfl
    simp only [S.leN, S.meas] at *; omega
  intro x1
  intro h2
  refine ⟨?_, ?_⟩
  · intro h3
    try simp only [dt] at h3
    refine ⟨⟨?_, ?_⟩, ⟨⟨?_, ?_⟩, ⟨⟨?_, ?_⟩, ⟨⟨?_, ?_⟩, ⟨⟨?_, ?_⟩, ⟨⟨?_, ?_⟩, ⟨⟨?_, ?_⟩, ⟨⟨?_, ?_⟩, ⟨⟨?_, ?_⟩, ⟨⟨?_, ?_⟩, ⟨⟨?_, ?_⟩, ⟨⟨?_, ?_⟩, ⟨⟨?_, ?_⟩, ⟨⟨?_, ?_⟩, ⟨⟨?_, ?_⟩, ⟨?_, ⟨⟨?_, ?_⟩, ?_⟩⟩⟩⟩⟩⟩⟩⟩⟩⟩⟩⟩⟩⟩⟩⟩⟩
    · omega
    · omega
    · omega
    · omega
    · omega
    · omega
    · omega
    · omega
    · omega
    · omega
    · omega
    · omega
    · omega
    · omega
    · omega
    · omega
    · omega
    · omega
    · omega
    · omega
    · omega
    · omega
    · omega
    · omega
    · omega
    · omega
    · omega
    · omega
    · omega
    · omega
    · rw [S.arr_len _ _ (by omega)]; omega
    · omega
    · omega
    refine ⟨(x1 + nat_lit 1), ?_⟩
    try dsimp only
    refine ⟨⟨?_, ?_⟩, ⟨?_, ?_⟩⟩
    · omega
    · exact S.arr_lo _ _ (by omega)
    · simp only [S.leN, S.meas] at *; omega
    simp only [S.leN, S.meas] at *; omega
  intro h4
  try simp only [df] at h4
  refine ⟨?_, ?_⟩
  · refine ⟨(nat_lit 16 : Nat), ?_⟩
    try dsimp only
    refine ⟨⟨?_, ?_⟩, ⟨?_, ?_⟩⟩
    · omega
    · simp only [S.leN] at h2
      rw [show x1 = 16 by omega]
    · omega
    omega
  intro x5
  intro h6
  refine ⟨?_, ?_⟩
  · intro h7
    try simp only [dt] at h7
    refine ⟨⟨?_, ?_⟩, ⟨⟨?_, ?_⟩, ⟨?_, ⟨⟨?_, ?_⟩, ⟨⟨?_, ?_⟩, ⟨?_, ⟨?_, ⟨?_, ⟨⟨?_, ?_⟩, ⟨?_, ⟨?_, ⟨⟨?_, ?_⟩, ⟨⟨?_, ?_⟩, ⟨⟨?_, ?_⟩, ⟨?_, ⟨⟨?_, ?_⟩, ⟨⟨?_, ?_⟩, ⟨?_, ⟨⟨?_, ?_⟩, ⟨?_, ⟨⟨?_, ?_⟩, ?_⟩⟩⟩⟩⟩⟩⟩⟩⟩⟩⟩⟩⟩⟩⟩⟩⟩⟩⟩⟩⟩
    · omega
    · omega
    · omega
    · omega
    · rw [S.arr_len _ _ (by omega)]; omega
    · omega
    · omega
    · omega
    · omega
    · rw [S.arr_len _ _ (by omega)]; omega
    · with_reducible exact S.arr_rot _ _ _ _ (by omega)
    · with_reducible exact S.arr_rot _ _ _ _ (by omega)
    · omega
    · omega
    · with_reducible exact S.arr_rot _ _ _ _ (by omega)
    · with_reducible exact S.arr_rot _ _ _ _ (by omega)
    · omega
    · omega
    · omega
    · omega
    · omega
    · omega
    · rw [S.arr_len _ _ (by omega)]; omega
    · omega
    · omega
    · omega
    · omega
    · rw [S.arr_len _ _ (by omega)]; omega
    · omega
    · omega
    · rw [S.arr_len _ _ (by omega)]; omega
    · omega
    · omega
    refine ⟨(x5 + nat_lit 1), ?_⟩
    try dsimp only
    refine ⟨⟨?_, ?_⟩, ⟨⟨?_, ?_⟩, ?_⟩⟩
    · omega
    · exact S.arr_hi _ _ (by omega) (by omega)
    · omega
    · omega
    simp only [S.leN, S.meas] at *; omega
  intro h8
  try simp only [df] at h8
  refine ⟨⟨?_, ?_⟩, ⟨⟨?_, ?_⟩, ⟨⟨?_, ?_⟩, ⟨⟨?_, ?_⟩, ⟨⟨?_, ?_⟩, ⟨⟨?_, ?_⟩, ⟨⟨?_, ?_⟩, ⟨⟨?_, ?_⟩, ⟨?_, ?_⟩⟩⟩⟩⟩⟩⟩⟩⟩
  · omega
  · omega
  · omega
  · omega
  · omega
  · omega
  · omega
  · omega
  · omega
  · omega
  · omega
  · omega
  · omega
  · omega
  · omega
  · omega
  · refine ⟨(nat_lit 0 : Nat), ?_⟩
    try dsimp only
    refine ⟨⟨?_, ⟨?_, ⟨?_, ⟨?_, ⟨?_, ⟨?_, ⟨?_, ⟨?_, ?_⟩⟩⟩⟩⟩⟩⟩⟩, ?_⟩
    · omega
    · rfl
    · rfl
    · rfl
    · rfl
    · rfl
    · rfl
    · rfl
    · rfl
    simp only [S.leN, S.meas] at *; omega
  intro x9
  intro h10
  refine ⟨?_, ?_⟩
  · intro h11
    try simp only [dt] at h11
    refine ⟨?_, ⟨?_, ⟨?_, ⟨?_, ⟨⟨?_, ?_⟩, ⟨⟨?_, ?_⟩, ⟨?_, ⟨?_, ⟨?_, ⟨?_, ⟨⟨?_, ?_⟩, ?_⟩⟩⟩⟩⟩⟩⟩⟩⟩⟩⟩
    · with_reducible exact S.ok8_e (S.rnds_ok _ _ hp1 _) _ (by omega)
    · with_reducible exact S.ok8_e (S.rnds_ok _ _ hp1 _) _ (by omega)
    · with_reducible exact S.ok8_e (S.rnds_ok _ _ hp1 _) _ (by omega)
    · with_reducible exact S.K256_len
    · omega
    · rw [← S.K256_len]; simp only [S.leN] at *; omega
    · omega
    · omega
    · rw [S.arr_len _ _ (by omega)]; omega
    · with_reducible exact S.ok8_a (S.rnds_ok _ _ hp1 _) _ (by omega)
    · with_reducible exact S.ok8_a (S.rnds_ok _ _ hp1 _) _ (by omega)
    · with_reducible exact S.ok8_a (S.rnds_ok _ _ hp1 _) _ (by omega)
    · omega
    · omega
    refine ⟨(x9 + nat_lit 1), ?_⟩
    try dsimp only
    refine ⟨⟨?_, ⟨?_, ⟨?_, ⟨?_, ⟨?_, ⟨?_, ⟨?_, ⟨?_, ?_⟩⟩⟩⟩⟩⟩⟩⟩, ⟨?_, ?_⟩⟩
    · omega
    · rw [show x5 = 64 by omega, S.arr_64]
      simp only [S.rnds, tn, Nat.zero_add, Nat.mul_one]
      rfl
    · rfl
    · rfl
    · rfl
    · rw [show x5 = 64 by omega, S.arr_64]
      simp only [S.rnds, tn, Nat.zero_add, Nat.mul_one]
      rfl
    · rfl
    · rfl
    · rfl
    · simp only [S.leN, S.meas] at *; omega
    simp only [S.leN, S.meas] at *; omega
  intro h12
  try simp only [df] at h12
  refine ⟨⟨?_, ?_⟩, ⟨⟨?_, ?_⟩, ⟨⟨?_, ?_⟩, ⟨⟨?_, ?_⟩, ⟨⟨?_, ?_⟩, ⟨⟨?_, ?_⟩, ⟨⟨?_, ?_⟩, ⟨⟨?_, ?_⟩, ⟨?_, ⟨?_, ⟨?_, ⟨?_, ⟨?_, ⟨?_, ⟨?_, ?_⟩⟩⟩⟩⟩⟩⟩⟩⟩⟩⟩⟩⟩⟩⟩
  · omega
  · omega
  · omega
  · omega
  · omega
  · omega
  · omega
  · omega
  · omega
  · omega
  · omega
  · omega
  · omega
  · omega
  · omega
  · omega
  · simp only [S.leN] at h10
    rw [show x9 = 64 by omega]
    simp only [S.block, S.add8]
  · simp only [S.leN] at h10
    rw [show x9 = 64 by omega]
    simp only [S.block, S.add8]
  · simp only [S.leN] at h10
    rw [show x9 = 64 by omega]
    simp only [S.block, S.add8]
  · simp only [S.leN] at h10
    rw [show x9 = 64 by omega]
    simp only [S.block, S.add8]
  · simp only [S.leN] at h10
    rw [show x9 = 64 by omega]
    simp only [S.block, S.add8]
  · simp only [S.leN] at h10
    rw [show x9 = 64 by omega]
    simp only [S.block, S.add8]
  · simp only [S.leN] at h10
    rw [show x9 = 64 by omega]
    simp only [S.block, S.add8]
  simp only [S.leN] at h10
  rw [show x9 = 64 by omega]
  simp only [S.block, S.add8]
theorem H_a10 (u1 : Int) (u2 : Int) (u3 : Int) (u4 : Int) (u5 : Int) (u6 : Int) (u7 : Int) (u8 : Int) (b : List UInt8) (hp : S.ok8 (u1, u2, u3, u4, u5, u6, u7, u8)) (hf : Vg.Row.ok (Vg.PS.flat [.agg [.int .u32, .int .u32, .int .u32, .int .u32, .int .u32, .int .u32, .int .u32, .int .u32], .one (.slice [.int .u8])]) (u1, u2, u3, u4, u5, u6, u7, u8, b)) : V_a10 u1 u2 u3 u4 u5 u6 u7 u8 b := by
  unfold V_a10
  have hr_u1 : 0 ≤ u1 ∧ u1 ≤ 4294967295 := hf.1
  have hr_u2 : 0 ≤ u2 ∧ u2 ≤ 4294967295 := hf.2.1
  have hr_u3 : 0 ≤ u3 ∧ u3 ≤ 4294967295 := hf.2.2.1
  have hr_u4 : 0 ≤ u4 ∧ u4 ≤ 4294967295 := hf.2.2.2.1
  have hr_u5 : 0 ≤ u5 ∧ u5 ≤ 4294967295 := hf.2.2.2.2.1
  have hr_u6 : 0 ≤ u6 ∧ u6 ≤ 4294967295 := hf.2.2.2.2.2.1
  have hr_u7 : 0 ≤ u7 ∧ u7 ≤ 4294967295 := hf.2.2.2.2.2.2.1
  have hr_u8 : 0 ≤ u8 ∧ u8 ≤ 4294967295 := hf.2.2.2.2.2.2.2.1
  have hr_b : b.length ≤ 9223372036854775807 := hf.2.2.2.2.2.2.2.2.1.1
  clear hf
  refine ⟨?_, ?_⟩
  · refine ⟨0, ?_⟩
    try dsimp only
    refine ⟨⟨?_, ⟨?_, ⟨?_, ⟨?_, ⟨?_, ⟨?_, ⟨?_, ⟨?_, ?_⟩⟩⟩⟩⟩⟩⟩⟩, ?_⟩
    · simp only [S.dropBlk, List.drop_drop]; congr 1
    · rfl
    · rfl
    · rfl
    · rfl
    · rfl
    · rfl
    · rfl
    · rfl
    omega
  intro x1
  intro h2
  refine ⟨?_, ?_⟩
  · intro h3
    try simp only [dt] at h3
    refine ⟨⟨?_, ?_⟩, ⟨?_, ⟨⟨?_, ?_⟩, ?_⟩⟩⟩
    · omega
    · omega
    · exact ⟨S.proc_ok _ _ hp _, by simp only [S.dropBlk, List.length_take, List.length_drop] at *; omega⟩
    · omega
    · omega
    refine ⟨(x1 + 1), ?_⟩
    try dsimp only
    refine ⟨⟨?_, ⟨?_, ⟨?_, ⟨?_, ⟨?_, ⟨?_, ⟨?_, ⟨?_, ?_⟩⟩⟩⟩⟩⟩⟩⟩, ⟨?_, ?_⟩⟩
    · simp only [S.dropBlk, List.drop_drop]; congr 1
    · simp only [S.proc_V]
    · simp only [S.proc_V]
    · simp only [S.proc_V]
    · simp only [S.proc_V]
    · simp only [S.proc_V]
    · simp only [S.proc_V]
    · simp only [S.proc_V]
    · simp only [S.proc_V]
    · simp only [S.dropBlk, List.length_drop, S.meas, S.blocks] at *; omega
    simp only [S.dropBlk, List.length_drop, S.meas, S.blocks] at *; omega
  intro h4
  try simp only [df] at h4
  refine ⟨?_, ⟨?_, ⟨?_, ⟨?_, ⟨?_, ⟨?_, ⟨?_, ⟨?_, ?_⟩⟩⟩⟩⟩⟩⟩⟩
  · rw [show x1 = S.blocks b by (simp only [S.dropBlk, List.length_drop, S.blocks] at *; omega)]
    rfl
  · rw [show x1 = S.blocks b by (simp only [S.dropBlk, List.length_drop, S.blocks] at *; omega)]
    rfl
  · rw [show x1 = S.blocks b by (simp only [S.dropBlk, List.length_drop, S.blocks] at *; omega)]
    rfl
  · rw [show x1 = S.blocks b by (simp only [S.dropBlk, List.length_drop, S.blocks] at *; omega)]
    rfl
  · rw [show x1 = S.blocks b by (simp only [S.dropBlk, List.length_drop, S.blocks] at *; omega)]
    rfl
  · rw [show x1 = S.blocks b by (simp only [S.dropBlk, List.length_drop, S.blocks] at *; omega)]
    rfl
  · rw [show x1 = S.blocks b by (simp only [S.dropBlk, List.length_drop, S.blocks] at *; omega)]
    rfl
  · rw [show x1 = S.blocks b by (simp only [S.dropBlk, List.length_drop, S.blocks] at *; omega)]
    rfl
  rw [show x1 = S.blocks b by (simp only [S.dropBlk, List.length_drop, S.blocks] at *; omega)]
  rfl
theorem H_a11 (s1 : Int) (s2 : Int) (s3 : Int) (s4 : Int) (s5 : Int) (s6 : Int) (s7 : Int) (s8 : Int) (s9 : List UInt8) (s10 : Int) (b : List UInt8) (hp : S.addPre (s1, s2, s3, s4, s5, s6, s7, s8) s9 s10 b) (hf : Vg.Row.ok (Vg.PS.flat [.agg [.int .u32, .int .u32, .int .u32, .int .u32, .int .u32, .int .u32, .int .u32, .int .u32, .slice [.int .u8], .int .i64], .one (.slice [.int .u8])]) (s1, s2, s3, s4, s5, s6, s7, s8, s9, s10, b)) : V_a11 s1 s2 s3 s4 s5 s6 s7 s8 s9 s10 b := by
  unfold V_a11
  have hr_s1 : 0 ≤ s1 ∧ s1 ≤ 4294967295 := hf.1
  have hr_s2 : 0 ≤ s2 ∧ s2 ≤ 4294967295 := hf.2.1
  have hr_s3 : 0 ≤ s3 ∧ s3 ≤ 4294967295 := hf.2.2.1
  have hr_s4 : 0 ≤ s4 ∧ s4 ≤ 4294967295 := hf.2.2.2.1
  have hr_s5 : 0 ≤ s5 ∧ s5 ≤ 4294967295 := hf.2.2.2.2.1
  have hr_s6 : 0 ≤ s6 ∧ s6 ≤ 4294967295 := hf.2.2.2.2.2.1
  have hr_s7 : 0 ≤ s7 ∧ s7 ≤ 4294967295 := hf.2.2.2.2.2.2.1
  have hr_s8 : 0 ≤ s8 ∧ s8 ≤ 4294967295 := hf.2.2.2.2.2.2.2.1
  have hr_s9 : s9.length ≤ 9223372036854775807 := hf.2.2.2.2.2.2.2.2.1.1
  have hr_s10 : -9223372036854775808 ≤ s10 ∧ s10 ≤ 9223372036854775807 := hf.2.2.2.2.2.2.2.2.2.1
  have hr_b : b.length ≤ 9223372036854775807 := hf.2.2.2.2.2.2.2.2.2.2.1.1
  clear hf
  obtain ⟨hok, rfl, rfl, hs⟩ := hp
  simp only [S.small] at hs
  have hv : S.stValid [] 0 = true := by decide
  have hd : decide ((1099511627776 : Int) - 0 < (b.length : Int)) = false := by simp; omega
  simp only [hv, hd, Bool.not_true, cond_false, cond_true, ln, Int.toNat_zero]
  refine ⟨?_, ⟨⟨?_, ?_⟩, ⟨⟨?_, ?_⟩, ⟨⟨?_, ?_⟩, ⟨⟨?_, ⟨?_, ?_⟩⟩, ⟨?_, ⟨?_, ⟨?_, ⟨?_, ⟨⟨?_, ?_⟩, ⟨?_, ⟨?_, ⟨?_, ⟨?_, ⟨?_, ⟨?_, ⟨?_, ⟨?_, ⟨?_, ?_⟩⟩⟩⟩⟩⟩⟩⟩⟩⟩⟩⟩⟩⟩⟩⟩⟩⟩⟩
  · trivial
  · intro h1
    try simp only [nt] at h1
    trivial
  · intro h2
    try simp only [nf] at h2
    refine ⟨?_, ?_⟩
    · omega
    omega
  · intro h3
    try simp only [V.bor, nt, dt] at h3
    trivial
  · intro h4
    try simp only [V.bor_f, nf, df] at h4
    trivial
  · omega
  · omega
  · omega
  · omega
  · omega
  · simp only [List.replicate_zero, List.nil_append, List.append_nil, S.restOf_len, S.lenI, ln, List.length_append] at *; omega
  · simp only [List.replicate_zero, List.nil_append, List.append_nil, S.restOf_len, S.lenI, ln, List.length_append] at *; omega
  · omega
  · simp only [List.replicate_zero, List.nil_append, List.append_nil, S.restOf_len, S.lenI, ln, List.length_append] at *; omega
  · omega
  · omega
  · rfl
  · rfl
  · rfl
  · rfl
  · rfl
  · rfl
  · rfl
  · rfl
  · rfl
  simp only [List.replicate_zero, List.nil_append, List.append_nil, S.restOf_len, S.lenI, ln, List.length_append] at *; omega
theorem H_a12 (s1 : Int) (s2 : Int) (s3 : Int) (s4 : Int) (s5 : Int) (s6 : Int) (s7 : Int) (s8 : Int) (s9 : List UInt8) (s10 : Int) (hp : S.endPre (s1, s2, s3, s4, s5, s6, s7, s8) s9 s10) (hf : Vg.Row.ok (Vg.PS.flat [.agg [.int .u32, .int .u32, .int .u32, .int .u32, .int .u32, .int .u32, .int .u32, .int .u32, .slice [.int .u8], .int .i64]]) (s1, s2, s3, s4, s5, s6, s7, s8, s9, s10)) : V_a12 s1 s2 s3 s4 s5 s6 s7 s8 s9 s10 := by
  unfold V_a12
  have hr_s1 : 0 ≤ s1 ∧ s1 ≤ 4294967295 := hf.1
  have hr_s2 : 0 ≤ s2 ∧ s2 ≤ 4294967295 := hf.2.1
  have hr_s3 : 0 ≤ s3 ∧ s3 ≤ 4294967295 := hf.2.2.1
  have hr_s4 : 0 ≤ s4 ∧ s4 ≤ 4294967295 := hf.2.2.2.1
  have hr_s5 : 0 ≤ s5 ∧ s5 ≤ 4294967295 := hf.2.2.2.2.1
  have hr_s6 : 0 ≤ s6 ∧ s6 ≤ 4294967295 := hf.2.2.2.2.2.1
  have hr_s7 : 0 ≤ s7 ∧ s7 ≤ 4294967295 := hf.2.2.2.2.2.2.1
  have hr_s8 : 0 ≤ s8 ∧ s8 ≤ 4294967295 := hf.2.2.2.2.2.2.2.1
  have hr_s9 : s9.length ≤ 9223372036854775807 := hf.2.2.2.2.2.2.2.2.1.1
  have hr_s10 : -9223372036854775808 ≤ s10 ∧ s10 ≤ 9223372036854775807 := hf.2.2.2.2.2.2.2.2.2.1
  clear hf
  have hv := S.valid_of hp
  obtain ⟨hok, h01, h02, h03⟩ := hp
  simp only [hv, Bool.not_true, cond_false]
  refine ⟨?_, ⟨⟨?_, ?_⟩, ⟨?_, ⟨?_, ⟨?_, ?_⟩⟩⟩⟩⟩
  · trivial
  · intro h1
    try simp only [nt] at h1
    trivial
  · intro h2
    try simp only [nf] at h2
    trivial
  · omega
  · simp only [S.tailZ_len, S.tailL_len, S.tailInv, S.padZ, S.leN, S.meas, S.len, lc, ln] at *; omega
  · refine ⟨0, ?_⟩
    try dsimp only
    refine ⟨?_, ?_⟩
    · exact S.tailZ_0 _
    simp only [S.tailZ_len, S.tailL_len, S.tailInv, S.padZ, S.leN, S.meas, S.len, lc, ln] at *; omega
  intro x3
  intro h4
  refine ⟨?_, ⟨?_, ⟨?_, ?_⟩⟩⟩
  · omega
  · omega
  · intro h5
    try simp only [nt, df] at h5
    refine ⟨?_, ?_⟩
    · simp only [S.tailZ_len, S.tailL_len, S.tailInv, S.padZ, S.leN, S.meas, S.len, lc, ln] at *; omega
    refine ⟨(x3 + 1), ?_⟩
    try dsimp only
    refine ⟨?_, ⟨?_, ?_⟩⟩
    · exact S.tailZ_succ _ _
    · exact S.padZ_more h4 h5
    simp only [S.tailZ_len, S.tailL_len, S.tailInv, S.padZ, S.leN, S.meas, S.len, lc, ln] at *; omega
  intro h6
  try simp only [nf, dt] at h6
  refine ⟨?_, ?_⟩
  · refine ⟨(nat_lit 0 : Nat), ?_⟩
    try dsimp only
    refine ⟨⟨?_, ?_⟩, ?_⟩
    · omega
    · rw [S.tailL_0, ← S.padZ_end h4 h6]
    simp only [S.tailZ_len, S.tailL_len, S.tailInv, S.padZ, S.leN, S.meas, S.len, lc, ln] at *; omega
  intro x7
  intro h8
  refine ⟨?_, ?_⟩
  · intro h9
    try simp only [dt] at h9
    refine ⟨⟨?_, ?_⟩, ⟨⟨?_, ?_⟩, ⟨⟨?_, ?_⟩, ⟨?_, ⟨⟨?_, ?_⟩, ?_⟩⟩⟩⟩⟩
    · omega
    · omega
    · omega
    · omega
    · omega
    · omega
    · simp only [S.tailZ_len, S.tailL_len, S.tailInv, S.padZ, S.leN, S.meas, S.len, lc, ln] at *; omega
    · omega
    · omega
    refine ⟨(x7 + nat_lit 1), ?_⟩
    try dsimp only
    refine ⟨⟨?_, ?_⟩, ⟨?_, ?_⟩⟩
    · omega
    · exact S.tailL_succ s9 s10 x7 h01 h02 (by omega)
    · simp only [S.tailZ_len, S.tailL_len, S.tailInv, S.padZ, S.leN, S.meas, S.len, lc, ln] at *; omega
    simp only [S.tailZ_len, S.tailL_len, S.tailInv, S.padZ, S.leN, S.meas, S.len, lc, ln] at *; omega
  intro h10
  try simp only [df] at h10
  refine ⟨?_, ⟨⟨?_, ⟨?_, ?_⟩⟩, ⟨?_, ?_⟩⟩⟩
  · omega
  · omega
  · omega
  · omega
  · refine ⟨(nat_lit 0 : Nat), ?_⟩
    try dsimp only
    refine ⟨⟨?_, ?_⟩, ?_⟩
    · omega
    · rfl
    simp only [S.tailZ_len, S.tailL_len, S.tailInv, S.padZ, S.leN, S.meas, S.len, lc, ln] at *; omega
  intro x11
  intro h12
  refine ⟨?_, ?_⟩
  · intro h13
    try simp only [dt] at h13
    refine ⟨⟨?_, ?_⟩, ⟨⟨?_, ?_⟩, ⟨⟨?_, ?_⟩, ⟨⟨?_, ?_⟩, ⟨?_, ⟨⟨?_, ?_⟩, ?_⟩⟩⟩⟩⟩⟩
    · omega
    · omega
    · omega
    · omega
    · omega
    · omega
    · omega
    · omega
    · rw [S.digN_len _ _ (by simp only [S.leN] at *; omega)]; simp; omega
    · omega
    · omega
    refine ⟨(x11 + nat_lit 1), ?_⟩
    try dsimp only
    refine ⟨⟨?_, ?_⟩, ⟨?_, ?_⟩⟩
    · omega
    · rw [show x7 = 8 by (simp only [S.leN] at *; omega)]
      exact S.digN_V _ x11 (by omega)
    · simp only [S.tailZ_len, S.tailL_len, S.tailInv, S.padZ, S.leN, S.meas, S.len, lc, ln] at *; omega
    simp only [S.tailZ_len, S.tailL_len, S.tailInv, S.padZ, S.leN, S.meas, S.len, lc, ln] at *; omega
  intro h14
  try simp only [df] at h14
  rw [show x11 = 8 by (simp only [S.leN] at *; omega)]
  rfl
theorem H_a13 (b : List UInt8) (hp : S.small b) (hf : Vg.Row.ok (Vg.PS.flat [.one (.slice [.int .u8])]) b) : V_a13 b := by
  unfold V_a13
  have hr_b : b.length ≤ 9223372036854775807 := hf.1.1
  clear hf
  refine ⟨?_, ⟨?_, ⟨?_, ?_⟩⟩⟩
  · trivial
  · exact ⟨S.ok_H0, rfl, rfl, hp⟩
  · simp only [S.small] at hp
    exact ⟨S.proc_ok _ _ S.ok_H0 _, by simp only [S.lenI]; omega, by simp only [S.lenI]; omega, by rw [S.restOf_len]; simp [S.lenI]⟩
  exact congrArg S.dig (S.proc_tail b _)
theorem H_a18 (b : List UInt8) (hp : b.length ≤ 140737488355328) (hf : Vg.Row.ok (Vg.PS.flat [.one (.slice [.int .u8])]) b) : V_a18 b := by
  unfold V_a18
  have hr_b : b.length ≤ 9223372036854775807 := hf.1.1
  clear hf
  refine ⟨?_, ?_⟩
  · omega
  rfl
theorem H_a19 (v : Int) (l : List UInt8) (hp : S.putPre l v) (hf : Vg.Row.ok (Vg.TA.tyss [.own 50000, .dat (.int .i64)]) v) (hg : Vg.BsD.ok [.row 5 [.int .u8]] (l, ())) : V_a19 v l := by
  unfold V_a19
  have hr_v : -9223372036854775808 ≤ v ∧ v ≤ 9223372036854775807 := hf.1
  have hr_l : l.length ≤ 9223372036854775807 := hg.1.1
  clear hf hg
  obtain ⟨hp1, hp2⟩ := hp
  refine ⟨?_, ?_⟩
  · refine ⟨((l), (v)), ?_⟩
    try dsimp only
    refine ⟨⟨?_, ?_⟩, ?_⟩
    · omega
    · rfl
    exact ⟨hp1, Int.le_refl _, rfl⟩
  intro x1
  intro h2
  refine ⟨?_, ?_⟩
  · intro h3
    try simp only [dt] at h3
    refine ⟨?_, ⟨?_, ⟨?_, ⟨⟨?_, ?_⟩, ?_⟩⟩⟩⟩
    · omega
    · omega
    · (have hl := S.put_len h2; have hu := S.put_le h2; simp; omega)
    · omega
    · omega
    refine ⟨((Prod.fst x1 ++ [UInt8.ofNat (Int.toNat (Vg.natOr (Vg.natAnd (Prod.snd x1) (127 : Int) % (256 : Int)) (128 : Int)))]), (Prod.snd x1 / (2 : Int) ^ Int.toNat (7 : Int))), ?_⟩
    try dsimp only
    refine ⟨⟨?_, ?_⟩, ⟨?_, ?_⟩⟩
    · omega
    · rfl
    · (have hl := S.put_len h2; have hu := S.put_le h2; exact S.put_step h2 h3 (by omega))
    (have hl := S.put_len h2; have hu := S.put_le h2; simp; omega)
  intro h4
  try simp only [df] at h4
  refine ⟨?_, ?_⟩
  · (have hl := S.put_len h2; have hu := S.put_le h2; simp; omega)
  (have hl := S.put_len h2; have hu := S.put_le h2; exact S.put_fin h2 h4)
theorem H_a20 (s : List UInt8) (l : List UInt8) (hp : S.textPre l s) (hf : Vg.Row.ok (Vg.TA.tyss [.own 50000, .dat (.str)]) s) (hg : Vg.BsD.ok [.row 5 [.int .u8]] (l, ())) : V_a20 s l := by
  unfold V_a20
  have hr_s : s.length ≤ 9223372036854775807 := hf.1
  have hr_l : l.length ≤ 9223372036854775807 := hg.1.1
  clear hf hg
  obtain ⟨hp1, hp2⟩ := hp
  have := S.num_len s.length
  refine ⟨?_, ⟨?_, ?_⟩⟩
  · simp only [S.putPre]; omega
  · simp only [List.length_append]; omega
  simp [S.text]
theorem H_a21 (b : List UInt8) (v : Int) (hp : b.length ≤ 35184372088832) (hf : Vg.Row.ok (Vg.PS.flat [.one (.slice [.int .u8]), .one (.int .i64)]) (b, v)) : V_a21 b v := by
  unfold V_a21
  have hr_b : b.length ≤ 9223372036854775807 := hf.1.1
  have hr_v : -9223372036854775808 ≤ v ∧ v ≤ 9223372036854775807 := hf.2.1
  clear hf
  refine ⟨?_, ?_⟩
  · intro h1
    try simp only [V.bor, dt] at h1
    refine ⟨?_, ?_⟩
    · grind [S.numB, S.numE, S.numBad]
    grind [S.numB, S.numE, S.numBad]
  intro h2
  try simp only [V.bor_f, df] at h2
  refine ⟨?_, ⟨?_, ⟨?_, ?_⟩⟩⟩
  · omega
  · exact ⟨by omega, by omega⟩
  · grind [S.numB, S.numE, S.numBad]
  grind [S.numB, S.numE, S.numBad]
theorem H_a22 (b : List UInt8) (s : List UInt8) (hp : S.textPre b s) (hf : Vg.Row.ok (Vg.PS.flat [.one (.slice [.int .u8]), .one (.str)]) (b, s)) : V_a22 b s := by
  unfold V_a22
  have hr_b : b.length ≤ 9223372036854775807 := hf.1.1
  have hr_s : s.length ≤ 9223372036854775807 := hf.2.1
  clear hf
  refine ⟨?_, ⟨?_, ?_⟩⟩
  · simp only [S.textPre] at *; omega
  · omega
  rfl
theorem H_a34 (kind : UInt8) (parts : List (List UInt8)) (hp : S.joinPre parts) (hf : Vg.Row.ok (Vg.PS.flat [.one (.int .u8), .one (.slice [.slice [.int .u8]])]) (kind, parts)) : V_a34 kind parts := by
  unfold V_a34
  have hr_parts : parts.length ≤ 9223372036854775807 := hf.2.1.1
  clear hf
  refine ⟨?_, ?_⟩
  · refine ⟨(nat_lit 0 : Nat), ?_⟩
    try dsimp only
    refine ⟨⟨?_, ?_⟩, ?_⟩
    · omega
    · exact S.joinAt_0 _ _
    simp only [S.minv, S.meas, S.len] at *; omega
  intro x1
  intro h2
  refine ⟨?_, ?_⟩
  · intro h3
    try simp only [dt] at h3
    refine ⟨⟨?_, ?_⟩, ⟨?_, ⟨⟨?_, ?_⟩, ?_⟩⟩⟩
    · omega
    · omega
    · exact S.join_len' kind hp (by omega)
    · omega
    · omega
    refine ⟨(x1 + nat_lit 1), ?_⟩
    try dsimp only
    refine ⟨⟨?_, ?_⟩, ⟨?_, ?_⟩⟩
    · omega
    · exact S.joinAt_succ _ _ _ (by omega)
    · simp only [S.minv, S.meas, S.len] at *; omega
    simp only [S.minv, S.meas, S.len] at *; omega
  intro h4
  try simp only [df] at h4
  exact S.joinAt_end _ _ _ (by omega)
theorem H_a35 (b : List UInt8) (hp : S.sealPre b) (hf : Vg.Row.ok (Vg.PS.flat [.one (.slice [.int .u8])]) b) : V_a35 b := by
  unfold V_a35
  have hr_b : b.length ≤ 9223372036854775807 := hf.1.1
  clear hf
  refine ⟨?_, ?_⟩
  · simp only [S.joinPre, S.sealPre] at *; simp; omega
  simp [S.sealJoin, S.sealB]
theorem H_a36 (l : List UInt8) (r : List UInt8) (hp : S.sealPre (l ++ r)) (hf : Vg.Row.ok (Vg.PS.flat [.one (.str), .one (.str)]) (l, r)) : V_a36 l r := by
  unfold V_a36
  have hr_l : l.length ≤ 9223372036854775807 := hf.1
  have hr_r : r.length ≤ 9223372036854775807 := hf.2.1
  clear hf
  refine ⟨?_, ?_⟩
  · simp only [S.joinPre, S.sealPre, List.length_append] at *; simp; omega
  simp [S.sealJoin, S.sealB]
theorem H_a37 (b : List UInt8) (hp : S.sealPre b) (hf : Vg.Row.ok (Vg.PS.flat [.one (.slice [.int .u8])]) b) : V_a37 b := by
  unfold V_a37
  have hr_b : b.length ≤ 9223372036854775807 := hf.1.1
  clear hf
  refine ⟨?_, ?_⟩
  · simp only [S.joinPre, S.sealPre] at *; simp; omega
  simp [S.sealJoin, S.sealB]
theorem H_a38 (b : List UInt8) (hp : S.sealPre b) (hf : Vg.Row.ok (Vg.PS.flat [.one (.slice [.int .u8])]) b) : V_a38 b := by
  unfold V_a38
  have hr_b : b.length ≤ 9223372036854775807 := hf.1.1
  clear hf
  refine ⟨?_, ⟨?_, ?_⟩⟩
  · exact hp
  · exact hp
  rfl
theorem H_a39 (l : List UInt8) (r : List UInt8) (hp : True) (hf : Vg.Row.ok (Vg.PS.flat [.one (.str), .one (.str)]) (l, r)) : V_a39 l r := by
  unfold V_a39
  have hr_l : l.length ≤ 9223372036854775807 := hf.1
  have hr_r : r.length ≤ 9223372036854775807 := hf.2.1
  clear hf
  refine ⟨?_, ?_⟩
  · intro h1
    try simp only [V.bor, nt, df] at h1
    refine ⟨?_, ?_⟩
    · grind [S.sealNode, S.sealNodeE, S.dig2, S.nodeD, S.sealD]
    grind [S.sealNode, S.sealNodeE, S.dig2, S.nodeD, S.sealD]
  intro h2
  try simp only [V.bor_f, nf, dt] at h2
  refine ⟨?_, ⟨?_, ⟨?_, ?_⟩⟩⟩
  · simp only [S.small, S.sealB, S.sealPre, lc, List.length_append] at *; omega
  · simp only [S.small, S.sealB, S.sealPre, lc, List.length_append] at *; omega
  · grind [S.sealNode, S.sealNodeE, S.dig2, S.nodeD, S.sealD]
  grind [S.sealNode, S.sealNodeE, S.dig2, S.nodeD, S.sealD]
theorem H_a40 (b : List UInt8) (hp : S.sealPre b) (hf : Vg.Row.ok (Vg.PS.flat [.one (.slice [.int .u8])]) b) : V_a40 b := by
  unfold V_a40
  have hr_b : b.length ≤ 9223372036854775807 := hf.1.1
  clear hf
  refine ⟨?_, ⟨?_, ?_⟩⟩
  · exact hp
  · exact hp
  rfl
theorem H_a41 (c : Int) (hp : True) (hf : Vg.Row.ok (Vg.PS.flat [.one (.int .i64)]) c) : V_a41 c := by
  unfold V_a41
  have hr_c : -9223372036854775808 ≤ c ∧ c ≤ 9223372036854775807 := hf.1
  clear hf
  simp only [S.uRight]; grind
theorem H_a42 (c : Int) (hp : True) (hf : Vg.Row.ok (Vg.PS.flat [.one (.int .i64)]) c) : V_a42 c := by
  unfold V_a42
  have hr_c : -9223372036854775808 ≤ c ∧ c ≤ 9223372036854775807 := hf.1
  clear hf
  refine ⟨?_, ?_⟩
  · intro h1
    try simp only [dt] at h1
    grind [S.uSize]
  intro h2
  try simp only [df] at h2
  refine ⟨?_, ?_⟩
  · intro h3
    try simp only [dt] at h3
    grind [S.uSize]
  intro h4
  try simp only [df] at h4
  refine ⟨?_, ?_⟩
  · intro h5
    try simp only [dt] at h5
    grind [S.uSize]
  intro h6
  try simp only [df] at h6
  grind [S.uSize]
theorem H_a43 (c : Int) (hp : 0 ≤ c) (hf : Vg.Row.ok (Vg.PS.flat [.one (.int .i64)]) c) : V_a43 c := by
  unfold V_a43
  have hr_c : -9223372036854775808 ≤ c ∧ c ≤ 9223372036854775807 := hf.1
  clear hf
  have e : Vg.natAnd c 63 % 256 = c % 64 := by rw [S.natAnd_63 _ hp]; omega
  refine ⟨?_, ⟨?_, ?_⟩⟩
  · omega
  · omega
  rw [e, S.natOr_comm]
  exact S.more_V c
theorem H_a44 (c : Int) (hp : True) (hf : Vg.Row.ok (Vg.PS.flat [.one (.int .i64)]) c) : V_a44 c := by
  unfold V_a44
  have hr_c : -9223372036854775808 ≤ c ∧ c ≤ 9223372036854775807 := hf.1
  clear hf
  refine ⟨?_, ⟨?_, ?_⟩⟩
  · trivial
  · intro h1
    try simp only [nt] at h1
    refine ⟨?_, ?_⟩
    · simp only [S.encE, nt] at *
      grind
    simp only [S.encR, nt] at *
    grind
  intro h2
  try simp only [nf] at h2
  refine ⟨?_, ⟨?_, ?_⟩⟩
  · trivial
  · intro h3
    try simp only [dt] at h3
    refine ⟨?_, ?_⟩
    · (have hc := S.uRight_bd h2; simp only [S.encE, h2]; rfl)
    (have hc := S.uRight_bd h2; (simp only [S.encR, h2, if_true]; exact S.enc_V1 c hc.1 (by simp only [S.uSize] at *; grind)))
  intro h4
  try simp only [df] at h4
  refine ⟨?_, ?_⟩
  · intro h5
    try simp only [dt] at h5
    refine ⟨⟨?_, ?_⟩, ⟨?_, ⟨?_, ?_⟩⟩⟩
    · omega
    · omega
    · (have hc := S.uRight_bd h2; omega)
    · (have hc := S.uRight_bd h2; simp only [S.encE, h2]; rfl)
    (have hc := S.uRight_bd h2; (simp only [S.encR, h2, if_true]; exact S.enc_V2 c hc.1 (by simp only [S.uSize] at *; grind)))
  intro h6
  try simp only [df] at h6
  refine ⟨?_, ?_⟩
  · intro h7
    try simp only [dt] at h7
    refine ⟨⟨?_, ?_⟩, ⟨⟨?_, ?_⟩, ⟨?_, ⟨?_, ⟨?_, ?_⟩⟩⟩⟩⟩
    · omega
    · omega
    · omega
    · omega
    · (have hc := S.uRight_bd h2; simp only [show Int.toNat 6 = 6 by rfl, show Int.toNat 12 = 12 by rfl, show Int.toNat 18 = 18 by rfl]; omega)
    · (have hc := S.uRight_bd h2; omega)
    · (have hc := S.uRight_bd h2; simp only [S.encE, h2]; rfl)
    (have hc := S.uRight_bd h2; (simp only [S.encR, h2, if_true]; exact S.enc_V3 c hc.1 (by simp only [S.uSize] at *; grind)))
  intro h8
  try simp only [df] at h8
  refine ⟨⟨?_, ?_⟩, ⟨⟨?_, ?_⟩, ⟨?_, ⟨⟨?_, ?_⟩, ⟨?_, ⟨?_, ⟨?_, ?_⟩⟩⟩⟩⟩⟩⟩
  · omega
  · omega
  · omega
  · omega
  · (have hc := S.uRight_bd h2; simp only [show Int.toNat 6 = 6 by rfl, show Int.toNat 12 = 12 by rfl, show Int.toNat 18 = 18 by rfl]; omega)
  · omega
  · omega
  · (have hc := S.uRight_bd h2; simp only [show Int.toNat 6 = 6 by rfl, show Int.toNat 12 = 12 by rfl, show Int.toNat 18 = 18 by rfl]; omega)
  · (have hc := S.uRight_bd h2; omega)
  · (have hc := S.uRight_bd h2; simp only [S.encE, h2]; rfl)
  (have hc := S.uRight_bd h2; (simp only [S.encR, h2, if_true]; exact S.enc_V4 c hc.1 hc.2 (by simp only [S.uSize] at *; grind)))
theorem H_a45 (b : List UInt8) (hp : 0 < b.length) (hf : Vg.Row.ok (Vg.PS.flat [.one (.slice [.int .u8])]) b) : V_a45 b := by
  unfold V_a45
  have hr_b : b.length ≤ 9223372036854775807 := hf.1.1
  clear hf
  have hp' : (0 : Int) < b.length := by omega
  refine ⟨⟨?_, ?_⟩, ⟨?_, ?_⟩⟩
  · omega
  · omega
  · intro h1
    try simp only [dt] at h1
    refine ⟨?_, ?_⟩
    · rw [S.uf1 (b := b) (by with_reducible assumption)]
    rw [S.uf1 (b := b) (by with_reducible assumption)]
  intro h2
  try simp only [df] at h2
  refine ⟨⟨?_, ?_⟩, ⟨?_, ?_⟩⟩
  · omega
  · omega
  · intro h3
    try simp only [dt] at h3
    refine ⟨?_, ⟨?_, ⟨?_, ?_⟩⟩⟩
    · omega
    · omega
    · intro h4
      try simp only [dt] at h4
      refine ⟨?_, ?_⟩
      · (have hn := S.uN_2 (b := b) (by with_reducible assumption) (by with_reducible assumption); rw [S.uf_short hn (by omega) (by omega)])
      (have hn := S.uN_2 (b := b) (by with_reducible assumption) (by with_reducible assumption); rw [S.uf_short hn (by omega) (by omega)])
    intro h5
    try simp only [df] at h5
    refine ⟨⟨?_, ⟨?_, ?_⟩⟩, ⟨?_, ?_⟩⟩
    · omega
    · omega
    · omega
    · refine ⟨(nat_lit 0 : Nat), ?_⟩
      try dsimp only
      refine ⟨⟨?_, ?_⟩, ?_⟩
      · omega
      · (have hn := S.uN_2 (b := b) (by with_reducible assumption) (by with_reducible assumption); exact S.uC_2 (by with_reducible assumption))
      (have hn := S.uN_2 (b := b) (by with_reducible assumption) (by with_reducible assumption); exact S.uinv0 hn (by omega) (by omega))
    intro x6
    intro h7
    refine ⟨?_, ?_⟩
    · intro h8
      try simp only [dt] at h8
      refine ⟨⟨?_, ?_⟩, ⟨⟨?_, ?_⟩, ⟨?_, ?_⟩⟩⟩
      · omega
      · omega
      · omega
      · omega
      · intro h9
        try simp only [nt, df, tn] at h9
        refine ⟨?_, ?_⟩
        · have hn := S.uN_2 (b := b) (by with_reducible assumption) (by with_reducible assumption)
          have hb := S.uinv_bd h7
          have hx : (x6 : Int) + 1 < 2 := by (have hc := S.cut_len b 2 (by omega) (by omega); simp only [hc, show Int.toNat 2 = 2 by rfl] at *; omega)
          simp only [S.cut_get b 2 x6 hx, S.cut_get' b 2 x6 hx] at *
          rw [S.uf_cont hn h7 (by omega) (by with_reducible assumption)]
        have hn := S.uN_2 (b := b) (by with_reducible assumption) (by with_reducible assumption)
        have hb := S.uinv_bd h7
        have hx : (x6 : Int) + 1 < 2 := by (have hc := S.cut_len b 2 (by omega) (by omega); simp only [hc, show Int.toNat 2 = 2 by rfl] at *; omega)
        simp only [S.cut_get b 2 x6 hx, S.cut_get' b 2 x6 hx] at *
        rw [S.uf_cont hn h7 (by omega) (by with_reducible assumption)]
      intro h10
      try simp only [nf, dt, tn] at h10
      refine ⟨⟨?_, ?_⟩, ⟨⟨?_, ?_⟩, ⟨?_, ⟨?_, ⟨⟨?_, ?_⟩, ?_⟩⟩⟩⟩⟩
      · omega
      · omega
      · (have hn := S.uN_2 (b := b) (by with_reducible assumption) (by with_reducible assumption); (have hb := S.uinv_bd h7; (try simp only [S.cut_len b 2 (by omega) (by omega), show Int.toNat 2 = 2 by rfl] at *); simp only [show Int.toNat 6 = 6 by rfl, S.meas] at *; omega))
      · (have hn := S.uN_2 (b := b) (by with_reducible assumption) (by with_reducible assumption); (have hb := S.uinv_bd h7; (try simp only [S.cut_len b 2 (by omega) (by omega), show Int.toNat 2 = 2 by rfl] at *); simp only [show Int.toNat 6 = 6 by rfl, S.meas] at *; omega))
      · (have hn := S.uN_2 (b := b) (by with_reducible assumption) (by with_reducible assumption); (have hb := S.uinv_bd h7; (try simp only [S.cut_len b 2 (by omega) (by omega), show Int.toNat 2 = 2 by rfl] at *); simp only [show Int.toNat 6 = 6 by rfl, S.meas] at *; omega))
      · exact Int.natCast_nonneg _
      · omega
      · (have hn := S.uN_2 (b := b) (by with_reducible assumption) (by with_reducible assumption); (have hb := S.uinv_bd h7; (try simp only [S.cut_len b 2 (by omega) (by omega), show Int.toNat 2 = 2 by rfl] at *); omega))
      refine ⟨(x6 + nat_lit 1), ?_⟩
      try dsimp only
      refine ⟨⟨?_, ?_⟩, ⟨?_, ?_⟩⟩
      · omega
      · have hn := S.uN_2 (b := b) (by with_reducible assumption) (by with_reducible assumption)
        have hb := S.uinv_bd h7
        have hx : (x6 : Int) + 1 < 2 := by (have hc := S.cut_len b 2 (by omega) (by omega); simp only [hc, show Int.toNat 2 = 2 by rfl] at *; omega)
        rw [S.cut_get b 2 x6 hx]
        exact S.u_acc h7 (by omega)
      · have hn := S.uN_2 (b := b) (by with_reducible assumption) (by with_reducible assumption)
        have hb := S.uinv_bd h7
        have hx : (x6 : Int) + 1 < 2 := by (have hc := S.cut_len b 2 (by omega) (by omega); simp only [hc, show Int.toNat 2 = 2 by rfl] at *; omega)
        simp only [S.cut_get b 2 x6 hx, S.cut_get' b 2 x6 hx] at *
        exact S.u_step h7 (by with_reducible assumption) (by omega)
      (have hn := S.uN_2 (b := b) (by with_reducible assumption) (by with_reducible assumption); (have hb := S.uinv_bd h7; (try simp only [S.cut_len b 2 (by omega) (by omega), show Int.toNat 2 = 2 by rfl] at *); simp only [show Int.toNat 6 = 6 by rfl, S.meas] at *; omega))
    intro h11
    try simp only [df] at h11
    refine ⟨?_, ⟨⟨?_, ?_⟩, ⟨?_, ?_⟩⟩⟩
    · trivial
    · intro h12
      try simp only [nt] at h12
      trivial
    · intro h13
      try simp only [nf] at h13
      trivial
    · intro h14
      try simp only [V.bor, nt, df] at h14
      refine ⟨?_, ?_⟩
      · have hn := S.uN_2 (b := b) (by with_reducible assumption) (by with_reducible assumption)
        have hb := S.uinv_bd h7
        have hc := S.cut_len b 2 (by omega) (by omega)
        rw [hc] at h11
        have hx : x6 + 1 = 2 := by omega
        rw [S.uf_end1 hn h7 hx h14 rfl]
      have hn := S.uN_2 (b := b) (by with_reducible assumption) (by with_reducible assumption)
      have hb := S.uinv_bd h7
      have hc := S.cut_len b 2 (by omega) (by omega)
      rw [hc] at h11
      have hx : x6 + 1 = 2 := by omega
      rw [S.uf_end1 hn h7 hx h14 rfl]
    intro h15
    try simp only [V.bor_f, nf, dt] at h15
    refine ⟨?_, ?_⟩
    · have hn := S.uN_2 (b := b) (by with_reducible assumption) (by with_reducible assumption)
      have hb := S.uinv_bd h7
      have hc := S.cut_len b 2 (by omega) (by omega)
      rw [hc] at h11
      have hx : x6 + 1 = 2 := by omega
      rw [S.uf_end2 hn h7 hx h15 rfl]
    have hn := S.uN_2 (b := b) (by with_reducible assumption) (by with_reducible assumption)
    have hb := S.uinv_bd h7
    have hc := S.cut_len b 2 (by omega) (by omega)
    rw [hc] at h11
    have hx : x6 + 1 = 2 := by omega
    rw [S.uf_end2 hn h7 hx h15 rfl]
  intro h16
  try simp only [df] at h16
  refine ⟨⟨?_, ?_⟩, ⟨?_, ?_⟩⟩
  · omega
  · omega
  · intro h17
    try simp only [dt] at h17
    refine ⟨?_, ⟨?_, ⟨?_, ?_⟩⟩⟩
    · omega
    · omega
    · intro h18
      try simp only [dt] at h18
      refine ⟨?_, ?_⟩
      · (have hn := S.uN_3 (b := b) (by with_reducible assumption) (by with_reducible assumption) (by with_reducible assumption); rw [S.uf_short hn (by omega) (by omega)])
      (have hn := S.uN_3 (b := b) (by with_reducible assumption) (by with_reducible assumption) (by with_reducible assumption); rw [S.uf_short hn (by omega) (by omega)])
    intro h19
    try simp only [df] at h19
    refine ⟨⟨?_, ⟨?_, ?_⟩⟩, ⟨?_, ?_⟩⟩
    · omega
    · omega
    · omega
    · refine ⟨(nat_lit 0 : Nat), ?_⟩
      try dsimp only
      refine ⟨⟨?_, ?_⟩, ?_⟩
      · omega
      · (have hn := S.uN_3 (b := b) (by with_reducible assumption) (by with_reducible assumption) (by with_reducible assumption); exact S.uC_3 (by with_reducible assumption) (by with_reducible assumption))
      (have hn := S.uN_3 (b := b) (by with_reducible assumption) (by with_reducible assumption) (by with_reducible assumption); exact S.uinv0 hn (by omega) (by omega))
    intro x20
    intro h21
    refine ⟨?_, ?_⟩
    · intro h22
      try simp only [dt] at h22
      refine ⟨⟨?_, ?_⟩, ⟨⟨?_, ?_⟩, ⟨?_, ?_⟩⟩⟩
      · omega
      · omega
      · omega
      · omega
      · intro h23
        try simp only [nt, df, tn] at h23
        refine ⟨?_, ?_⟩
        · have hn := S.uN_3 (b := b) (by with_reducible assumption) (by with_reducible assumption) (by with_reducible assumption)
          have hb := S.uinv_bd h21
          have hx : (x20 : Int) + 1 < 3 := by (have hc := S.cut_len b 3 (by omega) (by omega); simp only [hc, show Int.toNat 3 = 3 by rfl] at *; omega)
          simp only [S.cut_get b 3 x20 hx, S.cut_get' b 3 x20 hx] at *
          rw [S.uf_cont hn h21 (by omega) (by with_reducible assumption)]
        have hn := S.uN_3 (b := b) (by with_reducible assumption) (by with_reducible assumption) (by with_reducible assumption)
        have hb := S.uinv_bd h21
        have hx : (x20 : Int) + 1 < 3 := by (have hc := S.cut_len b 3 (by omega) (by omega); simp only [hc, show Int.toNat 3 = 3 by rfl] at *; omega)
        simp only [S.cut_get b 3 x20 hx, S.cut_get' b 3 x20 hx] at *
        rw [S.uf_cont hn h21 (by omega) (by with_reducible assumption)]
      intro h24
      try simp only [nf, dt, tn] at h24
      refine ⟨⟨?_, ?_⟩, ⟨⟨?_, ?_⟩, ⟨?_, ⟨?_, ⟨⟨?_, ?_⟩, ?_⟩⟩⟩⟩⟩
      · omega
      · omega
      · (have hn := S.uN_3 (b := b) (by with_reducible assumption) (by with_reducible assumption) (by with_reducible assumption); (have hb := S.uinv_bd h21; (try simp only [S.cut_len b 3 (by omega) (by omega), show Int.toNat 3 = 3 by rfl] at *); simp only [show Int.toNat 6 = 6 by rfl, S.meas] at *; omega))
      · (have hn := S.uN_3 (b := b) (by with_reducible assumption) (by with_reducible assumption) (by with_reducible assumption); (have hb := S.uinv_bd h21; (try simp only [S.cut_len b 3 (by omega) (by omega), show Int.toNat 3 = 3 by rfl] at *); simp only [show Int.toNat 6 = 6 by rfl, S.meas] at *; omega))
      · (have hn := S.uN_3 (b := b) (by with_reducible assumption) (by with_reducible assumption) (by with_reducible assumption); (have hb := S.uinv_bd h21; (try simp only [S.cut_len b 3 (by omega) (by omega), show Int.toNat 3 = 3 by rfl] at *); simp only [show Int.toNat 6 = 6 by rfl, S.meas] at *; omega))
      · exact Int.natCast_nonneg _
      · omega
      · (have hn := S.uN_3 (b := b) (by with_reducible assumption) (by with_reducible assumption) (by with_reducible assumption); (have hb := S.uinv_bd h21; (try simp only [S.cut_len b 3 (by omega) (by omega), show Int.toNat 3 = 3 by rfl] at *); omega))
      refine ⟨(x20 + nat_lit 1), ?_⟩
      try dsimp only
      refine ⟨⟨?_, ?_⟩, ⟨?_, ?_⟩⟩
      · omega
      · have hn := S.uN_3 (b := b) (by with_reducible assumption) (by with_reducible assumption) (by with_reducible assumption)
        have hb := S.uinv_bd h21
        have hx : (x20 : Int) + 1 < 3 := by (have hc := S.cut_len b 3 (by omega) (by omega); simp only [hc, show Int.toNat 3 = 3 by rfl] at *; omega)
        rw [S.cut_get b 3 x20 hx]
        exact S.u_acc h21 (by omega)
      · have hn := S.uN_3 (b := b) (by with_reducible assumption) (by with_reducible assumption) (by with_reducible assumption)
        have hb := S.uinv_bd h21
        have hx : (x20 : Int) + 1 < 3 := by (have hc := S.cut_len b 3 (by omega) (by omega); simp only [hc, show Int.toNat 3 = 3 by rfl] at *; omega)
        simp only [S.cut_get b 3 x20 hx, S.cut_get' b 3 x20 hx] at *
        exact S.u_step h21 (by with_reducible assumption) (by omega)
      (have hn := S.uN_3 (b := b) (by with_reducible assumption) (by with_reducible assumption) (by with_reducible assumption); (have hb := S.uinv_bd h21; (try simp only [S.cut_len b 3 (by omega) (by omega), show Int.toNat 3 = 3 by rfl] at *); simp only [show Int.toNat 6 = 6 by rfl, S.meas] at *; omega))
    intro h25
    try simp only [df] at h25
    refine ⟨?_, ⟨⟨?_, ?_⟩, ⟨?_, ?_⟩⟩⟩
    · trivial
    · intro h26
      try simp only [nt] at h26
      trivial
    · intro h27
      try simp only [nf] at h27
      trivial
    · intro h28
      try simp only [V.bor, nt, df] at h28
      refine ⟨?_, ?_⟩
      · have hn := S.uN_3 (b := b) (by with_reducible assumption) (by with_reducible assumption) (by with_reducible assumption)
        have hb := S.uinv_bd h21
        have hc := S.cut_len b 3 (by omega) (by omega)
        rw [hc] at h25
        have hx : x20 + 1 = 3 := by omega
        rw [S.uf_end1 hn h21 hx h28 rfl]
      have hn := S.uN_3 (b := b) (by with_reducible assumption) (by with_reducible assumption) (by with_reducible assumption)
      have hb := S.uinv_bd h21
      have hc := S.cut_len b 3 (by omega) (by omega)
      rw [hc] at h25
      have hx : x20 + 1 = 3 := by omega
      rw [S.uf_end1 hn h21 hx h28 rfl]
    intro h29
    try simp only [V.bor_f, nf, dt] at h29
    refine ⟨?_, ?_⟩
    · have hn := S.uN_3 (b := b) (by with_reducible assumption) (by with_reducible assumption) (by with_reducible assumption)
      have hb := S.uinv_bd h21
      have hc := S.cut_len b 3 (by omega) (by omega)
      rw [hc] at h25
      have hx : x20 + 1 = 3 := by omega
      rw [S.uf_end2 hn h21 hx h29 rfl]
    have hn := S.uN_3 (b := b) (by with_reducible assumption) (by with_reducible assumption) (by with_reducible assumption)
    have hb := S.uinv_bd h21
    have hc := S.cut_len b 3 (by omega) (by omega)
    rw [hc] at h25
    have hx : x20 + 1 = 3 := by omega
    rw [S.uf_end2 hn h21 hx h29 rfl]
  intro h30
  try simp only [df] at h30
  refine ⟨⟨?_, ?_⟩, ⟨?_, ?_⟩⟩
  · omega
  · omega
  · intro h31
    try simp only [dt] at h31
    refine ⟨?_, ⟨?_, ⟨?_, ?_⟩⟩⟩
    · omega
    · omega
    · intro h32
      try simp only [dt] at h32
      refine ⟨?_, ?_⟩
      · (have hn := S.uN_4 (b := b) (by with_reducible assumption) (by with_reducible assumption) (by with_reducible assumption) (by with_reducible assumption); rw [S.uf_short hn (by omega) (by omega)])
      (have hn := S.uN_4 (b := b) (by with_reducible assumption) (by with_reducible assumption) (by with_reducible assumption) (by with_reducible assumption); rw [S.uf_short hn (by omega) (by omega)])
    intro h33
    try simp only [df] at h33
    refine ⟨⟨?_, ⟨?_, ?_⟩⟩, ⟨?_, ?_⟩⟩
    · omega
    · omega
    · omega
    · refine ⟨(nat_lit 0 : Nat), ?_⟩
      try dsimp only
      refine ⟨⟨?_, ?_⟩, ?_⟩
      · omega
      · (have hn := S.uN_4 (b := b) (by with_reducible assumption) (by with_reducible assumption) (by with_reducible assumption) (by with_reducible assumption); exact S.uC_4 (by with_reducible assumption) (by with_reducible assumption))
      (have hn := S.uN_4 (b := b) (by with_reducible assumption) (by with_reducible assumption) (by with_reducible assumption) (by with_reducible assumption); exact S.uinv0 hn (by omega) (by omega))
    intro x34
    intro h35
    refine ⟨?_, ?_⟩
    · intro h36
      try simp only [dt] at h36
      refine ⟨⟨?_, ?_⟩, ⟨⟨?_, ?_⟩, ⟨?_, ?_⟩⟩⟩
      · omega
      · omega
      · omega
      · omega
      · intro h37
        try simp only [nt, df, tn] at h37
        refine ⟨?_, ?_⟩
        · have hn := S.uN_4 (b := b) (by with_reducible assumption) (by with_reducible assumption) (by with_reducible assumption) (by with_reducible assumption)
          have hb := S.uinv_bd h35
          have hx : (x34 : Int) + 1 < 4 := by (have hc := S.cut_len b 4 (by omega) (by omega); simp only [hc, show Int.toNat 4 = 4 by rfl] at *; omega)
          simp only [S.cut_get b 4 x34 hx, S.cut_get' b 4 x34 hx] at *
          rw [S.uf_cont hn h35 (by omega) (by with_reducible assumption)]
        have hn := S.uN_4 (b := b) (by with_reducible assumption) (by with_reducible assumption) (by with_reducible assumption) (by with_reducible assumption)
        have hb := S.uinv_bd h35
        have hx : (x34 : Int) + 1 < 4 := by (have hc := S.cut_len b 4 (by omega) (by omega); simp only [hc, show Int.toNat 4 = 4 by rfl] at *; omega)
        simp only [S.cut_get b 4 x34 hx, S.cut_get' b 4 x34 hx] at *
        rw [S.uf_cont hn h35 (by omega) (by with_reducible assumption)]
      intro h38
      try simp only [nf, dt, tn] at h38
      refine ⟨⟨?_, ?_⟩, ⟨⟨?_, ?_⟩, ⟨?_, ⟨?_, ⟨⟨?_, ?_⟩, ?_⟩⟩⟩⟩⟩
      · omega
      · omega
      · (have hn := S.uN_4 (b := b) (by with_reducible assumption) (by with_reducible assumption) (by with_reducible assumption) (by with_reducible assumption); (have hb := S.uinv_bd h35; (try simp only [S.cut_len b 4 (by omega) (by omega), show Int.toNat 4 = 4 by rfl] at *); simp only [show Int.toNat 6 = 6 by rfl, S.meas] at *; omega))
      · (have hn := S.uN_4 (b := b) (by with_reducible assumption) (by with_reducible assumption) (by with_reducible assumption) (by with_reducible assumption); (have hb := S.uinv_bd h35; (try simp only [S.cut_len b 4 (by omega) (by omega), show Int.toNat 4 = 4 by rfl] at *); simp only [show Int.toNat 6 = 6 by rfl, S.meas] at *; omega))
      · (have hn := S.uN_4 (b := b) (by with_reducible assumption) (by with_reducible assumption) (by with_reducible assumption) (by with_reducible assumption); (have hb := S.uinv_bd h35; (try simp only [S.cut_len b 4 (by omega) (by omega), show Int.toNat 4 = 4 by rfl] at *); simp only [show Int.toNat 6 = 6 by rfl, S.meas] at *; omega))
      · exact Int.natCast_nonneg _
      · omega
      · (have hn := S.uN_4 (b := b) (by with_reducible assumption) (by with_reducible assumption) (by with_reducible assumption) (by with_reducible assumption); (have hb := S.uinv_bd h35; (try simp only [S.cut_len b 4 (by omega) (by omega), show Int.toNat 4 = 4 by rfl] at *); omega))
      refine ⟨(x34 + nat_lit 1), ?_⟩
      try dsimp only
      refine ⟨⟨?_, ?_⟩, ⟨?_, ?_⟩⟩
      · omega
      · have hn := S.uN_4 (b := b) (by with_reducible assumption) (by with_reducible assumption) (by with_reducible assumption) (by with_reducible assumption)
        have hb := S.uinv_bd h35
        have hx : (x34 : Int) + 1 < 4 := by (have hc := S.cut_len b 4 (by omega) (by omega); simp only [hc, show Int.toNat 4 = 4 by rfl] at *; omega)
        rw [S.cut_get b 4 x34 hx]
        exact S.u_acc h35 (by omega)
      · have hn := S.uN_4 (b := b) (by with_reducible assumption) (by with_reducible assumption) (by with_reducible assumption) (by with_reducible assumption)
        have hb := S.uinv_bd h35
        have hx : (x34 : Int) + 1 < 4 := by (have hc := S.cut_len b 4 (by omega) (by omega); simp only [hc, show Int.toNat 4 = 4 by rfl] at *; omega)
        simp only [S.cut_get b 4 x34 hx, S.cut_get' b 4 x34 hx] at *
        exact S.u_step h35 (by with_reducible assumption) (by omega)
      (have hn := S.uN_4 (b := b) (by with_reducible assumption) (by with_reducible assumption) (by with_reducible assumption) (by with_reducible assumption); (have hb := S.uinv_bd h35; (try simp only [S.cut_len b 4 (by omega) (by omega), show Int.toNat 4 = 4 by rfl] at *); simp only [show Int.toNat 6 = 6 by rfl, S.meas] at *; omega))
    intro h39
    try simp only [df] at h39
    refine ⟨?_, ⟨⟨?_, ?_⟩, ⟨?_, ?_⟩⟩⟩
    · trivial
    · intro h40
      try simp only [nt] at h40
      trivial
    · intro h41
      try simp only [nf] at h41
      trivial
    · intro h42
      try simp only [V.bor, nt, df] at h42
      refine ⟨?_, ?_⟩
      · have hn := S.uN_4 (b := b) (by with_reducible assumption) (by with_reducible assumption) (by with_reducible assumption) (by with_reducible assumption)
        have hb := S.uinv_bd h35
        have hc := S.cut_len b 4 (by omega) (by omega)
        rw [hc] at h39
        have hx : x34 + 1 = 4 := by omega
        rw [S.uf_end1 hn h35 hx h42 rfl]
      have hn := S.uN_4 (b := b) (by with_reducible assumption) (by with_reducible assumption) (by with_reducible assumption) (by with_reducible assumption)
      have hb := S.uinv_bd h35
      have hc := S.cut_len b 4 (by omega) (by omega)
      rw [hc] at h39
      have hx : x34 + 1 = 4 := by omega
      rw [S.uf_end1 hn h35 hx h42 rfl]
    intro h43
    try simp only [V.bor_f, nf, dt] at h43
    refine ⟨?_, ?_⟩
    · have hn := S.uN_4 (b := b) (by with_reducible assumption) (by with_reducible assumption) (by with_reducible assumption) (by with_reducible assumption)
      have hb := S.uinv_bd h35
      have hc := S.cut_len b 4 (by omega) (by omega)
      rw [hc] at h39
      have hx : x34 + 1 = 4 := by omega
      rw [S.uf_end2 hn h35 hx h43 rfl]
    have hn := S.uN_4 (b := b) (by with_reducible assumption) (by with_reducible assumption) (by with_reducible assumption) (by with_reducible assumption)
    have hb := S.uinv_bd h35
    have hc := S.cut_len b 4 (by omega) (by omega)
    rw [hc] at h39
    have hx : x34 + 1 = 4 := by omega
    rw [S.uf_end2 hn h35 hx h43 rfl]
  intro h44
  try simp only [df] at h44
  refine ⟨?_, ?_⟩
  · rw [S.uf0 (b := b) (by with_reducible assumption) (by with_reducible assumption) (by with_reducible assumption) (by with_reducible assumption)]
  rw [S.uf0 (b := b) (by with_reducible assumption) (by with_reducible assumption) (by with_reducible assumption) (by with_reducible assumption)]
theorem H_a46 (b : List UInt8) (hp : S.small b) (hf : Vg.Row.ok (Vg.PS.flat [.one (.slice [.int .u8])]) b) : V_a46 b := by
  unfold V_a46
  have hr_b : b.length ≤ 9223372036854775807 := hf.1.1
  clear hf
  simp only [S.small] at hp
  refine ⟨?_, ?_⟩
  · refine ⟨((b), ([])), ?_⟩
    try dsimp only
    refine ⟨⟨?_, ?_⟩, ?_⟩
    · with_reducible rfl
    · with_reducible rfl
    exact S.dec_0 b
  intro x1
  intro h2
  refine ⟨?_, ?_⟩
  · intro h3
    try simp only [dt] at h3
    refine ⟨?_, ⟨?_, ⟨⟨?_, ?_⟩, ?_⟩⟩⟩
    · omega
    · (have hd := S.dec_bd h2 (by with_reducible assumption); simp only [S.len, List.length_drop, lc, ln] at *; omega)
    · (have hd := S.dec_bd h2 (by with_reducible assumption); omega)
    · (have hd := S.dec_bd h2 (by with_reducible assumption); omega)
    refine ⟨((List.drop (Int.toNat (Prod.snd (S.uFirst (Prod.fst x1)))) (Prod.fst x1)), (Prod.snd x1 ++ [Prod.fst (S.uFirst (Prod.fst x1))])), ?_⟩
    try dsimp only
    refine ⟨⟨?_, ?_⟩, ⟨?_, ?_⟩⟩
    · with_reducible rfl
    · with_reducible rfl
    · exact S.dec_step h2 h3
    (have hd := S.dec_bd h2 (by with_reducible assumption); simp only [S.len, List.length_drop, lc, ln] at *; omega)
  intro h4
  try simp only [df] at h4
  exact (S.dec_end h2 (by with_reducible assumption))
theorem H_a47 (c : Int) (hp : True) (hf : Vg.Row.ok (Vg.PS.flat [.one (.int .i64)]) c) : V_a47 c := by
  unfold V_a47
  have hr_c : -9223372036854775808 ≤ c ∧ c ≤ 9223372036854775807 := hf.1
  clear hf
  refine ⟨?_, ?_⟩
  · refine ⟨(nat_lit 0 : Nat), ?_⟩
    try dsimp only
    refine ⟨?_, ?_⟩
    · omega
    simp [S.noLetter]
  intro x1
  intro h2
  refine ⟨?_, ?_⟩
  · intro h3
    try simp only [dt] at h3
    refine ⟨⟨?_, ?_⟩, ⟨?_, ?_⟩⟩
    · omega
    · omega
    · intro h4
      try simp only [V.band, dt, tn] at h4
      exact S.letter_V1 (x := x1) (by omega) (S.bif_t h4)
    intro h5
    try simp only [V.band_f, df, tn] at h5
    refine ⟨⟨?_, ?_⟩, ?_⟩
    · omega
    · omega
    refine ⟨(x1 + nat_lit 1), ?_⟩
    try dsimp only
    refine ⟨?_, ⟨?_, ?_⟩⟩
    · omega
    · exact S.letter_V2 (x := x1) h2 (by omega) (S.bif_f h5)
    simp only [S.meas]; omega
  intro h6
  try simp only [df] at h6
  exact S.letter_V3 h2 (by omega)
theorem H_a48 (c : Int) (hp : True) (hf : Vg.Row.ok (Vg.PS.flat [.one (.int .i64)]) c) : V_a48 c := by
  unfold V_a48
  have hr_c : -9223372036854775808 ≤ c ∧ c ≤ 9223372036854775807 := hf.1
  clear hf
  simp only [S.digit]; grind
theorem H_a49 (c : Int) (hp : True) (hf : Vg.Row.ok (Vg.PS.flat [.one (.int .i64)]) c) : V_a49 c := by
  unfold V_a49
  have hr_c : -9223372036854775808 ≤ c ∧ c ≤ 9223372036854775807 := hf.1
  clear hf
  refine ⟨?_, ?_⟩
  · refine ⟨(nat_lit 0 : Nat), ?_⟩
    try dsimp only
    refine ⟨?_, ?_⟩
    · omega
    simp [S.noShift]
  intro x1
  intro h2
  refine ⟨?_, ?_⟩
  · intro h3
    try simp only [dt] at h3
    refine ⟨⟨?_, ?_⟩, ⟨?_, ?_⟩⟩
    · omega
    · omega
    · intro h4
      try simp only [V.band, dt, tn] at h4
      refine ⟨⟨?_, ?_⟩, ?_⟩
      · have hs := (S.small_V1 (c := c) (x := x1) h2 h3 (S.bif_t h4)).2
        clear h4
        generalize List.getD [32, 32, 32, 32, 32, 80, 32] (Int.toNat (x1 : Int)) (0 : Int) = X at *
        omega
      · have hs := (S.small_V1 (c := c) (x := x1) h2 h3 (S.bif_t h4)).2
        clear h4
        generalize List.getD [32, 32, 32, 32, 32, 80, 32] (Int.toNat (x1 : Int)) (0 : Int) = X at *
        omega
      exact (S.small_V1 (x := x1) h2 (by omega) (S.bif_t h4)).1
    intro h5
    try simp only [V.band_f, df, tn] at h5
    refine ⟨⟨?_, ?_⟩, ?_⟩
    · omega
    · omega
    refine ⟨(x1 + nat_lit 1), ?_⟩
    try dsimp only
    refine ⟨?_, ⟨?_, ?_⟩⟩
    · omega
    · exact S.small_V2 (x := x1) h2 (by omega) (S.bif_f h5)
    simp only [S.meas]; omega
  intro h6
  try simp only [df] at h6
  exact S.small_V3 h2 (by omega)
theorem H_a58 (u : List Int) (hp : S.okC u) (hf : Vg.Row.ok (Vg.PS.flat [.one (.slice [.int .i64])]) u) : V_a58 u := by
  unfold V_a58
  have hr_u : u.length ≤ 9223372036854775807 := hf.1.1
  clear hf
  have hq := hp.1
  refine ⟨?_, ?_⟩
  · refine ⟨((nat_lit 0 : Nat), ([])), ?_⟩
    try dsimp only
    refine ⟨⟨?_, ?_⟩, ?_⟩
    · omega
    · rfl
    exact S.term_0 u
  intro x1
  intro h2
  refine ⟨?_, ?_⟩
  · intro h3
    try simp only [dt] at h3
    refine ⟨⟨?_, ?_⟩, ⟨?_, ⟨?_, ⟨⟨?_, ?_⟩, ⟨?_, ?_⟩⟩⟩⟩⟩
    · omega
    · omega
    · trivial
    · trivial
    · omega
    · have := h2.2.2; have := S.encR_len (S.smallC (List.getD u (Int.toNat (x1.1 : Int)) 0)); omega
    · intro h4
      try simp only [dt, tn] at h4
      exact S.term_stop h2 h3 h4
    intro h5
    try simp only [df, tn] at h5
    refine ⟨?_, ⟨⟨?_, ?_⟩, ?_⟩⟩
    · have := h2.2.2; have := S.encR_len (S.smallC (List.getD u (Int.toNat (x1.1 : Int)) 0)); omega
    · omega
    · omega
    refine ⟨((Prod.fst x1 + nat_lit 1), (Prod.snd x1 ++ S.encR (S.smallC (List.getD u (Int.toNat (↑(Prod.fst x1) : Int)) (0 : Int))))), ?_⟩
    try dsimp only
    refine ⟨⟨?_, ?_⟩, ⟨?_, ?_⟩⟩
    · omega
    · rfl
    · exact S.term_step h2 h3 h5
    simp only [S.meas, S.len]; omega
  intro h6
  try simp only [df] at h6
  exact S.term_end h2 (by with_reducible assumption)
theorem H_a59 (b : List UInt8) (hp : S.small b) (hf : Vg.Row.ok (Vg.PS.flat [.one (.slice [.int .u8])]) b) : V_a59 b := by
  unfold V_a59
  have hr_b : b.length ≤ 9223372036854775807 := hf.1.1
  clear hf
  have hp0 : b.length ≤ 1099511627776 := hp
  refine ⟨?_, ⟨?_, ?_⟩⟩
  · omega
  · refine ⟨((nat_lit 0 : Nat), (([]), ([]))), ?_⟩
    try dsimp only
    refine ⟨⟨?_, ⟨?_, ?_⟩⟩, ?_⟩
    · omega
    · with_reducible rfl
    · with_reducible rfl
    exact S.tok_0 _
  intro x1
  intro h2
  refine ⟨?_, ?_⟩
  · intro h3
    try simp only [dt] at h3
    refine ⟨⟨?_, ?_⟩, ⟨?_, ⟨?_, ⟨⟨?_, ?_⟩, ⟨?_, ?_⟩⟩⟩⟩⟩
    · omega
    · omega
    · omega
    · trivial
    · intro h4
      trivial
    · intro h5
      trivial
    · intro h6
      try simp only [V.bor] at h6
      refine ⟨?_, ⟨⟨?_, ?_⟩, ?_⟩⟩
      · (have hq := S.tok_bd h2 hp0; simp only [lc, ln]; omega)
      · omega
      · (have hq := S.tok_bd h2 hp0; omega)
      refine ⟨((Prod.fst x1 + nat_lit 1), ((Prod.fst (Prod.snd x1)), (Prod.snd (Prod.snd x1) ++ [List.getD (S.decode b) (Int.toNat (↑(Prod.fst x1) : Int)) (0 : Int)]))), ?_⟩
      try dsimp only
      refine ⟨⟨?_, ⟨?_, ?_⟩⟩, ⟨?_, ?_⟩⟩
      · omega
      · with_reducible rfl
      · with_reducible rfl
      · exact S.tok_word h2 h3 (S.wordC_t (by with_reducible assumption))
      (have hq := S.tok_bd h2 hp0; simp only [S.meas, S.len]; omega)
    intro h7
    try simp only [V.bor_f] at h7
    refine ⟨?_, ?_⟩
    · intro h8
      try simp only [dt] at h8
      refine ⟨?_, ⟨?_, ⟨⟨?_, ?_⟩, ?_⟩⟩⟩
      · (have hq := S.tok_bd h2 hp0; exact hq.1)
      · (have hq := S.tok_bd h2 hp0; simp only [lc, ln]; omega)
      · omega
      · (have hq := S.tok_bd h2 hp0; omega)
      refine ⟨((Prod.fst x1 + nat_lit 1), ((Prod.fst (Prod.snd x1) ++ [S.termOf (Prod.snd (Prod.snd x1))]), ([]))), ?_⟩
      try dsimp only
      refine ⟨⟨?_, ⟨?_, ?_⟩⟩, ⟨?_, ?_⟩⟩
      · omega
      · with_reducible rfl
      · with_reducible rfl
      · exact S.tok_cut h2 h3 (S.wordC_f (by with_reducible assumption)) (by with_reducible assumption)
      (have hq := S.tok_bd h2 hp0; simp only [S.meas, S.len]; omega)
    intro h9
    try simp only [df] at h9
    refine ⟨⟨?_, ?_⟩, ?_⟩
    · omega
    · (have hq := S.tok_bd h2 hp0; omega)
    refine ⟨((Prod.fst x1 + nat_lit 1), ((Prod.fst (Prod.snd x1)), (Prod.snd (Prod.snd x1)))), ?_⟩
    try dsimp only
    refine ⟨⟨?_, ⟨?_, ?_⟩⟩, ⟨?_, ?_⟩⟩
    · omega
    · with_reducible rfl
    · with_reducible rfl
    · exact S.tok_skip h2 h3 (S.wordC_f (by with_reducible assumption)) (by with_reducible assumption)
    (have hq := S.tok_bd h2 hp0; simp only [S.meas, S.len]; omega)
  intro h10
  try simp only [df] at h10
  refine ⟨?_, ?_⟩
  · intro h11
    try simp only [dt] at h11
    refine ⟨?_, ⟨?_, ?_⟩⟩
    · (have hq := S.tok_bd h2 hp0; exact hq.1)
    · (have hq := S.tok_bd h2 hp0; simp only [lc, ln]; omega)
    exact S.tok_end1 h2 (by with_reducible assumption) (by with_reducible assumption)
  intro h12
  try simp only [df] at h12
  exact S.tok_end2 h2 (by with_reducible assumption) (by with_reducible assumption)
theorem H_a60 (s : List UInt8) (hp : S.small s) (hf : Vg.Row.ok (Vg.PS.flat [.one (.str)]) s) : V_a60 s := by
  unfold V_a60
  have hr_s : s.length ≤ 9223372036854775807 := hf.1
  clear hf
  refine ⟨?_, ⟨⟨?_, ?_⟩, ?_⟩⟩
  · omega
  · intro h1
    try simp only [dt] at h1
    refine ⟨⟨?_, ?_⟩, ?_⟩
    · omega
    · omega
    omega
  · intro h2
    try simp only [df] at h2
    trivial
  exact S.isTerm_V s
theorem H_a69 (s : List UInt8) (hp : True) (hf : Vg.Row.ok (Vg.PS.flat [.one (.str)]) s) : V_a69 s := by
  unfold V_a69
  have hr_s : s.length ≤ 9223372036854775807 := hf.1
  clear hf
  simp
theorem H_a70 (a : List UInt8) (b : List UInt8) (hp : True) (hf : Vg.Row.ok (Vg.PS.flat [.one (.str), .one (.str)]) (a, b)) : V_a70 a b := by
  unfold V_a70
  have hr_a : a.length ≤ 9223372036854775807 := hf.1
  have hr_b : b.length ≤ 9223372036854775807 := hf.2.1
  clear hf
  refine ⟨?_, ⟨?_, ⟨?_, ?_⟩⟩⟩
  · trivial
  · trivial
  · intro h1
    refine ⟨?_, ?_⟩
    · intro h2
      simp only [S.cmpS] at *; grind [S.bl_irrefl, S.bl_tri, S.bl_asymm]
    intro h3
    simp only [S.cmpS] at *; grind [S.bl_irrefl, S.bl_tri, S.bl_asymm]
  intro h4
  refine ⟨?_, ?_⟩
  · intro h5
    simp only [S.cmpS] at *; grind [S.bl_irrefl, S.bl_tri, S.bl_asymm]
  intro h6
  refine ⟨?_, ?_⟩
  · intro h7
    simp only [S.cmpS] at *; grind [S.bl_irrefl, S.bl_tri, S.bl_asymm]
  intro h8
  refine ⟨?_, ?_⟩
  · intro h9
    try simp only [nt] at h9
    simp only [S.cmpS] at *; grind [S.bl_irrefl, S.bl_tri, S.bl_asymm]
  intro h10
  try simp only [nf] at h10
  simp only [S.cmpS] at *; grind [S.bl_irrefl, S.bl_tri, S.bl_asymm]
theorem H_a71 (a : List UInt8) (b : List UInt8) (hp : True) (hf : Vg.Row.ok (Vg.TA.tyss [.dat (.str), .dat (.str), .ref 50000 0]) (a, b)) (hg : Vg.BsD.ok [.cells [.fn (.func 85) [] []]] ((), ())) : V_a71 a b := by
  unfold V_a71
  have hr_a : a.length ≤ 9223372036854775807 := hf.1
  have hr_b : b.length ≤ 9223372036854775807 := hf.2.1
  clear hf hg
  refine ⟨?_, ?_⟩
  · trivial
  exact S.cmpS_0 a b
theorem H_a72 (l : List (List UInt8)) (hp : S.small l) (hf : Vg.Row.ok (Vg.TA.tyss [.own 50000, .fn (.func 114) [] [.ref 50001 0]]) ()) (hg : Vg.BsD.ok [.row 9 [.str], .cells [.fn (.func 85) [] []]] (l, ((), ()))) : V_a72 l := by
  unfold V_a72
  have hr_l : l.length ≤ 9223372036854775807 := hg.1.1
  clear hf hg
  have hp0 : l.length ≤ 1099511627776 := hp
  refine ⟨?_, ?_⟩
  · intro h1
    try simp only [dt] at h1
    exact S.cmp_short h1
  intro h2
  try simp only [df] at h2
  refine ⟨?_, ?_⟩
  · refine ⟨(nat_lit 1 : Nat), ?_⟩
    try dsimp only
    refine ⟨?_, ?_⟩
    · omega
    exact S.cmp_1 h2
  intro x3
  intro h4
  refine ⟨?_, ?_⟩
  · intro h5
    try simp only [dt] at h5
    refine ⟨⟨?_, ?_⟩, ⟨?_, ⟨⟨?_, ?_⟩, ⟨⟨?_, ?_⟩, ⟨?_, ⟨?_, ⟨?_, ?_⟩⟩⟩⟩⟩⟩⟩
    · omega
    · omega
    · omega
    · omega
    · omega
    · have := h4.1; omega
    · omega
    · omega
    · trivial
    · intro h6
      try simp only [dt, tn] at h6
      refine ⟨⟨?_, ?_⟩, ⟨?_, ?_⟩⟩
      · omega
      · omega
      · refine ⟨((x3), ((nat_lit 1 : Nat), ((l), (x3)))), ?_⟩
        try dsimp only
        refine ⟨⟨?_, ⟨?_, ?_⟩⟩, ⟨?_, ?_⟩⟩
        · omega
        · omega
        · trivial
        · exact S.cmp2_0 h4 h5 h6
        omega
      intro x7
      intro h8
      refine ⟨?_, ?_⟩
      · intro h9
        try simp only [dt, tn] at h9
        refine ⟨⟨?_, ?_⟩, ⟨?_, ⟨⟨?_, ?_⟩, ⟨⟨?_, ?_⟩, ⟨?_, ⟨?_, ⟨⟨?_, ?_⟩, ⟨⟨?_, ?_⟩, ?_⟩⟩⟩⟩⟩⟩⟩⟩
        · omega
        · omega
        · have q1 := h8.1.1; have q2 := h8.1.2.1; have q3 := h8.1.2.2.2.1; have q4 := h8.1.2.2.2.2.1; have q5 := h8.2; omega
        · omega
        · omega
        · have q1 := h8.1.1; have q2 := h8.1.2.1; have q3 := h8.1.2.2.2.1; have q4 := h8.1.2.2.2.2.1; have q5 := h8.2; omega
        · omega
        · have q1 := h8.1.1; have q2 := h8.1.2.1; have q3 := h8.1.2.2.2.1; have q4 := h8.1.2.2.2.2.1; have q5 := h8.2; omega
        · trivial
        · intro h10
          try simp only [nt, df, tn] at h10
          refine ⟨⟨?_, ?_⟩, ⟨?_, ⟨⟨?_, ?_⟩, ⟨?_, ⟨?_, ?_⟩⟩⟩⟩⟩
          · omega
          · omega
          · have q1 := h8.1.1; have q2 := h8.1.2.1; have q3 := h8.1.2.2.2.1; have q4 := h8.1.2.2.2.2.1; have q5 := h8.2; omega
          · omega
          · have q1 := h8.1.1; have q2 := h8.1.2.1; have q3 := h8.1.2.2.2.1; have q4 := h8.1.2.2.2.2.1; have q5 := h8.2; omega
          · have q1 := h8.1.1; have q2 := h8.1.2.1; have q3 := h8.1.2.2.2.1; have q4 := h8.1.2.2.2.2.1; have q5 := h8.2; omega
          · omega
          have q1 := h8.1.1; have q2 := h8.1.2.1; have q3 := h8.1.2.2.2.1; have q4 := h8.1.2.2.2.2.1; have q5 := h8.2; omega
        · intro h11
          try simp only [nf, dt, tn] at h11
          trivial
        · omega
        · omega
        refine ⟨((Int.toNat (bif !Decidable.decide (List.getD (Prod.fst (Prod.snd (Prod.snd x7))) (Int.toNat (↑x3 : Int) + Int.toNat (↑(Prod.fst (Prod.snd x7)) : Int)) [] = List.getD (Prod.fst (Prod.snd (Prod.snd x7))) (Int.toNat (↑x3 : Int) + Int.toNat ((↑(Prod.fst (Prod.snd x7)) : Int) - (1 : Int))) []) then (↑(Prod.fst x7) : Int) + (1 : Int) else (↑(Prod.fst x7) : Int))), ((Prod.fst (Prod.snd x7) + nat_lit 1), ((bif !Decidable.decide (List.getD (Prod.fst (Prod.snd (Prod.snd x7))) (Int.toNat (↑x3 : Int) + Int.toNat (↑(Prod.fst (Prod.snd x7)) : Int)) [] = List.getD (Prod.fst (Prod.snd (Prod.snd x7))) (Int.toNat (↑x3 : Int) + Int.toNat ((↑(Prod.fst (Prod.snd x7)) : Int) - (1 : Int))) []) then List.set (Prod.fst (Prod.snd (Prod.snd x7))) (Int.toNat (↑(Prod.fst x7) : Int)) (List.getD (Prod.fst (Prod.snd (Prod.snd x7))) (Int.toNat (↑x3 : Int) + Int.toNat (↑(Prod.fst (Prod.snd x7)) : Int)) []) else Prod.fst (Prod.snd (Prod.snd x7))), (x3)))), ?_⟩
        try dsimp only
        refine ⟨⟨?_, ⟨?_, ?_⟩⟩, ⟨⟨?_, ?_⟩, ?_⟩⟩
        · generalize (!decide (List.getD x7.2.2.1 (Int.toNat (x3 : Int) + Int.toNat (x7.2.1 : Int)) [] = List.getD x7.2.2.1 (Int.toNat (x3 : Int) + Int.toNat ((x7.2.1 : Int) - 1)) [])) = c
          cases c <;> simp only [cond_true, cond_false] <;> omega
        · omega
        · trivial
        · have q1 := h8.1.1
          have e3 : x7.2.2.2 = x3 := by have := h8.2; omega
          have hi := h8.1
          rw [e3] at hi
          have e1 : Int.toNat (x3 : Int) + Int.toNat (x7.2.1 : Int) = x3 + x7.2.1 := by omega
          have e2 : Int.toNat (x3 : Int) + Int.toNat ((x7.2.1 : Int) - 1) = x3 + x7.2.1 - 1 := by omega
          rw [e1, e2]
          by_cases hd : List.getD x7.2.2.1 (x3 + x7.2.1) [] = List.getD x7.2.2.1 (x3 + x7.2.1 - 1) []
          · rw [decide_eq_true hd]
            exact S.cmp2_skip hi (by omega) hd
          rw [decide_eq_false hd]
          exact S.cmp2_put hi (by omega) hd
        · omega
        simp only [S.meas, S.len]
        have q2 := h8.1.2.1
        omega
      intro h12
      try simp only [df, tn] at h12
      refine ⟨⟨?_, ?_⟩, ⟨?_, ⟨⟨?_, ?_⟩, ?_⟩⟩⟩
      · omega
      · have q1 := h8.1.2.1
        have q2 := h8.1.2.2.2.1
        have q3 := h8.1.2.2.2.2.1
        omega
      · have q1 := h8.1.2.1
        have q2 := h8.1.2.2.2.1
        have q3 := h8.1.2.2.2.2.1
        omega
      · omega
      · have q1 := h8.1.2.1
        have q2 := h8.1.2.2.2.1
        have q3 := h8.1.2.2.2.2.1
        simp only [List.length_append, List.length_take]
        omega
      have q1 := h8.1.2.1
      have q2 := h8.1.2.2.2.1
      have q3 := h8.1.2.2.2.2.1
      have e1 : Int.toNat (x7.1 : Int) = x7.1 := by omega
      rw [e1, S.take_clear (by omega)]
      exact S.cmp2_end h8.1 (by have := h8.2; omega)
    intro h13
    try simp only [df, tn] at h13
    refine ⟨⟨?_, ?_⟩, ?_⟩
    · omega
    · omega
    refine ⟨(x3 + nat_lit 1), ?_⟩
    try dsimp only
    refine ⟨?_, ⟨?_, ?_⟩⟩
    · omega
    · exact S.cmp_step h4 h5 h13
    simp only [S.meas, S.len]
    omega
  intro h14
  try simp only [df] at h14
  exact S.cmp_end h4 h14
theorem H_a76 (l : List (List UInt8)) (hp : S.small l) (hf : Vg.Row.ok (Vg.TA.tyss [.dat (.slice [.str]), .fn (.func 85) [] []]) l) (hg : Vg.BsD.ok [] ()) : V_a76 l := by
  unfold V_a76
  have hr_l : l.length ≤ 9223372036854775807 := hf.1.1
  clear hf hg
  refine ⟨?_, ⟨?_, ⟨?_, ?_⟩⟩⟩
  · exact hp
  · exact hp
  · exact S.sortS_small hp
  rfl
theorem H_a77 (b : List UInt8) (hp : S.small b) (hf : Vg.Row.ok (Vg.PS.flat [.one (.slice [.int .u8])]) b) : V_a77 b := by
  unfold V_a77
  have hr_b : b.length ≤ 9223372036854775807 := hf.1.1
  clear hf
  refine ⟨?_, ⟨?_, ?_⟩⟩
  · exact hp
  · exact S.terms_small hp
  exact S.set_law _
theorem H_a78 (l : List (List UInt8)) (hp : True) (hf : Vg.Row.ok (Vg.PS.flat [.one (.slice [.str])]) l) : V_a78 l := by
  unfold V_a78
  have hr_l : l.length ≤ 9223372036854775807 := hf.1.1
  clear hf
  refine ⟨?_, ?_⟩
  · refine ⟨(nat_lit 0 : Nat), ?_⟩
    try dsimp only
    refine ⟨?_, ?_⟩
    · omega
    exact S.digs_0 l
  intro x1
  intro h2
  refine ⟨?_, ?_⟩
  · intro h3
    try simp only [dt] at h3
    refine ⟨⟨?_, ?_⟩, ⟨?_, ?_⟩⟩
    · omega
    · omega
    · intro h4
      try simp only [nt, df, tn] at h4
      exact S.digs_bad h3 h4
    intro h5
    try simp only [nf, dt, tn] at h5
    refine ⟨⟨?_, ?_⟩, ?_⟩
    · omega
    · omega
    refine ⟨(x1 + nat_lit 1), ?_⟩
    try dsimp only
    refine ⟨?_, ⟨?_, ?_⟩⟩
    · omega
    · exact S.digs_step h2 h3 h5
    simp only [S.meas, S.len]; omega
  intro h6
  try simp only [df] at h6
  exact S.digs_end h2 (by with_reducible assumption)
theorem H_a79 (a : List UInt8) (b : List UInt8) (hp : True) (hf : Vg.Row.ok (Vg.PS.flat [.one (.str), .one (.str)]) (a, b)) : V_a79 a b := by
  unfold V_a79
  have hr_a : a.length ≤ 9223372036854775807 := hf.1
  have hr_b : b.length ≤ 9223372036854775807 := hf.2.1
  clear hf
  refine ⟨?_, ?_⟩
  · trivial
  rfl
theorem H_a80 (s : List (List UInt8)) (hp : S.combPre s) (hf : Vg.Row.ok (Vg.TA.tyss [.own 50000]) ()) (hg : Vg.BsD.ok [.row 9 [.str]] (s, ())) : V_a80 s := by
  unfold V_a80
  have hr_s : s.length ≤ 9223372036854775807 := hg.1.1
  clear hf hg
  have h1 := hp.1
  have h2 := hp.2
  refine ⟨⟨?_, ?_⟩, ⟨⟨?_, ?_⟩, ⟨?_, ⟨⟨?_, ?_⟩, ⟨⟨?_, ?_⟩, ⟨?_, ⟨?_, ⟨⟨?_, ?_⟩, ⟨?_, ⟨⟨?_, ?_⟩, ⟨⟨?_, ?_⟩, ?_⟩⟩⟩⟩⟩⟩⟩⟩⟩⟩⟩
  · omega
  · omega
  · omega
  · omega
  · omega
  · omega
  · omega
  · omega
  · omega
  · omega
  · trivial
  · omega
  · omega
  · omega
  · omega
  · omega
  · omega
  · rw [List.length_set]; omega
  exact S.comb_V hp
theorem H_a81 (l : List (List UInt8)) (hp : S.leavesPre l) (hf : Vg.Row.ok (Vg.PS.flat [.one (.slice [.slice [.int .u8]])]) l) : V_a81 l := by
  unfold V_a81
  have hr_l : l.length ≤ 9223372036854775807 := hf.1.1
  clear hf
  have h1 := hp.1
  refine ⟨?_, ?_⟩
  · refine ⟨(nat_lit 0 : Nat), ?_⟩
    try dsimp only
    refine ⟨⟨?_, ?_⟩, ?_⟩
    · omega
    · rfl
    simp only [S.minv, S.meas, S.len] at *; omega
  intro x1
  intro h2
  refine ⟨?_, ?_⟩
  · intro h3
    try simp only [dt] at h3
    refine ⟨⟨?_, ?_⟩, ⟨?_, ⟨?_, ⟨⟨?_, ?_⟩, ?_⟩⟩⟩⟩
    · omega
    · omega
    · exact S.leaves_pre hp (by with_reducible assumption)
    · have := S.leavesTo_len l x1; simp only [lc, ln]; omega
    · omega
    · omega
    refine ⟨(x1 + nat_lit 1), ?_⟩
    try dsimp only
    refine ⟨⟨?_, ?_⟩, ⟨?_, ?_⟩⟩
    · omega
    · exact S.leaves_step (by with_reducible assumption)
    · simp only [S.minv, S.meas, S.len] at *; omega
    simp only [S.minv, S.meas, S.len] at *; omega
  intro h4
  try simp only [df] at h4
  exact S.leaves_end (by with_reducible assumption)
theorem H_a82 (l : List (List UInt8)) (hp : S.rootPre l) (hf : Vg.Row.ok (Vg.PS.flat [.one (.slice [.str])]) l) : V_a82 l := by
  unfold V_a82
  have hr_l : l.length ≤ 9223372036854775807 := hf.1.1
  clear hf
  have hp0 := hp.2
  refine ⟨?_, ?_⟩
  · intro h1
    try simp only [dt] at h1
    refine ⟨?_, ?_⟩
    · exact Nat.zero_le _
    exact S.sum_root h1
  intro h2
  try simp only [df] at h2
  refine ⟨?_, ?_⟩
  · refine ⟨((nat_lit 0 : Nat), ([])), ?_⟩
    try dsimp only
    refine ⟨⟨?_, ?_⟩, ?_⟩
    · omega
    · with_reducible rfl
    exact S.root_0 l
  intro x3
  intro h4
  refine ⟨?_, ?_⟩
  · intro h5
    try simp only [dt] at h5
    refine ⟨⟨?_, ?_⟩, ⟨?_, ⟨?_, ?_⟩⟩⟩
    · omega
    · omega
    · have := S.root_s_len h4; simp only [lc, ln]; omega
    · refine ⟨(0, x3.1, x3.2 ++ [List.getD l (Int.toNat (x3.1 : Int)) []], x3.1), ?_⟩
      try dsimp only
      refine ⟨⟨?_, ?_⟩, ⟨?_, ?_⟩⟩
      · omega
      · with_reducible rfl
      · exact S.com_0 h4 h5
      omega
    intro x6
    intro h7
    refine ⟨?_, ⟨?_, ⟨?_, ?_⟩⟩⟩
    · omega
    · omega
    · intro h8
      try simp only [dt] at h8
      refine ⟨?_, ⟨⟨?_, ?_⟩, ?_⟩⟩
      · exact S.com_pre (S.com_of h7) h8 hp
      · omega
      · omega
      refine ⟨(x6.1 + 1, x6.2.1 / 2, S.comb x6.2.2.1, x3.1), ?_⟩
      try dsimp only
      refine ⟨⟨?_, ?_⟩, ⟨⟨?_, ?_⟩, ?_⟩⟩
      · simp only [show Int.toNat 1 = 1 by rfl]; omega
      · with_reducible rfl
      · exact (S.com_step (S.com_of h7) h8).1
      · omega
      exact (S.com_step (S.com_of h7) h8).2.1
    intro h9
    try simp only [df] at h9
    refine ⟨⟨?_, ?_⟩, ?_⟩
    · omega
    · omega
    refine ⟨((Prod.fst x3 + nat_lit 1), (Prod.fst (Prod.snd (Prod.snd x6)))), ?_⟩
    try dsimp only
    refine ⟨⟨?_, ?_⟩, ⟨?_, ?_⟩⟩
    · omega
    · with_reducible rfl
    · exact S.com_end (S.com_of h7) h9
    simp only [S.meas, S.len]; omega
  intro h10
  try simp only [df] at h10
  refine ⟨?_, ?_⟩
  · refine ⟨(Prod.snd x3), ?_⟩
    try dsimp only
    refine ⟨?_, ?_⟩
    · with_reducible rfl
    exact S.fin_0 h4 h10 h2
  intro x11
  intro h12
  refine ⟨?_, ?_⟩
  · intro h13
    try simp only [dt] at h13
    refine ⟨?_, ?_⟩
    · have := S.fin_len h12; exact ⟨by omega, by omega⟩
    refine ⟨(S.comb x11), ?_⟩
    try dsimp only
    refine ⟨?_, ⟨?_, ?_⟩⟩
    · with_reducible rfl
    · exact (S.fin_step h12 h13).1
    exact (S.fin_step h12 h13).2
  intro h14
  try simp only [df] at h14
  refine ⟨⟨?_, ?_⟩, ⟨?_, ?_⟩⟩
  · omega
  · have := (S.fin_end h12 h14).2; omega
  · have := (S.fin_end h12 h14).2; omega
  exact (S.fin_end h12 h14).1
theorem H_a83 (l : List (List UInt8)) (hp : S.small l) (hf : Vg.Row.ok (Vg.PS.flat [.one (.slice [.str])]) l) : V_a83 l := by
  unfold V_a83
  have hr_l : l.length ≤ 9223372036854775807 := hf.1.1
  clear hf
  have hp0 : l.length ≤ 1099511627776 := hp
  refine ⟨?_, ⟨?_, ?_⟩⟩
  · trivial
  · intro h1
    try simp only [nt] at h1
    refine ⟨?_, ?_⟩
    · grind [S.rootR, S.rootE, S.rootPre]
    grind [S.rootR, S.rootE, S.rootPre]
  intro h2
  try simp only [nf] at h2
  refine ⟨?_, ⟨?_, ?_⟩⟩
  · trivial
  · grind [S.rootR, S.rootE, S.rootPre]
  grind [S.rootR, S.rootE, S.rootPre]
theorem H_a87 (l : List Int) (hp : True) (hf : Vg.Row.ok (Vg.PS.flat [.one (.slice [.int .i64])]) l) : V_a87 l := by
  unfold V_a87
  have hr_l : l.length ≤ 9223372036854775807 := hf.1.1
  clear hf
  refine ⟨?_, ?_⟩
  · refine ⟨(nat_lit 0 : Nat), ?_⟩
    try dsimp only
    refine ⟨⟨?_, ?_⟩, ?_⟩
    · omega
    · exact (S.prevI_0 l).symm
    exact S.post_0 l
  intro x1
  intro h2
  refine ⟨?_, ?_⟩
  · intro h3
    try simp only [dt] at h3
    refine ⟨⟨?_, ?_⟩, ⟨?_, ?_⟩⟩
    · omega
    · omega
    · intro h4
      try simp only [V.bor, dt, tn] at h4
      exact S.post_bad h3 h4
    intro h5
    try simp only [V.bor_f, df, tn] at h5
    refine ⟨⟨?_, ?_⟩, ?_⟩
    · omega
    · omega
    refine ⟨(x1 + nat_lit 1), ?_⟩
    try dsimp only
    refine ⟨⟨?_, ?_⟩, ⟨?_, ?_⟩⟩
    · omega
    · rw [S.prevI_succ, tn]
    · exact S.post_step h2 h3 h5
    simp only [S.meas, S.len]; omega
  intro h6
  try simp only [df] at h6
  exact S.post_end h2 (by with_reducible assumption)
theorem H_a88 (l : List Int) (hp : True) (hf : Vg.Row.ok (Vg.PS.flat [.one (.slice [.int .i64])]) l) : V_a88 l := by
  unfold V_a88
  have hr_l : l.length ≤ 9223372036854775807 := hf.1.1
  clear hf
  refine ⟨?_, ⟨?_, ?_⟩⟩
  · trivial
  · intro h1
    try simp only [nt] at h1
    refine ⟨?_, ?_⟩
    · simp only [S.postE, S.postW, h1]; rfl
    simp only [S.postE, S.postW, h1]; rfl
  intro h2
  try simp only [nf] at h2
  refine ⟨?_, ⟨?_, ?_⟩⟩
  · exact Nat.zero_le _
  · refine ⟨(nat_lit 0 : Nat), ?_⟩
    try dsimp only
    refine ⟨⟨?_, ⟨?_, ?_⟩⟩, ?_⟩
    · omega
    · exact (S.prevI_0 l).symm
    · have := S.post_len h2; rw [S.numB_nil (by omega) (by omega), S.postTo_0]
    omega
  intro x3
  intro h4
  refine ⟨?_, ?_⟩
  · intro h5
    try simp only [dt] at h5
    refine ⟨⟨?_, ?_⟩, ⟨⟨?_, ?_⟩, ⟨⟨?_, ?_⟩, ⟨?_, ⟨?_, ⟨⟨?_, ?_⟩, ?_⟩⟩⟩⟩⟩⟩
    · omega
    · omega
    · have := S.post_gap h2 h5; omega
    · have := S.post_gap h2 h5; omega
    · have := S.post_gap h2 h5; omega
    · have := S.post_gap h2 h5; omega
    · exact Nat.zero_le _
    · have := (S.post_gap_len h2 h5 (List.getD l (Int.toNat (x3 : Int)) 0 - S.prevI l x3 - 1)).1; omega
    · omega
    · omega
    refine ⟨(x3 + nat_lit 1), ?_⟩
    try dsimp only
    refine ⟨⟨?_, ⟨?_, ?_⟩⟩, ⟨?_, ?_⟩⟩
    · omega
    · rw [S.prevI_succ, tn]
    · exact S.post_gap_step h2 h5
    · omega
    simp only [S.meas, S.len]; omega
  intro h6
  try simp only [df] at h6
  refine ⟨?_, ?_⟩
  · simp only [S.postE, h2]; rfl
  rw [show x3 = l.length by omega]; exact S.postW_of h2
theorem H_a89 (l : List Int) (hp : True) (hf : Vg.Row.ok (Vg.PS.flat [.one (.slice [.int .i64])]) l) : V_a89 l := by
  unfold V_a89
  have hr_l : l.length ≤ 9223372036854775807 := hf.1.1
  clear hf
  refine ⟨?_, ⟨?_, ?_⟩⟩
  · trivial
  · intro h1
    try simp only [nt, df] at h1
    refine ⟨?_, ?_⟩
    · have hq : S.postR l = false := by
        cases hr : S.postR l with
        | false => rfl
        | true => exact absurd (by simp only [S.postE, hr]; rfl) h1
      simp only [S.postD, hq]; rfl
    rfl
  intro h2
  try simp only [nf, dt] at h2
  refine ⟨?_, ⟨?_, ?_⟩⟩
  · have hq : S.postR l = true := by
      cases hr : S.postR l with
      | true => rfl
      | false => simp only [S.postE, hr] at h2; exact absurd h2 (by decide)
    have hl := S.postB_len hq
    simp only [S.postW, S.postD, hq, if_true, S.sealPre]
    try (first | rfl | omega)
  · have hq : S.postR l = true := by
      cases hr : S.postR l with
      | true => rfl
      | false => simp only [S.postE, hr] at h2; exact absurd h2 (by decide)
    have hl := S.postB_len hq
    simp only [S.postW, S.postD, hq, if_true, S.sealPre]
    try (first | rfl | omega)
  omega
theorem H_a90 (n : Int) (p : Bool) (q : Bool) (s1 : Int) (s2 : Int) (hp : True) (hf : Vg.Row.ok (Vg.TA.tyss [.dat (.int .i64), .dat (.bool), .dat (.bool), .ref 50000 0]) (n, p, q)) (hg : Vg.BsD.ok [.cells [.dat (.int .i64), .dat (.int .i64)]] ((s1, s2), ())) : V_a90 n p q s1 s2 := by
  unfold V_a90
  have hr_n : -9223372036854775808 ≤ n ∧ n ≤ 9223372036854775807 := hf.1
  have hr_s1 : -9223372036854775808 ≤ s1 ∧ s1 ≤ 9223372036854775807 := hg.1.1
  have hr_s2 : -9223372036854775808 ≤ s2 ∧ s2 ≤ 9223372036854775807 := hg.1.2.1
  clear hf hg
  refine ⟨?_, ⟨?_, ?_⟩⟩
  · simp only [S.inSpn]; grind
  · rfl
  rfl
theorem H_a91 (a : List Int) (b : List Int) (s1 : Int) (s2 : Int) (hp : b.length = 0) (hf : Vg.Row.ok (Vg.TA.tyss [.dat (.slice [.int .i64]), .dat (.slice [.int .i64]), .fn (.func 96) [] [.ref 50000 0]]) (a, b)) (hg : Vg.BsD.ok [.cells [.dat (.int .i64), .dat (.int .i64)]] ((s1, s2), ())) : V_a91 a b s1 s2 := by
  unfold V_a91
  have hb : b = [] := List.eq_nil_of_length_eq_zero hp
  subst hb
  have ha : a.length ≤ 9223372036854775807 := hf.1.1
  clear hf hg
  refine ⟨trivial, trivial, ?_, ?_⟩
  · refine ⟨(S.okL a, []), ⟨?_, ?_, rfl, rfl, rfl⟩, S.pick_0 a s1 s2⟩
    · simp only [S.okL]; cases S.postR a <;> rfl
    simp [S.noInts]
  rintro ⟨r, out⟩ h
  have hl := h.2
  cases r with
  | nil => simp [S.noInts]; exact S.pick_end h
  | cons n r =>
    simp [S.noInts]
    refine ⟨by omega, fun hn => ⟨?_, ?_⟩, fun hn => ?_⟩
    · simp at hl; omega
    · exact ⟨r, out ++ [n], ⟨rfl, rfl⟩, S.pick_yes h hn, by simp [S.len]⟩
    exact ⟨r, out, ⟨rfl, rfl⟩, S.pick_no h hn, by simp [S.len]⟩
theorem H_a92 (l : List Int) (s1 : Int) (s2 : Int) (hp : True) (hf : Vg.Row.ok (Vg.PS.flat [.one (.slice [.int .i64]), .agg [.int .i64, .int .i64]]) (l, s1, s2)) : V_a92 l s1 s2 := by
  unfold V_a92
  have hr_l : l.length ≤ 9223372036854775807 := hf.1.1
  have hr_s1 : -9223372036854775808 ≤ s1 ∧ s1 ≤ 9223372036854775807 := hf.2.1
  have hr_s2 : -9223372036854775808 ≤ s2 ∧ s2 ≤ 9223372036854775807 := hf.2.2.1
  clear hf
  refine ⟨?_, ?_⟩
  · rfl
  rfl
theorem H_a96 (a : List Int) (b : List Int) (hp : True) (hf : Vg.Row.ok (Vg.PS.flat [.one (.slice [.int .i64]), .one (.slice [.int .i64])]) (a, b)) : V_a96 a b := by
  unfold V_a96
  have hr_a : a.length ≤ 9223372036854775807 := hf.1.1
  have hr_b : b.length ≤ 9223372036854775807 := hf.2.1.1
  clear hf
  refine ⟨?_, ?_⟩
  · intro h1
    try simp only [nt, df] at h1
    exact S.same_len h1
  intro h2
  try simp only [nf, dt] at h2
  refine ⟨?_, ?_⟩
  · refine ⟨(nat_lit 0 : Nat), ?_⟩
    try dsimp only
    refine ⟨?_, ?_⟩
    · omega
    exact S.same_0 h2
  intro x3
  intro h4
  refine ⟨?_, ?_⟩
  · intro h5
    try simp only [dt] at h5
    refine ⟨⟨?_, ?_⟩, ⟨⟨?_, ?_⟩, ⟨?_, ?_⟩⟩⟩
    · omega
    · omega
    · omega
    · omega
    · intro h6
      try simp only [nt, df, tn] at h6
      exact S.same_bad h6
    intro h7
    try simp only [nf, dt, tn] at h7
    refine ⟨⟨?_, ?_⟩, ?_⟩
    · omega
    · omega
    refine ⟨(x3 + nat_lit 1), ?_⟩
    try dsimp only
    refine ⟨?_, ⟨?_, ?_⟩⟩
    · omega
    · exact S.same_step h4 h5 h7
    simp only [S.meas, S.len]; omega
  intro h8
  try simp only [df] at h8
  exact S.same_end h4 h8
theorem H_a98 (d : List (List UInt8 × List Int)) (hp : S.dictPre d) (hf : Vg.Row.ok (Vg.PS.flat [.one (.slice [.str, .slice [.int .i64]])]) d) : V_a98 d := by
  unfold V_a98
  have hr_d : d.length ≤ 9223372036854775807 := hf.1.1
  clear hf
  have hp0 := hp.1
  refine ⟨?_, ?_⟩
  · refine ⟨(nat_lit 0 : Nat), ?_⟩
    try dsimp only
    refine ⟨?_, ?_⟩
    · omega
    exact S.dR_0 d
  intro x1
  intro h2
  refine ⟨?_, ?_⟩
  · intro h3
    try simp only [dt] at h3
    refine ⟨⟨?_, ?_⟩, ⟨⟨?_, ?_⟩, ⟨?_, ?_⟩⟩⟩
    · omega
    · omega
    · intro h4
      try simp only [dt] at h4
      refine ⟨⟨?_, ?_⟩, ⟨?_, ?_⟩⟩
      · omega
      · omega
      · omega
      omega
    · intro h5
      try simp only [df] at h5
      trivial
    · intro h6
      try simp only [V.band, dt] at h6
      refine S.dR_bad h3 ((S.ent_false _ _).2 (.inl ⟨by omega, ?_⟩))
      have e : Int.toNat ((x1 : Int) - 1) = x1 - 1 := by omega
      have h62 := h6.2
      rw [e] at h62
      exact h62
    intro h7
    try simp only [V.band_f, df] at h7
    refine ⟨⟨?_, ?_⟩, ⟨?_, ?_⟩⟩
    · intro h8
      try simp only [dt, tn] at h8
      trivial
    · intro h9
      try simp only [df, tn] at h9
      refine ⟨?_, ⟨?_, ?_⟩⟩
      · trivial
      · intro h10
        try simp only [nt] at h10
        trivial
      intro h11
      try simp only [nf] at h11
      exact S.getD_pre hp
    · intro h12
      try simp only [V.bor, dt, tn, nt] at h12
      exact S.dR_bad h3 ((S.ent_false _ _).2 (.inr (h12.imp (fun q => by have : ((S.entD d x1).length : Int) = 0 := q; omega) id)))
    intro h13
    try simp only [V.bor_f, df, tn, nf] at h13
    refine ⟨⟨?_, ?_⟩, ?_⟩
    · omega
    · omega
    refine ⟨(x1 + nat_lit 1), ?_⟩
    try dsimp only
    refine ⟨?_, ⟨?_, ?_⟩⟩
    · omega
    · refine S.dR_step h2 h3 ((S.ent_iff _ _).2 ⟨?_, ?_, h13.2.1, h13.2.2⟩)
      rotate_left
      · have := h13.1
        simp only [S.entD]; omega
      rcases h7 with h7 | h7
      · left; omega
      right
      have e : Int.toNat ((x1 : Int) - 1) = x1 - 1 := by omega
      rw [e] at h7
      exact h7
    simp only [S.meas, S.len]; omega
  intro h14
  try simp only [df] at h14
  exact S.dR_end h2 (by with_reducible assumption)
theorem H_a99 (l1 : List UInt8) (l2 : List UInt8) (l3 : List UInt8) (hp : True) (hf : Vg.Row.ok (Vg.PS.flat [.agg [.str, .str, .str]]) (l1, l2, l3)) : V_a99 l1 l2 l3 := by
  unfold V_a99
  have hr_l1 : l1.length ≤ 9223372036854775807 := hf.1
  have hr_l2 : l2.length ≤ 9223372036854775807 := hf.2.1
  have hr_l3 : l3.length ≤ 9223372036854775807 := hf.2.2.1
  clear hf
  refine ⟨?_, ?_⟩
  · intro h1
    try simp only [V.bor, dt, nt, df] at h1
    refine ⟨?_, ?_⟩
    · have hq := S.linkOk_no h1
      simp only [S.linkW, S.linkE, hq]; rfl
    have hq := S.linkOk_no h1
    simp only [S.linkW, S.linkE, hq]; rfl
  intro h2
  try simp only [V.bor_f, df, nf, dt] at h2
  refine ⟨?_, ⟨?_, ⟨?_, ⟨?_, ?_⟩⟩⟩⟩
  · have hq := S.linkOk_yes h2
    have q := (S.linkOk_iff _ _ _).1 hq
    have t1 := S.text_len (s := l1); have t2 := S.text_len (s := l2)
    exact S.textPre_of (Nat.zero_le _) (by omega)
  · have hq := S.linkOk_yes h2
    have q := (S.linkOk_iff _ _ _).1 hq
    have t1 := S.text_len (s := l1); have t2 := S.text_len (s := l2)
    exact S.textPre_of (by rw [List.nil_append]; omega) (by omega)
  · have hq := S.linkOk_yes h2
    have q := (S.linkOk_iff _ _ _).1 hq
    have t1 := S.text_len (s := l1); have t2 := S.text_len (s := l2)
    simp only [List.length_append, ln]; omega
  · have hq := S.linkOk_yes h2
    have q := (S.linkOk_iff _ _ _).1 hq
    have t1 := S.text_len (s := l1); have t2 := S.text_len (s := l2)
    simp only [S.linkW, hq, if_true]; rfl
  have hq := S.linkOk_yes h2
  have q := (S.linkOk_iff _ _ _).1 hq
  have t1 := S.text_len (s := l1); have t2 := S.text_len (s := l2)
  simp only [S.linkE, hq, if_true]; done
theorem H_a101 (d : List (List UInt8 × List Int)) (hp : S.dictPre d) (hf : Vg.Row.ok (Vg.PS.flat [.one (.slice [.str, .slice [.int .i64]])]) d) : V_a101 d := by
  unfold V_a101
  have hr_d : d.length ≤ 9223372036854775807 := hf.1.1
  clear hf
  have hp0 := hp.1
  refine ⟨?_, ⟨?_, ?_⟩⟩
  · omega
  · intro h1
    try simp only [nt] at h1
    refine ⟨?_, ?_⟩
    · simp only [S.dE, S.dLinks, h1]; rfl
    simp only [S.dE, S.dLinks, h1]; rfl
  intro h2
  try simp only [nf] at h2
  refine ⟨⟨?_, ?_⟩, ⟨?_, ?_⟩⟩
  · omega
  · omega
  · refine ⟨(nat_lit 0 : Nat), ?_⟩
    try dsimp only
    refine ⟨⟨?_, ?_⟩, ?_⟩
    · omega
    · rfl
    omega
  intro x3
  intro h4
  refine ⟨?_, ?_⟩
  · intro h5
    try simp only [dt] at h5
    refine ⟨⟨?_, ?_⟩, ⟨⟨?_, ?_⟩, ⟨?_, ⟨?_, ⟨?_, ⟨⟨?_, ?_⟩, ?_⟩⟩⟩⟩⟩⟩
    · intro h6
      try simp only [dt] at h6
      refine ⟨⟨?_, ?_⟩, ⟨⟨?_, ?_⟩, ⟨⟨?_, ?_⟩, ⟨?_, ?_⟩⟩⟩⟩
      · omega
      · omega
      · omega
      · omega
      · omega
      · omega
      · omega
      omega
    · intro h7
      try simp only [df] at h7
      trivial
    · intro h8
      try simp only [dt] at h8
      refine ⟨?_, ?_⟩
      · omega
      omega
    · intro h9
      try simp only [df] at h9
      trivial
    · trivial
    · trivial
    · rw [S.links_len]; simp only [lc, ln]; omega
    · omega
    · omega
    refine ⟨(x3 + nat_lit 1), ?_⟩
    try dsimp only
    refine ⟨⟨?_, ?_⟩, ⟨?_, ?_⟩⟩
    · omega
    · rw [S.link_V h2 (by omega), S.links_succ]
    · omega
    simp only [S.meas, S.len]; omega
  intro h10
  try simp only [df] at h10
  refine ⟨?_, ?_⟩
  · simp only [S.dE, h2]; rfl
  simp only [S.dLinks, h2, if_true]; rw [show x3 = d.length + 1 by omega]; rfl
theorem H_a102 (d : List (List UInt8 × List Int)) (hp : S.dictPre d) (hf : Vg.Row.ok (Vg.PS.flat [.one (.slice [.str, .slice [.int .i64]])]) d) : V_a102 d := by
  unfold V_a102
  have hr_d : d.length ≤ 9223372036854775807 := hf.1.1
  clear hf
  refine ⟨?_, ⟨?_, ?_⟩⟩
  · omega
  · intro h1
    try simp only [nt, df] at h1
    refine ⟨?_, ?_⟩
    · simp only [S.dRoot, S.dE_1 h1]; rfl
    rfl
  intro h2
  try simp only [nf, dt] at h2
  refine ⟨?_, ⟨?_, ⟨?_, ?_⟩⟩⟩
  · have hr := S.dE_0 h2
    have hq := S.links_pre hp hr
    have e : S.dLinks d = S.links d := by simp only [S.dLinks, hr, if_true]
    rw [e]
    exact hq.1
  · have hr := S.dE_0 h2
    have hq := S.links_pre hp hr
    have e : S.dLinks d = S.links d := by simp only [S.dLinks, hr, if_true]
    rw [e]
    exact hq.2.2
  · have hr := S.dE_0 h2
    have hq := S.links_pre hp hr
    have e : S.dLinks d = S.links d := by simp only [S.dLinks, hr, if_true]
    rw [e]
    simp only [S.dRoot, S.rootR, hr, hq.2.1, if_true]; rfl
  have hr := S.dE_0 h2
  have hq := S.links_pre hp hr
  have e : S.dLinks d = S.links d := by simp only [S.dLinks, hr, if_true]
  rw [e]
  simp only [S.dE, S.rootE, hr, hq.2.1, if_true]
theorem H_a103 (d : List (List UInt8 × List Int)) (t : List UInt8) (hp : S.dictPre d) (hf : Vg.Row.ok (Vg.PS.flat [.one (.slice [.str, .slice [.int .i64]]), .one (.str)]) (d, t)) : V_a103 d t := by
  unfold V_a103
  have hr_d : d.length ≤ 9223372036854775807 := hf.1.1
  have hr_t : t.length ≤ 9223372036854775807 := hf.2.1
  clear hf
  have hp0 := hp.1
  refine ⟨?_, ⟨?_, ?_⟩⟩
  · omega
  · intro h1
    try simp only [nt] at h1
    refine ⟨?_, ?_⟩
    · exact (S.dFind_no h1).1
    exact (S.dFind_no h1).2
  intro h2
  try simp only [nf] at h2
  refine ⟨?_, ?_⟩
  · refine ⟨(nat_lit 0 : Nat), ?_⟩
    try dsimp only
    refine ⟨⟨?_, ?_⟩, ?_⟩
    · omega
    · rfl
    omega
  intro x3
  intro h4
  refine ⟨?_, ?_⟩
  · intro h5
    try simp only [dt] at h5
    refine ⟨⟨?_, ?_⟩, ⟨⟨?_, ?_⟩, ?_⟩⟩
    · omega
    · omega
    · omega
    · omega
    refine ⟨(x3 + nat_lit 1), ?_⟩
    try dsimp only
    refine ⟨⟨?_, ?_⟩, ⟨?_, ?_⟩⟩
    · omega
    · exact S.find_V d t x3
    · omega
    simp only [S.meas, S.len]; omega
  intro h6
  try simp only [df] at h6
  refine ⟨⟨?_, ?_⟩, ⟨?_, ?_⟩⟩
  · intro h7
    try simp only [dt] at h7
    refine ⟨?_, ?_⟩
    · omega
    have := (S.find_le (d := d) (t := t) x3).2; omega
  · intro h8
    try simp only [df] at h8
    trivial
  · rw [show x3 = d.length by omega, S.dFind_V h2]; cases decide (0 ≤ S.dFind d t) <;> rfl
  rw [show x3 = d.length by omega]; exact S.findB_V h2
theorem H_a104 (d : List (List UInt8 × List Int)) (t : List UInt8) (hp : S.dictPre d) (hf : Vg.Row.ok (Vg.PS.flat [.one (.slice [.str, .slice [.int .i64]]), .one (.str)]) (d, t)) : V_a104 d t := by
  unfold V_a104
  have hr_d : d.length ≤ 9223372036854775807 := hf.1.1
  have hr_t : t.length ≤ 9223372036854775807 := hf.2.1
  clear hf
  have hp0 := hp
  refine ⟨?_, ⟨?_, ?_⟩⟩
  · exact hp
  · intro h1
    try simp only [nt] at h1
    exact S.docs_0 h1
  intro h2
  try simp only [nf] at h2
  refine ⟨⟨?_, ?_⟩, ⟨?_, ?_⟩⟩
  · exact (S.docs_1 h2).1
  · exact (S.docs_1 h2).2.1
  · exact S.docs_2 h2
  exact (S.docs_1 h2).2.2
theorem H_a119 (s1 : Int) (s2 : Int) (hp : True) (hf : Vg.Row.ok (Vg.PS.flat [.agg [.int .i64, .int .i64]]) (s1, s2)) : V_a119 s1 s2 := by
  unfold V_a119
  have hr_s1 : -9223372036854775808 ≤ s1 ∧ s1 ≤ 9223372036854775807 := hf.1
  have hr_s2 : -9223372036854775808 ≤ s2 ∧ s2 ≤ 9223372036854775807 := hf.2.1
  clear hf
  simp only [S.wholeB, S.bif_and]
theorem H_a120 (s1 : Int) (s2 : Int) (s3 : List (List UInt8 × List Int)) (hp : S.dictPre s3) (hf : Vg.Row.ok (Vg.PS.flat [.agg [.int .i64, .int .i64, .slice [.str, .slice [.int .i64]]]]) (s1, s2, s3)) : V_a120 s1 s2 s3 := by
  unfold V_a120
  have hr_s1 : -9223372036854775808 ≤ s1 ∧ s1 ≤ 9223372036854775807 := hf.1
  have hr_s2 : -9223372036854775808 ≤ s2 ∧ s2 ≤ 9223372036854775807 := hf.2.1
  have hr_s3 : s3.length ≤ 9223372036854775807 := hf.2.2.1.1
  clear hf
  refine ⟨?_, ⟨⟨?_, ?_⟩, ⟨?_, ?_⟩⟩⟩
  · trivial
  · intro h1
    try simp only [nt] at h1
    trivial
  · intro h2
    try simp only [nf] at h2
    omega
  · intro h3
    try simp only [V.bor, nt] at h3
    exact S.seg_no h3
  intro h4
  try simp only [V.bor_f, nf] at h4
  refine ⟨?_, ?_⟩
  · refine ⟨(nat_lit 0 : Nat), ?_⟩
    try dsimp only
    refine ⟨?_, ?_⟩
    · omega
    exact S.seg_0 h4.1 h4.2
  intro x5
  intro h6
  refine ⟨?_, ?_⟩
  · intro h7
    try simp only [dt] at h7
    refine ⟨⟨?_, ?_⟩, ⟨?_, ⟨?_, ?_⟩⟩⟩
    · omega
    · omega
    · trivial
    · intro h8
      try simp only [nt, df, tn] at h8
      exact S.seg_bad h7 (decide_eq_false h8)
    intro h9
    try simp only [nf, dt, tn] at h9
    refine ⟨⟨?_, ?_⟩, ?_⟩
    · omega
    · omega
    refine ⟨(x5 + nat_lit 1), ?_⟩
    try dsimp only
    refine ⟨?_, ⟨?_, ?_⟩⟩
    · omega
    · exact S.seg_step h6 h7 (decide_eq_true h9)
    simp only [S.meas, S.len]; omega
  intro h10
  try simp only [df] at h10
  exact S.seg_end h6 h10
theorem H_a121 (s1 : Int) (s2 : Int) (s3 : List (List UInt8 × List Int)) (hp : S.dictPre s3) (hf : Vg.Row.ok (Vg.PS.flat [.agg [.int .i64, .int .i64, .slice [.str, .slice [.int .i64]]]]) (s1, s2, s3)) : V_a121 s1 s2 s3 := by
  unfold V_a121
  have hr_s1 : -9223372036854775808 ≤ s1 ∧ s1 ≤ 9223372036854775807 := hf.1
  have hr_s2 : -9223372036854775808 ≤ s2 ∧ s2 ≤ 9223372036854775807 := hf.2.1
  have hr_s3 : s3.length ≤ 9223372036854775807 := hf.2.2.1.1
  clear hf
  have hp0 := hp.1
  refine ⟨?_, ⟨?_, ?_⟩⟩
  · omega
  · intro h1
    try simp only [nt] at h1
    refine ⟨?_, ⟨?_, ⟨?_, ⟨?_, ?_⟩⟩⟩⟩
    · rw [S.sRight_no h1]
    · rw [S.sRight_no h1]
    · rw [S.sRight_no h1]
    · rw [S.sRight_no h1]
    rw [S.sRight_no h1]
  intro h2
  try simp only [nf] at h2
  refine ⟨?_, ⟨?_, ?_⟩⟩
  · omega
  · intro h3
    try simp only [nt, df] at h3
    refine ⟨?_, ⟨?_, ⟨?_, ⟨?_, ?_⟩⟩⟩⟩
    · exact absurd (S.sRight_yes h2).2.1 h3
    · exact absurd (S.sRight_yes h2).2.1 h3
    · exact absurd (S.sRight_yes h2).2.1 h3
    · exact absurd (S.sRight_yes h2).2.1 h3
    exact absurd (S.sRight_yes h2).2.1 h3
  intro h4
  try simp only [nf, dt] at h4
  refine ⟨⟨?_, ?_⟩, ⟨?_, ⟨?_, ⟨?_, ⟨?_, ?_⟩⟩⟩⟩⟩
  · omega
  · omega
  · rw [(S.sRight_yes h2).1]
  · rw [(S.sRight_yes h2).1]
  · rw [(S.sRight_yes h2).1]
  · rw [(S.sRight_yes h2).1]; exact (S.sRight_yes h2).2.2
  rw [(S.sRight_yes h2).1]
theorem H_a122 (s1 : Int) (s2 : Int) (s3 : Int) (s4 : List UInt8) (hp : True) (hf : Vg.Row.ok (Vg.PS.flat [.agg [.int .i64, .int .i64, .int .i64, .str]]) (s1, s2, s3, s4)) : V_a122 s1 s2 s3 s4 := by
  unfold V_a122
  have hr_s1 : -9223372036854775808 ≤ s1 ∧ s1 ≤ 9223372036854775807 := hf.1
  have hr_s2 : -9223372036854775808 ≤ s2 ∧ s2 ≤ 9223372036854775807 := hf.2.1
  have hr_s3 : -9223372036854775808 ≤ s3 ∧ s3 ≤ 9223372036854775807 := hf.2.2.1
  have hr_s4 : s4.length ≤ 9223372036854775807 := hf.2.2.2.1
  clear hf
  refine ⟨?_, ?_⟩
  · trivial
  simp only [S.sGood, S.bif_and]
theorem H_a123 (docs : List (List UInt8)) (s1 : Int) (s2 : Int) (hp : True) (hf : Vg.Row.ok (Vg.PS.flat [.one (.slice [.slice [.int .u8]]), .agg [.int .i64, .int .i64]]) (docs, s1, s2)) : V_a123 docs s1 s2 := by
  unfold V_a123
  have hr_docs : docs.length ≤ 9223372036854775807 := hf.1.1
  have hr_s1 : -9223372036854775808 ≤ s1 ∧ s1 ≤ 9223372036854775807 := hf.2.1
  have hr_s2 : -9223372036854775808 ≤ s2 ∧ s2 ≤ 9223372036854775807 := hf.2.2.1
  clear hf
  refine ⟨?_, ⟨?_, ?_⟩⟩
  · trivial
  · intro h1
    try simp only [nt, df] at h1
    refine ⟨?_, ⟨?_, ⟨?_, ?_⟩⟩⟩
    · rw [(S.build_1 (by simpa using h1)).1]
    · rw [(S.build_1 (by simpa using h1)).1]
    · rw [(S.build_1 (by simpa using h1)).1]
    have q := S.build_1 (docs := docs) (a := s1) (b := s2) (by simpa using h1)
    rw [q.1, q.2]
  intro h2
  try simp only [nf, dt] at h2
  refine ⟨?_, ?_⟩
  · intro h3
    try simp only [dt] at h3
    refine ⟨?_, ⟨?_, ⟨?_, ?_⟩⟩⟩
    · rw [S.build_2 h3]
    · rw [S.build_2 h3]
    · rw [S.build_2 h3]
    rw [S.build_2 h3]
  intro h4
  try simp only [df] at h4
  refine ⟨?_, ⟨?_, ⟨?_, ?_⟩⟩⟩
  · rw [S.build_3 (by simpa using h2) h4]
  · rw [S.build_3 (by simpa using h2) h4]
  · rw [S.build_3 (by simpa using h2) h4]
  rw [S.build_3 (by simpa using h2) h4]
theorem H_a124 (l : List (Int × Int × Int × List UInt8)) (n : Int) (hp : True) (hf : Vg.Row.ok (Vg.PS.flat [.one (.slice [.int .i64, .int .i64, .int .i64, .str]), .one (.int .i64)]) (l, n)) : V_a124 l n := by
  unfold V_a124
  have hr_l : l.length ≤ 9223372036854775807 := hf.1.1
  have hr_n : -9223372036854775808 ≤ n ∧ n ≤ 9223372036854775807 := hf.2.1
  clear hf
  refine ⟨?_, ?_⟩
  · intro h1
    try simp only [dt] at h1
    exact S.row_big h1
  intro h2
  try simp only [df] at h2
  refine ⟨?_, ?_⟩
  · refine ⟨(nat_lit 0 : Nat), ?_⟩
    try dsimp only
    refine ⟨⟨?_, ?_⟩, ?_⟩
    · omega
    · exact (S.rowAt_0 l).symm
    exact S.rowC_0 h2
  intro x3
  intro h4
  refine ⟨?_, ?_⟩
  · intro h5
    try simp only [dt] at h5
    refine ⟨⟨?_, ?_⟩, ⟨⟨?_, ?_⟩, ⟨?_, ?_⟩⟩⟩
    · omega
    · omega
    · intro h6
      try simp only [nt] at h6
      trivial
    · intro h7
      try simp only [nf] at h7
      trivial
    · intro h8
      try simp only [V.bor, nt] at h8
      refine S.rowC_bad h4 h5 (S.step_false ?_)
      rw [show Int.toNat (x3 : Int) = x3 by omega] at h8
      simpa [S.rec_and, S.sg] using h8
    intro h9
    try simp only [V.bor_f, nf] at h9
    refine ⟨⟨?_, ?_⟩, ?_⟩
    · omega
    · omega
    refine ⟨(x3 + nat_lit 1), ?_⟩
    try dsimp only
    refine ⟨⟨?_, ?_⟩, ⟨?_, ?_⟩⟩
    · omega
    · exact (S.rowAt_succ l x3).symm
    · refine S.rowC_step h4 h5 (S.step_true ?_)
      rw [show Int.toNat (x3 : Int) = x3 by omega] at h9
      simpa [S.rec_and, S.sg] using h9
    simp only [S.meas, S.len]; omega
  intro h10
  try simp only [df] at h10
  exact S.rowC_end h4 h10
theorem H_a125 (s1 : Int) (s2 : Int) (hp : True) (hf : Vg.Row.ok (Vg.PS.flat [.agg [.int .i64, .int .i64]]) (s1, s2)) : V_a125 s1 s2 := by
  unfold V_a125
  have hr_s1 : -9223372036854775808 ≤ s1 ∧ s1 ≤ 9223372036854775807 := hf.1
  have hr_s2 : -9223372036854775808 ≤ s2 ∧ s2 ≤ 9223372036854775807 := hf.2.1
  clear hf
  simp only [S.wholeB, S.bif_and]
theorem H_a130 (s1 : Int) (s2 : Int) (s3 : Int) (s4 : List UInt8) (hp : True) (hf : Vg.Row.ok (Vg.PS.flat [.agg [.int .i64, .int .i64, .int .i64, .str]]) (s1, s2, s3, s4)) : V_a130 s1 s2 s3 s4 := by
  unfold V_a130
  have hr_s1 : -9223372036854775808 ≤ s1 ∧ s1 ≤ 9223372036854775807 := hf.1
  have hr_s2 : -9223372036854775808 ≤ s2 ∧ s2 ≤ 9223372036854775807 := hf.2.1
  have hr_s3 : -9223372036854775808 ≤ s3 ∧ s3 ≤ 9223372036854775807 := hf.2.2.1
  have hr_s4 : s4.length ≤ 9223372036854775807 := hf.2.2.2.1
  clear hf
  refine ⟨?_, ?_⟩
  · trivial
  (simp only [S.sGood, S.bif_and]; rfl)
theorem H_a131 (l : List (Int × Int × Int × List UInt8)) (n : Int) (hp : True) (hf : Vg.Row.ok (Vg.PS.flat [.one (.slice [.int .i64, .int .i64, .int .i64, .str]), .one (.int .i64)]) (l, n)) : V_a131 l n := by
  unfold V_a131
  have hr_l : l.length ≤ 9223372036854775807 := hf.1.1
  have hr_n : -9223372036854775808 ≤ n ∧ n ≤ 9223372036854775807 := hf.2.1
  clear hf
  refine ⟨?_, ?_⟩
  · intro h1
    try simp only [dt] at h1
    simp only [S.rRow]; rw [if_pos (by omega)]
  intro h2
  try simp only [df] at h2
  refine ⟨?_, ?_⟩
  · refine ⟨(nat_lit 0 : Nat), ?_⟩
    try dsimp only
    refine ⟨?_, ?_⟩
    · omega
    exact S.row_0 h2
  intro x3
  intro h4
  refine ⟨?_, ?_⟩
  · intro h5
    try simp only [dt] at h5
    refine ⟨⟨?_, ?_⟩, ⟨?_, ⟨⟨?_, ?_⟩, ⟨?_, ?_⟩⟩⟩⟩
    · omega
    · omega
    · trivial
    · intro h6
      try simp only [nt] at h6
      trivial
    · intro h7
      try simp only [nf] at h7
      refine ⟨?_, ?_⟩
      · intro h8
        try simp only [dt] at h8
        refine ⟨⟨?_, ?_⟩, ⟨⟨?_, ?_⟩, ⟨?_, ?_⟩⟩⟩
        · omega
        · omega
        · omega
        · omega
        · omega
        omega
      intro h9
      try simp only [df] at h9
      trivial
    · intro h10
      try simp only [V.bor, nt, V.band, dt, df, tn] at h10
      refine S.row_bad h5 (S.sg_false ?_)
      rcases h10 with q | ⟨q1, q2⟩
      · exact .inl q
      right
      rw [show Int.toNat ((x3 : Int) - 1) = x3 - 1 by omega] at q2
      exact ⟨q1, q2⟩
    intro h11
    try simp only [V.bor_f, nf, V.band_f, df, dt, tn] at h11
    refine ⟨⟨?_, ?_⟩, ?_⟩
    · omega
    · omega
    refine ⟨(x3 + nat_lit 1), ?_⟩
    try dsimp only
    refine ⟨?_, ⟨?_, ?_⟩⟩
    · omega
    · refine S.row_step h4 h5 (S.sg_true h11.1 ?_)
      rcases h11.2 with q | q
      · exact .inl q
      by_cases h0 : 0 < (x3 : Int)
      · rw [show Int.toNat ((x3 : Int) - 1) = x3 - 1 by omega] at q
        exact .inr q
      exact .inl h0
    simp only [S.meas, S.len]; omega
  intro h12
  try simp only [df] at h12
  refine ⟨⟨?_, ?_⟩, ?_⟩
  · intro h13
    try simp only [dt] at h13
    refine ⟨⟨?_, ?_⟩, ⟨?_, ?_⟩⟩
    · omega
    · omega
    · intro h14
      try simp only [dt] at h14
      refine ⟨⟨?_, ?_⟩, ⟨?_, ?_⟩⟩
      · omega
      · omega
      · omega
      omega
    intro h15
    try simp only [df] at h15
    trivial
  · intro h16
    try simp only [df] at h16
    trivial
  exact S.row_end h4 h12
theorem H_a139  (hp : True) (hf : Vg.Row.ok (Vg.PS.flat []) ()) : V_a139  := by
  unfold V_a139
  clear hf
  refine ⟨?_, ⟨?_, ⟨?_, ⟨?_, ⟨⟨?_, ?_⟩, ?_⟩⟩⟩⟩⟩
  · trivial
  · trivial
  · trivial
  · trivial
  · intro h1
    try simp only [dt] at h1
    refine ⟨?_, ?_⟩
    · intro h2
      try simp only [dt] at h2
      refine ⟨?_, ⟨?_, ⟨?_, ?_⟩⟩⟩
      · trivial
      · trivial
      · intro h3
        refine ⟨?_, ?_⟩
        · intro h4
          try simp only [dt] at h4
          refine ⟨?_, ?_⟩
          · intro h5
            try simp only [dt] at h5
            refine ⟨?_, ⟨?_, ?_⟩⟩
            · trivial
            · intro h6
              refine ⟨?_, ⟨?_, ?_⟩⟩
              · trivial
              · intro h7
                try simp only [nt] at h7
                trivial
              intro h8
              try simp only [nf] at h8
              trivial
            intro h9
            trivial
          intro h10
          try simp only [df] at h10
          trivial
        intro h11
        try simp only [df] at h11
        trivial
      intro h12
      trivial
    intro h13
    try simp only [df] at h13
    trivial
  · intro h14
    try simp only [df] at h14
    trivial
  trivial
theorem H_a141 (s1 : Int) (s2 : Int) (s3 : Int) (s4 : List UInt8) (hp : True) (hf : Vg.Row.ok (Vg.PS.flat [.agg [.int .i64, .int .i64, .int .i64, .str]]) (s1, s2, s3, s4)) : V_a141 s1 s2 s3 s4 := by
  unfold V_a141
  have hr_s1 : -9223372036854775808 ≤ s1 ∧ s1 ≤ 9223372036854775807 := hf.1
  have hr_s2 : -9223372036854775808 ≤ s2 ∧ s2 ≤ 9223372036854775807 := hf.2.1
  have hr_s3 : -9223372036854775808 ≤ s3 ∧ s3 ≤ 9223372036854775807 := hf.2.2.1
  have hr_s4 : s4.length ≤ 9223372036854775807 := hf.2.2.2.1
  clear hf
  refine ⟨?_, ⟨?_, ⟨?_, ?_⟩⟩⟩
  · rfl
  · rfl
  · rfl
  rfl
theorem H_a144 (l : List (Int × Int × Int × List UInt8)) (n : Int) (hp : True) (hf : Vg.Row.ok (Vg.PS.flat [.one (.slice [.int .i64, .int .i64, .int .i64, .str]), .one (.int .i64)]) (l, n)) : V_a144 l n := by
  unfold V_a144
  have hr_l : l.length ≤ 9223372036854775807 := hf.1.1
  have hr_n : -9223372036854775808 ≤ n ∧ n ≤ 9223372036854775807 := hf.2.1
  clear hf
  refine ⟨?_, ?_⟩
  · intro h1
    try simp only [dt] at h1
    refine ⟨?_, ?_⟩
    · trivial
    rfl
  intro h2
  try simp only [df] at h2
  refine ⟨?_, ?_⟩
  · refine ⟨(nat_lit 0 : Nat), ?_⟩
    try dsimp only
    refine ⟨⟨?_, ?_⟩, ?_⟩
    · trivial
    · trivial
    exact ⟨Nat.zero_le _, by omega⟩
  intro x3
  intro h4
  refine ⟨?_, ?_⟩
  · intro h5
    try simp only [dt] at h5
    refine ⟨⟨?_, ?_⟩, ⟨⟨?_, ?_⟩, ⟨?_, ?_⟩⟩⟩
    · omega
    · trivial
    · intro h6
      try simp only [dt, tn] at h6
      trivial
    · intro h7
      try simp only [df, tn] at h7
      refine ⟨⟨?_, ?_⟩, ⟨?_, ⟨⟨?_, ?_⟩, ⟨?_, ?_⟩⟩⟩⟩
      · omega
      · trivial
      · trivial
      · omega
      · trivial
      · trivial
      trivial
    · intro h8
      try simp only [V.bor, dt, tn, nt] at h8
      refine ⟨⟨?_, ?_⟩, ⟨⟨?_, ?_⟩, ?_⟩⟩
      · omega
      · trivial
      · intro h9
        try simp only [dt, tn] at h9
        trivial
      · intro h10
        try simp only [df, tn] at h10
        trivial
      have q : (200 : Int) < (List.getD l (Int.toNat (x3 : Int)) (0, 0, 0, [])).2.2.2.length := by
        rcases h8 with h | h
        · exact h
        simp at h
      rw [decide_eq_true q]; rfl
    intro h11
    try simp only [V.bor_f, df, tn, nf] at h11
    refine ⟨⟨?_, ?_⟩, ⟨?_, ⟨?_, ⟨⟨?_, ?_⟩, ?_⟩⟩⟩⟩
    · omega
    · trivial
    · trivial
    · have q1 := h4.1
      have q2 := h4.2
      simp only [List.length_take, lc, ln]
      omega
    · omega
    · have q1 := h4.2
      omega
    refine ⟨(x3 + nat_lit 1), ?_⟩
    try dsimp only
    refine ⟨⟨?_, ?_⟩, ⟨?_, ?_⟩⟩
    · trivial
    · exact (S.take_one l x3 (0, 0, 0, []) (by omega)).symm
    · exact ⟨by omega, h4.2⟩
    simp only [S.meas, S.len]; omega
  intro h12
  try simp only [df] at h12
  refine ⟨?_, ⟨?_, ⟨⟨?_, ?_⟩, ?_⟩⟩⟩
  · trivial
  · trivial
  · intro h13
    trivial
  · intro h14
    trivial
  rw [List.take_of_length_le (by omega)]; simp
end Go
end
