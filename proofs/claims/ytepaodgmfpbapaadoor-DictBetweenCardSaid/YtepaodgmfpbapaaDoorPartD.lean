import Derived.Test.YtepaodgmfpbapaaDoorPartC
set_option linter.unusedVariables false
set_option linter.unusedSimpArgs false
section
set_option linter.unusedVariables false
namespace Go
def V_a0 (x : Int) (k : Int) : Prop :=
 ((0 : Int) ≤ Vg.natAnd (k % (18446744073709551616 : Int)) (31 : Int) ∧ Vg.natAnd (k % (18446744073709551616 : Int)) (31 : Int) ≤ (32 : Int)) ∧ ((0 : Int) ≤ ((32 : Int) - Vg.natAnd (k % (18446744073709551616 : Int)) (31 : Int)) % (18446744073709551616 : Int) ∧ ((32 : Int) - Vg.natAnd (k % (18446744073709551616 : Int)) (31 : Int)) % (18446744073709551616 : Int) ≤ (32 : Int)) ∧ Vg.natOr (x * (2 : Int) ^ Int.toNat (Vg.natAnd (k % (18446744073709551616 : Int)) (31 : Int)) % (4294967296 : Int)) (x / (2 : Int) ^ Int.toNat (((32 : Int) - Vg.natAnd (k % (18446744073709551616 : Int)) (31 : Int)) % (18446744073709551616 : Int))) = S.rotl x k
def V_a1 : Prop :=
 (1779033703 : Int) = (1779033703 : Int) ∧ (3144134277 : Int) = (3144134277 : Int) ∧ (1013904242 : Int) = (1013904242 : Int) ∧ (2773480762 : Int) = (2773480762 : Int) ∧ (1359893119 : Int) = (1359893119 : Int) ∧ (2600822924 : Int) = (2600822924 : Int) ∧ (528734635 : Int) = (528734635 : Int) ∧ (1541459225 : Int) = (1541459225 : Int) ∧ (0 : Int) = (0 : Int)
def V_a2 (s1 : Int) (s2 : Int) (s3 : Int) (s4 : Int) (s5 : Int) (s6 : Int) (s7 : Int) (s8 : Int) (s9 : List UInt8) (s10 : Int) : Prop :=
 ((decide ((0 : Int) ≤ s10) = true → (decide (s10 ≤ (1099511627776 : Int)) = true → (0 : Int) ≤ s10 ∧ (0 : Int) < (64 : Int)) ∧ (decide (s10 ≤ (1099511627776 : Int)) = false → True)) ∧ (decide ((0 : Int) ≤ s10) = false → True)) ∧ (bif decide ((0 : Int) ≤ s10) then bif decide (s10 ≤ (1099511627776 : Int)) then decide ((s9.length : Int) = s10 % (64 : Int)) else false else false) = S.stValid s9 s10
def V_a3 (u1 : Int) (u2 : Int) (u3 : Int) (u4 : Int) (u5 : Int) (u6 : Int) (u7 : Int) (u8 : Int) (p : List UInt8) : Prop :=
 (∃ (x : Nat), ((0 : Int) = (x : Int) ∧ [(0 : Int), (0 : Int), (0 : Int), (0 : Int), (0 : Int), (0 : Int), (0 : Int), (0 : Int), (0 : Int), (0 : Int), (0 : Int), (0 : Int), (0 : Int), (0 : Int), (0 : Int), (0 : Int), (0 : Int), (0 : Int), (0 : Int), (0 : Int), (0 : Int), (0 : Int), (0 : Int), (0 : Int), (0 : Int), (0 : Int), (0 : Int), (0 : Int), (0 : Int), (0 : Int), (0 : Int), (0 : Int), (0 : Int), (0 : Int), (0 : Int), (0 : Int), (0 : Int), (0 : Int), (0 : Int), (0 : Int), (0 : Int), (0 : Int), (0 : Int), (0 : Int), (0 : Int), (0 : Int), (0 : Int), (0 : Int), (0 : Int), (0 : Int), (0 : Int), (0 : Int), (0 : Int), (0 : Int), (0 : Int), (0 : Int), (0 : Int), (0 : Int), (0 : Int), (0 : Int), (0 : Int), (0 : Int), (0 : Int), (0 : Int)] = S.schedArr p x) ∧ S.leN x (16 : Nat)) ∧ ∀ (x : Nat), S.leN x (16 : Nat) → (decide ((x : Int) < (16 : Int)) = true → ((-9223372036854775808 : Int) ≤ (4 : Int) * (x : Int) ∧ (4 : Int) * (x : Int) ≤ (9223372036854775807 : Int)) ∧ ((0 : Int) ≤ (4 : Int) * (x : Int) ∧ (4 : Int) * (x : Int) < (p.length : Int)) ∧ ((0 : Int) ≤ (24 : Int) ∧ (24 : Int) ≤ (32 : Int)) ∧ ((-9223372036854775808 : Int) ≤ (4 : Int) * (x : Int) ∧ (4 : Int) * (x : Int) ≤ (9223372036854775807 : Int)) ∧ ((-9223372036854775808 : Int) ≤ (4 : Int) * (x : Int) + (1 : Int) ∧ (4 : Int) * (x : Int) + (1 : Int) ≤ (9223372036854775807 : Int)) ∧ ((0 : Int) ≤ (4 : Int) * (x : Int) + (1 : Int) ∧ (4 : Int) * (x : Int) + (1 : Int) < (p.length : Int)) ∧ ((0 : Int) ≤ (16 : Int) ∧ (16 : Int) ≤ (32 : Int)) ∧ ((-9223372036854775808 : Int) ≤ (4 : Int) * (x : Int) ∧ (4 : Int) * (x : Int) ≤ (9223372036854775807 : Int)) ∧ ((-9223372036854775808 : Int) ≤ (4 : Int) * (x : Int) + (2 : Int) ∧ (4 : Int) * (x : Int) + (2 : Int) ≤ (9223372036854775807 : Int)) ∧ ((0 : Int) ≤ (4 : Int) * (x : Int) + (2 : Int) ∧ (4 : Int) * (x : Int) + (2 : Int) < (p.length : Int)) ∧ ((0 : Int) ≤ (8 : Int) ∧ (8 : Int) ≤ (32 : Int)) ∧ ((-9223372036854775808 : Int) ≤ (4 : Int) * (x : Int) ∧ (4 : Int) * (x : Int) ≤ (9223372036854775807 : Int)) ∧ ((-9223372036854775808 : Int) ≤ (4 : Int) * (x : Int) + (3 : Int) ∧ (4 : Int) * (x : Int) + (3 : Int) ≤ (9223372036854775807 : Int)) ∧ ((0 : Int) ≤ (4 : Int) * (x : Int) + (3 : Int) ∧ (4 : Int) * (x : Int) + (3 : Int) < (p.length : Int)) ∧ ((0 : Int) ≤ (x : Int) ∧ (x : Int) < (↑(64 : Nat) : Int)) ∧ (0 : Nat) + (x : Int).toNat * (1 : Nat) < List.length (S.schedArr p x) ∧ ((-9223372036854775808 : Int) ≤ (x : Int) + (1 : Int) ∧ (x : Int) + (1 : Int) ≤ (9223372036854775807 : Int)) ∧ ∃ (x_1 : Nat), ((x : Int) + (1 : Int) = (x_1 : Int) ∧ List.set (S.schedArr p x) ((0 : Nat) + (x : Int).toNat * (1 : Nat)) (Vg.natOr (Vg.natOr (Vg.natOr ((↑(UInt8.toNat (List.getD p (Int.toNat ((4 : Int) * (x : Int))) (0 : UInt8))) : Int) * (2 : Int) ^ (24 : Int).toNat % (4294967296 : Int)) ((↑(UInt8.toNat (List.getD p (Int.toNat ((4 : Int) * (x : Int) + (1 : Int))) (0 : UInt8))) : Int) * (2 : Int) ^ (16 : Int).toNat % (4294967296 : Int))) ((↑(UInt8.toNat (List.getD p (Int.toNat ((4 : Int) * (x : Int) + (2 : Int))) (0 : UInt8))) : Int) * (2 : Int) ^ (8 : Int).toNat % (4294967296 : Int))) (↑(UInt8.toNat (List.getD p (Int.toNat ((4 : Int) * (x : Int) + (3 : Int))) (0 : UInt8))) : Int)) = S.schedArr p x_1) ∧ S.leN x_1 (16 : Nat) ∧ S.meas (16 : Nat) x_1 < S.meas (16 : Nat) x) ∧ (decide ((x : Int) < (16 : Int)) = false → (∃ (x_1 : Nat), ((16 : Int) = (x_1 : Int) ∧ S.schedArr p x = S.schedArr p x_1) ∧ (16 : Nat) ≤ x_1 ∧ x_1 ≤ (64 : Nat)) ∧ ∀ (x : Nat), (16 : Nat) ≤ x ∧ x ≤ (64 : Nat) → (decide ((x : Int) < (64 : Int)) = true → ((-9223372036854775808 : Int) ≤ (x : Int) - (15 : Int) ∧ (x : Int) - (15 : Int) ≤ (9223372036854775807 : Int)) ∧ ((0 : Int) ≤ (x : Int) - (15 : Int) ∧ (x : Int) - (15 : Int) < (↑(64 : Nat) : Int)) ∧ (0 : Nat) + Int.toNat ((x : Int) - (15 : Int)) * (1 : Nat) < List.length (S.schedArr p x) ∧ ((-9223372036854775808 : Int) ≤ (x : Int) - (2 : Int) ∧ (x : Int) - (2 : Int) ≤ (9223372036854775807 : Int)) ∧ ((0 : Int) ≤ (x : Int) - (2 : Int) ∧ (x : Int) - (2 : Int) < (↑(64 : Nat) : Int)) ∧ (0 : Nat) + Int.toNat ((x : Int) - (2 : Int)) * (1 : Nat) < List.length (S.schedArr p x) ∧ S.rotPre (List.getD (S.schedArr p x) ((0 : Nat) + Int.toNat ((x : Int) - (15 : Int)) * (1 : Nat)) (0 : Int)) (-7 : Int) ∧ S.rotPre (List.getD (S.schedArr p x) ((0 : Nat) + Int.toNat ((x : Int) - (15 : Int)) * (1 : Nat)) (0 : Int)) (-18 : Int) ∧ ((0 : Int) ≤ (3 : Int) ∧ (3 : Int) ≤ (32 : Int)) ∧ S.rotPre (List.getD (S.schedArr p x) ((0 : Nat) + Int.toNat ((x : Int) - (2 : Int)) * (1 : Nat)) (0 : Int)) (-17 : Int) ∧ S.rotPre (List.getD (S.schedArr p x) ((0 : Nat) + Int.toNat ((x : Int) - (2 : Int)) * (1 : Nat)) (0 : Int)) (-19 : Int) ∧ ((0 : Int) ≤ (10 : Int) ∧ (10 : Int) ≤ (32 : Int)) ∧ ((-9223372036854775808 : Int) ≤ (x : Int) - (16 : Int) ∧ (x : Int) - (16 : Int) ≤ (9223372036854775807 : Int)) ∧ ((0 : Int) ≤ (x : Int) - (16 : Int) ∧ (x : Int) - (16 : Int) < (↑(64 : Nat) : Int)) ∧ (0 : Nat) + Int.toNat ((x : Int) - (16 : Int)) * (1 : Nat) < List.length (S.schedArr p x) ∧ ((-9223372036854775808 : Int) ≤ (x : Int) - (7 : Int) ∧ (x : Int) - (7 : Int) ≤ (9223372036854775807 : Int)) ∧ ((0 : Int) ≤ (x : Int) - (7 : Int) ∧ (x : Int) - (7 : Int) < (↑(64 : Nat) : Int)) ∧ (0 : Nat) + Int.toNat ((x : Int) - (7 : Int)) * (1 : Nat) < List.length (S.schedArr p x) ∧ ((0 : Int) ≤ (x : Int) ∧ (x : Int) < (↑(64 : Nat) : Int)) ∧ (0 : Nat) + (x : Int).toNat * (1 : Nat) < List.length (S.schedArr p x) ∧ ((-9223372036854775808 : Int) ≤ (x : Int) + (1 : Int) ∧ (x : Int) + (1 : Int) ≤ (9223372036854775807 : Int)) ∧ ∃ (x_1 : Nat), ((x : Int) + (1 : Int) = (x_1 : Int) ∧ List.set (S.schedArr p x) ((0 : Nat) + (x : Int).toNat * (1 : Nat)) ((((List.getD (S.schedArr p x) ((0 : Nat) + Int.toNat ((x : Int) - (16 : Int)) * (1 : Nat)) (0 : Int) + Vg.natXor (Vg.natXor (S.rotl (List.getD (S.schedArr p x) ((0 : Nat) + Int.toNat ((x : Int) - (15 : Int)) * (1 : Nat)) (0 : Int)) (-7 : Int)) (S.rotl (List.getD (S.schedArr p x) ((0 : Nat) + Int.toNat ((x : Int) - (15 : Int)) * (1 : Nat)) (0 : Int)) (-18 : Int))) (List.getD (S.schedArr p x) ((0 : Nat) + Int.toNat ((x : Int) - (15 : Int)) * (1 : Nat)) (0 : Int) / (2 : Int) ^ (3 : Int).toNat)) % (4294967296 : Int) + List.getD (S.schedArr p x) ((0 : Nat) + Int.toNat ((x : Int) - (7 : Int)) * (1 : Nat)) (0 : Int)) % (4294967296 : Int) + Vg.natXor (Vg.natXor (S.rotl (List.getD (S.schedArr p x) ((0 : Nat) + Int.toNat ((x : Int) - (2 : Int)) * (1 : Nat)) (0 : Int)) (-17 : Int)) (S.rotl (List.getD (S.schedArr p x) ((0 : Nat) + Int.toNat ((x : Int) - (2 : Int)) * (1 : Nat)) (0 : Int)) (-19 : Int))) (List.getD (S.schedArr p x) ((0 : Nat) + Int.toNat ((x : Int) - (2 : Int)) * (1 : Nat)) (0 : Int) / (2 : Int) ^ (10 : Int).toNat)) % (4294967296 : Int)) = S.schedArr p x_1) ∧ ((16 : Nat) ≤ x_1 ∧ x_1 ≤ (64 : Nat)) ∧ S.meas (64 : Nat) x_1 < S.meas (64 : Nat) x) ∧ (decide ((x : Int) < (64 : Int)) = false → ((0 : Int) ≤ (0 : Int) ∧ (0 : Int) < (↑(8 : Nat) : Int)) ∧ ((0 : Int) ≤ (1 : Int) ∧ (1 : Int) < (↑(8 : Nat) : Int)) ∧ ((0 : Int) ≤ (2 : Int) ∧ (2 : Int) < (↑(8 : Nat) : Int)) ∧ ((0 : Int) ≤ (3 : Int) ∧ (3 : Int) < (↑(8 : Nat) : Int)) ∧ ((0 : Int) ≤ (4 : Int) ∧ (4 : Int) < (↑(8 : Nat) : Int)) ∧ ((0 : Int) ≤ (5 : Int) ∧ (5 : Int) < (↑(8 : Nat) : Int)) ∧ ((0 : Int) ≤ (6 : Int) ∧ (6 : Int) < (↑(8 : Nat) : Int)) ∧ ((0 : Int) ≤ (7 : Int) ∧ (7 : Int) < (↑(8 : Nat) : Int)) ∧ (∃ (x : Nat), ((0 : Int) = (x : Int) ∧ u1 = (S.rnds (S.sched p (64 : Nat)) (u1, u2, u3, u4, u5, u6, u7, u8) x).1 ∧ u2 = ((S.rnds (S.sched p (64 : Nat)) (u1, u2, u3, u4, u5, u6, u7, u8) x).2).1 ∧ u3 = (((S.rnds (S.sched p (64 : Nat)) (u1, u2, u3, u4, u5, u6, u7, u8) x).2).2).1 ∧ u4 = ((((S.rnds (S.sched p (64 : Nat)) (u1, u2, u3, u4, u5, u6, u7, u8) x).2).2).2).1 ∧ u5 = (((((S.rnds (S.sched p (64 : Nat)) (u1, u2, u3, u4, u5, u6, u7, u8) x).2).2).2).2).1 ∧ u6 = ((((((S.rnds (S.sched p (64 : Nat)) (u1, u2, u3, u4, u5, u6, u7, u8) x).2).2).2).2).2).1 ∧ u7 = (((((((S.rnds (S.sched p (64 : Nat)) (u1, u2, u3, u4, u5, u6, u7, u8) x).2).2).2).2).2).2).1 ∧ u8 = (((((((S.rnds (S.sched p (64 : Nat)) (u1, u2, u3, u4, u5, u6, u7, u8) x).2).2).2).2).2).2).2) ∧ S.leN x (64 : Nat)) ∧ ∀ (x_1 : Nat), S.leN x_1 (64 : Nat) → (decide ((x_1 : Int) < (64 : Int)) = true → S.rotPre ((((((S.rnds (S.sched p (64 : Nat)) (u1, u2, u3, u4, u5, u6, u7, u8) x_1).2).2).2).2).1) (-6 : Int) ∧ S.rotPre ((((((S.rnds (S.sched p (64 : Nat)) (u1, u2, u3, u4, u5, u6, u7, u8) x_1).2).2).2).2).1) (-11 : Int) ∧ S.rotPre ((((((S.rnds (S.sched p (64 : Nat)) (u1, u2, u3, u4, u5, u6, u7, u8) x_1).2).2).2).2).1) (-25 : Int) ∧ (64 : Nat) = List.length S.K256 ∧ ((0 : Int) ≤ (x_1 : Int) ∧ (x_1 : Int) < (↑(List.length S.K256) : Int)) ∧ ((0 : Int) ≤ (x_1 : Int) ∧ (x_1 : Int) < (↑(64 : Nat) : Int)) ∧ (0 : Nat) + (x_1 : Int).toNat * (1 : Nat) < List.length (S.schedArr p x) ∧ S.rotPre ((S.rnds (S.sched p (64 : Nat)) (u1, u2, u3, u4, u5, u6, u7, u8) x_1).1) (-2 : Int) ∧ S.rotPre ((S.rnds (S.sched p (64 : Nat)) (u1, u2, u3, u4, u5, u6, u7, u8) x_1).1) (-13 : Int) ∧ S.rotPre ((S.rnds (S.sched p (64 : Nat)) (u1, u2, u3, u4, u5, u6, u7, u8) x_1).1) (-22 : Int) ∧ ((-9223372036854775808 : Int) ≤ (x_1 : Int) + (1 : Int) ∧ (x_1 : Int) + (1 : Int) ≤ (9223372036854775807 : Int)) ∧ ∃ (x_2 : Nat), ((x_1 : Int) + (1 : Int) = (x_2 : Int) ∧ ((((((((((((S.rnds (S.sched p (64 : Nat)) (u1, u2, u3, u4, u5, u6, u7, u8) x_1).2).2).2).2).2).2).2 + Vg.natXor (Vg.natXor (S.rotl ((((((S.rnds (S.sched p (64 : Nat)) (u1, u2, u3, u4, u5, u6, u7, u8) x_1).2).2).2).2).1) (-6 : Int)) (S.rotl ((((((S.rnds (S.sched p (64 : Nat)) (u1, u2, u3, u4, u5, u6, u7, u8) x_1).2).2).2).2).1) (-11 : Int))) (S.rotl ((((((S.rnds (S.sched p (64 : Nat)) (u1, u2, u3, u4, u5, u6, u7, u8) x_1).2).2).2).2).1) (-25 : Int))) % (4294967296 : Int) + Vg.natXor (Vg.natAnd ((((((S.rnds (S.sched p (64 : Nat)) (u1, u2, u3, u4, u5, u6, u7, u8) x_1).2).2).2).2).1) (((((((S.rnds (S.sched p (64 : Nat)) (u1, u2, u3, u4, u5, u6, u7, u8) x_1).2).2).2).2).2).1)) (Vg.natAnd ((4294967296 : Int) - (1 : Int) - (((((S.rnds (S.sched p (64 : Nat)) (u1, u2, u3, u4, u5, u6, u7, u8) x_1).2).2).2).2).1) ((((((((S.rnds (S.sched p (64 : Nat)) (u1, u2, u3, u4, u5, u6, u7, u8) x_1).2).2).2).2).2).2).1))) % (4294967296 : Int) + List.getD S.K256 ((x_1 : Int).toNat) (0 : Int)) % (4294967296 : Int) + List.getD (S.schedArr p x) ((0 : Nat) + (x_1 : Int).toNat * (1 : Nat)) (0 : Int)) % (4294967296 : Int) + (Vg.natXor (Vg.natXor (S.rotl ((S.rnds (S.sched p (64 : Nat)) (u1, u2, u3, u4, u5, u6, u7, u8) x_1).1) (-2 : Int)) (S.rotl ((S.rnds (S.sched p (64 : Nat)) (u1, u2, u3, u4, u5, u6, u7, u8) x_1).1) (-13 : Int))) (S.rotl ((S.rnds (S.sched p (64 : Nat)) (u1, u2, u3, u4, u5, u6, u7, u8) x_1).1) (-22 : Int)) + Vg.natXor (Vg.natXor (Vg.natAnd ((S.rnds (S.sched p (64 : Nat)) (u1, u2, u3, u4, u5, u6, u7, u8) x_1).1) (((S.rnds (S.sched p (64 : Nat)) (u1, u2, u3, u4, u5, u6, u7, u8) x_1).2).1)) (Vg.natAnd ((S.rnds (S.sched p (64 : Nat)) (u1, u2, u3, u4, u5, u6, u7, u8) x_1).1) ((((S.rnds (S.sched p (64 : Nat)) (u1, u2, u3, u4, u5, u6, u7, u8) x_1).2).2).1))) (Vg.natAnd (((S.rnds (S.sched p (64 : Nat)) (u1, u2, u3, u4, u5, u6, u7, u8) x_1).2).1) ((((S.rnds (S.sched p (64 : Nat)) (u1, u2, u3, u4, u5, u6, u7, u8) x_1).2).2).1))) % (4294967296 : Int)) % (4294967296 : Int) = (S.rnds (S.sched p (64 : Nat)) (u1, u2, u3, u4, u5, u6, u7, u8) x_2).1 ∧ (S.rnds (S.sched p (64 : Nat)) (u1, u2, u3, u4, u5, u6, u7, u8) x_1).1 = ((S.rnds (S.sched p (64 : Nat)) (u1, u2, u3, u4, u5, u6, u7, u8) x_2).2).1 ∧ ((S.rnds (S.sched p (64 : Nat)) (u1, u2, u3, u4, u5, u6, u7, u8) x_1).2).1 = (((S.rnds (S.sched p (64 : Nat)) (u1, u2, u3, u4, u5, u6, u7, u8) x_2).2).2).1 ∧ (((S.rnds (S.sched p (64 : Nat)) (u1, u2, u3, u4, u5, u6, u7, u8) x_1).2).2).1 = ((((S.rnds (S.sched p (64 : Nat)) (u1, u2, u3, u4, u5, u6, u7, u8) x_2).2).2).2).1 ∧ (((((S.rnds (S.sched p (64 : Nat)) (u1, u2, u3, u4, u5, u6, u7, u8) x_1).2).2).2).1 + (((((((((((S.rnds (S.sched p (64 : Nat)) (u1, u2, u3, u4, u5, u6, u7, u8) x_1).2).2).2).2).2).2).2 + Vg.natXor (Vg.natXor (S.rotl ((((((S.rnds (S.sched p (64 : Nat)) (u1, u2, u3, u4, u5, u6, u7, u8) x_1).2).2).2).2).1) (-6 : Int)) (S.rotl ((((((S.rnds (S.sched p (64 : Nat)) (u1, u2, u3, u4, u5, u6, u7, u8) x_1).2).2).2).2).1) (-11 : Int))) (S.rotl ((((((S.rnds (S.sched p (64 : Nat)) (u1, u2, u3, u4, u5, u6, u7, u8) x_1).2).2).2).2).1) (-25 : Int))) % (4294967296 : Int) + Vg.natXor (Vg.natAnd ((((((S.rnds (S.sched p (64 : Nat)) (u1, u2, u3, u4, u5, u6, u7, u8) x_1).2).2).2).2).1) (((((((S.rnds (S.sched p (64 : Nat)) (u1, u2, u3, u4, u5, u6, u7, u8) x_1).2).2).2).2).2).1)) (Vg.natAnd ((4294967296 : Int) - (1 : Int) - (((((S.rnds (S.sched p (64 : Nat)) (u1, u2, u3, u4, u5, u6, u7, u8) x_1).2).2).2).2).1) ((((((((S.rnds (S.sched p (64 : Nat)) (u1, u2, u3, u4, u5, u6, u7, u8) x_1).2).2).2).2).2).2).1))) % (4294967296 : Int) + List.getD S.K256 ((x_1 : Int).toNat) (0 : Int)) % (4294967296 : Int) + List.getD (S.schedArr p x) ((0 : Nat) + (x_1 : Int).toNat * (1 : Nat)) (0 : Int)) % (4294967296 : Int)) % (4294967296 : Int) = (((((S.rnds (S.sched p (64 : Nat)) (u1, u2, u3, u4, u5, u6, u7, u8) x_2).2).2).2).2).1 ∧ (((((S.rnds (S.sched p (64 : Nat)) (u1, u2, u3, u4, u5, u6, u7, u8) x_1).2).2).2).2).1 = ((((((S.rnds (S.sched p (64 : Nat)) (u1, u2, u3, u4, u5, u6, u7, u8) x_2).2).2).2).2).2).1 ∧ ((((((S.rnds (S.sched p (64 : Nat)) (u1, u2, u3, u4, u5, u6, u7, u8) x_1).2).2).2).2).2).1 = (((((((S.rnds (S.sched p (64 : Nat)) (u1, u2, u3, u4, u5, u6, u7, u8) x_2).2).2).2).2).2).2).1 ∧ (((((((S.rnds (S.sched p (64 : Nat)) (u1, u2, u3, u4, u5, u6, u7, u8) x_1).2).2).2).2).2).2).1 = (((((((S.rnds (S.sched p (64 : Nat)) (u1, u2, u3, u4, u5, u6, u7, u8) x_2).2).2).2).2).2).2).2) ∧ S.leN x_2 (64 : Nat) ∧ S.meas (64 : Nat) x_2 < S.meas (64 : Nat) x_1) ∧ (decide ((x_1 : Int) < (64 : Int)) = false → ((0 : Int) ≤ (0 : Int) ∧ (0 : Int) < (↑(8 : Nat) : Int)) ∧ ((0 : Int) ≤ (1 : Int) ∧ (1 : Int) < (↑(8 : Nat) : Int)) ∧ ((0 : Int) ≤ (2 : Int) ∧ (2 : Int) < (↑(8 : Nat) : Int)) ∧ ((0 : Int) ≤ (3 : Int) ∧ (3 : Int) < (↑(8 : Nat) : Int)) ∧ ((0 : Int) ≤ (4 : Int) ∧ (4 : Int) < (↑(8 : Nat) : Int)) ∧ ((0 : Int) ≤ (5 : Int) ∧ (5 : Int) < (↑(8 : Nat) : Int)) ∧ ((0 : Int) ≤ (6 : Int) ∧ (6 : Int) < (↑(8 : Nat) : Int)) ∧ ((0 : Int) ≤ (7 : Int) ∧ (7 : Int) < (↑(8 : Nat) : Int)) ∧ (u1 + (S.rnds (S.sched p (64 : Nat)) (u1, u2, u3, u4, u5, u6, u7, u8) x_1).1) % (4294967296 : Int) = (S.block (u1, u2, u3, u4, u5, u6, u7, u8) p).1 ∧ (u2 + ((S.rnds (S.sched p (64 : Nat)) (u1, u2, u3, u4, u5, u6, u7, u8) x_1).2).1) % (4294967296 : Int) = ((S.block (u1, u2, u3, u4, u5, u6, u7, u8) p).2).1 ∧ (u3 + (((S.rnds (S.sched p (64 : Nat)) (u1, u2, u3, u4, u5, u6, u7, u8) x_1).2).2).1) % (4294967296 : Int) = (((S.block (u1, u2, u3, u4, u5, u6, u7, u8) p).2).2).1 ∧ (u4 + ((((S.rnds (S.sched p (64 : Nat)) (u1, u2, u3, u4, u5, u6, u7, u8) x_1).2).2).2).1) % (4294967296 : Int) = ((((S.block (u1, u2, u3, u4, u5, u6, u7, u8) p).2).2).2).1 ∧ (u5 + (((((S.rnds (S.sched p (64 : Nat)) (u1, u2, u3, u4, u5, u6, u7, u8) x_1).2).2).2).2).1) % (4294967296 : Int) = (((((S.block (u1, u2, u3, u4, u5, u6, u7, u8) p).2).2).2).2).1 ∧ (u6 + ((((((S.rnds (S.sched p (64 : Nat)) (u1, u2, u3, u4, u5, u6, u7, u8) x_1).2).2).2).2).2).1) % (4294967296 : Int) = ((((((S.block (u1, u2, u3, u4, u5, u6, u7, u8) p).2).2).2).2).2).1 ∧ (u7 + (((((((S.rnds (S.sched p (64 : Nat)) (u1, u2, u3, u4, u5, u6, u7, u8) x_1).2).2).2).2).2).2).1) % (4294967296 : Int) = (((((((S.block (u1, u2, u3, u4, u5, u6, u7, u8) p).2).2).2).2).2).2).1 ∧ (u8 + (((((((S.rnds (S.sched p (64 : Nat)) (u1, u2, u3, u4, u5, u6, u7, u8) x_1).2).2).2).2).2).2).2) % (4294967296 : Int) = (((((((S.block (u1, u2, u3, u4, u5, u6, u7, u8) p).2).2).2).2).2).2).2)))
def V_a4 (u1 : Int) (u2 : Int) (u3 : Int) (u4 : Int) (u5 : Int) (u6 : Int) (u7 : Int) (u8 : Int) (b : List UInt8) : Prop :=
 (∃ (x : Nat), (b = S.dropBlk b x ∧ u1 = (S.proc (u1, u2, u3, u4, u5, u6, u7, u8) b x).1 ∧ u2 = ((S.proc (u1, u2, u3, u4, u5, u6, u7, u8) b x).2).1 ∧ u3 = (((S.proc (u1, u2, u3, u4, u5, u6, u7, u8) b x).2).2).1 ∧ u4 = ((((S.proc (u1, u2, u3, u4, u5, u6, u7, u8) b x).2).2).2).1 ∧ u5 = (((((S.proc (u1, u2, u3, u4, u5, u6, u7, u8) b x).2).2).2).2).1 ∧ u6 = ((((((S.proc (u1, u2, u3, u4, u5, u6, u7, u8) b x).2).2).2).2).2).1 ∧ u7 = (((((((S.proc (u1, u2, u3, u4, u5, u6, u7, u8) b x).2).2).2).2).2).2).1 ∧ u8 = (((((((S.proc (u1, u2, u3, u4, u5, u6, u7, u8) b x).2).2).2).2).2).2).2) ∧ (64 : Nat) * x ≤ b.length) ∧ ∀ (x : Nat), (64 : Nat) * x ≤ b.length → (decide ((64 : Int) ≤ (↑(List.length (S.dropBlk b x)) : Int)) = true → ((0 : Int) ≤ (64 : Int) ∧ (64 : Int) ≤ (↑(List.length (S.dropBlk b x)) : Int)) ∧ S.blkPre ((S.proc (u1, u2, u3, u4, u5, u6, u7, u8) b x).1, ((S.proc (u1, u2, u3, u4, u5, u6, u7, u8) b x).2).1, (((S.proc (u1, u2, u3, u4, u5, u6, u7, u8) b x).2).2).1, ((((S.proc (u1, u2, u3, u4, u5, u6, u7, u8) b x).2).2).2).1, (((((S.proc (u1, u2, u3, u4, u5, u6, u7, u8) b x).2).2).2).2).1, ((((((S.proc (u1, u2, u3, u4, u5, u6, u7, u8) b x).2).2).2).2).2).1, (((((((S.proc (u1, u2, u3, u4, u5, u6, u7, u8) b x).2).2).2).2).2).2).1, (((((((S.proc (u1, u2, u3, u4, u5, u6, u7, u8) b x).2).2).2).2).2).2).2) (List.take ((64 : Int).toNat) (S.dropBlk b x)) ∧ ((0 : Int) ≤ (64 : Int) ∧ (64 : Int) ≤ (↑(List.length (S.dropBlk b x)) : Int)) ∧ ∃ (x_1 : Nat), (List.drop ((64 : Int).toNat) (S.dropBlk b x) = S.dropBlk b x_1 ∧ (S.block ((S.proc (u1, u2, u3, u4, u5, u6, u7, u8) b x).1, ((S.proc (u1, u2, u3, u4, u5, u6, u7, u8) b x).2).1, (((S.proc (u1, u2, u3, u4, u5, u6, u7, u8) b x).2).2).1, ((((S.proc (u1, u2, u3, u4, u5, u6, u7, u8) b x).2).2).2).1, (((((S.proc (u1, u2, u3, u4, u5, u6, u7, u8) b x).2).2).2).2).1, ((((((S.proc (u1, u2, u3, u4, u5, u6, u7, u8) b x).2).2).2).2).2).1, (((((((S.proc (u1, u2, u3, u4, u5, u6, u7, u8) b x).2).2).2).2).2).2).1, (((((((S.proc (u1, u2, u3, u4, u5, u6, u7, u8) b x).2).2).2).2).2).2).2) (List.take ((64 : Int).toNat) (S.dropBlk b x))).1 = (S.proc (u1, u2, u3, u4, u5, u6, u7, u8) b x_1).1 ∧ ((S.block ((S.proc (u1, u2, u3, u4, u5, u6, u7, u8) b x).1, ((S.proc (u1, u2, u3, u4, u5, u6, u7, u8) b x).2).1, (((S.proc (u1, u2, u3, u4, u5, u6, u7, u8) b x).2).2).1, ((((S.proc (u1, u2, u3, u4, u5, u6, u7, u8) b x).2).2).2).1, (((((S.proc (u1, u2, u3, u4, u5, u6, u7, u8) b x).2).2).2).2).1, ((((((S.proc (u1, u2, u3, u4, u5, u6, u7, u8) b x).2).2).2).2).2).1, (((((((S.proc (u1, u2, u3, u4, u5, u6, u7, u8) b x).2).2).2).2).2).2).1, (((((((S.proc (u1, u2, u3, u4, u5, u6, u7, u8) b x).2).2).2).2).2).2).2) (List.take ((64 : Int).toNat) (S.dropBlk b x))).2).1 = ((S.proc (u1, u2, u3, u4, u5, u6, u7, u8) b x_1).2).1 ∧ (((S.block ((S.proc (u1, u2, u3, u4, u5, u6, u7, u8) b x).1, ((S.proc (u1, u2, u3, u4, u5, u6, u7, u8) b x).2).1, (((S.proc (u1, u2, u3, u4, u5, u6, u7, u8) b x).2).2).1, ((((S.proc (u1, u2, u3, u4, u5, u6, u7, u8) b x).2).2).2).1, (((((S.proc (u1, u2, u3, u4, u5, u6, u7, u8) b x).2).2).2).2).1, ((((((S.proc (u1, u2, u3, u4, u5, u6, u7, u8) b x).2).2).2).2).2).1, (((((((S.proc (u1, u2, u3, u4, u5, u6, u7, u8) b x).2).2).2).2).2).2).1, (((((((S.proc (u1, u2, u3, u4, u5, u6, u7, u8) b x).2).2).2).2).2).2).2) (List.take ((64 : Int).toNat) (S.dropBlk b x))).2).2).1 = (((S.proc (u1, u2, u3, u4, u5, u6, u7, u8) b x_1).2).2).1 ∧ ((((S.block ((S.proc (u1, u2, u3, u4, u5, u6, u7, u8) b x).1, ((S.proc (u1, u2, u3, u4, u5, u6, u7, u8) b x).2).1, (((S.proc (u1, u2, u3, u4, u5, u6, u7, u8) b x).2).2).1, ((((S.proc (u1, u2, u3, u4, u5, u6, u7, u8) b x).2).2).2).1, (((((S.proc (u1, u2, u3, u4, u5, u6, u7, u8) b x).2).2).2).2).1, ((((((S.proc (u1, u2, u3, u4, u5, u6, u7, u8) b x).2).2).2).2).2).1, (((((((S.proc (u1, u2, u3, u4, u5, u6, u7, u8) b x).2).2).2).2).2).2).1, (((((((S.proc (u1, u2, u3, u4, u5, u6, u7, u8) b x).2).2).2).2).2).2).2) (List.take ((64 : Int).toNat) (S.dropBlk b x))).2).2).2).1 = ((((S.proc (u1, u2, u3, u4, u5, u6, u7, u8) b x_1).2).2).2).1 ∧ (((((S.block ((S.proc (u1, u2, u3, u4, u5, u6, u7, u8) b x).1, ((S.proc (u1, u2, u3, u4, u5, u6, u7, u8) b x).2).1, (((S.proc (u1, u2, u3, u4, u5, u6, u7, u8) b x).2).2).1, ((((S.proc (u1, u2, u3, u4, u5, u6, u7, u8) b x).2).2).2).1, (((((S.proc (u1, u2, u3, u4, u5, u6, u7, u8) b x).2).2).2).2).1, ((((((S.proc (u1, u2, u3, u4, u5, u6, u7, u8) b x).2).2).2).2).2).1, (((((((S.proc (u1, u2, u3, u4, u5, u6, u7, u8) b x).2).2).2).2).2).2).1, (((((((S.proc (u1, u2, u3, u4, u5, u6, u7, u8) b x).2).2).2).2).2).2).2) (List.take ((64 : Int).toNat) (S.dropBlk b x))).2).2).2).2).1 = (((((S.proc (u1, u2, u3, u4, u5, u6, u7, u8) b x_1).2).2).2).2).1 ∧ ((((((S.block ((S.proc (u1, u2, u3, u4, u5, u6, u7, u8) b x).1, ((S.proc (u1, u2, u3, u4, u5, u6, u7, u8) b x).2).1, (((S.proc (u1, u2, u3, u4, u5, u6, u7, u8) b x).2).2).1, ((((S.proc (u1, u2, u3, u4, u5, u6, u7, u8) b x).2).2).2).1, (((((S.proc (u1, u2, u3, u4, u5, u6, u7, u8) b x).2).2).2).2).1, ((((((S.proc (u1, u2, u3, u4, u5, u6, u7, u8) b x).2).2).2).2).2).1, (((((((S.proc (u1, u2, u3, u4, u5, u6, u7, u8) b x).2).2).2).2).2).2).1, (((((((S.proc (u1, u2, u3, u4, u5, u6, u7, u8) b x).2).2).2).2).2).2).2) (List.take ((64 : Int).toNat) (S.dropBlk b x))).2).2).2).2).2).1 = ((((((S.proc (u1, u2, u3, u4, u5, u6, u7, u8) b x_1).2).2).2).2).2).1 ∧ (((((((S.block ((S.proc (u1, u2, u3, u4, u5, u6, u7, u8) b x).1, ((S.proc (u1, u2, u3, u4, u5, u6, u7, u8) b x).2).1, (((S.proc (u1, u2, u3, u4, u5, u6, u7, u8) b x).2).2).1, ((((S.proc (u1, u2, u3, u4, u5, u6, u7, u8) b x).2).2).2).1, (((((S.proc (u1, u2, u3, u4, u5, u6, u7, u8) b x).2).2).2).2).1, ((((((S.proc (u1, u2, u3, u4, u5, u6, u7, u8) b x).2).2).2).2).2).1, (((((((S.proc (u1, u2, u3, u4, u5, u6, u7, u8) b x).2).2).2).2).2).2).1, (((((((S.proc (u1, u2, u3, u4, u5, u6, u7, u8) b x).2).2).2).2).2).2).2) (List.take ((64 : Int).toNat) (S.dropBlk b x))).2).2).2).2).2).2).1 = (((((((S.proc (u1, u2, u3, u4, u5, u6, u7, u8) b x_1).2).2).2).2).2).2).1 ∧ (((((((S.block ((S.proc (u1, u2, u3, u4, u5, u6, u7, u8) b x).1, ((S.proc (u1, u2, u3, u4, u5, u6, u7, u8) b x).2).1, (((S.proc (u1, u2, u3, u4, u5, u6, u7, u8) b x).2).2).1, ((((S.proc (u1, u2, u3, u4, u5, u6, u7, u8) b x).2).2).2).1, (((((S.proc (u1, u2, u3, u4, u5, u6, u7, u8) b x).2).2).2).2).1, ((((((S.proc (u1, u2, u3, u4, u5, u6, u7, u8) b x).2).2).2).2).2).1, (((((((S.proc (u1, u2, u3, u4, u5, u6, u7, u8) b x).2).2).2).2).2).2).1, (((((((S.proc (u1, u2, u3, u4, u5, u6, u7, u8) b x).2).2).2).2).2).2).2) (List.take ((64 : Int).toNat) (S.dropBlk b x))).2).2).2).2).2).2).2 = (((((((S.proc (u1, u2, u3, u4, u5, u6, u7, u8) b x_1).2).2).2).2).2).2).2) ∧ (64 : Nat) * x_1 ≤ b.length ∧ S.meas (S.blocks b) x_1 < S.meas (S.blocks b) x) ∧ (decide ((64 : Int) ≤ (↑(List.length (S.dropBlk b x)) : Int)) = false → (S.proc (u1, u2, u3, u4, u5, u6, u7, u8) b x).1 = (S.procAll (u1, u2, u3, u4, u5, u6, u7, u8) b).1 ∧ ((S.proc (u1, u2, u3, u4, u5, u6, u7, u8) b x).2).1 = ((S.procAll (u1, u2, u3, u4, u5, u6, u7, u8) b).2).1 ∧ (((S.proc (u1, u2, u3, u4, u5, u6, u7, u8) b x).2).2).1 = (((S.procAll (u1, u2, u3, u4, u5, u6, u7, u8) b).2).2).1 ∧ ((((S.proc (u1, u2, u3, u4, u5, u6, u7, u8) b x).2).2).2).1 = ((((S.procAll (u1, u2, u3, u4, u5, u6, u7, u8) b).2).2).2).1 ∧ (((((S.proc (u1, u2, u3, u4, u5, u6, u7, u8) b x).2).2).2).2).1 = (((((S.procAll (u1, u2, u3, u4, u5, u6, u7, u8) b).2).2).2).2).1 ∧ ((((((S.proc (u1, u2, u3, u4, u5, u6, u7, u8) b x).2).2).2).2).2).1 = ((((((S.procAll (u1, u2, u3, u4, u5, u6, u7, u8) b).2).2).2).2).2).1 ∧ (((((((S.proc (u1, u2, u3, u4, u5, u6, u7, u8) b x).2).2).2).2).2).2).1 = (((((((S.procAll (u1, u2, u3, u4, u5, u6, u7, u8) b).2).2).2).2).2).2).1 ∧ (((((((S.proc (u1, u2, u3, u4, u5, u6, u7, u8) b x).2).2).2).2).2).2).2 = (((((((S.procAll (u1, u2, u3, u4, u5, u6, u7, u8) b).2).2).2).2).2).2).2 ∧ S.dropBlk b x = S.restOf b)
def V_a5 (s1 : Int) (s2 : Int) (s3 : Int) (s4 : Int) (s5 : Int) (s6 : Int) (s7 : Int) (s8 : Int) (s9 : List UInt8) (s10 : Int) (b : List UInt8) : Prop :=
 True ∧ (((!S.stValid s9 s10) = true → True) ∧ ((!S.stValid s9 s10) = false → (-9223372036854775808 : Int) ≤ (1099511627776 : Int) - s10 ∧ (1099511627776 : Int) - s10 ≤ (9223372036854775807 : Int))) ∧ (((bif !S.stValid s9 s10 then true else decide ((1099511627776 : Int) - s10 < (b.length : Int))) = true → True) ∧ ((bif !S.stValid s9 s10 then true else decide ((1099511627776 : Int) - s10 < (b.length : Int))) = false → True)) ∧ ((-9223372036854775808 : Int) ≤ (↑(List.length (bif bif !S.stValid s9 s10 then true else decide ((1099511627776 : Int) - s10 < (b.length : Int)) then [] else s9)) : Int) + (b.length : Int) ∧ (↑(List.length (bif bif !S.stValid s9 s10 then true else decide ((1099511627776 : Int) - s10 < (b.length : Int)) then [] else s9)) : Int) + (b.length : Int) ≤ (9223372036854775807 : Int)) ∧ ((0 : Int) ≤ (0 : Int) ∧ (0 : Int) ≤ (↑(List.length (bif bif !S.stValid s9 s10 then true else decide ((1099511627776 : Int) - s10 < (b.length : Int)) then [] else s9)) : Int) + (b.length : Int) ∧ (↑(List.length (bif bif !S.stValid s9 s10 then true else decide ((1099511627776 : Int) - s10 < (b.length : Int)) then [] else s9)) : Int) + (b.length : Int) ≤ (140737488355328 : Int) / (↑(1 : Nat) : Int)) ∧ List.length (List.replicate ((0 : Int).toNat) (0 : UInt8)) + List.length (bif bif !S.stValid s9 s10 then true else decide ((1099511627776 : Int) - s10 < (b.length : Int)) then [] else s9) ≤ (140737488355328 : Nat) ∧ List.length (List.replicate ((0 : Int).toNat) (0 : UInt8) ++ bif bif !S.stValid s9 s10 then true else decide ((1099511627776 : Int) - s10 < (b.length : Int)) then [] else s9) + b.length ≤ (140737488355328 : Nat) ∧ S.ok8 (bif bif !S.stValid s9 s10 then true else decide ((1099511627776 : Int) - s10 < (b.length : Int)) then (1779033703 : Int) else s1, bif bif !S.stValid s9 s10 then true else decide ((1099511627776 : Int) - s10 < (b.length : Int)) then (3144134277 : Int) else s2, bif bif !S.stValid s9 s10 then true else decide ((1099511627776 : Int) - s10 < (b.length : Int)) then (1013904242 : Int) else s3, bif bif !S.stValid s9 s10 then true else decide ((1099511627776 : Int) - s10 < (b.length : Int)) then (2773480762 : Int) else s4, bif bif !S.stValid s9 s10 then true else decide ((1099511627776 : Int) - s10 < (b.length : Int)) then (1359893119 : Int) else s5, bif bif !S.stValid s9 s10 then true else decide ((1099511627776 : Int) - s10 < (b.length : Int)) then (2600822924 : Int) else s6, bif bif !S.stValid s9 s10 then true else decide ((1099511627776 : Int) - s10 < (b.length : Int)) then (528734635 : Int) else s7, bif bif !S.stValid s9 s10 then true else decide ((1099511627776 : Int) - s10 < (b.length : Int)) then (1541459225 : Int) else s8) ∧ List.length (S.restOf ((List.replicate ((0 : Int).toNat) (0 : UInt8) ++ bif bif !S.stValid s9 s10 then true else decide ((1099511627776 : Int) - s10 < (b.length : Int)) then [] else s9) ++ b)) ≤ (140737488355328 : Nat) ∧ ((-9223372036854775808 : Int) ≤ (bif bif !S.stValid s9 s10 then true else decide ((1099511627776 : Int) - s10 < (b.length : Int)) then (0 : Int) else s10) + (b.length : Int) ∧ (bif bif !S.stValid s9 s10 then true else decide ((1099511627776 : Int) - s10 < (b.length : Int)) then (0 : Int) else s10) + (b.length : Int) ≤ (9223372036854775807 : Int)) ∧ (S.procAll (bif bif !S.stValid s9 s10 then true else decide ((1099511627776 : Int) - s10 < (b.length : Int)) then (1779033703 : Int) else s1, bif bif !S.stValid s9 s10 then true else decide ((1099511627776 : Int) - s10 < (b.length : Int)) then (3144134277 : Int) else s2, bif bif !S.stValid s9 s10 then true else decide ((1099511627776 : Int) - s10 < (b.length : Int)) then (1013904242 : Int) else s3, bif bif !S.stValid s9 s10 then true else decide ((1099511627776 : Int) - s10 < (b.length : Int)) then (2773480762 : Int) else s4, bif bif !S.stValid s9 s10 then true else decide ((1099511627776 : Int) - s10 < (b.length : Int)) then (1359893119 : Int) else s5, bif bif !S.stValid s9 s10 then true else decide ((1099511627776 : Int) - s10 < (b.length : Int)) then (2600822924 : Int) else s6, bif bif !S.stValid s9 s10 then true else decide ((1099511627776 : Int) - s10 < (b.length : Int)) then (528734635 : Int) else s7, bif bif !S.stValid s9 s10 then true else decide ((1099511627776 : Int) - s10 < (b.length : Int)) then (1541459225 : Int) else s8) ((List.replicate ((0 : Int).toNat) (0 : UInt8) ++ bif bif !S.stValid s9 s10 then true else decide ((1099511627776 : Int) - s10 < (b.length : Int)) then [] else s9) ++ b)).1 = (S.procAll (s1, s2, s3, s4, s5, s6, s7, s8) b).1 ∧ ((S.procAll (bif bif !S.stValid s9 s10 then true else decide ((1099511627776 : Int) - s10 < (b.length : Int)) then (1779033703 : Int) else s1, bif bif !S.stValid s9 s10 then true else decide ((1099511627776 : Int) - s10 < (b.length : Int)) then (3144134277 : Int) else s2, bif bif !S.stValid s9 s10 then true else decide ((1099511627776 : Int) - s10 < (b.length : Int)) then (1013904242 : Int) else s3, bif bif !S.stValid s9 s10 then true else decide ((1099511627776 : Int) - s10 < (b.length : Int)) then (2773480762 : Int) else s4, bif bif !S.stValid s9 s10 then true else decide ((1099511627776 : Int) - s10 < (b.length : Int)) then (1359893119 : Int) else s5, bif bif !S.stValid s9 s10 then true else decide ((1099511627776 : Int) - s10 < (b.length : Int)) then (2600822924 : Int) else s6, bif bif !S.stValid s9 s10 then true else decide ((1099511627776 : Int) - s10 < (b.length : Int)) then (528734635 : Int) else s7, bif bif !S.stValid s9 s10 then true else decide ((1099511627776 : Int) - s10 < (b.length : Int)) then (1541459225 : Int) else s8) ((List.replicate ((0 : Int).toNat) (0 : UInt8) ++ bif bif !S.stValid s9 s10 then true else decide ((1099511627776 : Int) - s10 < (b.length : Int)) then [] else s9) ++ b)).2).1 = ((S.procAll (s1, s2, s3, s4, s5, s6, s7, s8) b).2).1 ∧ (((S.procAll (bif bif !S.stValid s9 s10 then true else decide ((1099511627776 : Int) - s10 < (b.length : Int)) then (1779033703 : Int) else s1, bif bif !S.stValid s9 s10 then true else decide ((1099511627776 : Int) - s10 < (b.length : Int)) then (3144134277 : Int) else s2, bif bif !S.stValid s9 s10 then true else decide ((1099511627776 : Int) - s10 < (b.length : Int)) then (1013904242 : Int) else s3, bif bif !S.stValid s9 s10 then true else decide ((1099511627776 : Int) - s10 < (b.length : Int)) then (2773480762 : Int) else s4, bif bif !S.stValid s9 s10 then true else decide ((1099511627776 : Int) - s10 < (b.length : Int)) then (1359893119 : Int) else s5, bif bif !S.stValid s9 s10 then true else decide ((1099511627776 : Int) - s10 < (b.length : Int)) then (2600822924 : Int) else s6, bif bif !S.stValid s9 s10 then true else decide ((1099511627776 : Int) - s10 < (b.length : Int)) then (528734635 : Int) else s7, bif bif !S.stValid s9 s10 then true else decide ((1099511627776 : Int) - s10 < (b.length : Int)) then (1541459225 : Int) else s8) ((List.replicate ((0 : Int).toNat) (0 : UInt8) ++ bif bif !S.stValid s9 s10 then true else decide ((1099511627776 : Int) - s10 < (b.length : Int)) then [] else s9) ++ b)).2).2).1 = (((S.procAll (s1, s2, s3, s4, s5, s6, s7, s8) b).2).2).1 ∧ ((((S.procAll (bif bif !S.stValid s9 s10 then true else decide ((1099511627776 : Int) - s10 < (b.length : Int)) then (1779033703 : Int) else s1, bif bif !S.stValid s9 s10 then true else decide ((1099511627776 : Int) - s10 < (b.length : Int)) then (3144134277 : Int) else s2, bif bif !S.stValid s9 s10 then true else decide ((1099511627776 : Int) - s10 < (b.length : Int)) then (1013904242 : Int) else s3, bif bif !S.stValid s9 s10 then true else decide ((1099511627776 : Int) - s10 < (b.length : Int)) then (2773480762 : Int) else s4, bif bif !S.stValid s9 s10 then true else decide ((1099511627776 : Int) - s10 < (b.length : Int)) then (1359893119 : Int) else s5, bif bif !S.stValid s9 s10 then true else decide ((1099511627776 : Int) - s10 < (b.length : Int)) then (2600822924 : Int) else s6, bif bif !S.stValid s9 s10 then true else decide ((1099511627776 : Int) - s10 < (b.length : Int)) then (528734635 : Int) else s7, bif bif !S.stValid s9 s10 then true else decide ((1099511627776 : Int) - s10 < (b.length : Int)) then (1541459225 : Int) else s8) ((List.replicate ((0 : Int).toNat) (0 : UInt8) ++ bif bif !S.stValid s9 s10 then true else decide ((1099511627776 : Int) - s10 < (b.length : Int)) then [] else s9) ++ b)).2).2).2).1 = ((((S.procAll (s1, s2, s3, s4, s5, s6, s7, s8) b).2).2).2).1 ∧ (((((S.procAll (bif bif !S.stValid s9 s10 then true else decide ((1099511627776 : Int) - s10 < (b.length : Int)) then (1779033703 : Int) else s1, bif bif !S.stValid s9 s10 then true else decide ((1099511627776 : Int) - s10 < (b.length : Int)) then (3144134277 : Int) else s2, bif bif !S.stValid s9 s10 then true else decide ((1099511627776 : Int) - s10 < (b.length : Int)) then (1013904242 : Int) else s3, bif bif !S.stValid s9 s10 then true else decide ((1099511627776 : Int) - s10 < (b.length : Int)) then (2773480762 : Int) else s4, bif bif !S.stValid s9 s10 then true else decide ((1099511627776 : Int) - s10 < (b.length : Int)) then (1359893119 : Int) else s5, bif bif !S.stValid s9 s10 then true else decide ((1099511627776 : Int) - s10 < (b.length : Int)) then (2600822924 : Int) else s6, bif bif !S.stValid s9 s10 then true else decide ((1099511627776 : Int) - s10 < (b.length : Int)) then (528734635 : Int) else s7, bif bif !S.stValid s9 s10 then true else decide ((1099511627776 : Int) - s10 < (b.length : Int)) then (1541459225 : Int) else s8) ((List.replicate ((0 : Int).toNat) (0 : UInt8) ++ bif bif !S.stValid s9 s10 then true else decide ((1099511627776 : Int) - s10 < (b.length : Int)) then [] else s9) ++ b)).2).2).2).2).1 = (((((S.procAll (s1, s2, s3, s4, s5, s6, s7, s8) b).2).2).2).2).1 ∧ ((((((S.procAll (bif bif !S.stValid s9 s10 then true else decide ((1099511627776 : Int) - s10 < (b.length : Int)) then (1779033703 : Int) else s1, bif bif !S.stValid s9 s10 then true else decide ((1099511627776 : Int) - s10 < (b.length : Int)) then (3144134277 : Int) else s2, bif bif !S.stValid s9 s10 then true else decide ((1099511627776 : Int) - s10 < (b.length : Int)) then (1013904242 : Int) else s3, bif bif !S.stValid s9 s10 then true else decide ((1099511627776 : Int) - s10 < (b.length : Int)) then (2773480762 : Int) else s4, bif bif !S.stValid s9 s10 then true else decide ((1099511627776 : Int) - s10 < (b.length : Int)) then (1359893119 : Int) else s5, bif bif !S.stValid s9 s10 then true else decide ((1099511627776 : Int) - s10 < (b.length : Int)) then (2600822924 : Int) else s6, bif bif !S.stValid s9 s10 then true else decide ((1099511627776 : Int) - s10 < (b.length : Int)) then (528734635 : Int) else s7, bif bif !S.stValid s9 s10 then true else decide ((1099511627776 : Int) - s10 < (b.length : Int)) then (1541459225 : Int) else s8) ((List.replicate ((0 : Int).toNat) (0 : UInt8) ++ bif bif !S.stValid s9 s10 then true else decide ((1099511627776 : Int) - s10 < (b.length : Int)) then [] else s9) ++ b)).2).2).2).2).2).1 = ((((((S.procAll (s1, s2, s3, s4, s5, s6, s7, s8) b).2).2).2).2).2).1 ∧ (((((((S.procAll (bif bif !S.stValid s9 s10 then true else decide ((1099511627776 : Int) - s10 < (b.length : Int)) then (1779033703 : Int) else s1, bif bif !S.stValid s9 s10 then true else decide ((1099511627776 : Int) - s10 < (b.length : Int)) then (3144134277 : Int) else s2, bif bif !S.stValid s9 s10 then true else decide ((1099511627776 : Int) - s10 < (b.length : Int)) then (1013904242 : Int) else s3, bif bif !S.stValid s9 s10 then true else decide ((1099511627776 : Int) - s10 < (b.length : Int)) then (2773480762 : Int) else s4, bif bif !S.stValid s9 s10 then true else decide ((1099511627776 : Int) - s10 < (b.length : Int)) then (1359893119 : Int) else s5, bif bif !S.stValid s9 s10 then true else decide ((1099511627776 : Int) - s10 < (b.length : Int)) then (2600822924 : Int) else s6, bif bif !S.stValid s9 s10 then true else decide ((1099511627776 : Int) - s10 < (b.length : Int)) then (528734635 : Int) else s7, bif bif !S.stValid s9 s10 then true else decide ((1099511627776 : Int) - s10 < (b.length : Int)) then (1541459225 : Int) else s8) ((List.replicate ((0 : Int).toNat) (0 : UInt8) ++ bif bif !S.stValid s9 s10 then true else decide ((1099511627776 : Int) - s10 < (b.length : Int)) then [] else s9) ++ b)).2).2).2).2).2).2).1 = (((((((S.procAll (s1, s2, s3, s4, s5, s6, s7, s8) b).2).2).2).2).2).2).1 ∧ (((((((S.procAll (bif bif !S.stValid s9 s10 then true else decide ((1099511627776 : Int) - s10 < (b.length : Int)) then (1779033703 : Int) else s1, bif bif !S.stValid s9 s10 then true else decide ((1099511627776 : Int) - s10 < (b.length : Int)) then (3144134277 : Int) else s2, bif bif !S.stValid s9 s10 then true else decide ((1099511627776 : Int) - s10 < (b.length : Int)) then (1013904242 : Int) else s3, bif bif !S.stValid s9 s10 then true else decide ((1099511627776 : Int) - s10 < (b.length : Int)) then (2773480762 : Int) else s4, bif bif !S.stValid s9 s10 then true else decide ((1099511627776 : Int) - s10 < (b.length : Int)) then (1359893119 : Int) else s5, bif bif !S.stValid s9 s10 then true else decide ((1099511627776 : Int) - s10 < (b.length : Int)) then (2600822924 : Int) else s6, bif bif !S.stValid s9 s10 then true else decide ((1099511627776 : Int) - s10 < (b.length : Int)) then (528734635 : Int) else s7, bif bif !S.stValid s9 s10 then true else decide ((1099511627776 : Int) - s10 < (b.length : Int)) then (1541459225 : Int) else s8) ((List.replicate ((0 : Int).toNat) (0 : UInt8) ++ bif bif !S.stValid s9 s10 then true else decide ((1099511627776 : Int) - s10 < (b.length : Int)) then [] else s9) ++ b)).2).2).2).2).2).2).2 = (((((((S.procAll (s1, s2, s3, s4, s5, s6, s7, s8) b).2).2).2).2).2).2).2 ∧ S.restOf ((List.replicate ((0 : Int).toNat) (0 : UInt8) ++ bif bif !S.stValid s9 s10 then true else decide ((1099511627776 : Int) - s10 < (b.length : Int)) then [] else s9) ++ b) = S.restOf b ∧ (bif bif !S.stValid s9 s10 then true else decide ((1099511627776 : Int) - s10 < (b.length : Int)) then (0 : Int) else s10) + (b.length : Int) = S.lenI b
def V_a6 (s1 : Int) (s2 : Int) (s3 : Int) (s4 : Int) (s5 : Int) (s6 : Int) (s7 : Int) (s8 : Int) (s9 : List UInt8) (s10 : Int) : Prop :=
 True ∧ (((!S.stValid s9 s10) = true → True) ∧ ((!S.stValid s9 s10) = false → True)) ∧ List.length (bif !S.stValid s9 s10 then [] else s9) ≤ (140737488355328 : Nat) ∧ List.length (bif !S.stValid s9 s10 then [] else s9) + List.length [(128 : UInt8)] ≤ (140737488355328 : Nat) ∧ (∃ (x : Nat), (bif !S.stValid s9 s10 then [] else s9) ++ [(128 : UInt8)] = S.tailZ s9 x ∧ S.tailInv s9 x) ∧ ∀ (x : Nat), S.tailInv s9 x → (0 : Int) ≤ (↑(List.length (S.tailZ s9 x)) : Int) ∧ (0 : Int) < (64 : Int) ∧ ((!decide ((↑(List.length (S.tailZ s9 x)) : Int) % (64 : Int) = (56 : Int))) = true → List.length (S.tailZ s9 x) + List.length [(0 : UInt8)] ≤ (140737488355328 : Nat) ∧ ∃ (x_1 : Nat), S.tailZ s9 x ++ [(0 : UInt8)] = S.tailZ s9 x_1 ∧ S.tailInv s9 x_1 ∧ S.meas (S.padZ (S.len s9)) x_1 < S.meas (S.padZ (S.len s9)) x) ∧ ((!decide ((↑(List.length (S.tailZ s9 x)) : Int) % (64 : Int) = (56 : Int))) = false → (∃ (x_1 : Nat), ((0 : Int) = (x_1 : Int) ∧ S.tailZ s9 x = S.tailL s9 s10 x_1) ∧ S.leN x_1 (8 : Nat)) ∧ ∀ (x : Nat), S.leN x (8 : Nat) → (decide ((x : Int) < (8 : Int)) = true → ((-9223372036854775808 : Int) ≤ (8 : Int) * (x : Int) ∧ (8 : Int) * (x : Int) ≤ (9223372036854775807 : Int)) ∧ ((-9223372036854775808 : Int) ≤ (56 : Int) - (8 : Int) * (x : Int) ∧ (56 : Int) - (8 : Int) * (x : Int) ≤ (9223372036854775807 : Int)) ∧ ((0 : Int) ≤ (56 : Int) - (8 : Int) * (x : Int) ∧ (56 : Int) - (8 : Int) * (x : Int) ≤ (64 : Int)) ∧ List.length (S.tailL s9 s10 x) + List.length [UInt8.ofNat (Int.toNat ((bif !S.stValid s9 s10 then (0 : Int) else s10) % (18446744073709551616 : Int) * (8 : Int) % (18446744073709551616 : Int) / (2 : Int) ^ Int.toNat ((56 : Int) - (8 : Int) * (x : Int)) % (256 : Int)))] ≤ (140737488355328 : Nat) ∧ ((-9223372036854775808 : Int) ≤ (x : Int) + (1 : Int) ∧ (x : Int) + (1 : Int) ≤ (9223372036854775807 : Int)) ∧ ∃ (x_1 : Nat), ((x : Int) + (1 : Int) = (x_1 : Int) ∧ S.tailL s9 s10 x ++ [UInt8.ofNat (Int.toNat ((bif !S.stValid s9 s10 then (0 : Int) else s10) % (18446744073709551616 : Int) * (8 : Int) % (18446744073709551616 : Int) / (2 : Int) ^ Int.toNat ((56 : Int) - (8 : Int) * (x : Int)) % (256 : Int)))] = S.tailL s9 s10 x_1) ∧ S.leN x_1 (8 : Nat) ∧ S.meas (8 : Nat) x_1 < S.meas (8 : Nat) x) ∧ (decide ((x : Int) < (8 : Int)) = false → S.ok8 (bif !S.stValid s9 s10 then (1779033703 : Int) else s1, bif !S.stValid s9 s10 then (3144134277 : Int) else s2, bif !S.stValid s9 s10 then (1013904242 : Int) else s3, bif !S.stValid s9 s10 then (2773480762 : Int) else s4, bif !S.stValid s9 s10 then (1359893119 : Int) else s5, bif !S.stValid s9 s10 then (2600822924 : Int) else s6, bif !S.stValid s9 s10 then (528734635 : Int) else s7, bif !S.stValid s9 s10 then (1541459225 : Int) else s8) ∧ ((0 : Int) ≤ (0 : Int) ∧ (0 : Int) ≤ (32 : Int) ∧ (32 : Int) ≤ (140737488355328 : Int) / (↑(1 : Nat) : Int)) ∧ (∃ (x : Nat), ((0 : Int) = (x : Int) ∧ List.replicate ((0 : Int).toNat) (0 : UInt8) = S.digN (S.procAll (s1, s2, s3, s4, s5, s6, s7, s8) (S.tail s9 s10)) x) ∧ S.leN x (8 : Nat)) ∧ ∀ (x_1 : Nat), S.leN x_1 (8 : Nat) → (decide ((x_1 : Int) < (8 : Int)) = true → ((0 : Int) ≤ (x_1 : Int) ∧ (x_1 : Int) < (↑(8 : Nat) : Int)) ∧ ((0 : Int) ≤ (24 : Int) ∧ (24 : Int) ≤ (32 : Int)) ∧ ((0 : Int) ≤ (16 : Int) ∧ (16 : Int) ≤ (32 : Int)) ∧ ((0 : Int) ≤ (8 : Int) ∧ (8 : Int) ≤ (32 : Int)) ∧ List.length (S.digN (S.procAll (s1, s2, s3, s4, s5, s6, s7, s8) (S.tail s9 s10)) x_1) + List.length [UInt8.ofNat (Int.toNat (List.getD [(S.procAll (bif !S.stValid s9 s10 then (1779033703 : Int) else s1, bif !S.stValid s9 s10 then (3144134277 : Int) else s2, bif !S.stValid s9 s10 then (1013904242 : Int) else s3, bif !S.stValid s9 s10 then (2773480762 : Int) else s4, bif !S.stValid s9 s10 then (1359893119 : Int) else s5, bif !S.stValid s9 s10 then (2600822924 : Int) else s6, bif !S.stValid s9 s10 then (528734635 : Int) else s7, bif !S.stValid s9 s10 then (1541459225 : Int) else s8) (S.tailL s9 s10 x)).1, ((S.procAll (bif !S.stValid s9 s10 then (1779033703 : Int) else s1, bif !S.stValid s9 s10 then (3144134277 : Int) else s2, bif !S.stValid s9 s10 then (1013904242 : Int) else s3, bif !S.stValid s9 s10 then (2773480762 : Int) else s4, bif !S.stValid s9 s10 then (1359893119 : Int) else s5, bif !S.stValid s9 s10 then (2600822924 : Int) else s6, bif !S.stValid s9 s10 then (528734635 : Int) else s7, bif !S.stValid s9 s10 then (1541459225 : Int) else s8) (S.tailL s9 s10 x)).2).1, (((S.procAll (bif !S.stValid s9 s10 then (1779033703 : Int) else s1, bif !S.stValid s9 s10 then (3144134277 : Int) else s2, bif !S.stValid s9 s10 then (1013904242 : Int) else s3, bif !S.stValid s9 s10 then (2773480762 : Int) else s4, bif !S.stValid s9 s10 then (1359893119 : Int) else s5, bif !S.stValid s9 s10 then (2600822924 : Int) else s6, bif !S.stValid s9 s10 then (528734635 : Int) else s7, bif !S.stValid s9 s10 then (1541459225 : Int) else s8) (S.tailL s9 s10 x)).2).2).1, ((((S.procAll (bif !S.stValid s9 s10 then (1779033703 : Int) else s1, bif !S.stValid s9 s10 then (3144134277 : Int) else s2, bif !S.stValid s9 s10 then (1013904242 : Int) else s3, bif !S.stValid s9 s10 then (2773480762 : Int) else s4, bif !S.stValid s9 s10 then (1359893119 : Int) else s5, bif !S.stValid s9 s10 then (2600822924 : Int) else s6, bif !S.stValid s9 s10 then (528734635 : Int) else s7, bif !S.stValid s9 s10 then (1541459225 : Int) else s8) (S.tailL s9 s10 x)).2).2).2).1, (((((S.procAll (bif !S.stValid s9 s10 then (1779033703 : Int) else s1, bif !S.stValid s9 s10 then (3144134277 : Int) else s2, bif !S.stValid s9 s10 then (1013904242 : Int) else s3, bif !S.stValid s9 s10 then (2773480762 : Int) else s4, bif !S.stValid s9 s10 then (1359893119 : Int) else s5, bif !S.stValid s9 s10 then (2600822924 : Int) else s6, bif !S.stValid s9 s10 then (528734635 : Int) else s7, bif !S.stValid s9 s10 then (1541459225 : Int) else s8) (S.tailL s9 s10 x)).2).2).2).2).1, ((((((S.procAll (bif !S.stValid s9 s10 then (1779033703 : Int) else s1, bif !S.stValid s9 s10 then (3144134277 : Int) else s2, bif !S.stValid s9 s10 then (1013904242 : Int) else s3, bif !S.stValid s9 s10 then (2773480762 : Int) else s4, bif !S.stValid s9 s10 then (1359893119 : Int) else s5, bif !S.stValid s9 s10 then (2600822924 : Int) else s6, bif !S.stValid s9 s10 then (528734635 : Int) else s7, bif !S.stValid s9 s10 then (1541459225 : Int) else s8) (S.tailL s9 s10 x)).2).2).2).2).2).1, (((((((S.procAll (bif !S.stValid s9 s10 then (1779033703 : Int) else s1, bif !S.stValid s9 s10 then (3144134277 : Int) else s2, bif !S.stValid s9 s10 then (1013904242 : Int) else s3, bif !S.stValid s9 s10 then (2773480762 : Int) else s4, bif !S.stValid s9 s10 then (1359893119 : Int) else s5, bif !S.stValid s9 s10 then (2600822924 : Int) else s6, bif !S.stValid s9 s10 then (528734635 : Int) else s7, bif !S.stValid s9 s10 then (1541459225 : Int) else s8) (S.tailL s9 s10 x)).2).2).2).2).2).2).1, (((((((S.procAll (bif !S.stValid s9 s10 then (1779033703 : Int) else s1, bif !S.stValid s9 s10 then (3144134277 : Int) else s2, bif !S.stValid s9 s10 then (1013904242 : Int) else s3, bif !S.stValid s9 s10 then (2773480762 : Int) else s4, bif !S.stValid s9 s10 then (1359893119 : Int) else s5, bif !S.stValid s9 s10 then (2600822924 : Int) else s6, bif !S.stValid s9 s10 then (528734635 : Int) else s7, bif !S.stValid s9 s10 then (1541459225 : Int) else s8) (S.tailL s9 s10 x)).2).2).2).2).2).2).2] ((x_1 : Int).toNat) (0 : Int) / (2 : Int) ^ (24 : Int).toNat % (256 : Int))), UInt8.ofNat (Int.toNat (List.getD [(S.procAll (bif !S.stValid s9 s10 then (1779033703 : Int) else s1, bif !S.stValid s9 s10 then (3144134277 : Int) else s2, bif !S.stValid s9 s10 then (1013904242 : Int) else s3, bif !S.stValid s9 s10 then (2773480762 : Int) else s4, bif !S.stValid s9 s10 then (1359893119 : Int) else s5, bif !S.stValid s9 s10 then (2600822924 : Int) else s6, bif !S.stValid s9 s10 then (528734635 : Int) else s7, bif !S.stValid s9 s10 then (1541459225 : Int) else s8) (S.tailL s9 s10 x)).1, ((S.procAll (bif !S.stValid s9 s10 then (1779033703 : Int) else s1, bif !S.stValid s9 s10 then (3144134277 : Int) else s2, bif !S.stValid s9 s10 then (1013904242 : Int) else s3, bif !S.stValid s9 s10 then (2773480762 : Int) else s4, bif !S.stValid s9 s10 then (1359893119 : Int) else s5, bif !S.stValid s9 s10 then (2600822924 : Int) else s6, bif !S.stValid s9 s10 then (528734635 : Int) else s7, bif !S.stValid s9 s10 then (1541459225 : Int) else s8) (S.tailL s9 s10 x)).2).1, (((S.procAll (bif !S.stValid s9 s10 then (1779033703 : Int) else s1, bif !S.stValid s9 s10 then (3144134277 : Int) else s2, bif !S.stValid s9 s10 then (1013904242 : Int) else s3, bif !S.stValid s9 s10 then (2773480762 : Int) else s4, bif !S.stValid s9 s10 then (1359893119 : Int) else s5, bif !S.stValid s9 s10 then (2600822924 : Int) else s6, bif !S.stValid s9 s10 then (528734635 : Int) else s7, bif !S.stValid s9 s10 then (1541459225 : Int) else s8) (S.tailL s9 s10 x)).2).2).1, ((((S.procAll (bif !S.stValid s9 s10 then (1779033703 : Int) else s1, bif !S.stValid s9 s10 then (3144134277 : Int) else s2, bif !S.stValid s9 s10 then (1013904242 : Int) else s3, bif !S.stValid s9 s10 then (2773480762 : Int) else s4, bif !S.stValid s9 s10 then (1359893119 : Int) else s5, bif !S.stValid s9 s10 then (2600822924 : Int) else s6, bif !S.stValid s9 s10 then (528734635 : Int) else s7, bif !S.stValid s9 s10 then (1541459225 : Int) else s8) (S.tailL s9 s10 x)).2).2).2).1, (((((S.procAll (bif !S.stValid s9 s10 then (1779033703 : Int) else s1, bif !S.stValid s9 s10 then (3144134277 : Int) else s2, bif !S.stValid s9 s10 then (1013904242 : Int) else s3, bif !S.stValid s9 s10 then (2773480762 : Int) else s4, bif !S.stValid s9 s10 then (1359893119 : Int) else s5, bif !S.stValid s9 s10 then (2600822924 : Int) else s6, bif !S.stValid s9 s10 then (528734635 : Int) else s7, bif !S.stValid s9 s10 then (1541459225 : Int) else s8) (S.tailL s9 s10 x)).2).2).2).2).1, ((((((S.procAll (bif !S.stValid s9 s10 then (1779033703 : Int) else s1, bif !S.stValid s9 s10 then (3144134277 : Int) else s2, bif !S.stValid s9 s10 then (1013904242 : Int) else s3, bif !S.stValid s9 s10 then (2773480762 : Int) else s4, bif !S.stValid s9 s10 then (1359893119 : Int) else s5, bif !S.stValid s9 s10 then (2600822924 : Int) else s6, bif !S.stValid s9 s10 then (528734635 : Int) else s7, bif !S.stValid s9 s10 then (1541459225 : Int) else s8) (S.tailL s9 s10 x)).2).2).2).2).2).1, (((((((S.procAll (bif !S.stValid s9 s10 then (1779033703 : Int) else s1, bif !S.stValid s9 s10 then (3144134277 : Int) else s2, bif !S.stValid s9 s10 then (1013904242 : Int) else s3, bif !S.stValid s9 s10 then (2773480762 : Int) else s4, bif !S.stValid s9 s10 then (1359893119 : Int) else s5, bif !S.stValid s9 s10 then (2600822924 : Int) else s6, bif !S.stValid s9 s10 then (528734635 : Int) else s7, bif !S.stValid s9 s10 then (1541459225 : Int) else s8) (S.tailL s9 s10 x)).2).2).2).2).2).2).1, (((((((S.procAll (bif !S.stValid s9 s10 then (1779033703 : Int) else s1, bif !S.stValid s9 s10 then (3144134277 : Int) else s2, bif !S.stValid s9 s10 then (1013904242 : Int) else s3, bif !S.stValid s9 s10 then (2773480762 : Int) else s4, bif !S.stValid s9 s10 then (1359893119 : Int) else s5, bif !S.stValid s9 s10 then (2600822924 : Int) else s6, bif !S.stValid s9 s10 then (528734635 : Int) else s7, bif !S.stValid s9 s10 then (1541459225 : Int) else s8) (S.tailL s9 s10 x)).2).2).2).2).2).2).2] ((x_1 : Int).toNat) (0 : Int) / (2 : Int) ^ (16 : Int).toNat % (256 : Int))), UInt8.ofNat (Int.toNat (List.getD [(S.procAll (bif !S.stValid s9 s10 then (1779033703 : Int) else s1, bif !S.stValid s9 s10 then (3144134277 : Int) else s2, bif !S.stValid s9 s10 then (1013904242 : Int) else s3, bif !S.stValid s9 s10 then (2773480762 : Int) else s4, bif !S.stValid s9 s10 then (1359893119 : Int) else s5, bif !S.stValid s9 s10 then (2600822924 : Int) else s6, bif !S.stValid s9 s10 then (528734635 : Int) else s7, bif !S.stValid s9 s10 then (1541459225 : Int) else s8) (S.tailL s9 s10 x)).1, ((S.procAll (bif !S.stValid s9 s10 then (1779033703 : Int) else s1, bif !S.stValid s9 s10 then (3144134277 : Int) else s2, bif !S.stValid s9 s10 then (1013904242 : Int) else s3, bif !S.stValid s9 s10 then (2773480762 : Int) else s4, bif !S.stValid s9 s10 then (1359893119 : Int) else s5, bif !S.stValid s9 s10 then (2600822924 : Int) else s6, bif !S.stValid s9 s10 then (528734635 : Int) else s7, bif !S.stValid s9 s10 then (1541459225 : Int) else s8) (S.tailL s9 s10 x)).2).1, (((S.procAll (bif !S.stValid s9 s10 then (1779033703 : Int) else s1, bif !S.stValid s9 s10 then (3144134277 : Int) else s2, bif !S.stValid s9 s10 then (1013904242 : Int) else s3, bif !S.stValid s9 s10 then (2773480762 : Int) else s4, bif !S.stValid s9 s10 then (1359893119 : Int) else s5, bif !S.stValid s9 s10 then (2600822924 : Int) else s6, bif !S.stValid s9 s10 then (528734635 : Int) else s7, bif !S.stValid s9 s10 then (1541459225 : Int) else s8) (S.tailL s9 s10 x)).2).2).1, ((((S.procAll (bif !S.stValid s9 s10 then (1779033703 : Int) else s1, bif !S.stValid s9 s10 then (3144134277 : Int) else s2, bif !S.stValid s9 s10 then (1013904242 : Int) else s3, bif !S.stValid s9 s10 then (2773480762 : Int) else s4, bif !S.stValid s9 s10 then (1359893119 : Int) else s5, bif !S.stValid s9 s10 then (2600822924 : Int) else s6, bif !S.stValid s9 s10 then (528734635 : Int) else s7, bif !S.stValid s9 s10 then (1541459225 : Int) else s8) (S.tailL s9 s10 x)).2).2).2).1, (((((S.procAll (bif !S.stValid s9 s10 then (1779033703 : Int) else s1, bif !S.stValid s9 s10 then (3144134277 : Int) else s2, bif !S.stValid s9 s10 then (1013904242 : Int) else s3, bif !S.stValid s9 s10 then (2773480762 : Int) else s4, bif !S.stValid s9 s10 then (1359893119 : Int) else s5, bif !S.stValid s9 s10 then (2600822924 : Int) else s6, bif !S.stValid s9 s10 then (528734635 : Int) else s7, bif !S.stValid s9 s10 then (1541459225 : Int) else s8) (S.tailL s9 s10 x)).2).2).2).2).1, ((((((S.procAll (bif !S.stValid s9 s10 then (1779033703 : Int) else s1, bif !S.stValid s9 s10 then (3144134277 : Int) else s2, bif !S.stValid s9 s10 then (1013904242 : Int) else s3, bif !S.stValid s9 s10 then (2773480762 : Int) else s4, bif !S.stValid s9 s10 then (1359893119 : Int) else s5, bif !S.stValid s9 s10 then (2600822924 : Int) else s6, bif !S.stValid s9 s10 then (528734635 : Int) else s7, bif !S.stValid s9 s10 then (1541459225 : Int) else s8) (S.tailL s9 s10 x)).2).2).2).2).2).1, (((((((S.procAll (bif !S.stValid s9 s10 then (1779033703 : Int) else s1, bif !S.stValid s9 s10 then (3144134277 : Int) else s2, bif !S.stValid s9 s10 then (1013904242 : Int) else s3, bif !S.stValid s9 s10 then (2773480762 : Int) else s4, bif !S.stValid s9 s10 then (1359893119 : Int) else s5, bif !S.stValid s9 s10 then (2600822924 : Int) else s6, bif !S.stValid s9 s10 then (528734635 : Int) else s7, bif !S.stValid s9 s10 then (1541459225 : Int) else s8) (S.tailL s9 s10 x)).2).2).2).2).2).2).1, (((((((S.procAll (bif !S.stValid s9 s10 then (1779033703 : Int) else s1, bif !S.stValid s9 s10 then (3144134277 : Int) else s2, bif !S.stValid s9 s10 then (1013904242 : Int) else s3, bif !S.stValid s9 s10 then (2773480762 : Int) else s4, bif !S.stValid s9 s10 then (1359893119 : Int) else s5, bif !S.stValid s9 s10 then (2600822924 : Int) else s6, bif !S.stValid s9 s10 then (528734635 : Int) else s7, bif !S.stValid s9 s10 then (1541459225 : Int) else s8) (S.tailL s9 s10 x)).2).2).2).2).2).2).2] ((x_1 : Int).toNat) (0 : Int) / (2 : Int) ^ (8 : Int).toNat % (256 : Int))), UInt8.ofNat (Int.toNat (List.getD [(S.procAll (bif !S.stValid s9 s10 then (1779033703 : Int) else s1, bif !S.stValid s9 s10 then (3144134277 : Int) else s2, bif !S.stValid s9 s10 then (1013904242 : Int) else s3, bif !S.stValid s9 s10 then (2773480762 : Int) else s4, bif !S.stValid s9 s10 then (1359893119 : Int) else s5, bif !S.stValid s9 s10 then (2600822924 : Int) else s6, bif !S.stValid s9 s10 then (528734635 : Int) else s7, bif !S.stValid s9 s10 then (1541459225 : Int) else s8) (S.tailL s9 s10 x)).1, ((S.procAll (bif !S.stValid s9 s10 then (1779033703 : Int) else s1, bif !S.stValid s9 s10 then (3144134277 : Int) else s2, bif !S.stValid s9 s10 then (1013904242 : Int) else s3, bif !S.stValid s9 s10 then (2773480762 : Int) else s4, bif !S.stValid s9 s10 then (1359893119 : Int) else s5, bif !S.stValid s9 s10 then (2600822924 : Int) else s6, bif !S.stValid s9 s10 then (528734635 : Int) else s7, bif !S.stValid s9 s10 then (1541459225 : Int) else s8) (S.tailL s9 s10 x)).2).1, (((S.procAll (bif !S.stValid s9 s10 then (1779033703 : Int) else s1, bif !S.stValid s9 s10 then (3144134277 : Int) else s2, bif !S.stValid s9 s10 then (1013904242 : Int) else s3, bif !S.stValid s9 s10 then (2773480762 : Int) else s4, bif !S.stValid s9 s10 then (1359893119 : Int) else s5, bif !S.stValid s9 s10 then (2600822924 : Int) else s6, bif !S.stValid s9 s10 then (528734635 : Int) else s7, bif !S.stValid s9 s10 then (1541459225 : Int) else s8) (S.tailL s9 s10 x)).2).2).1, ((((S.procAll (bif !S.stValid s9 s10 then (1779033703 : Int) else s1, bif !S.stValid s9 s10 then (3144134277 : Int) else s2, bif !S.stValid s9 s10 then (1013904242 : Int) else s3, bif !S.stValid s9 s10 then (2773480762 : Int) else s4, bif !S.stValid s9 s10 then (1359893119 : Int) else s5, bif !S.stValid s9 s10 then (2600822924 : Int) else s6, bif !S.stValid s9 s10 then (528734635 : Int) else s7, bif !S.stValid s9 s10 then (1541459225 : Int) else s8) (S.tailL s9 s10 x)).2).2).2).1, (((((S.procAll (bif !S.stValid s9 s10 then (1779033703 : Int) else s1, bif !S.stValid s9 s10 then (3144134277 : Int) else s2, bif !S.stValid s9 s10 then (1013904242 : Int) else s3, bif !S.stValid s9 s10 then (2773480762 : Int) else s4, bif !S.stValid s9 s10 then (1359893119 : Int) else s5, bif !S.stValid s9 s10 then (2600822924 : Int) else s6, bif !S.stValid s9 s10 then (528734635 : Int) else s7, bif !S.stValid s9 s10 then (1541459225 : Int) else s8) (S.tailL s9 s10 x)).2).2).2).2).1, ((((((S.procAll (bif !S.stValid s9 s10 then (1779033703 : Int) else s1, bif !S.stValid s9 s10 then (3144134277 : Int) else s2, bif !S.stValid s9 s10 then (1013904242 : Int) else s3, bif !S.stValid s9 s10 then (2773480762 : Int) else s4, bif !S.stValid s9 s10 then (1359893119 : Int) else s5, bif !S.stValid s9 s10 then (2600822924 : Int) else s6, bif !S.stValid s9 s10 then (528734635 : Int) else s7, bif !S.stValid s9 s10 then (1541459225 : Int) else s8) (S.tailL s9 s10 x)).2).2).2).2).2).1, (((((((S.procAll (bif !S.stValid s9 s10 then (1779033703 : Int) else s1, bif !S.stValid s9 s10 then (3144134277 : Int) else s2, bif !S.stValid s9 s10 then (1013904242 : Int) else s3, bif !S.stValid s9 s10 then (2773480762 : Int) else s4, bif !S.stValid s9 s10 then (1359893119 : Int) else s5, bif !S.stValid s9 s10 then (2600822924 : Int) else s6, bif !S.stValid s9 s10 then (528734635 : Int) else s7, bif !S.stValid s9 s10 then (1541459225 : Int) else s8) (S.tailL s9 s10 x)).2).2).2).2).2).2).1, (((((((S.procAll (bif !S.stValid s9 s10 then (1779033703 : Int) else s1, bif !S.stValid s9 s10 then (3144134277 : Int) else s2, bif !S.stValid s9 s10 then (1013904242 : Int) else s3, bif !S.stValid s9 s10 then (2773480762 : Int) else s4, bif !S.stValid s9 s10 then (1359893119 : Int) else s5, bif !S.stValid s9 s10 then (2600822924 : Int) else s6, bif !S.stValid s9 s10 then (528734635 : Int) else s7, bif !S.stValid s9 s10 then (1541459225 : Int) else s8) (S.tailL s9 s10 x)).2).2).2).2).2).2).2] ((x_1 : Int).toNat) (0 : Int) % (256 : Int)))] ≤ (140737488355328 : Nat) ∧ ((-9223372036854775808 : Int) ≤ (x_1 : Int) + (1 : Int) ∧ (x_1 : Int) + (1 : Int) ≤ (9223372036854775807 : Int)) ∧ ∃ (x_2 : Nat), ((x_1 : Int) + (1 : Int) = (x_2 : Int) ∧ S.digN (S.procAll (s1, s2, s3, s4, s5, s6, s7, s8) (S.tail s9 s10)) x_1 ++ [UInt8.ofNat (Int.toNat (List.getD [(S.procAll (bif !S.stValid s9 s10 then (1779033703 : Int) else s1, bif !S.stValid s9 s10 then (3144134277 : Int) else s2, bif !S.stValid s9 s10 then (1013904242 : Int) else s3, bif !S.stValid s9 s10 then (2773480762 : Int) else s4, bif !S.stValid s9 s10 then (1359893119 : Int) else s5, bif !S.stValid s9 s10 then (2600822924 : Int) else s6, bif !S.stValid s9 s10 then (528734635 : Int) else s7, bif !S.stValid s9 s10 then (1541459225 : Int) else s8) (S.tailL s9 s10 x)).1, ((S.procAll (bif !S.stValid s9 s10 then (1779033703 : Int) else s1, bif !S.stValid s9 s10 then (3144134277 : Int) else s2, bif !S.stValid s9 s10 then (1013904242 : Int) else s3, bif !S.stValid s9 s10 then (2773480762 : Int) else s4, bif !S.stValid s9 s10 then (1359893119 : Int) else s5, bif !S.stValid s9 s10 then (2600822924 : Int) else s6, bif !S.stValid s9 s10 then (528734635 : Int) else s7, bif !S.stValid s9 s10 then (1541459225 : Int) else s8) (S.tailL s9 s10 x)).2).1, (((S.procAll (bif !S.stValid s9 s10 then (1779033703 : Int) else s1, bif !S.stValid s9 s10 then (3144134277 : Int) else s2, bif !S.stValid s9 s10 then (1013904242 : Int) else s3, bif !S.stValid s9 s10 then (2773480762 : Int) else s4, bif !S.stValid s9 s10 then (1359893119 : Int) else s5, bif !S.stValid s9 s10 then (2600822924 : Int) else s6, bif !S.stValid s9 s10 then (528734635 : Int) else s7, bif !S.stValid s9 s10 then (1541459225 : Int) else s8) (S.tailL s9 s10 x)).2).2).1, ((((S.procAll (bif !S.stValid s9 s10 then (1779033703 : Int) else s1, bif !S.stValid s9 s10 then (3144134277 : Int) else s2, bif !S.stValid s9 s10 then (1013904242 : Int) else s3, bif !S.stValid s9 s10 then (2773480762 : Int) else s4, bif !S.stValid s9 s10 then (1359893119 : Int) else s5, bif !S.stValid s9 s10 then (2600822924 : Int) else s6, bif !S.stValid s9 s10 then (528734635 : Int) else s7, bif !S.stValid s9 s10 then (1541459225 : Int) else s8) (S.tailL s9 s10 x)).2).2).2).1, (((((S.procAll (bif !S.stValid s9 s10 then (1779033703 : Int) else s1, bif !S.stValid s9 s10 then (3144134277 : Int) else s2, bif !S.stValid s9 s10 then (1013904242 : Int) else s3, bif !S.stValid s9 s10 then (2773480762 : Int) else s4, bif !S.stValid s9 s10 then (1359893119 : Int) else s5, bif !S.stValid s9 s10 then (2600822924 : Int) else s6, bif !S.stValid s9 s10 then (528734635 : Int) else s7, bif !S.stValid s9 s10 then (1541459225 : Int) else s8) (S.tailL s9 s10 x)).2).2).2).2).1, ((((((S.procAll (bif !S.stValid s9 s10 then (1779033703 : Int) else s1, bif !S.stValid s9 s10 then (3144134277 : Int) else s2, bif !S.stValid s9 s10 then (1013904242 : Int) else s3, bif !S.stValid s9 s10 then (2773480762 : Int) else s4, bif !S.stValid s9 s10 then (1359893119 : Int) else s5, bif !S.stValid s9 s10 then (2600822924 : Int) else s6, bif !S.stValid s9 s10 then (528734635 : Int) else s7, bif !S.stValid s9 s10 then (1541459225 : Int) else s8) (S.tailL s9 s10 x)).2).2).2).2).2).1, (((((((S.procAll (bif !S.stValid s9 s10 then (1779033703 : Int) else s1, bif !S.stValid s9 s10 then (3144134277 : Int) else s2, bif !S.stValid s9 s10 then (1013904242 : Int) else s3, bif !S.stValid s9 s10 then (2773480762 : Int) else s4, bif !S.stValid s9 s10 then (1359893119 : Int) else s5, bif !S.stValid s9 s10 then (2600822924 : Int) else s6, bif !S.stValid s9 s10 then (528734635 : Int) else s7, bif !S.stValid s9 s10 then (1541459225 : Int) else s8) (S.tailL s9 s10 x)).2).2).2).2).2).2).1, (((((((S.procAll (bif !S.stValid s9 s10 then (1779033703 : Int) else s1, bif !S.stValid s9 s10 then (3144134277 : Int) else s2, bif !S.stValid s9 s10 then (1013904242 : Int) else s3, bif !S.stValid s9 s10 then (2773480762 : Int) else s4, bif !S.stValid s9 s10 then (1359893119 : Int) else s5, bif !S.stValid s9 s10 then (2600822924 : Int) else s6, bif !S.stValid s9 s10 then (528734635 : Int) else s7, bif !S.stValid s9 s10 then (1541459225 : Int) else s8) (S.tailL s9 s10 x)).2).2).2).2).2).2).2] ((x_1 : Int).toNat) (0 : Int) / (2 : Int) ^ (24 : Int).toNat % (256 : Int))), UInt8.ofNat (Int.toNat (List.getD [(S.procAll (bif !S.stValid s9 s10 then (1779033703 : Int) else s1, bif !S.stValid s9 s10 then (3144134277 : Int) else s2, bif !S.stValid s9 s10 then (1013904242 : Int) else s3, bif !S.stValid s9 s10 then (2773480762 : Int) else s4, bif !S.stValid s9 s10 then (1359893119 : Int) else s5, bif !S.stValid s9 s10 then (2600822924 : Int) else s6, bif !S.stValid s9 s10 then (528734635 : Int) else s7, bif !S.stValid s9 s10 then (1541459225 : Int) else s8) (S.tailL s9 s10 x)).1, ((S.procAll (bif !S.stValid s9 s10 then (1779033703 : Int) else s1, bif !S.stValid s9 s10 then (3144134277 : Int) else s2, bif !S.stValid s9 s10 then (1013904242 : Int) else s3, bif !S.stValid s9 s10 then (2773480762 : Int) else s4, bif !S.stValid s9 s10 then (1359893119 : Int) else s5, bif !S.stValid s9 s10 then (2600822924 : Int) else s6, bif !S.stValid s9 s10 then (528734635 : Int) else s7, bif !S.stValid s9 s10 then (1541459225 : Int) else s8) (S.tailL s9 s10 x)).2).1, (((S.procAll (bif !S.stValid s9 s10 then (1779033703 : Int) else s1, bif !S.stValid s9 s10 then (3144134277 : Int) else s2, bif !S.stValid s9 s10 then (1013904242 : Int) else s3, bif !S.stValid s9 s10 then (2773480762 : Int) else s4, bif !S.stValid s9 s10 then (1359893119 : Int) else s5, bif !S.stValid s9 s10 then (2600822924 : Int) else s6, bif !S.stValid s9 s10 then (528734635 : Int) else s7, bif !S.stValid s9 s10 then (1541459225 : Int) else s8) (S.tailL s9 s10 x)).2).2).1, ((((S.procAll (bif !S.stValid s9 s10 then (1779033703 : Int) else s1, bif !S.stValid s9 s10 then (3144134277 : Int) else s2, bif !S.stValid s9 s10 then (1013904242 : Int) else s3, bif !S.stValid s9 s10 then (2773480762 : Int) else s4, bif !S.stValid s9 s10 then (1359893119 : Int) else s5, bif !S.stValid s9 s10 then (2600822924 : Int) else s6, bif !S.stValid s9 s10 then (528734635 : Int) else s7, bif !S.stValid s9 s10 then (1541459225 : Int) else s8) (S.tailL s9 s10 x)).2).2).2).1, (((((S.procAll (bif !S.stValid s9 s10 then (1779033703 : Int) else s1, bif !S.stValid s9 s10 then (3144134277 : Int) else s2, bif !S.stValid s9 s10 then (1013904242 : Int) else s3, bif !S.stValid s9 s10 then (2773480762 : Int) else s4, bif !S.stValid s9 s10 then (1359893119 : Int) else s5, bif !S.stValid s9 s10 then (2600822924 : Int) else s6, bif !S.stValid s9 s10 then (528734635 : Int) else s7, bif !S.stValid s9 s10 then (1541459225 : Int) else s8) (S.tailL s9 s10 x)).2).2).2).2).1, ((((((S.procAll (bif !S.stValid s9 s10 then (1779033703 : Int) else s1, bif !S.stValid s9 s10 then (3144134277 : Int) else s2, bif !S.stValid s9 s10 then (1013904242 : Int) else s3, bif !S.stValid s9 s10 then (2773480762 : Int) else s4, bif !S.stValid s9 s10 then (1359893119 : Int) else s5, bif !S.stValid s9 s10 then (2600822924 : Int) else s6, bif !S.stValid s9 s10 then (528734635 : Int) else s7, bif !S.stValid s9 s10 then (1541459225 : Int) else s8) (S.tailL s9 s10 x)).2).2).2).2).2).1, (((((((S.procAll (bif !S.stValid s9 s10 then (1779033703 : Int) else s1, bif !S.stValid s9 s10 then (3144134277 : Int) else s2, bif !S.stValid s9 s10 then (1013904242 : Int) else s3, bif !S.stValid s9 s10 then (2773480762 : Int) else s4, bif !S.stValid s9 s10 then (1359893119 : Int) else s5, bif !S.stValid s9 s10 then (2600822924 : Int) else s6, bif !S.stValid s9 s10 then (528734635 : Int) else s7, bif !S.stValid s9 s10 then (1541459225 : Int) else s8) (S.tailL s9 s10 x)).2).2).2).2).2).2).1, (((((((S.procAll (bif !S.stValid s9 s10 then (1779033703 : Int) else s1, bif !S.stValid s9 s10 then (3144134277 : Int) else s2, bif !S.stValid s9 s10 then (1013904242 : Int) else s3, bif !S.stValid s9 s10 then (2773480762 : Int) else s4, bif !S.stValid s9 s10 then (1359893119 : Int) else s5, bif !S.stValid s9 s10 then (2600822924 : Int) else s6, bif !S.stValid s9 s10 then (528734635 : Int) else s7, bif !S.stValid s9 s10 then (1541459225 : Int) else s8) (S.tailL s9 s10 x)).2).2).2).2).2).2).2] ((x_1 : Int).toNat) (0 : Int) / (2 : Int) ^ (16 : Int).toNat % (256 : Int))), UInt8.ofNat (Int.toNat (List.getD [(S.procAll (bif !S.stValid s9 s10 then (1779033703 : Int) else s1, bif !S.stValid s9 s10 then (3144134277 : Int) else s2, bif !S.stValid s9 s10 then (1013904242 : Int) else s3, bif !S.stValid s9 s10 then (2773480762 : Int) else s4, bif !S.stValid s9 s10 then (1359893119 : Int) else s5, bif !S.stValid s9 s10 then (2600822924 : Int) else s6, bif !S.stValid s9 s10 then (528734635 : Int) else s7, bif !S.stValid s9 s10 then (1541459225 : Int) else s8) (S.tailL s9 s10 x)).1, ((S.procAll (bif !S.stValid s9 s10 then (1779033703 : Int) else s1, bif !S.stValid s9 s10 then (3144134277 : Int) else s2, bif !S.stValid s9 s10 then (1013904242 : Int) else s3, bif !S.stValid s9 s10 then (2773480762 : Int) else s4, bif !S.stValid s9 s10 then (1359893119 : Int) else s5, bif !S.stValid s9 s10 then (2600822924 : Int) else s6, bif !S.stValid s9 s10 then (528734635 : Int) else s7, bif !S.stValid s9 s10 then (1541459225 : Int) else s8) (S.tailL s9 s10 x)).2).1, (((S.procAll (bif !S.stValid s9 s10 then (1779033703 : Int) else s1, bif !S.stValid s9 s10 then (3144134277 : Int) else s2, bif !S.stValid s9 s10 then (1013904242 : Int) else s3, bif !S.stValid s9 s10 then (2773480762 : Int) else s4, bif !S.stValid s9 s10 then (1359893119 : Int) else s5, bif !S.stValid s9 s10 then (2600822924 : Int) else s6, bif !S.stValid s9 s10 then (528734635 : Int) else s7, bif !S.stValid s9 s10 then (1541459225 : Int) else s8) (S.tailL s9 s10 x)).2).2).1, ((((S.procAll (bif !S.stValid s9 s10 then (1779033703 : Int) else s1, bif !S.stValid s9 s10 then (3144134277 : Int) else s2, bif !S.stValid s9 s10 then (1013904242 : Int) else s3, bif !S.stValid s9 s10 then (2773480762 : Int) else s4, bif !S.stValid s9 s10 then (1359893119 : Int) else s5, bif !S.stValid s9 s10 then (2600822924 : Int) else s6, bif !S.stValid s9 s10 then (528734635 : Int) else s7, bif !S.stValid s9 s10 then (1541459225 : Int) else s8) (S.tailL s9 s10 x)).2).2).2).1, (((((S.procAll (bif !S.stValid s9 s10 then (1779033703 : Int) else s1, bif !S.stValid s9 s10 then (3144134277 : Int) else s2, bif !S.stValid s9 s10 then (1013904242 : Int) else s3, bif !S.stValid s9 s10 then (2773480762 : Int) else s4, bif !S.stValid s9 s10 then (1359893119 : Int) else s5, bif !S.stValid s9 s10 then (2600822924 : Int) else s6, bif !S.stValid s9 s10 then (528734635 : Int) else s7, bif !S.stValid s9 s10 then (1541459225 : Int) else s8) (S.tailL s9 s10 x)).2).2).2).2).1, ((((((S.procAll (bif !S.stValid s9 s10 then (1779033703 : Int) else s1, bif !S.stValid s9 s10 then (3144134277 : Int) else s2, bif !S.stValid s9 s10 then (1013904242 : Int) else s3, bif !S.stValid s9 s10 then (2773480762 : Int) else s4, bif !S.stValid s9 s10 then (1359893119 : Int) else s5, bif !S.stValid s9 s10 then (2600822924 : Int) else s6, bif !S.stValid s9 s10 then (528734635 : Int) else s7, bif !S.stValid s9 s10 then (1541459225 : Int) else s8) (S.tailL s9 s10 x)).2).2).2).2).2).1, (((((((S.procAll (bif !S.stValid s9 s10 then (1779033703 : Int) else s1, bif !S.stValid s9 s10 then (3144134277 : Int) else s2, bif !S.stValid s9 s10 then (1013904242 : Int) else s3, bif !S.stValid s9 s10 then (2773480762 : Int) else s4, bif !S.stValid s9 s10 then (1359893119 : Int) else s5, bif !S.stValid s9 s10 then (2600822924 : Int) else s6, bif !S.stValid s9 s10 then (528734635 : Int) else s7, bif !S.stValid s9 s10 then (1541459225 : Int) else s8) (S.tailL s9 s10 x)).2).2).2).2).2).2).1, (((((((S.procAll (bif !S.stValid s9 s10 then (1779033703 : Int) else s1, bif !S.stValid s9 s10 then (3144134277 : Int) else s2, bif !S.stValid s9 s10 then (1013904242 : Int) else s3, bif !S.stValid s9 s10 then (2773480762 : Int) else s4, bif !S.stValid s9 s10 then (1359893119 : Int) else s5, bif !S.stValid s9 s10 then (2600822924 : Int) else s6, bif !S.stValid s9 s10 then (528734635 : Int) else s7, bif !S.stValid s9 s10 then (1541459225 : Int) else s8) (S.tailL s9 s10 x)).2).2).2).2).2).2).2] ((x_1 : Int).toNat) (0 : Int) / (2 : Int) ^ (8 : Int).toNat % (256 : Int))), UInt8.ofNat (Int.toNat (List.getD [(S.procAll (bif !S.stValid s9 s10 then (1779033703 : Int) else s1, bif !S.stValid s9 s10 then (3144134277 : Int) else s2, bif !S.stValid s9 s10 then (1013904242 : Int) else s3, bif !S.stValid s9 s10 then (2773480762 : Int) else s4, bif !S.stValid s9 s10 then (1359893119 : Int) else s5, bif !S.stValid s9 s10 then (2600822924 : Int) else s6, bif !S.stValid s9 s10 then (528734635 : Int) else s7, bif !S.stValid s9 s10 then (1541459225 : Int) else s8) (S.tailL s9 s10 x)).1, ((S.procAll (bif !S.stValid s9 s10 then (1779033703 : Int) else s1, bif !S.stValid s9 s10 then (3144134277 : Int) else s2, bif !S.stValid s9 s10 then (1013904242 : Int) else s3, bif !S.stValid s9 s10 then (2773480762 : Int) else s4, bif !S.stValid s9 s10 then (1359893119 : Int) else s5, bif !S.stValid s9 s10 then (2600822924 : Int) else s6, bif !S.stValid s9 s10 then (528734635 : Int) else s7, bif !S.stValid s9 s10 then (1541459225 : Int) else s8) (S.tailL s9 s10 x)).2).1, (((S.procAll (bif !S.stValid s9 s10 then (1779033703 : Int) else s1, bif !S.stValid s9 s10 then (3144134277 : Int) else s2, bif !S.stValid s9 s10 then (1013904242 : Int) else s3, bif !S.stValid s9 s10 then (2773480762 : Int) else s4, bif !S.stValid s9 s10 then (1359893119 : Int) else s5, bif !S.stValid s9 s10 then (2600822924 : Int) else s6, bif !S.stValid s9 s10 then (528734635 : Int) else s7, bif !S.stValid s9 s10 then (1541459225 : Int) else s8) (S.tailL s9 s10 x)).2).2).1, ((((S.procAll (bif !S.stValid s9 s10 then (1779033703 : Int) else s1, bif !S.stValid s9 s10 then (3144134277 : Int) else s2, bif !S.stValid s9 s10 then (1013904242 : Int) else s3, bif !S.stValid s9 s10 then (2773480762 : Int) else s4, bif !S.stValid s9 s10 then (1359893119 : Int) else s5, bif !S.stValid s9 s10 then (2600822924 : Int) else s6, bif !S.stValid s9 s10 then (528734635 : Int) else s7, bif !S.stValid s9 s10 then (1541459225 : Int) else s8) (S.tailL s9 s10 x)).2).2).2).1, (((((S.procAll (bif !S.stValid s9 s10 then (1779033703 : Int) else s1, bif !S.stValid s9 s10 then (3144134277 : Int) else s2, bif !S.stValid s9 s10 then (1013904242 : Int) else s3, bif !S.stValid s9 s10 then (2773480762 : Int) else s4, bif !S.stValid s9 s10 then (1359893119 : Int) else s5, bif !S.stValid s9 s10 then (2600822924 : Int) else s6, bif !S.stValid s9 s10 then (528734635 : Int) else s7, bif !S.stValid s9 s10 then (1541459225 : Int) else s8) (S.tailL s9 s10 x)).2).2).2).2).1, ((((((S.procAll (bif !S.stValid s9 s10 then (1779033703 : Int) else s1, bif !S.stValid s9 s10 then (3144134277 : Int) else s2, bif !S.stValid s9 s10 then (1013904242 : Int) else s3, bif !S.stValid s9 s10 then (2773480762 : Int) else s4, bif !S.stValid s9 s10 then (1359893119 : Int) else s5, bif !S.stValid s9 s10 then (2600822924 : Int) else s6, bif !S.stValid s9 s10 then (528734635 : Int) else s7, bif !S.stValid s9 s10 then (1541459225 : Int) else s8) (S.tailL s9 s10 x)).2).2).2).2).2).1, (((((((S.procAll (bif !S.stValid s9 s10 then (1779033703 : Int) else s1, bif !S.stValid s9 s10 then (3144134277 : Int) else s2, bif !S.stValid s9 s10 then (1013904242 : Int) else s3, bif !S.stValid s9 s10 then (2773480762 : Int) else s4, bif !S.stValid s9 s10 then (1359893119 : Int) else s5, bif !S.stValid s9 s10 then (2600822924 : Int) else s6, bif !S.stValid s9 s10 then (528734635 : Int) else s7, bif !S.stValid s9 s10 then (1541459225 : Int) else s8) (S.tailL s9 s10 x)).2).2).2).2).2).2).1, (((((((S.procAll (bif !S.stValid s9 s10 then (1779033703 : Int) else s1, bif !S.stValid s9 s10 then (3144134277 : Int) else s2, bif !S.stValid s9 s10 then (1013904242 : Int) else s3, bif !S.stValid s9 s10 then (2773480762 : Int) else s4, bif !S.stValid s9 s10 then (1359893119 : Int) else s5, bif !S.stValid s9 s10 then (2600822924 : Int) else s6, bif !S.stValid s9 s10 then (528734635 : Int) else s7, bif !S.stValid s9 s10 then (1541459225 : Int) else s8) (S.tailL s9 s10 x)).2).2).2).2).2).2).2] ((x_1 : Int).toNat) (0 : Int) % (256 : Int)))] = S.digN (S.procAll (s1, s2, s3, s4, s5, s6, s7, s8) (S.tail s9 s10)) x_2) ∧ S.leN x_2 (8 : Nat) ∧ S.meas (8 : Nat) x_2 < S.meas (8 : Nat) x_1) ∧ (decide ((x_1 : Int) < (8 : Int)) = false → S.digN (S.procAll (s1, s2, s3, s4, s5, s6, s7, s8) (S.tail s9 s10)) x_1 = S.dig (S.procAll (s1, s2, s3, s4, s5, s6, s7, s8) (S.tail s9 s10)))))
def V_a7 (b : List UInt8) : Prop :=
 True ∧ S.addPre ((1779033703 : Int), (3144134277 : Int), (1013904242 : Int), (2773480762 : Int), (1359893119 : Int), (2600822924 : Int), (528734635 : Int), (1541459225 : Int)) (Vg.nilL UInt8) (0 : Int) b ∧ S.endPre ((S.procAll ((1779033703 : Int), (3144134277 : Int), (1013904242 : Int), (2773480762 : Int), (1359893119 : Int), (2600822924 : Int), (528734635 : Int), (1541459225 : Int)) b).1, ((S.procAll ((1779033703 : Int), (3144134277 : Int), (1013904242 : Int), (2773480762 : Int), (1359893119 : Int), (2600822924 : Int), (528734635 : Int), (1541459225 : Int)) b).2).1, (((S.procAll ((1779033703 : Int), (3144134277 : Int), (1013904242 : Int), (2773480762 : Int), (1359893119 : Int), (2600822924 : Int), (528734635 : Int), (1541459225 : Int)) b).2).2).1, ((((S.procAll ((1779033703 : Int), (3144134277 : Int), (1013904242 : Int), (2773480762 : Int), (1359893119 : Int), (2600822924 : Int), (528734635 : Int), (1541459225 : Int)) b).2).2).2).1, (((((S.procAll ((1779033703 : Int), (3144134277 : Int), (1013904242 : Int), (2773480762 : Int), (1359893119 : Int), (2600822924 : Int), (528734635 : Int), (1541459225 : Int)) b).2).2).2).2).1, ((((((S.procAll ((1779033703 : Int), (3144134277 : Int), (1013904242 : Int), (2773480762 : Int), (1359893119 : Int), (2600822924 : Int), (528734635 : Int), (1541459225 : Int)) b).2).2).2).2).2).1, (((((((S.procAll ((1779033703 : Int), (3144134277 : Int), (1013904242 : Int), (2773480762 : Int), (1359893119 : Int), (2600822924 : Int), (528734635 : Int), (1541459225 : Int)) b).2).2).2).2).2).2).1, (((((((S.procAll ((1779033703 : Int), (3144134277 : Int), (1013904242 : Int), (2773480762 : Int), (1359893119 : Int), (2600822924 : Int), (528734635 : Int), (1541459225 : Int)) b).2).2).2).2).2).2).2) (S.restOf b) (S.lenI b) ∧ S.dig (S.procAll ((S.procAll ((1779033703 : Int), (3144134277 : Int), (1013904242 : Int), (2773480762 : Int), (1359893119 : Int), (2600822924 : Int), (528734635 : Int), (1541459225 : Int)) b).1, ((S.procAll ((1779033703 : Int), (3144134277 : Int), (1013904242 : Int), (2773480762 : Int), (1359893119 : Int), (2600822924 : Int), (528734635 : Int), (1541459225 : Int)) b).2).1, (((S.procAll ((1779033703 : Int), (3144134277 : Int), (1013904242 : Int), (2773480762 : Int), (1359893119 : Int), (2600822924 : Int), (528734635 : Int), (1541459225 : Int)) b).2).2).1, ((((S.procAll ((1779033703 : Int), (3144134277 : Int), (1013904242 : Int), (2773480762 : Int), (1359893119 : Int), (2600822924 : Int), (528734635 : Int), (1541459225 : Int)) b).2).2).2).1, (((((S.procAll ((1779033703 : Int), (3144134277 : Int), (1013904242 : Int), (2773480762 : Int), (1359893119 : Int), (2600822924 : Int), (528734635 : Int), (1541459225 : Int)) b).2).2).2).2).1, ((((((S.procAll ((1779033703 : Int), (3144134277 : Int), (1013904242 : Int), (2773480762 : Int), (1359893119 : Int), (2600822924 : Int), (528734635 : Int), (1541459225 : Int)) b).2).2).2).2).2).1, (((((((S.procAll ((1779033703 : Int), (3144134277 : Int), (1013904242 : Int), (2773480762 : Int), (1359893119 : Int), (2600822924 : Int), (528734635 : Int), (1541459225 : Int)) b).2).2).2).2).2).2).1, (((((((S.procAll ((1779033703 : Int), (3144134277 : Int), (1013904242 : Int), (2773480762 : Int), (1359893119 : Int), (2600822924 : Int), (528734635 : Int), (1541459225 : Int)) b).2).2).2).2).2).2).2) (S.tail (S.restOf b) (S.lenI b))) = S.sum b
def V_a8 (b : List UInt8) : Prop :=
 b.length ≤ (140737488355328 : Nat) ∧ b = b
def V_a9 (v : Int) (l : List UInt8) : Prop :=
 (∃ (x : List UInt8 × Int), (v = x.2 ∧ l = x.1) ∧ S.putInv l v x.1 x.2) ∧ ∀ (x : List UInt8 × Int), S.putInv l v x.1 x.2 → (decide ((127 : Int) < x.2) = true → (0 : Int) ≤ x.2 ∧ (0 : Int) ≤ (127 : Int) ∧ List.length x.1 + List.length [UInt8.ofNat (Int.toNat (Vg.natOr (Vg.natAnd x.2 (127 : Int) % (256 : Int)) (128 : Int)))] ≤ (140737488355328 : Nat) ∧ ((0 : Int) ≤ (7 : Int) ∧ (7 : Int) ≤ (64 : Int)) ∧ ∃ (x_1 : List UInt8 × Int), (x.2 / (2 : Int) ^ (7 : Int).toNat = x_1.2 ∧ x.1 ++ [UInt8.ofNat (Int.toNat (Vg.natOr (Vg.natAnd x.2 (127 : Int) % (256 : Int)) (128 : Int)))] = x_1.1) ∧ S.putInv l v x_1.1 x_1.2 ∧ Int.toNat x_1.2 < Int.toNat x.2) ∧ (decide ((127 : Int) < x.2) = false → List.length x.1 + List.length [UInt8.ofNat (Int.toNat (x.2 % (256 : Int)))] ≤ (140737488355328 : Nat) ∧ x.1 ++ [UInt8.ofNat (Int.toNat (x.2 % (256 : Int)))] = l ++ S.num v)
def V_a10 (s : List UInt8) (l : List UInt8) : Prop :=
 S.putPre l (s.length : Int) ∧ List.length (l ++ S.num (s.length : Int)) + s.length ≤ (140737488355328 : Nat) ∧ l ++ S.num (s.length : Int) ++ s = l ++ S.text s
def V_a11 (b : List UInt8) (v : Int) : Prop :=
 ((bif decide (v < (0 : Int)) then true else decide ((4611686018427387904 : Int) < v)) = true → (1 : Int) = S.numE v ∧ [] = S.numB b v) ∧ ((bif decide (v < (0 : Int)) then true else decide ((4611686018427387904 : Int) < v)) = false → b.length ≤ (140737488355328 : Nat) ∧ S.putPre b v ∧ (0 : Int) = S.numE v ∧ b ++ S.num v = S.numB b v)
def V_a12 (b : List UInt8) (s : List UInt8) : Prop :=
 b.length ≤ (140737488355328 : Nat) ∧ S.textPre b s ∧ b ++ S.text s = b ++ S.text s
def V_a13 (r1 : List UInt8) (r2 : Int) (r3 : Int) : Prop :=
 (bif decide ((0 : Int) ≤ r2) then decide (r2 ≤ (r1.length : Int)) else false) = S.inside r1 r2
def V_a14 (r1 : List UInt8) (r2 : Int) (r3 : Int) : Prop :=
 r1.length ≤ (140737488355328 : Nat) ∧ ((decide (r3 = (0 : Int)) = true → True) ∧ (decide (r3 = (0 : Int)) = false → True)) ∧ r1 = r1 ∧ (bif bif decide (r3 = (0 : Int)) then !S.inside r1 r2 else false then r2 else r2) = r2 ∧ (bif bif decide (r3 = (0 : Int)) then !S.inside r1 r2 else false then (1 : Int) else r3) = S.startE r1 r2 r3
def V_a15 (b : List UInt8) (p : Int) : Prop :=
 (∃ (x : Nat), ((0 : Int) = S.valAt b p x ∧ (0 : Int) = (x : Int)) ∧ S.getInv b p x) ∧ ∀ (x : Nat), S.getInv b p x → (decide ((x : Int) = (9 : Int)) = true → (0 : Int) = (S.getNum b p).1 ∧ (0 : Int) = ((S.getNum b p).2).1 ∧ (2 : Int) = ((S.getNum b p).2).2) ∧ (decide ((x : Int) = (9 : Int)) = false → ((-9223372036854775808 : Int) ≤ (b.length : Int) - p ∧ (b.length : Int) - p ≤ (9223372036854775807 : Int)) ∧ (decide ((x : Int) = (b.length : Int) - p) = true → (0 : Int) = (S.getNum b p).1 ∧ (0 : Int) = ((S.getNum b p).2).1 ∧ (4 : Int) = ((S.getNum b p).2).2) ∧ (decide ((x : Int) = (b.length : Int) - p) = false → ((-9223372036854775808 : Int) ≤ p + (x : Int) ∧ p + (x : Int) ≤ (9223372036854775807 : Int)) ∧ ((0 : Int) ≤ p + (x : Int) ∧ p + (x : Int) < (b.length : Int)) ∧ ((-9223372036854775808 : Int) ≤ (7 : Int) * (x : Int) ∧ (7 : Int) * (x : Int) ≤ (9223372036854775807 : Int)) ∧ ((0 : Int) ≤ (7 : Int) * (x : Int) ∧ (7 : Int) * (x : Int) ≤ (64 : Int)) ∧ ((-9223372036854775808 : Int) ≤ Vg.natAnd (↑(UInt8.toNat (List.getD b (Int.toNat (p + (x : Int))) (0 : UInt8))) : Int) (127 : Int) * (2 : Int) ^ Int.toNat ((7 : Int) * (x : Int)) ∧ Vg.natAnd (↑(UInt8.toNat (List.getD b (Int.toNat (p + (x : Int))) (0 : UInt8))) : Int) (127 : Int) * (2 : Int) ^ Int.toNat ((7 : Int) * (x : Int)) ≤ (9223372036854775807 : Int)) ∧ (0 : Int) ≤ S.valAt b p x ∧ (0 : Int) ≤ Vg.natAnd (↑(UInt8.toNat (List.getD b (Int.toNat (p + (x : Int))) (0 : UInt8))) : Int) (127 : Int) * (2 : Int) ^ Int.toNat ((7 : Int) * (x : Int)) ∧ ((-9223372036854775808 : Int) ≤ (x : Int) + (1 : Int) ∧ (x : Int) + (1 : Int) ≤ (9223372036854775807 : Int)) ∧ (decide ((↑(UInt8.toNat (List.getD b (Int.toNat (p + (x : Int))) (0 : UInt8))) : Int) < (128 : Int)) = true → ((decide ((1 : Int) < (x : Int) + (1 : Int)) = true → ((-9223372036854775808 : Int) ≤ p + ((x : Int) + (1 : Int)) ∧ p + ((x : Int) + (1 : Int)) ≤ (9223372036854775807 : Int)) ∧ ((-9223372036854775808 : Int) ≤ p + ((x : Int) + (1 : Int)) - (1 : Int) ∧ p + ((x : Int) + (1 : Int)) - (1 : Int) ≤ (9223372036854775807 : Int)) ∧ (0 : Int) ≤ p + ((x : Int) + (1 : Int)) - (1 : Int) ∧ p + ((x : Int) + (1 : Int)) - (1 : Int) < (b.length : Int)) ∧ (decide ((1 : Int) < (x : Int) + (1 : Int)) = false → True)) ∧ ((bif decide ((1 : Int) < (x : Int) + (1 : Int)) then bif decide ((↑(UInt8.toNat (List.getD b (Int.toNat (p + ((x : Int) + (1 : Int)) - (1 : Int))) (0 : UInt8))) : Int) = (0 : Int)) then true else decide ((4611686018427387904 : Int) < Vg.natOr (S.valAt b p x) (Vg.natAnd (↑(UInt8.toNat (List.getD b (Int.toNat (p + (x : Int))) (0 : UInt8))) : Int) (127 : Int) * (2 : Int) ^ Int.toNat ((7 : Int) * (x : Int)))) else decide ((4611686018427387904 : Int) < Vg.natOr (S.valAt b p x) (Vg.natAnd (↑(UInt8.toNat (List.getD b (Int.toNat (p + (x : Int))) (0 : UInt8))) : Int) (127 : Int) * (2 : Int) ^ Int.toNat ((7 : Int) * (x : Int))))) = true → (0 : Int) = (S.getNum b p).1 ∧ (0 : Int) = ((S.getNum b p).2).1 ∧ (2 : Int) = ((S.getNum b p).2).2) ∧ ((bif decide ((1 : Int) < (x : Int) + (1 : Int)) then bif decide ((↑(UInt8.toNat (List.getD b (Int.toNat (p + ((x : Int) + (1 : Int)) - (1 : Int))) (0 : UInt8))) : Int) = (0 : Int)) then true else decide ((4611686018427387904 : Int) < Vg.natOr (S.valAt b p x) (Vg.natAnd (↑(UInt8.toNat (List.getD b (Int.toNat (p + (x : Int))) (0 : UInt8))) : Int) (127 : Int) * (2 : Int) ^ Int.toNat ((7 : Int) * (x : Int)))) else decide ((4611686018427387904 : Int) < Vg.natOr (S.valAt b p x) (Vg.natAnd (↑(UInt8.toNat (List.getD b (Int.toNat (p + (x : Int))) (0 : UInt8))) : Int) (127 : Int) * (2 : Int) ^ Int.toNat ((7 : Int) * (x : Int))))) = false → ((-9223372036854775808 : Int) ≤ p + ((x : Int) + (1 : Int)) ∧ p + ((x : Int) + (1 : Int)) ≤ (9223372036854775807 : Int)) ∧ Vg.natOr (S.valAt b p x) (Vg.natAnd (↑(UInt8.toNat (List.getD b (Int.toNat (p + (x : Int))) (0 : UInt8))) : Int) (127 : Int) * (2 : Int) ^ Int.toNat ((7 : Int) * (x : Int))) = (S.getNum b p).1 ∧ p + ((x : Int) + (1 : Int)) = ((S.getNum b p).2).1 ∧ (0 : Int) = ((S.getNum b p).2).2)) ∧ (decide ((↑(UInt8.toNat (List.getD b (Int.toNat (p + (x : Int))) (0 : UInt8))) : Int) < (128 : Int)) = false → ∃ (x_1 : Nat), (Vg.natOr (S.valAt b p x) (Vg.natAnd (↑(UInt8.toNat (List.getD b (Int.toNat (p + (x : Int))) (0 : UInt8))) : Int) (127 : Int) * (2 : Int) ^ Int.toNat ((7 : Int) * (x : Int))) = S.valAt b p x_1 ∧ (x : Int) + (1 : Int) = (x_1 : Int)) ∧ S.getInv b p x_1 ∧ S.meas (9 : Nat) x_1 < S.meas (9 : Nat) x)))
def V_a16 (b : List UInt8) (p : Int) (most : Int) : Prop :=
 S.atPre b p ∧ ((!decide (((S.getNum b p).2).2 = (0 : Int))) = true → [] = (S.getText b p most).1 ∧ (0 : Int) = ((S.getText b p most).2).1 ∧ ((S.getNum b p).2).2 = ((S.getText b p most).2).2) ∧ ((!decide (((S.getNum b p).2).2 = (0 : Int))) = false → (decide (most < (S.getNum b p).1) = true → [] = (S.getText b p most).1 ∧ (0 : Int) = ((S.getText b p most).2).1 ∧ (2 : Int) = ((S.getText b p most).2).2) ∧ (decide (most < (S.getNum b p).1) = false → ((-9223372036854775808 : Int) ≤ (b.length : Int) - ((S.getNum b p).2).1 ∧ (b.length : Int) - ((S.getNum b p).2).1 ≤ (9223372036854775807 : Int)) ∧ (decide ((b.length : Int) - ((S.getNum b p).2).1 < (S.getNum b p).1) = true → [] = (S.getText b p most).1 ∧ (0 : Int) = ((S.getText b p most).2).1 ∧ (4 : Int) = ((S.getText b p most).2).2) ∧ (decide ((b.length : Int) - ((S.getNum b p).2).1 < (S.getNum b p).1) = false → ((-9223372036854775808 : Int) ≤ ((S.getNum b p).2).1 + (S.getNum b p).1 ∧ ((S.getNum b p).2).1 + (S.getNum b p).1 ≤ (9223372036854775807 : Int)) ∧ ((0 : Int) ≤ ((S.getNum b p).2).1 ∧ ((S.getNum b p).2).1 ≤ ((S.getNum b p).2).1 + (S.getNum b p).1 ∧ ((S.getNum b p).2).1 + (S.getNum b p).1 ≤ (b.length : Int)) ∧ ((-9223372036854775808 : Int) ≤ ((S.getNum b p).2).1 + (S.getNum b p).1 ∧ ((S.getNum b p).2).1 + (S.getNum b p).1 ≤ (9223372036854775807 : Int)) ∧ List.drop (Int.toNat (((S.getNum b p).2).1)) (List.take (Int.toNat (((S.getNum b p).2).1 + (S.getNum b p).1)) b) = (S.getText b p most).1 ∧ ((S.getNum b p).2).1 + (S.getNum b p).1 = ((S.getText b p most).2).1 ∧ (0 : Int) = ((S.getText b p most).2).2)))
def V_a17 (r1 : List UInt8) (r2 : Int) (r3 : Int) (most : Int) : Prop :=
 r1.length ≤ (140737488355328 : Nat) ∧ ((!decide (S.startE r1 r2 r3 = (0 : Int))) = true → r1 = ((S.readText r1 r2 r3 most).1).1 ∧ r2 = (((S.readText r1 r2 r3 most).1).2).1 ∧ S.startE r1 r2 r3 = (((S.readText r1 r2 r3 most).1).2).2 ∧ [] = (S.readText r1 r2 r3 most).2) ∧ ((!decide (S.startE r1 r2 r3 = (0 : Int))) = false → S.atPre r1 r2 ∧ ((!decide (((S.getText r1 r2 most).2).2 = (0 : Int))) = true → r1 = ((S.readText r1 r2 r3 most).1).1 ∧ r2 = (((S.readText r1 r2 r3 most).1).2).1 ∧ ((S.getText r1 r2 most).2).2 = (((S.readText r1 r2 r3 most).1).2).2 ∧ [] = (S.readText r1 r2 r3 most).2) ∧ ((!decide (((S.getText r1 r2 most).2).2 = (0 : Int))) = false → r1 = ((S.readText r1 r2 r3 most).1).1 ∧ ((S.getText r1 r2 most).2).1 = (((S.readText r1 r2 r3 most).1).2).1 ∧ S.startE r1 r2 r3 = (((S.readText r1 r2 r3 most).1).2).2 ∧ (S.getText r1 r2 most).1 = (S.readText r1 r2 r3 most).2))
def V_a18 (r1 : List UInt8) (r2 : Int) (r3 : Int) : Prop :=
 r1.length ≤ (140737488355328 : Nat) ∧ ((!decide (S.startE r1 r2 r3 = (0 : Int))) = true → r1 = ((S.readDigest r1 r2 r3).1).1 ∧ r2 = (((S.readDigest r1 r2 r3).1).2).1 ∧ S.startE r1 r2 r3 = (((S.readDigest r1 r2 r3).1).2).2 ∧ [] = (S.readDigest r1 r2 r3).2) ∧ ((!decide (S.startE r1 r2 r3 = (0 : Int))) = false → ((-9223372036854775808 : Int) ≤ (r1.length : Int) - r2 ∧ (r1.length : Int) - r2 ≤ (9223372036854775807 : Int)) ∧ (decide ((r1.length : Int) - r2 < (32 : Int)) = true → r1 = ((S.readDigest r1 r2 r3).1).1 ∧ r2 = (((S.readDigest r1 r2 r3).1).2).1 ∧ (4 : Int) = (((S.readDigest r1 r2 r3).1).2).2 ∧ [] = (S.readDigest r1 r2 r3).2) ∧ (decide ((r1.length : Int) - r2 < (32 : Int)) = false → ((-9223372036854775808 : Int) ≤ r2 + (32 : Int) ∧ r2 + (32 : Int) ≤ (9223372036854775807 : Int)) ∧ ((0 : Int) ≤ r2 ∧ r2 ≤ r2 + (32 : Int) ∧ r2 + (32 : Int) ≤ (r1.length : Int)) ∧ ((-9223372036854775808 : Int) ≤ r2 + (32 : Int) ∧ r2 + (32 : Int) ≤ (9223372036854775807 : Int)) ∧ r1 = ((S.readDigest r1 r2 r3).1).1 ∧ r2 + (32 : Int) = (((S.readDigest r1 r2 r3).1).2).1 ∧ S.startE r1 r2 r3 = (((S.readDigest r1 r2 r3).1).2).2 ∧ List.drop (Int.toNat r2) (List.take (Int.toNat (r2 + (32 : Int))) r1) = (S.readDigest r1 r2 r3).2))
def V_a19 (r1 : List UInt8) (r2 : Int) (r3 : Int) : Prop :=
 ((!decide (r3 = (0 : Int))) = true → r3 = S.done r1 r2 r3) ∧ ((!decide (r3 = (0 : Int))) = false → True ∧ ((!S.inside r1 r2) = true → (1 : Int) = S.done r1 r2 r3) ∧ ((!S.inside r1 r2) = false → (decide (r2 < (r1.length : Int)) = true → (2 : Int) = S.done r1 r2 r3) ∧ (decide (r2 < (r1.length : Int)) = false → (0 : Int) = S.done r1 r2 r3)))
def V_a20 (kind : UInt8) (parts : List (List UInt8)) : Prop :=
 (∃ (x : Nat), ((0 : Int) = (x : Int) ∧ [UInt8.ofNat (Int.toNat (↑(UInt8.toNat kind) : Int))] = S.joinAt kind parts x) ∧ S.minv parts x) ∧ ∀ (x : Nat), S.minv parts x → (decide ((x : Int) < (parts.length : Int)) = true → ((0 : Int) ≤ (x : Int) ∧ (x : Int) < (parts.length : Int)) ∧ List.length (S.joinAt kind parts x) + List.length (List.getD parts ((x : Int).toNat) []) ≤ (140737488355328 : Nat) ∧ ((-9223372036854775808 : Int) ≤ (x : Int) + (1 : Int) ∧ (x : Int) + (1 : Int) ≤ (9223372036854775807 : Int)) ∧ ∃ (x_1 : Nat), ((x : Int) + (1 : Int) = (x_1 : Int) ∧ S.joinAt kind parts x ++ List.getD parts ((x : Int).toNat) [] = S.joinAt kind parts x_1) ∧ S.minv parts x_1 ∧ S.meas (S.len parts) x_1 < S.meas (S.len parts) x) ∧ (decide ((x : Int) < (parts.length : Int)) = false → S.joinAt kind parts x = S.sealJoin kind parts)
def V_a21 (b : List UInt8) : Prop :=
 S.joinPre [b] ∧ S.sealJoin ((2 : UInt8)) [b] = S.sealB (2 : Nat) b
def V_a22 (b : List UInt8) : Prop :=
 S.sealPre b ∧ S.small (S.sealB (2 : Nat) b) ∧ S.sum (S.sealB (2 : Nat) b) = S.sealD (2 : Nat) b
def V_a23 (c : Int) : Prop :=
 (bif decide ((0 : Int) ≤ c) then bif decide (c ≤ (1114111 : Int)) then bif decide (c < (55296 : Int)) then true else decide ((57343 : Int) < c) else false else false) = S.uRight c
def V_a24 (c : Int) : Prop :=
 (decide (c < (128 : Int)) = true → (1 : Int) = S.uSize c) ∧ (decide (c < (128 : Int)) = false → (decide (c < (2048 : Int)) = true → (2 : Int) = S.uSize c) ∧ (decide (c < (2048 : Int)) = false → (decide (c < (65536 : Int)) = true → (3 : Int) = S.uSize c) ∧ (decide (c < (65536 : Int)) = false → (4 : Int) = S.uSize c)))
def V_a25 (c : Int) : Prop :=
 (0 : Int) ≤ c ∧ (0 : Int) ≤ (63 : Int) ∧ Vg.natOr (128 : Int) (Vg.natAnd c (63 : Int) % (256 : Int)) = (↑(UInt8.toNat (S.more c)) : Int)
def V_a26 (c : Int) : Prop :=
 True ∧ ((!S.uRight c) = true → (1 : Int) = S.encE c ∧ [] = S.encR c) ∧ ((!S.uRight c) = false → True ∧ (decide (S.uSize c = (1 : Int)) = true → (0 : Int) = S.encE c ∧ [UInt8.ofNat (Int.toNat (c % (256 : Int)))] = S.encR c) ∧ (decide (S.uSize c = (1 : Int)) = false → (decide (S.uSize c = (2 : Int)) = true → ((0 : Int) ≤ (6 : Int) ∧ (6 : Int) ≤ (64 : Int)) ∧ (0 : Int) ≤ c ∧ (0 : Int) = S.encE c ∧ [UInt8.ofNat (Int.toNat (Vg.natOr (192 : Int) (c / (2 : Int) ^ (6 : Int).toNat % (256 : Int)))), UInt8.ofNat (Int.toNat (↑(UInt8.toNat (S.more c)) : Int))] = S.encR c) ∧ (decide (S.uSize c = (2 : Int)) = false → (decide (S.uSize c = (3 : Int)) = true → ((0 : Int) ≤ (12 : Int) ∧ (12 : Int) ≤ (64 : Int)) ∧ ((0 : Int) ≤ (6 : Int) ∧ (6 : Int) ≤ (64 : Int)) ∧ (0 : Int) ≤ c / (2 : Int) ^ (6 : Int).toNat ∧ (0 : Int) ≤ c ∧ (0 : Int) = S.encE c ∧ [UInt8.ofNat (Int.toNat (Vg.natOr (224 : Int) (c / (2 : Int) ^ (12 : Int).toNat % (256 : Int)))), UInt8.ofNat (Int.toNat (↑(UInt8.toNat (S.more (c / (2 : Int) ^ (6 : Int).toNat))) : Int)), UInt8.ofNat (Int.toNat (↑(UInt8.toNat (S.more c)) : Int))] = S.encR c) ∧ (decide (S.uSize c = (3 : Int)) = false → ((0 : Int) ≤ (18 : Int) ∧ (18 : Int) ≤ (64 : Int)) ∧ ((0 : Int) ≤ (12 : Int) ∧ (12 : Int) ≤ (64 : Int)) ∧ (0 : Int) ≤ c / (2 : Int) ^ (12 : Int).toNat ∧ ((0 : Int) ≤ (6 : Int) ∧ (6 : Int) ≤ (64 : Int)) ∧ (0 : Int) ≤ c / (2 : Int) ^ (6 : Int).toNat ∧ (0 : Int) ≤ c ∧ (0 : Int) = S.encE c ∧ [UInt8.ofNat (Int.toNat (Vg.natOr (240 : Int) (c / (2 : Int) ^ (18 : Int).toNat % (256 : Int)))), UInt8.ofNat (Int.toNat (↑(UInt8.toNat (S.more (c / (2 : Int) ^ (12 : Int).toNat))) : Int)), UInt8.ofNat (Int.toNat (↑(UInt8.toNat (S.more (c / (2 : Int) ^ (6 : Int).toNat))) : Int)), UInt8.ofNat (Int.toNat (↑(UInt8.toNat (S.more c)) : Int))] = S.encR c))))
def V_a27 (b : List UInt8) : Prop :=
 ((0 : Int) ≤ (0 : Int) ∧ (0 : Int) < (b.length : Int)) ∧ (decide ((↑(UInt8.toNat (List.getD b ((0 : Int).toNat) (0 : UInt8))) : Int) < (128 : Int)) = true → (↑(UInt8.toNat (List.getD b ((0 : Int).toNat) (0 : UInt8))) : Int) = (S.uFirst b).1 ∧ (1 : Int) = (S.uFirst b).2) ∧ (decide ((↑(UInt8.toNat (List.getD b ((0 : Int).toNat) (0 : UInt8))) : Int) < (128 : Int)) = false → ((0 : Int) ≤ (5 : Int) ∧ (5 : Int) ≤ (64 : Int)) ∧ (decide ((↑(UInt8.toNat (List.getD b ((0 : Int).toNat) (0 : UInt8))) : Int) / (2 : Int) ^ (5 : Int).toNat = (6 : Int)) = true → (0 : Int) ≤ (↑(UInt8.toNat (List.getD b ((0 : Int).toNat) (0 : UInt8))) : Int) ∧ (0 : Int) ≤ (31 : Int) ∧ (decide ((b.length : Int) < (2 : Int)) = true → (65533 : Int) = (S.uFirst b).1 ∧ (1 : Int) = (S.uFirst b).2) ∧ (decide ((b.length : Int) < (2 : Int)) = false → ((0 : Int) ≤ (1 : Int) ∧ (1 : Int) ≤ (2 : Int) ∧ (2 : Int) ≤ (b.length : Int)) ∧ (∃ (x : Nat), ((0 : Int) = (x : Int) ∧ Vg.natAnd (↑(UInt8.toNat (List.getD b ((0 : Int).toNat) (0 : UInt8))) : Int) (31 : Int) = S.uAcc b x) ∧ S.uInv b x) ∧ ∀ (x : Nat), S.uInv b x → (decide ((x : Int) < (↑(List.length (List.drop ((1 : Int).toNat) (List.take ((2 : Int).toNat) b))) : Int)) = true → ((0 : Int) ≤ (x : Int) ∧ (x : Int) < (↑(List.length (List.drop ((1 : Int).toNat) (List.take ((2 : Int).toNat) b))) : Int)) ∧ ((0 : Int) ≤ (6 : Int) ∧ (6 : Int) ≤ (8 : Int)) ∧ ((!decide ((↑(UInt8.toNat (List.getD (List.drop ((1 : Int).toNat) (List.take ((2 : Int).toNat) b)) ((x : Int).toNat) (0 : UInt8))) : Int) / (2 : Int) ^ (6 : Int).toNat = (2 : Int))) = true → (65533 : Int) = (S.uFirst b).1 ∧ (1 : Int) = (S.uFirst b).2) ∧ ((!decide ((↑(UInt8.toNat (List.getD (List.drop ((1 : Int).toNat) (List.take ((2 : Int).toNat) b)) ((x : Int).toNat) (0 : UInt8))) : Int) / (2 : Int) ^ (6 : Int).toNat = (2 : Int))) = false → ((0 : Int) ≤ (6 : Int) ∧ (6 : Int) ≤ (64 : Int)) ∧ ((-9223372036854775808 : Int) ≤ S.uAcc b x * (2 : Int) ^ (6 : Int).toNat ∧ S.uAcc b x * (2 : Int) ^ (6 : Int).toNat ≤ (9223372036854775807 : Int)) ∧ (0 : Int) ≤ S.uAcc b x * (2 : Int) ^ (6 : Int).toNat ∧ (0 : Int) ≤ Vg.natAnd (↑(UInt8.toNat (List.getD (List.drop ((1 : Int).toNat) (List.take ((2 : Int).toNat) b)) ((x : Int).toNat) (0 : UInt8))) : Int) (63 : Int) ∧ ((-9223372036854775808 : Int) ≤ (x : Int) + (1 : Int) ∧ (x : Int) + (1 : Int) ≤ (9223372036854775807 : Int)) ∧ ∃ (x_1 : Nat), ((x : Int) + (1 : Int) = (x_1 : Int) ∧ Vg.natOr (S.uAcc b x * (2 : Int) ^ (6 : Int).toNat) (Vg.natAnd (↑(UInt8.toNat (List.getD (List.drop ((1 : Int).toNat) (List.take ((2 : Int).toNat) b)) ((x : Int).toNat) (0 : UInt8))) : Int) (63 : Int)) = S.uAcc b x_1) ∧ S.uInv b x_1 ∧ S.meas (4 : Nat) x_1 < S.meas (4 : Nat) x)) ∧ (decide ((x : Int) < (↑(List.length (List.drop ((1 : Int).toNat) (List.take ((2 : Int).toNat) b))) : Int)) = false → True ∧ (((!S.uRight (S.uAcc b x)) = true → True) ∧ ((!S.uRight (S.uAcc b x)) = false → True)) ∧ ((bif !S.uRight (S.uAcc b x) then true else !decide (S.uSize (S.uAcc b x) = (2 : Int))) = true → (65533 : Int) = (S.uFirst b).1 ∧ (1 : Int) = (S.uFirst b).2) ∧ ((bif !S.uRight (S.uAcc b x) then true else !decide (S.uSize (S.uAcc b x) = (2 : Int))) = false → S.uAcc b x = (S.uFirst b).1 ∧ (2 : Int) = (S.uFirst b).2)))) ∧ (decide ((↑(UInt8.toNat (List.getD b ((0 : Int).toNat) (0 : UInt8))) : Int) / (2 : Int) ^ (5 : Int).toNat = (6 : Int)) = false → ((0 : Int) ≤ (4 : Int) ∧ (4 : Int) ≤ (64 : Int)) ∧ (decide ((↑(UInt8.toNat (List.getD b ((0 : Int).toNat) (0 : UInt8))) : Int) / (2 : Int) ^ (4 : Int).toNat = (14 : Int)) = true → (0 : Int) ≤ (↑(UInt8.toNat (List.getD b ((0 : Int).toNat) (0 : UInt8))) : Int) ∧ (0 : Int) ≤ (15 : Int) ∧ (decide ((b.length : Int) < (3 : Int)) = true → (65533 : Int) = (S.uFirst b).1 ∧ (1 : Int) = (S.uFirst b).2) ∧ (decide ((b.length : Int) < (3 : Int)) = false → ((0 : Int) ≤ (1 : Int) ∧ (1 : Int) ≤ (3 : Int) ∧ (3 : Int) ≤ (b.length : Int)) ∧ (∃ (x : Nat), ((0 : Int) = (x : Int) ∧ Vg.natAnd (↑(UInt8.toNat (List.getD b ((0 : Int).toNat) (0 : UInt8))) : Int) (15 : Int) = S.uAcc b x) ∧ S.uInv b x) ∧ ∀ (x : Nat), S.uInv b x → (decide ((x : Int) < (↑(List.length (List.drop ((1 : Int).toNat) (List.take ((3 : Int).toNat) b))) : Int)) = true → ((0 : Int) ≤ (x : Int) ∧ (x : Int) < (↑(List.length (List.drop ((1 : Int).toNat) (List.take ((3 : Int).toNat) b))) : Int)) ∧ ((0 : Int) ≤ (6 : Int) ∧ (6 : Int) ≤ (8 : Int)) ∧ ((!decide ((↑(UInt8.toNat (List.getD (List.drop ((1 : Int).toNat) (List.take ((3 : Int).toNat) b)) ((x : Int).toNat) (0 : UInt8))) : Int) / (2 : Int) ^ (6 : Int).toNat = (2 : Int))) = true → (65533 : Int) = (S.uFirst b).1 ∧ (1 : Int) = (S.uFirst b).2) ∧ ((!decide ((↑(UInt8.toNat (List.getD (List.drop ((1 : Int).toNat) (List.take ((3 : Int).toNat) b)) ((x : Int).toNat) (0 : UInt8))) : Int) / (2 : Int) ^ (6 : Int).toNat = (2 : Int))) = false → ((0 : Int) ≤ (6 : Int) ∧ (6 : Int) ≤ (64 : Int)) ∧ ((-9223372036854775808 : Int) ≤ S.uAcc b x * (2 : Int) ^ (6 : Int).toNat ∧ S.uAcc b x * (2 : Int) ^ (6 : Int).toNat ≤ (9223372036854775807 : Int)) ∧ (0 : Int) ≤ S.uAcc b x * (2 : Int) ^ (6 : Int).toNat ∧ (0 : Int) ≤ Vg.natAnd (↑(UInt8.toNat (List.getD (List.drop ((1 : Int).toNat) (List.take ((3 : Int).toNat) b)) ((x : Int).toNat) (0 : UInt8))) : Int) (63 : Int) ∧ ((-9223372036854775808 : Int) ≤ (x : Int) + (1 : Int) ∧ (x : Int) + (1 : Int) ≤ (9223372036854775807 : Int)) ∧ ∃ (x_1 : Nat), ((x : Int) + (1 : Int) = (x_1 : Int) ∧ Vg.natOr (S.uAcc b x * (2 : Int) ^ (6 : Int).toNat) (Vg.natAnd (↑(UInt8.toNat (List.getD (List.drop ((1 : Int).toNat) (List.take ((3 : Int).toNat) b)) ((x : Int).toNat) (0 : UInt8))) : Int) (63 : Int)) = S.uAcc b x_1) ∧ S.uInv b x_1 ∧ S.meas (4 : Nat) x_1 < S.meas (4 : Nat) x)) ∧ (decide ((x : Int) < (↑(List.length (List.drop ((1 : Int).toNat) (List.take ((3 : Int).toNat) b))) : Int)) = false → True ∧ (((!S.uRight (S.uAcc b x)) = true → True) ∧ ((!S.uRight (S.uAcc b x)) = false → True)) ∧ ((bif !S.uRight (S.uAcc b x) then true else !decide (S.uSize (S.uAcc b x) = (3 : Int))) = true → (65533 : Int) = (S.uFirst b).1 ∧ (1 : Int) = (S.uFirst b).2) ∧ ((bif !S.uRight (S.uAcc b x) then true else !decide (S.uSize (S.uAcc b x) = (3 : Int))) = false → S.uAcc b x = (S.uFirst b).1 ∧ (3 : Int) = (S.uFirst b).2)))) ∧ (decide ((↑(UInt8.toNat (List.getD b ((0 : Int).toNat) (0 : UInt8))) : Int) / (2 : Int) ^ (4 : Int).toNat = (14 : Int)) = false → ((0 : Int) ≤ (3 : Int) ∧ (3 : Int) ≤ (64 : Int)) ∧ (decide ((↑(UInt8.toNat (List.getD b ((0 : Int).toNat) (0 : UInt8))) : Int) / (2 : Int) ^ (3 : Int).toNat = (30 : Int)) = true → (0 : Int) ≤ (↑(UInt8.toNat (List.getD b ((0 : Int).toNat) (0 : UInt8))) : Int) ∧ (0 : Int) ≤ (7 : Int) ∧ (decide ((b.length : Int) < (4 : Int)) = true → (65533 : Int) = (S.uFirst b).1 ∧ (1 : Int) = (S.uFirst b).2) ∧ (decide ((b.length : Int) < (4 : Int)) = false → ((0 : Int) ≤ (1 : Int) ∧ (1 : Int) ≤ (4 : Int) ∧ (4 : Int) ≤ (b.length : Int)) ∧ (∃ (x : Nat), ((0 : Int) = (x : Int) ∧ Vg.natAnd (↑(UInt8.toNat (List.getD b ((0 : Int).toNat) (0 : UInt8))) : Int) (7 : Int) = S.uAcc b x) ∧ S.uInv b x) ∧ ∀ (x : Nat), S.uInv b x → (decide ((x : Int) < (↑(List.length (List.drop ((1 : Int).toNat) (List.take ((4 : Int).toNat) b))) : Int)) = true → ((0 : Int) ≤ (x : Int) ∧ (x : Int) < (↑(List.length (List.drop ((1 : Int).toNat) (List.take ((4 : Int).toNat) b))) : Int)) ∧ ((0 : Int) ≤ (6 : Int) ∧ (6 : Int) ≤ (8 : Int)) ∧ ((!decide ((↑(UInt8.toNat (List.getD (List.drop ((1 : Int).toNat) (List.take ((4 : Int).toNat) b)) ((x : Int).toNat) (0 : UInt8))) : Int) / (2 : Int) ^ (6 : Int).toNat = (2 : Int))) = true → (65533 : Int) = (S.uFirst b).1 ∧ (1 : Int) = (S.uFirst b).2) ∧ ((!decide ((↑(UInt8.toNat (List.getD (List.drop ((1 : Int).toNat) (List.take ((4 : Int).toNat) b)) ((x : Int).toNat) (0 : UInt8))) : Int) / (2 : Int) ^ (6 : Int).toNat = (2 : Int))) = false → ((0 : Int) ≤ (6 : Int) ∧ (6 : Int) ≤ (64 : Int)) ∧ ((-9223372036854775808 : Int) ≤ S.uAcc b x * (2 : Int) ^ (6 : Int).toNat ∧ S.uAcc b x * (2 : Int) ^ (6 : Int).toNat ≤ (9223372036854775807 : Int)) ∧ (0 : Int) ≤ S.uAcc b x * (2 : Int) ^ (6 : Int).toNat ∧ (0 : Int) ≤ Vg.natAnd (↑(UInt8.toNat (List.getD (List.drop ((1 : Int).toNat) (List.take ((4 : Int).toNat) b)) ((x : Int).toNat) (0 : UInt8))) : Int) (63 : Int) ∧ ((-9223372036854775808 : Int) ≤ (x : Int) + (1 : Int) ∧ (x : Int) + (1 : Int) ≤ (9223372036854775807 : Int)) ∧ ∃ (x_1 : Nat), ((x : Int) + (1 : Int) = (x_1 : Int) ∧ Vg.natOr (S.uAcc b x * (2 : Int) ^ (6 : Int).toNat) (Vg.natAnd (↑(UInt8.toNat (List.getD (List.drop ((1 : Int).toNat) (List.take ((4 : Int).toNat) b)) ((x : Int).toNat) (0 : UInt8))) : Int) (63 : Int)) = S.uAcc b x_1) ∧ S.uInv b x_1 ∧ S.meas (4 : Nat) x_1 < S.meas (4 : Nat) x)) ∧ (decide ((x : Int) < (↑(List.length (List.drop ((1 : Int).toNat) (List.take ((4 : Int).toNat) b))) : Int)) = false → True ∧ (((!S.uRight (S.uAcc b x)) = true → True) ∧ ((!S.uRight (S.uAcc b x)) = false → True)) ∧ ((bif !S.uRight (S.uAcc b x) then true else !decide (S.uSize (S.uAcc b x) = (4 : Int))) = true → (65533 : Int) = (S.uFirst b).1 ∧ (1 : Int) = (S.uFirst b).2) ∧ ((bif !S.uRight (S.uAcc b x) then true else !decide (S.uSize (S.uAcc b x) = (4 : Int))) = false → S.uAcc b x = (S.uFirst b).1 ∧ (4 : Int) = (S.uFirst b).2)))) ∧ (decide ((↑(UInt8.toNat (List.getD b ((0 : Int).toNat) (0 : UInt8))) : Int) / (2 : Int) ^ (3 : Int).toNat = (30 : Int)) = false → (65533 : Int) = (S.uFirst b).1 ∧ (1 : Int) = (S.uFirst b).2))))
def V_a28 (b : List UInt8) : Prop :=
 (∃ (x : List UInt8 × List Int), (b = x.1 ∧ [] = x.2) ∧ S.decInv b x.1 x.2) ∧ ∀ (x : List UInt8 × List Int), S.decInv b x.1 x.2 → (decide ((0 : Int) < (↑(List.length x.1) : Int)) = true → (0 : Nat) < List.length x.1 ∧ List.length x.2 + List.length [(S.uFirst x.1).1] ≤ (17592186044416 : Nat) ∧ ((0 : Int) ≤ (S.uFirst x.1).2 ∧ (S.uFirst x.1).2 ≤ (↑(List.length x.1) : Int)) ∧ ∃ (x_1 : List UInt8 × List Int), (List.drop (Int.toNat ((S.uFirst x.1).2)) x.1 = x_1.1 ∧ x.2 ++ [(S.uFirst x.1).1] = x_1.2) ∧ S.decInv b x_1.1 x_1.2 ∧ S.len x_1.1 < S.len x.1) ∧ (decide ((0 : Int) < (↑(List.length x.1) : Int)) = false → x.2 = S.decode b)
def V_a29 (c : Int) : Prop :=
 (∃ (x : Nat), (0 : Int) = (x : Int) ∧ S.noLetter c x) ∧ ∀ (x : Nat), S.noLetter c x → (decide ((x : Int) < (9 : Int)) = true → ((0 : Int) ≤ (x : Int) ∧ (x : Int) < (↑(9 : Nat) : Int)) ∧ ((bif decide (List.getD [(65 : Int), (97 : Int), (192 : Int), (216 : Int), (248 : Int), (913 : Int), (931 : Int), (945 : Int), (1024 : Int)] ((x : Int).toNat) (0 : Int) ≤ c) then decide (c ≤ List.getD [(90 : Int), (122 : Int), (214 : Int), (246 : Int), (255 : Int), (929 : Int), (937 : Int), (969 : Int), (1119 : Int)] ((x : Int).toNat) (0 : Int)) else false) = true → true = S.letter c) ∧ ((bif decide (List.getD [(65 : Int), (97 : Int), (192 : Int), (216 : Int), (248 : Int), (913 : Int), (931 : Int), (945 : Int), (1024 : Int)] ((x : Int).toNat) (0 : Int) ≤ c) then decide (c ≤ List.getD [(90 : Int), (122 : Int), (214 : Int), (246 : Int), (255 : Int), (929 : Int), (937 : Int), (969 : Int), (1119 : Int)] ((x : Int).toNat) (0 : Int)) else false) = false → ((-9223372036854775808 : Int) ≤ (x : Int) + (1 : Int) ∧ (x : Int) + (1 : Int) ≤ (9223372036854775807 : Int)) ∧ ∃ (x_1 : Nat), (x : Int) + (1 : Int) = (x_1 : Int) ∧ S.noLetter c x_1 ∧ S.meas (9 : Nat) x_1 < S.meas (9 : Nat) x)) ∧ (decide ((x : Int) < (9 : Int)) = false → false = S.letter c)
def V_a30 (c : Int) : Prop :=
 (bif decide ((48 : Int) ≤ c) then decide (c ≤ (57 : Int)) else false) = S.digit c
def V_a31 (c : Int) : Prop :=
 (∃ (x : Nat), (0 : Int) = (x : Int) ∧ S.noShift c x) ∧ ∀ (x : Nat), S.noShift c x → (decide ((x : Int) < (7 : Int)) = true → ((0 : Int) ≤ (x : Int) ∧ (x : Int) < (↑(7 : Nat) : Int)) ∧ ((bif decide (List.getD [(65 : Int), (192 : Int), (216 : Int), (913 : Int), (931 : Int), (1024 : Int), (1040 : Int)] ((x : Int).toNat) (0 : Int) ≤ c) then decide (c ≤ List.getD [(90 : Int), (214 : Int), (222 : Int), (929 : Int), (937 : Int), (1039 : Int), (1071 : Int)] ((x : Int).toNat) (0 : Int)) else false) = true → ((-9223372036854775808 : Int) ≤ c + List.getD [(32 : Int), (32 : Int), (32 : Int), (32 : Int), (32 : Int), (80 : Int), (32 : Int)] ((x : Int).toNat) (0 : Int) ∧ c + List.getD [(32 : Int), (32 : Int), (32 : Int), (32 : Int), (32 : Int), (80 : Int), (32 : Int)] ((x : Int).toNat) (0 : Int) ≤ (9223372036854775807 : Int)) ∧ c + List.getD [(32 : Int), (32 : Int), (32 : Int), (32 : Int), (32 : Int), (80 : Int), (32 : Int)] ((x : Int).toNat) (0 : Int) = S.smallC c) ∧ ((bif decide (List.getD [(65 : Int), (192 : Int), (216 : Int), (913 : Int), (931 : Int), (1024 : Int), (1040 : Int)] ((x : Int).toNat) (0 : Int) ≤ c) then decide (c ≤ List.getD [(90 : Int), (214 : Int), (222 : Int), (929 : Int), (937 : Int), (1039 : Int), (1071 : Int)] ((x : Int).toNat) (0 : Int)) else false) = false → ((-9223372036854775808 : Int) ≤ (x : Int) + (1 : Int) ∧ (x : Int) + (1 : Int) ≤ (9223372036854775807 : Int)) ∧ ∃ (x_1 : Nat), (x : Int) + (1 : Int) = (x_1 : Int) ∧ S.noShift c x_1 ∧ S.meas (7 : Nat) x_1 < S.meas (7 : Nat) x)) ∧ (decide ((x : Int) < (7 : Int)) = false → c = S.smallC c)
def V_a32 (u : List Int) : Prop :=
 (∃ (x : Nat × List UInt8), ((0 : Int) = (x.1 : Int) ∧ [] = x.2) ∧ S.termInv u x.1 x.2) ∧ ∀ (x : Nat × List UInt8), S.termInv u x.1 x.2 → (decide ((x.1 : Int) < (u.length : Int)) = true → ((0 : Int) ≤ (x.1 : Int) ∧ (x.1 : Int) < (u.length : Int)) ∧ True ∧ True ∧ ((-9223372036854775808 : Int) ≤ (↑(List.length x.2) : Int) + (↑(List.length (S.encR (S.smallC (List.getD u ((x.1 : Int).toNat) (0 : Int))))) : Int) ∧ (↑(List.length x.2) : Int) + (↑(List.length (S.encR (S.smallC (List.getD u ((x.1 : Int).toNat) (0 : Int))))) : Int) ≤ (9223372036854775807 : Int)) ∧ (decide ((64 : Int) < (↑(List.length x.2) : Int) + (↑(List.length (S.encR (S.smallC (List.getD u ((x.1 : Int).toNat) (0 : Int))))) : Int)) = true → x.2 = S.termOf u) ∧ (decide ((64 : Int) < (↑(List.length x.2) : Int) + (↑(List.length (S.encR (S.smallC (List.getD u ((x.1 : Int).toNat) (0 : Int))))) : Int)) = false → List.length x.2 + List.length (S.encR (S.smallC (List.getD u ((x.1 : Int).toNat) (0 : Int)))) ≤ (140737488355328 : Nat) ∧ ((-9223372036854775808 : Int) ≤ (x.1 : Int) + (1 : Int) ∧ (x.1 : Int) + (1 : Int) ≤ (9223372036854775807 : Int)) ∧ ∃ (x_1 : Nat × List UInt8), ((x.1 : Int) + (1 : Int) = (x_1.1 : Int) ∧ x.2 ++ S.encR (S.smallC (List.getD u ((x.1 : Int).toNat) (0 : Int))) = x_1.2) ∧ S.termInv u x_1.1 x_1.2 ∧ S.meas (S.len u) x_1.1 < S.meas (S.len u) x.1)) ∧ (decide ((x.1 : Int) < (u.length : Int)) = false → x.2 = S.termOf u)
def V_a33 (b : List UInt8) : Prop :=
 S.small b ∧ (∃ (x : Nat × List (List UInt8) × List Int), ((0 : Int) = (x.1 : Int) ∧ [] = x.2.1 ∧ [] = x.2.2) ∧ S.tokInv (S.decode b) x.1 x.2.1 x.2.2) ∧ ∀ (x : Nat × List (List UInt8) × List Int), S.tokInv (S.decode b) x.1 x.2.1 x.2.2 → (decide ((x.1 : Int) < (↑(List.length (S.decode b)) : Int)) = true → ((0 : Int) ≤ (x.1 : Int) ∧ (x.1 : Int) < (↑(List.length (S.decode b)) : Int)) ∧ (x.1 : Int).toNat < List.length (S.decode b) ∧ True ∧ ((S.letter (List.getD (S.decode b) ((x.1 : Int).toNat) (0 : Int)) = true → True) ∧ (S.letter (List.getD (S.decode b) ((x.1 : Int).toNat) (0 : Int)) = false → True)) ∧ ((bif S.letter (List.getD (S.decode b) ((x.1 : Int).toNat) (0 : Int)) then true else S.digit (List.getD (S.decode b) ((x.1 : Int).toNat) (0 : Int))) = true → List.length x.2.2 + List.length [List.getD (S.decode b) ((x.1 : Int).toNat) (0 : Int)] ≤ (17592186044416 : Nat) ∧ ((-9223372036854775808 : Int) ≤ (x.1 : Int) + (1 : Int) ∧ (x.1 : Int) + (1 : Int) ≤ (9223372036854775807 : Int)) ∧ ∃ (x_1 : Nat × List (List UInt8) × List Int), ((x.1 : Int) + (1 : Int) = (x_1.1 : Int) ∧ x.2.1 = x_1.2.1 ∧ x.2.2 ++ [List.getD (S.decode b) ((x.1 : Int).toNat) (0 : Int)] = x_1.2.2) ∧ S.tokInv (S.decode b) x_1.1 x_1.2.1 x_1.2.2 ∧ S.meas (S.len (S.decode b)) x_1.1 < S.meas (S.len (S.decode b)) x.1) ∧ ((bif S.letter (List.getD (S.decode b) ((x.1 : Int).toNat) (0 : Int)) then true else S.digit (List.getD (S.decode b) ((x.1 : Int).toNat) (0 : Int))) = false → (decide ((0 : Int) < (↑(List.length x.2.2) : Int)) = true → S.okC x.2.2 ∧ List.length x.2.1 + List.length [S.termOf x.2.2] ≤ (8796093022208 : Nat) ∧ ((-9223372036854775808 : Int) ≤ (x.1 : Int) + (1 : Int) ∧ (x.1 : Int) + (1 : Int) ≤ (9223372036854775807 : Int)) ∧ ∃ (x_1 : Nat × List (List UInt8) × List Int), ((x.1 : Int) + (1 : Int) = (x_1.1 : Int) ∧ x.2.1 ++ [S.termOf x.2.2] = x_1.2.1 ∧ [] = x_1.2.2) ∧ S.tokInv (S.decode b) x_1.1 x_1.2.1 x_1.2.2 ∧ S.meas (S.len (S.decode b)) x_1.1 < S.meas (S.len (S.decode b)) x.1) ∧ (decide ((0 : Int) < (↑(List.length x.2.2) : Int)) = false → ((-9223372036854775808 : Int) ≤ (x.1 : Int) + (1 : Int) ∧ (x.1 : Int) + (1 : Int) ≤ (9223372036854775807 : Int)) ∧ ∃ (x_1 : Nat × List (List UInt8) × List Int), ((x.1 : Int) + (1 : Int) = (x_1.1 : Int) ∧ x.2.1 = x_1.2.1 ∧ x.2.2 = x_1.2.2) ∧ S.tokInv (S.decode b) x_1.1 x_1.2.1 x_1.2.2 ∧ S.meas (S.len (S.decode b)) x_1.1 < S.meas (S.len (S.decode b)) x.1))) ∧ (decide ((x.1 : Int) < (↑(List.length (S.decode b)) : Int)) = false → (decide ((0 : Int) < (↑(List.length x.2.2) : Int)) = true → S.okC x.2.2 ∧ List.length x.2.1 + List.length [S.termOf x.2.2] ≤ (8796093022208 : Nat) ∧ x.2.1 ++ [S.termOf x.2.2] = S.terms b) ∧ (decide ((0 : Int) < (↑(List.length x.2.2) : Int)) = false → x.2.1 = S.terms b))
def V_a34 (s : List UInt8) : Prop :=
 S.small s ∧ ((decide ((↑(List.length (S.terms s)) : Int) = (1 : Int)) = true → ((0 : Int) ≤ (0 : Int) ∧ (0 : Int) < (↑(List.length (S.terms s)) : Int)) ∧ (0 : Int).toNat < List.length (S.terms s)) ∧ (decide ((↑(List.length (S.terms s)) : Int) = (1 : Int)) = false → True)) ∧ (bif decide ((↑(List.length (S.terms s)) : Int) = (1 : Int)) then decide (List.getD (S.terms s) ((0 : Int).toNat) [] = s) else false) = S.isTerm s
def V_a35 (s : List UInt8) : Prop :=
 (!decide (s = s)) = false
def V_a36 (a : List UInt8) (b : List UInt8) : Prop :=
 True ∧ True ∧ (false = true → (false = true → (0 : Int) = S.cmpS a b) ∧ (false = false → (-1 : Int) = S.cmpS a b)) ∧ (false = false → (false = true → (1 : Int) = S.cmpS a b) ∧ (false = false → (Op.bytesLess a b = true → (-1 : Int) = S.cmpS a b) ∧ (Op.bytesLess a b = false → ((!(Op.bytesLess a b || decide (a = b))) = true → (1 : Int) = S.cmpS a b) ∧ ((!(Op.bytesLess a b || decide (a = b))) = false → (0 : Int) = S.cmpS a b))))
def V_a37 (a : List UInt8) (b : List UInt8) : Prop :=
 True ∧ decide (S.cmpS a b = (0 : Int)) = decide (a = b)
def V_a38 (l : List (List UInt8)) : Prop :=
 (decide ((l.length : Int) < (2 : Int)) = true → l = S.compact l) ∧ (decide ((l.length : Int) < (2 : Int)) = false → (∃ (x : Nat), (1 : Int) = (x : Int) ∧ S.cmpInv l x) ∧ ∀ (x : Nat), S.cmpInv l x → (decide ((x : Int) < (l.length : Int)) = true → ((0 : Int) ≤ (x : Int) ∧ (x : Int) < (l.length : Int)) ∧ (x : Int).toNat < l.length ∧ ((-9223372036854775808 : Int) ≤ (x : Int) - (1 : Int) ∧ (x : Int) - (1 : Int) ≤ (9223372036854775807 : Int)) ∧ ((0 : Int) ≤ (x : Int) - (1 : Int) ∧ (x : Int) - (1 : Int) < (l.length : Int)) ∧ Int.toNat ((x : Int) - (1 : Int)) < l.length ∧ True ∧ (decide (List.getD l ((x : Int).toNat) [] = List.getD l (Int.toNat ((x : Int) - (1 : Int))) []) = true → ((0 : Int) ≤ (x : Int) ∧ (x : Int) ≤ (l.length : Int)) ∧ (∃ (x_1 : Nat × Nat × List (List UInt8) × Nat), ((x : Int) = (x_1.1 : Int) ∧ (1 : Int) = (x_1.2.1 : Int) ∧ l = x_1.2.2.1) ∧ S.cmpInv2 l x_1.2.2.2 x_1.1 x_1.2.1 x_1.2.2.1 ∧ (x : Int) = (x_1.2.2.2 : Int)) ∧ ∀ (x_1 : Nat × Nat × List (List UInt8) × Nat), S.cmpInv2 l x_1.2.2.2 x_1.1 x_1.2.1 x_1.2.2.1 ∧ (x : Int) = (x_1.2.2.2 : Int) → (decide ((x_1.2.1 : Int) < (↑(l.length - (x : Int).toNat) : Int)) = true → ((0 : Int) ≤ (x_1.2.1 : Int) ∧ (x_1.2.1 : Int) < (↑(l.length - (x : Int).toNat) : Int)) ∧ (x : Int).toNat + (x_1.2.1 : Int).toNat < List.length x_1.2.2.1 ∧ ((-9223372036854775808 : Int) ≤ (x_1.2.1 : Int) - (1 : Int) ∧ (x_1.2.1 : Int) - (1 : Int) ≤ (9223372036854775807 : Int)) ∧ ((0 : Int) ≤ (x_1.2.1 : Int) - (1 : Int) ∧ (x_1.2.1 : Int) - (1 : Int) < (↑(l.length - (x : Int).toNat) : Int)) ∧ (x : Int).toNat + Int.toNat ((x_1.2.1 : Int) - (1 : Int)) < List.length x_1.2.2.1 ∧ True ∧ (((!decide (List.getD x_1.2.2.1 ((x : Int).toNat + (x_1.2.1 : Int).toNat) [] = List.getD x_1.2.2.1 ((x : Int).toNat + Int.toNat ((x_1.2.1 : Int) - (1 : Int))) [])) = true → ((0 : Int) ≤ (x_1.2.1 : Int) ∧ (x_1.2.1 : Int) < (↑(l.length - (x : Int).toNat) : Int)) ∧ (x : Int).toNat + (x_1.2.1 : Int).toNat < List.length x_1.2.2.1 ∧ ((0 : Int) ≤ (x_1.1 : Int) ∧ (x_1.1 : Int) < (↑(List.length x_1.2.2.1) : Int)) ∧ (x_1.1 : Int).toNat < List.length x_1.2.2.1 ∧ (-9223372036854775808 : Int) ≤ (x_1.1 : Int) + (1 : Int) ∧ (x_1.1 : Int) + (1 : Int) ≤ (9223372036854775807 : Int)) ∧ ((!decide (List.getD x_1.2.2.1 ((x : Int).toNat + (x_1.2.1 : Int).toNat) [] = List.getD x_1.2.2.1 ((x : Int).toNat + Int.toNat ((x_1.2.1 : Int) - (1 : Int))) [])) = false → True)) ∧ ((-9223372036854775808 : Int) ≤ (x_1.2.1 : Int) + (1 : Int) ∧ (x_1.2.1 : Int) + (1 : Int) ≤ (9223372036854775807 : Int)) ∧ ∃ (x_2 : Nat × Nat × List (List UInt8) × Nat), ((bif !decide (List.getD x_1.2.2.1 ((x : Int).toNat + (x_1.2.1 : Int).toNat) [] = List.getD x_1.2.2.1 ((x : Int).toNat + Int.toNat ((x_1.2.1 : Int) - (1 : Int))) []) then (x_1.1 : Int) + (1 : Int) else (x_1.1 : Int)) = (x_2.1 : Int) ∧ (x_1.2.1 : Int) + (1 : Int) = (x_2.2.1 : Int) ∧ (bif !decide (List.getD x_1.2.2.1 ((x : Int).toNat + (x_1.2.1 : Int).toNat) [] = List.getD x_1.2.2.1 ((x : Int).toNat + Int.toNat ((x_1.2.1 : Int) - (1 : Int))) []) then List.set x_1.2.2.1 ((x_1.1 : Int).toNat) (List.getD x_1.2.2.1 ((x : Int).toNat + (x_1.2.1 : Int).toNat) []) else x_1.2.2.1) = x_2.2.2.1) ∧ (S.cmpInv2 l x_2.2.2.2 x_2.1 x_2.2.1 x_2.2.2.1 ∧ (x : Int) = (x_2.2.2.2 : Int)) ∧ S.meas (S.len l) x_2.2.1 < S.meas (S.len l) x_1.2.1) ∧ (decide ((x_1.2.1 : Int) < (↑(l.length - (x : Int).toNat) : Int)) = false → ((0 : Int) ≤ (x_1.1 : Int) ∧ (x_1.1 : Int) ≤ (↑(List.length x_1.2.2.1) : Int)) ∧ (((x_1.1 : Int).toNat) + (List.length x_1.2.2.1 - (x_1.1 : Int).toNat)) ≤ List.length x_1.2.2.1 ∧ ((0 : Int) ≤ (x_1.1 : Int) ∧ (x_1.1 : Int) ≤ (↑(List.length (List.take ((x_1.1 : Int).toNat) x_1.2.2.1 ++ List.replicate (List.length x_1.2.2.1 - (x_1.1 : Int).toNat) (Vg.nilL UInt8) ++ List.drop ((((x_1.1 : Int).toNat) + (List.length x_1.2.2.1 - (x_1.1 : Int).toNat))) x_1.2.2.1)) : Int)) ∧ List.take ((x_1.1 : Int).toNat) (List.take ((x_1.1 : Int).toNat) x_1.2.2.1 ++ List.replicate (List.length x_1.2.2.1 - (x_1.1 : Int).toNat) (Vg.nilL UInt8) ++ List.drop ((((x_1.1 : Int).toNat) + (List.length x_1.2.2.1 - (x_1.1 : Int).toNat))) x_1.2.2.1) = S.compact l)) ∧ (decide (List.getD l ((x : Int).toNat) [] = List.getD l (Int.toNat ((x : Int) - (1 : Int))) []) = false → ((-9223372036854775808 : Int) ≤ (x : Int) + (1 : Int) ∧ (x : Int) + (1 : Int) ≤ (9223372036854775807 : Int)) ∧ ∃ (x_1 : Nat), (x : Int) + (1 : Int) = (x_1 : Int) ∧ S.cmpInv l x_1 ∧ S.meas (S.len l) x_1 < S.meas (S.len l) x)) ∧ (decide ((x : Int) < (l.length : Int)) = false → l = S.compact l))
def V_a42 (l : List (List UInt8)) : Prop :=
 S.small l ∧ S.small l ∧ S.small (S.sortS l) ∧ S.compact (S.sortS l) = S.compact (S.sortS l)
def V_a43 (b : List UInt8) : Prop :=
 S.small b ∧ S.small (S.terms b) ∧ S.compact (S.sortS (S.terms b)) = S.sorted (S.terms b)
def V_a44 (l : List Int) : Prop :=
 (∃ (x : Nat), ((0 : Int) = (x : Int) ∧ (-1 : Int) = S.prevI l x) ∧ S.postInv l x) ∧ ∀ (x : Nat), S.postInv l x → (decide ((x : Int) < (l.length : Int)) = true → ((0 : Int) ≤ (x : Int) ∧ (x : Int) < (l.length : Int)) ∧ ((bif decide (List.getD l ((x : Int).toNat) (0 : Int) ≤ S.prevI l x) then true else decide ((1000 : Int) ≤ List.getD l ((x : Int).toNat) (0 : Int))) = true → false = S.postR l) ∧ ((bif decide (List.getD l ((x : Int).toNat) (0 : Int) ≤ S.prevI l x) then true else decide ((1000 : Int) ≤ List.getD l ((x : Int).toNat) (0 : Int))) = false → ((-9223372036854775808 : Int) ≤ (x : Int) + (1 : Int) ∧ (x : Int) + (1 : Int) ≤ (9223372036854775807 : Int)) ∧ ∃ (x_1 : Nat), ((x : Int) + (1 : Int) = (x_1 : Int) ∧ List.getD l ((x : Int).toNat) (0 : Int) = S.prevI l x_1) ∧ S.postInv l x_1 ∧ S.meas (S.len l) x_1 < S.meas (S.len l) x)) ∧ (decide ((x : Int) < (l.length : Int)) = false → true = S.postR l)
def V_a45 (l : List Int) : Prop :=
 True ∧ ((!S.postR l) = true → (1 : Int) = S.postE l ∧ [] = S.postW l) ∧ ((!S.postR l) = false → List.length (Vg.nilL UInt8) ≤ (35184372088832 : Nat) ∧ (∃ (x : Nat), ((0 : Int) = (x : Int) ∧ (-1 : Int) = S.prevI l x ∧ S.numB (Vg.nilL UInt8) (l.length : Int) = S.postTo l x) ∧ x ≤ l.length) ∧ ∀ (x : Nat), x ≤ l.length → (decide ((x : Int) < (l.length : Int)) = true → ((0 : Int) ≤ (x : Int) ∧ (x : Int) < (l.length : Int)) ∧ ((-9223372036854775808 : Int) ≤ List.getD l ((x : Int).toNat) (0 : Int) - S.prevI l x ∧ List.getD l ((x : Int).toNat) (0 : Int) - S.prevI l x ≤ (9223372036854775807 : Int)) ∧ ((-9223372036854775808 : Int) ≤ List.getD l ((x : Int).toNat) (0 : Int) - S.prevI l x - (1 : Int) ∧ List.getD l ((x : Int).toNat) (0 : Int) - S.prevI l x - (1 : Int) ≤ (9223372036854775807 : Int)) ∧ List.length (Vg.nilL UInt8) ≤ (35184372088832 : Nat) ∧ List.length (S.postTo l x) + List.length (S.numB (Vg.nilL UInt8) (List.getD l ((x : Int).toNat) (0 : Int) - S.prevI l x - (1 : Int))) ≤ (140737488355328 : Nat) ∧ ((-9223372036854775808 : Int) ≤ (x : Int) + (1 : Int) ∧ (x : Int) + (1 : Int) ≤ (9223372036854775807 : Int)) ∧ ∃ (x_1 : Nat), ((x : Int) + (1 : Int) = (x_1 : Int) ∧ List.getD l ((x : Int).toNat) (0 : Int) = S.prevI l x_1 ∧ S.postTo l x ++ S.numB (Vg.nilL UInt8) (List.getD l ((x : Int).toNat) (0 : Int) - S.prevI l x - (1 : Int)) = S.postTo l x_1) ∧ x_1 ≤ l.length ∧ S.meas (S.len l) x_1 < S.meas (S.len l) x) ∧ (decide ((x : Int) < (l.length : Int)) = false → (0 : Int) = S.postE l ∧ S.postTo l x = S.postW l))
def V_a46 (l : List Int) : Prop :=
 True ∧ ((!decide (S.postE l = (0 : Int))) = true → [] = S.postD l ∧ S.postE l = S.postE l) ∧ ((!decide (S.postE l = (0 : Int))) = false → S.sealPre (S.postW l) ∧ S.sealD (2 : Nat) (S.postW l) = S.postD l ∧ (0 : Int) = S.postE l)
def V_a47 (a : List Int) (b : List Int) : Prop :=
 ((!decide ((a.length : Int) = (b.length : Int))) = true → false = S.sameL a b) ∧ ((!decide ((a.length : Int) = (b.length : Int))) = false → (∃ (x : Nat), (0 : Int) = (x : Int) ∧ S.sameTo a b x) ∧ ∀ (x : Nat), S.sameTo a b x → (decide ((x : Int) < (a.length : Int)) = true → ((0 : Int) ≤ (x : Int) ∧ (x : Int) < (a.length : Int)) ∧ ((0 : Int) ≤ (x : Int) ∧ (x : Int) < (b.length : Int)) ∧ ((!decide (List.getD a ((x : Int).toNat) (0 : Int) = List.getD b ((x : Int).toNat) (0 : Int))) = true → false = S.sameL a b) ∧ ((!decide (List.getD a ((x : Int).toNat) (0 : Int) = List.getD b ((x : Int).toNat) (0 : Int))) = false → ((-9223372036854775808 : Int) ≤ (x : Int) + (1 : Int) ∧ (x : Int) + (1 : Int) ≤ (9223372036854775807 : Int)) ∧ ∃ (x_1 : Nat), (x : Int) + (1 : Int) = (x_1 : Int) ∧ S.sameTo a b x_1 ∧ S.meas (S.len a) x_1 < S.meas (S.len a) x)) ∧ (decide ((x : Int) < (a.length : Int)) = false → true = S.sameL a b))
def V_a48 (d : List (List UInt8 × List Int)) : Prop :=
 (∃ (x : Nat), (0 : Int) = (x : Int) ∧ S.dInv d x) ∧ ∀ (x : Nat), S.dInv d x → (decide ((x : Int) < (d.length : Int)) = true → ((0 : Int) ≤ (x : Int) ∧ (x : Int) < (d.length : Int)) ∧ ((decide ((0 : Int) < (x : Int)) = true → ((-9223372036854775808 : Int) ≤ (x : Int) - (1 : Int) ∧ (x : Int) - (1 : Int) ≤ (9223372036854775807 : Int)) ∧ (0 : Int) ≤ (x : Int) - (1 : Int) ∧ (x : Int) - (1 : Int) < (d.length : Int)) ∧ (decide ((0 : Int) < (x : Int)) = false → True)) ∧ ((bif decide ((0 : Int) < (x : Int)) then Op.bytesLess ((List.getD d ((x : Int).toNat) ([], [])).1) ((List.getD d (Int.toNat ((x : Int) - (1 : Int))) ([], [])).1) || decide ((List.getD d ((x : Int).toNat) ([], [])).1 = (List.getD d (Int.toNat ((x : Int) - (1 : Int))) ([], [])).1) else false) = true → false = S.dRight d) ∧ ((bif decide ((0 : Int) < (x : Int)) then Op.bytesLess ((List.getD d ((x : Int).toNat) ([], [])).1) ((List.getD d (Int.toNat ((x : Int) - (1 : Int))) ([], [])).1) || decide ((List.getD d ((x : Int).toNat) ([], [])).1 = (List.getD d (Int.toNat ((x : Int) - (1 : Int))) ([], [])).1) else false) = false → ((decide ((↑(List.length ((List.getD d ((x : Int).toNat) ([], [])).2)) : Int) = (0 : Int)) = true → True) ∧ (decide ((↑(List.length ((List.getD d ((x : Int).toNat) ([], [])).2)) : Int) = (0 : Int)) = false → True ∧ ((!S.postR ((List.getD d ((x : Int).toNat) ([], [])).2)) = true → True) ∧ ((!S.postR ((List.getD d ((x : Int).toNat) ([], [])).2)) = false → S.small ((List.getD d ((x : Int).toNat) ([], [])).1)))) ∧ ((bif decide ((↑(List.length ((List.getD d ((x : Int).toNat) ([], [])).2)) : Int) = (0 : Int)) then true else bif !S.postR ((List.getD d ((x : Int).toNat) ([], [])).2) then true else !S.isTerm ((List.getD d ((x : Int).toNat) ([], [])).1)) = true → false = S.dRight d) ∧ ((bif decide ((↑(List.length ((List.getD d ((x : Int).toNat) ([], [])).2)) : Int) = (0 : Int)) then true else bif !S.postR ((List.getD d ((x : Int).toNat) ([], [])).2) then true else !S.isTerm ((List.getD d ((x : Int).toNat) ([], [])).1)) = false → ((-9223372036854775808 : Int) ≤ (x : Int) + (1 : Int) ∧ (x : Int) + (1 : Int) ≤ (9223372036854775807 : Int)) ∧ ∃ (x_1 : Nat), (x : Int) + (1 : Int) = (x_1 : Int) ∧ S.dInv d x_1 ∧ S.meas (S.len d) x_1 < S.meas (S.len d) x))) ∧ (decide ((x : Int) < (d.length : Int)) = false → true = S.dRight d)
def V_a49 (l1 : List UInt8) (l2 : List UInt8) (l3 : List UInt8) : Prop :=
 ((bif decide ((64 : Int) < (l1.length : Int)) then true else bif decide ((64 : Int) < (l2.length : Int)) then true else !decide ((l3.length : Int) = (32 : Int))) = true → [] = S.linkW l1 l2 l3 ∧ (1 : Int) = S.linkE l1 l2 l3) ∧ ((bif decide ((64 : Int) < (l1.length : Int)) then true else bif decide ((64 : Int) < (l2.length : Int)) then true else !decide ((l3.length : Int) = (32 : Int))) = false → S.textPre (Vg.nilL UInt8) l1 ∧ S.textPre ([] ++ S.text l1) l2 ∧ List.length ([] ++ S.text l1 ++ S.text l2) + l3.length ≤ (140737488355328 : Nat) ∧ [] ++ S.text l1 ++ S.text l2 ++ l3 = S.linkW l1 l2 l3 ∧ (0 : Int) = S.linkE l1 l2 l3)
def V_a50 (b : List UInt8) : Prop :=
 b.length ≤ (140737488355328 : Nat) ∧ List.length (((S.readText b (0 : Int) (0 : Int) (64 : Int)).1).1) ≤ (140737488355328 : Nat) ∧ List.length (((S.readText (((S.readText b (0 : Int) (0 : Int) (64 : Int)).1).1) ((((S.readText b (0 : Int) (0 : Int) (64 : Int)).1).2).1) ((((S.readText b (0 : Int) (0 : Int) (64 : Int)).1).2).2) (64 : Int)).1).1) ≤ (140737488355328 : Nat) ∧ True ∧ ((!decide (S.done (((S.readDigest (((S.readText (((S.readText b (0 : Int) (0 : Int) (64 : Int)).1).1) ((((S.readText b (0 : Int) (0 : Int) (64 : Int)).1).2).1) ((((S.readText b (0 : Int) (0 : Int) (64 : Int)).1).2).2) (64 : Int)).1).1) ((((S.readText (((S.readText b (0 : Int) (0 : Int) (64 : Int)).1).1) ((((S.readText b (0 : Int) (0 : Int) (64 : Int)).1).2).1) ((((S.readText b (0 : Int) (0 : Int) (64 : Int)).1).2).2) (64 : Int)).1).2).1) ((((S.readText (((S.readText b (0 : Int) (0 : Int) (64 : Int)).1).1) ((((S.readText b (0 : Int) (0 : Int) (64 : Int)).1).2).1) ((((S.readText b (0 : Int) (0 : Int) (64 : Int)).1).2).2) (64 : Int)).1).2).2)).1).1) ((((S.readDigest (((S.readText (((S.readText b (0 : Int) (0 : Int) (64 : Int)).1).1) ((((S.readText b (0 : Int) (0 : Int) (64 : Int)).1).2).1) ((((S.readText b (0 : Int) (0 : Int) (64 : Int)).1).2).2) (64 : Int)).1).1) ((((S.readText (((S.readText b (0 : Int) (0 : Int) (64 : Int)).1).1) ((((S.readText b (0 : Int) (0 : Int) (64 : Int)).1).2).1) ((((S.readText b (0 : Int) (0 : Int) (64 : Int)).1).2).2) (64 : Int)).1).2).1) ((((S.readText (((S.readText b (0 : Int) (0 : Int) (64 : Int)).1).1) ((((S.readText b (0 : Int) (0 : Int) (64 : Int)).1).2).1) ((((S.readText b (0 : Int) (0 : Int) (64 : Int)).1).2).2) (64 : Int)).1).2).2)).1).2).1) ((((S.readDigest (((S.readText (((S.readText b (0 : Int) (0 : Int) (64 : Int)).1).1) ((((S.readText b (0 : Int) (0 : Int) (64 : Int)).1).2).1) ((((S.readText b (0 : Int) (0 : Int) (64 : Int)).1).2).2) (64 : Int)).1).1) ((((S.readText (((S.readText b (0 : Int) (0 : Int) (64 : Int)).1).1) ((((S.readText b (0 : Int) (0 : Int) (64 : Int)).1).2).1) ((((S.readText b (0 : Int) (0 : Int) (64 : Int)).1).2).2) (64 : Int)).1).2).1) ((((S.readText (((S.readText b (0 : Int) (0 : Int) (64 : Int)).1).1) ((((S.readText b (0 : Int) (0 : Int) (64 : Int)).1).2).1) ((((S.readText b (0 : Int) (0 : Int) (64 : Int)).1).2).2) (64 : Int)).1).2).2)).1).2).2) = (0 : Int))) = true → [] = ((S.readLink b).1).1 ∧ [] = (((S.readLink b).1).2).1 ∧ [] = (((S.readLink b).1).2).2 ∧ S.done (((S.readDigest (((S.readText (((S.readText b (0 : Int) (0 : Int) (64 : Int)).1).1) ((((S.readText b (0 : Int) (0 : Int) (64 : Int)).1).2).1) ((((S.readText b (0 : Int) (0 : Int) (64 : Int)).1).2).2) (64 : Int)).1).1) ((((S.readText (((S.readText b (0 : Int) (0 : Int) (64 : Int)).1).1) ((((S.readText b (0 : Int) (0 : Int) (64 : Int)).1).2).1) ((((S.readText b (0 : Int) (0 : Int) (64 : Int)).1).2).2) (64 : Int)).1).2).1) ((((S.readText (((S.readText b (0 : Int) (0 : Int) (64 : Int)).1).1) ((((S.readText b (0 : Int) (0 : Int) (64 : Int)).1).2).1) ((((S.readText b (0 : Int) (0 : Int) (64 : Int)).1).2).2) (64 : Int)).1).2).2)).1).1) ((((S.readDigest (((S.readText (((S.readText b (0 : Int) (0 : Int) (64 : Int)).1).1) ((((S.readText b (0 : Int) (0 : Int) (64 : Int)).1).2).1) ((((S.readText b (0 : Int) (0 : Int) (64 : Int)).1).2).2) (64 : Int)).1).1) ((((S.readText (((S.readText b (0 : Int) (0 : Int) (64 : Int)).1).1) ((((S.readText b (0 : Int) (0 : Int) (64 : Int)).1).2).1) ((((S.readText b (0 : Int) (0 : Int) (64 : Int)).1).2).2) (64 : Int)).1).2).1) ((((S.readText (((S.readText b (0 : Int) (0 : Int) (64 : Int)).1).1) ((((S.readText b (0 : Int) (0 : Int) (64 : Int)).1).2).1) ((((S.readText b (0 : Int) (0 : Int) (64 : Int)).1).2).2) (64 : Int)).1).2).2)).1).2).1) ((((S.readDigest (((S.readText (((S.readText b (0 : Int) (0 : Int) (64 : Int)).1).1) ((((S.readText b (0 : Int) (0 : Int) (64 : Int)).1).2).1) ((((S.readText b (0 : Int) (0 : Int) (64 : Int)).1).2).2) (64 : Int)).1).1) ((((S.readText (((S.readText b (0 : Int) (0 : Int) (64 : Int)).1).1) ((((S.readText b (0 : Int) (0 : Int) (64 : Int)).1).2).1) ((((S.readText b (0 : Int) (0 : Int) (64 : Int)).1).2).2) (64 : Int)).1).2).1) ((((S.readText (((S.readText b (0 : Int) (0 : Int) (64 : Int)).1).1) ((((S.readText b (0 : Int) (0 : Int) (64 : Int)).1).2).1) ((((S.readText b (0 : Int) (0 : Int) (64 : Int)).1).2).2) (64 : Int)).1).2).2)).1).2).2) = (S.readLink b).2) ∧ ((!decide (S.done (((S.readDigest (((S.readText (((S.readText b (0 : Int) (0 : Int) (64 : Int)).1).1) ((((S.readText b (0 : Int) (0 : Int) (64 : Int)).1).2).1) ((((S.readText b (0 : Int) (0 : Int) (64 : Int)).1).2).2) (64 : Int)).1).1) ((((S.readText (((S.readText b (0 : Int) (0 : Int) (64 : Int)).1).1) ((((S.readText b (0 : Int) (0 : Int) (64 : Int)).1).2).1) ((((S.readText b (0 : Int) (0 : Int) (64 : Int)).1).2).2) (64 : Int)).1).2).1) ((((S.readText (((S.readText b (0 : Int) (0 : Int) (64 : Int)).1).1) ((((S.readText b (0 : Int) (0 : Int) (64 : Int)).1).2).1) ((((S.readText b (0 : Int) (0 : Int) (64 : Int)).1).2).2) (64 : Int)).1).2).2)).1).1) ((((S.readDigest (((S.readText (((S.readText b (0 : Int) (0 : Int) (64 : Int)).1).1) ((((S.readText b (0 : Int) (0 : Int) (64 : Int)).1).2).1) ((((S.readText b (0 : Int) (0 : Int) (64 : Int)).1).2).2) (64 : Int)).1).1) ((((S.readText (((S.readText b (0 : Int) (0 : Int) (64 : Int)).1).1) ((((S.readText b (0 : Int) (0 : Int) (64 : Int)).1).2).1) ((((S.readText b (0 : Int) (0 : Int) (64 : Int)).1).2).2) (64 : Int)).1).2).1) ((((S.readText (((S.readText b (0 : Int) (0 : Int) (64 : Int)).1).1) ((((S.readText b (0 : Int) (0 : Int) (64 : Int)).1).2).1) ((((S.readText b (0 : Int) (0 : Int) (64 : Int)).1).2).2) (64 : Int)).1).2).2)).1).2).1) ((((S.readDigest (((S.readText (((S.readText b (0 : Int) (0 : Int) (64 : Int)).1).1) ((((S.readText b (0 : Int) (0 : Int) (64 : Int)).1).2).1) ((((S.readText b (0 : Int) (0 : Int) (64 : Int)).1).2).2) (64 : Int)).1).1) ((((S.readText (((S.readText b (0 : Int) (0 : Int) (64 : Int)).1).1) ((((S.readText b (0 : Int) (0 : Int) (64 : Int)).1).2).1) ((((S.readText b (0 : Int) (0 : Int) (64 : Int)).1).2).2) (64 : Int)).1).2).1) ((((S.readText (((S.readText b (0 : Int) (0 : Int) (64 : Int)).1).1) ((((S.readText b (0 : Int) (0 : Int) (64 : Int)).1).2).1) ((((S.readText b (0 : Int) (0 : Int) (64 : Int)).1).2).2) (64 : Int)).1).2).2)).1).2).2) = (0 : Int))) = false → (S.readText b (0 : Int) (0 : Int) (64 : Int)).2 = ((S.readLink b).1).1 ∧ (S.readText (((S.readText b (0 : Int) (0 : Int) (64 : Int)).1).1) ((((S.readText b (0 : Int) (0 : Int) (64 : Int)).1).2).1) ((((S.readText b (0 : Int) (0 : Int) (64 : Int)).1).2).2) (64 : Int)).2 = (((S.readLink b).1).2).1 ∧ (S.readDigest (((S.readText (((S.readText b (0 : Int) (0 : Int) (64 : Int)).1).1) ((((S.readText b (0 : Int) (0 : Int) (64 : Int)).1).2).1) ((((S.readText b (0 : Int) (0 : Int) (64 : Int)).1).2).2) (64 : Int)).1).1) ((((S.readText (((S.readText b (0 : Int) (0 : Int) (64 : Int)).1).1) ((((S.readText b (0 : Int) (0 : Int) (64 : Int)).1).2).1) ((((S.readText b (0 : Int) (0 : Int) (64 : Int)).1).2).2) (64 : Int)).1).2).1) ((((S.readText (((S.readText b (0 : Int) (0 : Int) (64 : Int)).1).1) ((((S.readText b (0 : Int) (0 : Int) (64 : Int)).1).2).1) ((((S.readText b (0 : Int) (0 : Int) (64 : Int)).1).2).2) (64 : Int)).1).2).2)).2 = (((S.readLink b).1).2).2 ∧ (0 : Int) = (S.readLink b).2)
def V_a51 (d : List (List UInt8 × List Int)) : Prop :=
 S.dictPre d ∧ ((!S.dRight d) = true → (1 : Int) = S.dE d ∧ [] = S.dLinks d) ∧ ((!S.dRight d) = false → ((-9223372036854775808 : Int) ≤ (d.length : Int) + (1 : Int) ∧ (d.length : Int) + (1 : Int) ≤ (9223372036854775807 : Int)) ∧ (∃ (x : Nat), ((0 : Int) = (x : Int) ∧ [] = S.linksTo d x) ∧ x ≤ d.length + (1 : Nat)) ∧ ∀ (x : Nat), x ≤ d.length + (1 : Nat) → (decide ((x : Int) < (d.length : Int) + (1 : Int)) = true → ((decide ((0 : Int) < (x : Int)) = true → ((-9223372036854775808 : Int) ≤ (x : Int) - (1 : Int) ∧ (x : Int) - (1 : Int) ≤ (9223372036854775807 : Int)) ∧ ((0 : Int) ≤ (x : Int) - (1 : Int) ∧ (x : Int) - (1 : Int) < (d.length : Int)) ∧ ((-9223372036854775808 : Int) ≤ (x : Int) - (1 : Int) ∧ (x : Int) - (1 : Int) ≤ (9223372036854775807 : Int)) ∧ (0 : Int) ≤ (x : Int) - (1 : Int) ∧ (x : Int) - (1 : Int) < (d.length : Int)) ∧ (decide ((0 : Int) < (x : Int)) = false → True)) ∧ ((decide ((x : Int) < (d.length : Int)) = true → (0 : Int) ≤ (x : Int) ∧ (x : Int) < (d.length : Int)) ∧ (decide ((x : Int) < (d.length : Int)) = false → True)) ∧ True ∧ True ∧ List.length (S.linksTo d x) + List.length [S.linkW (bif decide ((x : Int) < (d.length : Int)) then bif decide ((0 : Int) < (x : Int)) then (List.getD d (Int.toNat ((x : Int) - (1 : Int))) ([], [])).1 else [] else bif decide ((0 : Int) < (x : Int)) then (List.getD d (Int.toNat ((x : Int) - (1 : Int))) ([], [])).1 else []) (bif decide ((x : Int) < (d.length : Int)) then (List.getD d ((x : Int).toNat) ([], [])).1 else bif decide ((0 : Int) < (x : Int)) then [] else []) (S.postD (bif decide ((0 : Int) < (x : Int)) then (List.getD d (Int.toNat ((x : Int) - (1 : Int))) ([], [])).2 else []))] ≤ (5864062014805 : Nat) ∧ ((-9223372036854775808 : Int) ≤ (x : Int) + (1 : Int) ∧ (x : Int) + (1 : Int) ≤ (9223372036854775807 : Int)) ∧ ∃ (x_1 : Nat), ((x : Int) + (1 : Int) = (x_1 : Int) ∧ S.linksTo d x ++ [S.linkW (bif decide ((x : Int) < (d.length : Int)) then bif decide ((0 : Int) < (x : Int)) then (List.getD d (Int.toNat ((x : Int) - (1 : Int))) ([], [])).1 else [] else bif decide ((0 : Int) < (x : Int)) then (List.getD d (Int.toNat ((x : Int) - (1 : Int))) ([], [])).1 else []) (bif decide ((x : Int) < (d.length : Int)) then (List.getD d ((x : Int).toNat) ([], [])).1 else bif decide ((0 : Int) < (x : Int)) then [] else []) (S.postD (bif decide ((0 : Int) < (x : Int)) then (List.getD d (Int.toNat ((x : Int) - (1 : Int))) ([], [])).2 else []))] = S.linksTo d x_1) ∧ x_1 ≤ d.length + (1 : Nat) ∧ S.meas (S.len d + (1 : Nat)) x_1 < S.meas (S.len d + (1 : Nat)) x) ∧ (decide ((x : Int) < (d.length : Int) + (1 : Int)) = false → (0 : Int) = S.dE d ∧ S.linksTo d x = S.dLinks d))
def V_a52 (d : List (List UInt8 × List Int)) (t : List UInt8) : Prop :=
 S.dictPre d ∧ ((!S.dRight d) = true → (-1 : Int) = S.dFind d t ∧ false = S.dFindB d t) ∧ ((!S.dRight d) = false → (∃ (x : Nat), ((0 : Int) = (x : Int) ∧ (-1 : Int) = S.findTo d t x) ∧ x ≤ d.length) ∧ ∀ (x : Nat), x ≤ d.length → (decide ((x : Int) < (d.length : Int)) = true → ((0 : Int) ≤ (x : Int) ∧ (x : Int) < (d.length : Int)) ∧ ((-9223372036854775808 : Int) ≤ (x : Int) + (1 : Int) ∧ (x : Int) + (1 : Int) ≤ (9223372036854775807 : Int)) ∧ ∃ (x_1 : Nat), ((x : Int) + (1 : Int) = (x_1 : Int) ∧ (bif Op.bytesLess ((List.getD d ((x : Int).toNat) ([], [])).1) t || decide ((List.getD d ((x : Int).toNat) ([], [])).1 = t) then (x : Int) else S.findTo d t x) = S.findTo d t x_1) ∧ x_1 ≤ d.length ∧ S.meas (S.len d) x_1 < S.meas (S.len d) x) ∧ (decide ((x : Int) < (d.length : Int)) = false → ((decide ((0 : Int) ≤ S.findTo d t x) = true → (0 : Int) ≤ S.findTo d t x ∧ S.findTo d t x < (d.length : Int)) ∧ (decide ((0 : Int) ≤ S.findTo d t x) = false → True)) ∧ (bif decide ((0 : Int) ≤ S.findTo d t x) then S.findTo d t x else S.findTo d t x) = S.dFind d t ∧ (bif decide ((0 : Int) ≤ S.findTo d t x) then decide ((List.getD d (Int.toNat (S.findTo d t x)) ([], [])).1 = t) else false) = S.dFindB d t))
def V_a53 (d : List (List UInt8 × List Int)) (t : List UInt8) : Prop :=
 S.dictPre d ∧ ((!S.dFindB d t) = true → [] = S.dDocs d t) ∧ ((!S.dFindB d t) = false → ((0 : Int) ≤ S.dFind d t ∧ S.dFind d t < (d.length : Int)) ∧ S.small ((List.getD d (Int.toNat (S.dFind d t)) ([], [])).2) ∧ (List.getD d (Int.toNat (S.dFind d t)) ([], [])).2 = S.dDocs d t)
def V_a55 (d : List (List UInt8 × List Int)) : Prop :=
 (∃ (x : Nat), (0 : Int) = (x : Int) ∧ S.gdInv d x) ∧ ∀ (x : Nat), S.gdInv d x → (decide ((x : Int) < (d.length : Int)) = true → ((0 : Int) ≤ (x : Int) ∧ (x : Int) < (d.length : Int)) ∧ ((decide ((200 : Int) < (↑(List.length ((List.getD d ((x : Int).toNat) ([], [])).1)) : Int)) = true → True) ∧ (decide ((200 : Int) < (↑(List.length ((List.getD d ((x : Int).toNat) ([], [])).1)) : Int)) = false → (0 : Int) ≤ (x : Int) ∧ (x : Int) < (d.length : Int))) ∧ ((bif decide ((200 : Int) < (↑(List.length ((List.getD d ((x : Int).toNat) ([], [])).1)) : Int)) then true else decide ((200 : Int) < (↑(List.length ((List.getD d ((x : Int).toNat) ([], [])).2)) : Int))) = true → true = S.greatD d) ∧ ((bif decide ((200 : Int) < (↑(List.length ((List.getD d ((x : Int).toNat) ([], [])).1)) : Int)) then true else decide ((200 : Int) < (↑(List.length ((List.getD d ((x : Int).toNat) ([], [])).2)) : Int))) = false → ((-9223372036854775808 : Int) ≤ (x : Int) + (1 : Int) ∧ (x : Int) + (1 : Int) ≤ (9223372036854775807 : Int)) ∧ ∃ (x_1 : Nat), (x : Int) + (1 : Int) = (x_1 : Int) ∧ S.gdInv d x_1 ∧ S.meas (S.len d) x_1 < S.meas (S.len d) x)) ∧ (decide ((x : Int) < (d.length : Int)) = false → decide ((100 : Int) < (d.length : Int)) = S.greatD d)
def V_a56 : Prop :=
 (0 : Nat) < List.length [(104 : UInt8), (97 : UInt8), (121 : UInt8)] ∧ (0 : Nat) < List.length [(119 : UInt8), (97 : UInt8), (105 : UInt8), (110 : UInt8), (32 : UInt8), (104 : UInt8), (97 : UInt8), (121 : UInt8)] ∧ True ∧ S.dictPre ((S.dMake S.kdocs (0 : Int) (2 : Int)).1) ∧ ((bif !decide ((↑(List.length (S.dLinks ((S.dMake S.kdocs (0 : Int) (2 : Int)).1))) : Int) = (3 : Int)) then true else !decide ((↑(List.length ((S.dMake S.kdocs (0 : Int) (2 : Int)).1)) : Int) = (2 : Int))) = true → false = true) ∧ ((bif !decide ((↑(List.length (S.dLinks ((S.dMake S.kdocs (0 : Int) (2 : Int)).1))) : Int) = (3 : Int)) then true else !decide ((↑(List.length ((S.dMake S.kdocs (0 : Int) (2 : Int)).1)) : Int) = (2 : Int))) = false → ((0 : Int) ≤ (1 : Int) ∧ (1 : Int) < (↑(List.length (S.dLinks ((S.dMake S.kdocs (0 : Int) (2 : Int)).1))) : Int)) ∧ (1 : Int).toNat < List.length (S.dLinks ((S.dMake S.kdocs (0 : Int) (2 : Int)).1)) ∧ List.length (List.getD (S.dLinks ((S.dMake S.kdocs (0 : Int) (2 : Int)).1)) ((1 : Int).toNat) []) ≤ (140737488355328 : Nat) ∧ ((decide ((S.dMake S.kdocs (0 : Int) (2 : Int)).2 = (0 : Int)) = true → (decide (S.dE ((S.dMake S.kdocs (0 : Int) (2 : Int)).1) = (0 : Int)) = true → ((0 : Int) ≤ (0 : Int) ∧ (0 : Int) < (↑(List.length ((S.dMake S.kdocs (0 : Int) (2 : Int)).1)) : Int)) ∧ (decide ((List.getD ((S.dMake S.kdocs (0 : Int) (2 : Int)).1) ((0 : Int).toNat) ([], [])).1 = [(104 : UInt8), (97 : UInt8), (121 : UInt8)]) = true → ((0 : Int) ≤ (0 : Int) ∧ (0 : Int) < (↑(List.length ((S.dMake S.kdocs (0 : Int) (2 : Int)).1)) : Int)) ∧ True ∧ (S.sameL ((List.getD ((S.dMake S.kdocs (0 : Int) (2 : Int)).1) ((0 : Int).toNat) ([], [])).2) [(0 : Int), (1 : Int)] = true → S.dictPre ((S.dMake S.kdocs (0 : Int) (2 : Int)).1) ∧ True ∧ (S.sameL (S.dDocs ((S.dMake S.kdocs (0 : Int) (2 : Int)).1) [(119 : UInt8), (97 : UInt8), (105 : UInt8), (110 : UInt8)]) [(1 : Int)] = true → (decide (((S.readLink (List.getD (S.dLinks ((S.dMake S.kdocs (0 : Int) (2 : Int)).1)) ((1 : Int).toNat) [])).1).1 = [(104 : UInt8), (97 : UInt8), (121 : UInt8)]) = true → (decide ((((S.readLink (List.getD (S.dLinks ((S.dMake S.kdocs (0 : Int) (2 : Int)).1)) ((1 : Int).toNat) [])).1).2).1 = [(119 : UInt8), (97 : UInt8), (105 : UInt8), (110 : UInt8)]) = true → (decide ((S.readLink (List.getD (S.dLinks ((S.dMake S.kdocs (0 : Int) (2 : Int)).1)) ((1 : Int).toNat) [])).2 = (0 : Int)) = true → S.dictPre ((S.dMake S.kdocs (0 : Int) (2 : Int)).1)) ∧ (decide ((S.readLink (List.getD (S.dLinks ((S.dMake S.kdocs (0 : Int) (2 : Int)).1)) ((1 : Int).toNat) [])).2 = (0 : Int)) = false → True)) ∧ (decide ((((S.readLink (List.getD (S.dLinks ((S.dMake S.kdocs (0 : Int) (2 : Int)).1)) ((1 : Int).toNat) [])).1).2).1 = [(119 : UInt8), (97 : UInt8), (105 : UInt8), (110 : UInt8)]) = false → True)) ∧ (decide (((S.readLink (List.getD (S.dLinks ((S.dMake S.kdocs (0 : Int) (2 : Int)).1)) ((1 : Int).toNat) [])).1).1 = [(104 : UInt8), (97 : UInt8), (121 : UInt8)]) = false → True)) ∧ (S.sameL (S.dDocs ((S.dMake S.kdocs (0 : Int) (2 : Int)).1) [(119 : UInt8), (97 : UInt8), (105 : UInt8), (110 : UInt8)]) [(1 : Int)] = false → True)) ∧ (S.sameL ((List.getD ((S.dMake S.kdocs (0 : Int) (2 : Int)).1) ((0 : Int).toNat) ([], [])).2) [(0 : Int), (1 : Int)] = false → True)) ∧ (decide ((List.getD ((S.dMake S.kdocs (0 : Int) (2 : Int)).1) ((0 : Int).toNat) ([], [])).1 = [(104 : UInt8), (97 : UInt8), (121 : UInt8)]) = false → True)) ∧ (decide (S.dE ((S.dMake S.kdocs (0 : Int) (2 : Int)).1) = (0 : Int)) = false → True)) ∧ (decide ((S.dMake S.kdocs (0 : Int) (2 : Int)).2 = (0 : Int)) = false → True)) ∧ (bif decide ((S.dMake S.kdocs (0 : Int) (2 : Int)).2 = (0 : Int)) then bif decide (S.dE ((S.dMake S.kdocs (0 : Int) (2 : Int)).1) = (0 : Int)) then bif decide ((List.getD ((S.dMake S.kdocs (0 : Int) (2 : Int)).1) ((0 : Int).toNat) ([], [])).1 = [(104 : UInt8), (97 : UInt8), (121 : UInt8)]) then bif S.sameL ((List.getD ((S.dMake S.kdocs (0 : Int) (2 : Int)).1) ((0 : Int).toNat) ([], [])).2) [(0 : Int), (1 : Int)] then bif S.sameL (S.dDocs ((S.dMake S.kdocs (0 : Int) (2 : Int)).1) [(119 : UInt8), (97 : UInt8), (105 : UInt8), (110 : UInt8)]) [(1 : Int)] then bif decide (((S.readLink (List.getD (S.dLinks ((S.dMake S.kdocs (0 : Int) (2 : Int)).1)) ((1 : Int).toNat) [])).1).1 = [(104 : UInt8), (97 : UInt8), (121 : UInt8)]) then bif decide ((((S.readLink (List.getD (S.dLinks ((S.dMake S.kdocs (0 : Int) (2 : Int)).1)) ((1 : Int).toNat) [])).1).2).1 = [(119 : UInt8), (97 : UInt8), (105 : UInt8), (110 : UInt8)]) then bif decide ((S.readLink (List.getD (S.dLinks ((S.dMake S.kdocs (0 : Int) (2 : Int)).1)) ((1 : Int).toNat) [])).2 = (0 : Int)) then S.dRight ((S.dMake S.kdocs (0 : Int) (2 : Int)).1) else false else false else false else false else false else false else false else false) = true)
def V_a58 (d : List (List UInt8 × List Int)) (s : List UInt8) : Prop :=
 True ∧ ((bif S.greatD d then true else bif decide ((200 : Int) < (s.length : Int)) then true else decide (s = [])) = true → True ∧ true = true) ∧ ((bif S.greatD d then true else bif decide ((200 : Int) < (s.length : Int)) then true else decide (s = [])) = false → S.dictPre d ∧ ((!decide (S.dE d = (0 : Int))) = true → ((decide ((↑(List.length (S.dLinks d)) : Int) = (0 : Int)) = true → True) ∧ (decide ((↑(List.length (S.dLinks d)) : Int) = (0 : Int)) = false → True)) ∧ (bif decide ((↑(List.length (S.dLinks d)) : Int) = (0 : Int)) then true else false) = true) ∧ ((!decide (S.dE d = (0 : Int))) = false → (∃ (x : Nat), ((0 : Int) = (x : Int) ∧ (0 : Int) = (↑(S.liesTo d s x) : Int)) ∧ S.lenv d x) ∧ ∀ (x : Nat), S.lenv d x → (decide ((x : Int) < (↑(List.length (S.dLinks d)) : Int)) = true → ((0 : Int) ≤ (x : Int) ∧ (x : Int) < (↑(List.length (S.dLinks d)) : Int)) ∧ (x : Int).toNat < List.length (S.dLinks d) ∧ List.length (List.getD (S.dLinks d) ((x : Int).toNat) []) ≤ (140737488355328 : Nat) ∧ ((!decide ((S.readLink (List.getD (S.dLinks d) ((x : Int).toNat) [])).2 = (0 : Int))) = true → false = true) ∧ ((!decide ((S.readLink (List.getD (S.dLinks d) ((x : Int).toNat) [])).2 = (0 : Int))) = false → (((bif Op.bytesLess (((S.readLink (List.getD (S.dLinks d) ((x : Int).toNat) [])).1).1) s then bif Op.bytesLess s ((((S.readLink (List.getD (S.dLinks d) ((x : Int).toNat) [])).1).2).1) then true else decide ((((S.readLink (List.getD (S.dLinks d) ((x : Int).toNat) [])).1).2).1 = []) else false) = true → (-9223372036854775808 : Int) ≤ (↑(S.liesTo d s x) : Int) + (1 : Int) ∧ (↑(S.liesTo d s x) : Int) + (1 : Int) ≤ (9223372036854775807 : Int)) ∧ ((bif Op.bytesLess (((S.readLink (List.getD (S.dLinks d) ((x : Int).toNat) [])).1).1) s then bif Op.bytesLess s ((((S.readLink (List.getD (S.dLinks d) ((x : Int).toNat) [])).1).2).1) then true else decide ((((S.readLink (List.getD (S.dLinks d) ((x : Int).toNat) [])).1).2).1 = []) else false) = false → True)) ∧ ((-9223372036854775808 : Int) ≤ (x : Int) + (1 : Int) ∧ (x : Int) + (1 : Int) ≤ (9223372036854775807 : Int)) ∧ ∃ (x_1 : Nat), ((x : Int) + (1 : Int) = (x_1 : Int) ∧ (bif bif Op.bytesLess (((S.readLink (List.getD (S.dLinks d) ((x : Int).toNat) [])).1).1) s then bif Op.bytesLess s ((((S.readLink (List.getD (S.dLinks d) ((x : Int).toNat) [])).1).2).1) then true else decide ((((S.readLink (List.getD (S.dLinks d) ((x : Int).toNat) [])).1).2).1 = []) else false then (↑(S.liesTo d s x) : Int) + (1 : Int) else (↑(S.liesTo d s x) : Int)) = (↑(S.liesTo d s x_1) : Int)) ∧ S.lenv d x_1 ∧ S.meas (S.len d + (1 : Nat)) x_1 < S.meas (S.len d + (1 : Nat)) x)) ∧ (decide ((x : Int) < (↑(List.length (S.dLinks d)) : Int)) = false → S.dictPre d ∧ ((decide ((↑(S.liesTo d s x) : Int) ≤ (1 : Int)) = true → ((decide ((↑(S.liesTo d s x) : Int) = (1 : Int)) == !S.dFindB d s) = true → ((-9223372036854775808 : Int) ≤ (d.length : Int) + (1 : Int) ∧ (d.length : Int) + (1 : Int) ≤ (9223372036854775807 : Int)) ∧ (decide ((↑(List.length (S.dLinks d)) : Int) = (d.length : Int) + (1 : Int)) = true → True) ∧ (decide ((↑(List.length (S.dLinks d)) : Int) = (d.length : Int) + (1 : Int)) = false → True)) ∧ ((decide ((↑(S.liesTo d s x) : Int) = (1 : Int)) == !S.dFindB d s) = false → True)) ∧ (decide ((↑(S.liesTo d s x) : Int) ≤ (1 : Int)) = false → True)) ∧ (bif decide ((↑(S.liesTo d s x) : Int) ≤ (1 : Int)) then bif decide ((↑(S.liesTo d s x) : Int) = (1 : Int)) == !S.dFindB d s then bif decide ((↑(List.length (S.dLinks d)) : Int) = (d.length : Int) + (1 : Int)) then true else false else false else false) = true)))
end Go
end
section
set_option linter.unusedVariables false
namespace Go
theorem df {p : Prop} [Decidable p] : decide p = false ↔ ¬p := decide_eq_false_iff_not
theorem dt {p : Prop} [Decidable p] : (decide p = true) = p := decide_eq_true_eq
theorem lc {α : Type} {a : α} {l : List α} : (a :: l).length = l.length + 1 := List.length_cons
theorem ln {α : Type} : ([] : List α).length = 0 := List.length_nil
theorem tn (n : Nat) : (n : Int).toNat = n := Int.toNat_natCast n
theorem nf {b : Bool} : ((!b) = false) = (b = true) := Bool.not_eq_false' b
theorem nt {b : Bool} : ((!b) = true) = (b = false) := Bool.not_eq_true' b
theorem H_a0 (x : Int) (k : Int) (hp : S.rotPre x k) (hf : Vg.Row.ok (Vg.PS.flat [.one (.int .u32), .one (.int .i64)]) (x, k)) : V_a0 x k := by
  unfold V_a0
  have hr_x : 0 ≤ x ∧ x ≤ 4294967295 := hf.1
  have hr_k : -9223372036854775808 ≤ k ∧ k ≤ 9223372036854775807 := hf.2.1
  clear hf
  have hb := S.rot_bd hp
  have hp2 := hp
  simp only [S.rotPre] at hp2
  refine ⟨⟨?_, ?_⟩, ⟨⟨?_, ?_⟩, ?_⟩⟩
  · omega
  · omega
  · omega
  · omega
  exact S.rot_or hp
theorem H_a1  (hp : True) (hf : Vg.Row.ok (Vg.PS.flat []) ()) : V_a1  := by
  unfold V_a1
  clear hf
  refine ⟨?_, ⟨?_, ⟨?_, ⟨?_, ⟨?_, ⟨?_, ⟨?_, ⟨?_, ?_⟩⟩⟩⟩⟩⟩⟩⟩
  · rfl
  · rfl
  · rfl
  · rfl
  · rfl
  · rfl
  · rfl
  · rfl
  rfl
theorem H_a2 (s1 : Int) (s2 : Int) (s3 : Int) (s4 : Int) (s5 : Int) (s6 : Int) (s7 : Int) (s8 : Int) (s9 : List UInt8) (s10 : Int) (hp : True) (hf : Vg.Row.ok (Vg.PS.flat [.agg [.int .u32, .int .u32, .int .u32, .int .u32, .int .u32, .int .u32, .int .u32, .int .u32, .slice [.int .u8], .int .i64]]) (s1, s2, s3, s4, s5, s6, s7, s8, s9, s10)) : V_a2 s1 s2 s3 s4 s5 s6 s7 s8 s9 s10 := by
  unfold V_a2
  have hr_s1 : 0 ≤ s1 ∧ s1 ≤ 4294967295 := hf.1
  have hr_s2 : 0 ≤ s2 ∧ s2 ≤ 4294967295 := hf.2.1
  have hr_s3 : 0 ≤ s3 ∧ s3 ≤ 4294967295 := hf.2.2.1
  have hr_s4 : 0 ≤ s4 ∧ s4 ≤ 4294967295 := hf.2.2.2.1
  have hr_s5 : 0 ≤ s5 ∧ s5 ≤ 4294967295 := hf.2.2.2.2.1
  have hr_s6 : 0 ≤ s6 ∧ s6 ≤ 4294967295 := hf.2.2.2.2.2.1
  have hr_s7 : 0 ≤ s7 ∧ s7 ≤ 4294967295 := hf.2.2.2.2.2.2.1
  have hr_s8 : 0 ≤ s8 ∧ s8 ≤ 4294967295 := hf.2.2.2.2.2.2.2.1
  have hr_s9 : s9.length ≤ 9223372036854775807 := hf.2.2.2.2.2.2.2.2.1.1
  have hr_s10 : -9223372036854775808 ≤ s10 ∧ s10 ≤ 9223372036854775807 := hf.2.2.2.2.2.2.2.2.2.1
  clear hf
  refine ⟨⟨?_, ?_⟩, ?_⟩
  · intro h1
    try simp only [dt] at h1
    refine ⟨?_, ?_⟩
    · intro h2
      try simp only [dt] at h2
      refine ⟨?_, ?_⟩
      · omega
      omega
    intro h3
    try simp only [df] at h3
    trivial
  · intro h4
    try simp only [df] at h4
    trivial
  simp only [S.stValid]; grind
theorem H_a3 (u1 : Int) (u2 : Int) (u3 : Int) (u4 : Int) (u5 : Int) (u6 : Int) (u7 : Int) (u8 : Int) (p : List UInt8) (hp : S.blkPre (u1, u2, u3, u4, u5, u6, u7, u8) p) (hf : Vg.Row.ok (Vg.PS.flat [.agg [.int .u32, .int .u32, .int .u32, .int .u32, .int .u32, .int .u32, .int .u32, .int .u32], .one (.slice [.int .u8])]) (u1, u2, u3, u4, u5, u6, u7, u8, p)) : V_a3 u1 u2 u3 u4 u5 u6 u7 u8 p := by
  unfold V_a3
  have hr_u1 : 0 ≤ u1 ∧ u1 ≤ 4294967295 := hf.1
  have hr_u2 : 0 ≤ u2 ∧ u2 ≤ 4294967295 := hf.2.1
  have hr_u3 : 0 ≤ u3 ∧ u3 ≤ 4294967295 := hf.2.2.1
  have hr_u4 : 0 ≤ u4 ∧ u4 ≤ 4294967295 := hf.2.2.2.1
  have hr_u5 : 0 ≤ u5 ∧ u5 ≤ 4294967295 := hf.2.2.2.2.1
  have hr_u6 : 0 ≤ u6 ∧ u6 ≤ 4294967295 := hf.2.2.2.2.2.1
  have hr_u7 : 0 ≤ u7 ∧ u7 ≤ 4294967295 := hf.2.2.2.2.2.2.1
  have hr_u8 : 0 ≤ u8 ∧ u8 ≤ 4294967295 := hf.2.2.2.2.2.2.2.1
  have hr_p : p.length ≤ 9223372036854775807 := hf.2.2.2.2.2.2.2.2.1.1
  clear hf
  obtain ⟨hp1, hp2⟩ := hp
  refine ⟨?_, ?_⟩
  · refine ⟨(nat_lit 0 : Nat), ?_⟩
    try dsimp only
    refine ⟨⟨?_, ?_⟩, ?_⟩
    · omega
    · rfl
    simp only [S.leN, S.meas] at *; omega
  intro x1
  intro h2
  refine ⟨?_, ?_⟩
  · intro h3
    try simp only [dt] at h3
    refine ⟨⟨?_, ?_⟩, ⟨⟨?_, ?_⟩, ⟨⟨?_, ?_⟩, ⟨⟨?_, ?_⟩, ⟨⟨?_, ?_⟩, ⟨⟨?_, ?_⟩, ⟨⟨?_, ?_⟩, ⟨⟨?_, ?_⟩, ⟨⟨?_, ?_⟩, ⟨⟨?_, ?_⟩, ⟨⟨?_, ?_⟩, ⟨⟨?_, ?_⟩, ⟨⟨?_, ?_⟩, ⟨⟨?_, ?_⟩, ⟨⟨?_, ?_⟩, ⟨?_, ⟨⟨?_, ?_⟩, ?_⟩⟩⟩⟩⟩⟩⟩⟩⟩⟩⟩⟩⟩⟩⟩⟩⟩
    · omega
    · omega
    · omega
    · omega
    · omega
    · omega
    · omega
    · omega
    · omega
    · omega
    · omega
    · omega
    · omega
    · omega
    · omega
    · omega
    · omega
    · omega
    · omega
    · omega
    · omega
    · omega
    · omega
    · omega
    · omega
    · omega
    · omega
    · omega
    · omega
    · omega
    · rw [S.arr_len _ _ (by omega)]; omega
    · omega
    · omega
    refine ⟨(x1 + nat_lit 1), ?_⟩
    try dsimp only
    refine ⟨⟨?_, ?_⟩, ⟨?_, ?_⟩⟩
    · omega
    · exact S.arr_lo _ _ (by omega)
    · simp only [S.leN, S.meas] at *; omega
    simp only [S.leN, S.meas] at *; omega
  intro h4
  try simp only [df] at h4
  refine ⟨?_, ?_⟩
  · refine ⟨(nat_lit 16 : Nat), ?_⟩
    try dsimp only
    refine ⟨⟨?_, ?_⟩, ⟨?_, ?_⟩⟩
    · omega
    · simp only [S.leN] at h2
      rw [show x1 = 16 by omega]
    · omega
    omega
  intro x5
  intro h6
  refine ⟨?_, ?_⟩
  · intro h7
    try simp only [dt] at h7
    refine ⟨⟨?_, ?_⟩, ⟨⟨?_, ?_⟩, ⟨?_, ⟨⟨?_, ?_⟩, ⟨⟨?_, ?_⟩, ⟨?_, ⟨?_, ⟨?_, ⟨⟨?_, ?_⟩, ⟨?_, ⟨?_, ⟨⟨?_, ?_⟩, ⟨⟨?_, ?_⟩, ⟨⟨?_, ?_⟩, ⟨?_, ⟨⟨?_, ?_⟩, ⟨⟨?_, ?_⟩, ⟨?_, ⟨⟨?_, ?_⟩, ⟨?_, ⟨⟨?_, ?_⟩, ?_⟩⟩⟩⟩⟩⟩⟩⟩⟩⟩⟩⟩⟩⟩⟩⟩⟩⟩⟩⟩⟩
    · omega
    · omega
    · omega
    · omega
    · rw [S.arr_len _ _ (by omega)]; omega
    · omega
    · omega
    · omega
    · omega
    · rw [S.arr_len _ _ (by omega)]; omega
    · with_reducible exact S.arr_rot _ _ _ _ (by omega)
    · with_reducible exact S.arr_rot _ _ _ _ (by omega)
    · omega
    · omega
    · with_reducible exact S.arr_rot _ _ _ _ (by omega)
    · with_reducible exact S.arr_rot _ _ _ _ (by omega)
    · omega
    · omega
    · omega
    · omega
    · omega
    · omega
    · rw [S.arr_len _ _ (by omega)]; omega
    · omega
    · omega
    · omega
    · omega
    · rw [S.arr_len _ _ (by omega)]; omega
    · omega
    · omega
    · rw [S.arr_len _ _ (by omega)]; omega
    · omega
    · omega
    refine ⟨(x5 + nat_lit 1), ?_⟩
    try dsimp only
    refine ⟨⟨?_, ?_⟩, ⟨⟨?_, ?_⟩, ?_⟩⟩
    · omega
    · exact S.arr_hi _ _ (by omega) (by omega)
    · omega
    · omega
    simp only [S.leN, S.meas] at *; omega
  intro h8
  try simp only [df] at h8
  refine ⟨⟨?_, ?_⟩, ⟨⟨?_, ?_⟩, ⟨⟨?_, ?_⟩, ⟨⟨?_, ?_⟩, ⟨⟨?_, ?_⟩, ⟨⟨?_, ?_⟩, ⟨⟨?_, ?_⟩, ⟨⟨?_, ?_⟩, ⟨?_, ?_⟩⟩⟩⟩⟩⟩⟩⟩⟩
  · omega
  · omega
  · omega
  · omega
  · omega
  · omega
  · omega
  · omega
  · omega
  · omega
  · omega
  · omega
  · omega
  · omega
  · omega
  · omega
  · refine ⟨(nat_lit 0 : Nat), ?_⟩
    try dsimp only
    refine ⟨⟨?_, ⟨?_, ⟨?_, ⟨?_, ⟨?_, ⟨?_, ⟨?_, ⟨?_, ?_⟩⟩⟩⟩⟩⟩⟩⟩, ?_⟩
    · omega
    · rfl
    · rfl
    · rfl
    · rfl
    · rfl
    · rfl
    · rfl
    · rfl
    simp only [S.leN, S.meas] at *; omega
  intro x9
  intro h10
  refine ⟨?_, ?_⟩
  · intro h11
    try simp only [dt] at h11
    refine ⟨?_, ⟨?_, ⟨?_, ⟨?_, ⟨⟨?_, ?_⟩, ⟨⟨?_, ?_⟩, ⟨?_, ⟨?_, ⟨?_, ⟨?_, ⟨⟨?_, ?_⟩, ?_⟩⟩⟩⟩⟩⟩⟩⟩⟩⟩⟩
    · with_reducible exact S.ok8_e (S.rnds_ok _ _ hp1 _) _ (by omega)
    · with_reducible exact S.ok8_e (S.rnds_ok _ _ hp1 _) _ (by omega)
    · with_reducible exact S.ok8_e (S.rnds_ok _ _ hp1 _) _ (by omega)
    · with_reducible exact S.K256_len
    · omega
    · rw [← S.K256_len]; simp only [S.leN] at *; omega
    · omega
    · omega
    · rw [S.arr_len _ _ (by omega)]; omega
    · with_reducible exact S.ok8_a (S.rnds_ok _ _ hp1 _) _ (by omega)
    · with_reducible exact S.ok8_a (S.rnds_ok _ _ hp1 _) _ (by omega)
    · with_reducible exact S.ok8_a (S.rnds_ok _ _ hp1 _) _ (by omega)
    · omega
    · omega
    refine ⟨(x9 + nat_lit 1), ?_⟩
    try dsimp only
    refine ⟨⟨?_, ⟨?_, ⟨?_, ⟨?_, ⟨?_, ⟨?_, ⟨?_, ⟨?_, ?_⟩⟩⟩⟩⟩⟩⟩⟩, ⟨?_, ?_⟩⟩
    · omega
    · rw [show x5 = 64 by omega, S.arr_64]
      simp only [S.rnds, tn, Nat.zero_add, Nat.mul_one]
      rfl
    · rfl
    · rfl
    · rfl
    · rw [show x5 = 64 by omega, S.arr_64]
      simp only [S.rnds, tn, Nat.zero_add, Nat.mul_one]
      rfl
    · rfl
    · rfl
    · rfl
    · simp only [S.leN, S.meas] at *; omega
    simp only [S.leN, S.meas] at *; omega
  intro h12
  try simp only [df] at h12
  refine ⟨⟨?_, ?_⟩, ⟨⟨?_, ?_⟩, ⟨⟨?_, ?_⟩, ⟨⟨?_, ?_⟩, ⟨⟨?_, ?_⟩, ⟨⟨?_, ?_⟩, ⟨⟨?_, ?_⟩, ⟨⟨?_, ?_⟩, ⟨?_, ⟨?_, ⟨?_, ⟨?_, ⟨?_, ⟨?_, ⟨?_, ?_⟩⟩⟩⟩⟩⟩⟩⟩⟩⟩⟩⟩⟩⟩⟩
  · omega
  · omega
  · omega
  · omega
  · omega
  · omega
  · omega
  · omega
  · omega
  · omega
  · omega
  · omega
  · omega
  · omega
  · omega
  · omega
  · simp only [S.leN] at h10
    rw [show x9 = 64 by omega]
    simp only [S.block, S.add8]
  · simp only [S.leN] at h10
    rw [show x9 = 64 by omega]
    simp only [S.block, S.add8]
  · simp only [S.leN] at h10
    rw [show x9 = 64 by omega]
    simp only [S.block, S.add8]
  · simp only [S.leN] at h10
    rw [show x9 = 64 by omega]
    simp only [S.block, S.add8]
  · simp only [S.leN] at h10
    rw [show x9 = 64 by omega]
    simp only [S.block, S.add8]
  · simp only [S.leN] at h10
    rw [show x9 = 64 by omega]
    simp only [S.block, S.add8]
  · simp only [S.leN] at h10
    rw [show x9 = 64 by omega]
    simp only [S.block, S.add8]
  simp only [S.leN] at h10
  rw [show x9 = 64 by omega]
  simp only [S.block, S.add8]
theorem H_a4 (u1 : Int) (u2 : Int) (u3 : Int) (u4 : Int) (u5 : Int) (u6 : Int) (u7 : Int) (u8 : Int) (b : List UInt8) (hp : S.ok8 (u1, u2, u3, u4, u5, u6, u7, u8)) (hf : Vg.Row.ok (Vg.PS.flat [.agg [.int .u32, .int .u32, .int .u32, .int .u32, .int .u32, .int .u32, .int .u32, .int .u32], .one (.slice [.int .u8])]) (u1, u2, u3, u4, u5, u6, u7, u8, b)) : V_a4 u1 u2 u3 u4 u5 u6 u7 u8 b := by
  unfold V_a4
  have hr_u1 : 0 ≤ u1 ∧ u1 ≤ 4294967295 := hf.1
  have hr_u2 : 0 ≤ u2 ∧ u2 ≤ 4294967295 := hf.2.1
  have hr_u3 : 0 ≤ u3 ∧ u3 ≤ 4294967295 := hf.2.2.1
  have hr_u4 : 0 ≤ u4 ∧ u4 ≤ 4294967295 := hf.2.2.2.1
  have hr_u5 : 0 ≤ u5 ∧ u5 ≤ 4294967295 := hf.2.2.2.2.1
  have hr_u6 : 0 ≤ u6 ∧ u6 ≤ 4294967295 := hf.2.2.2.2.2.1
  have hr_u7 : 0 ≤ u7 ∧ u7 ≤ 4294967295 := hf.2.2.2.2.2.2.1
  have hr_u8 : 0 ≤ u8 ∧ u8 ≤ 4294967295 := hf.2.2.2.2.2.2.2.1
  have hr_b : b.length ≤ 9223372036854775807 := hf.2.2.2.2.2.2.2.2.1.1
  clear hf
  refine ⟨?_, ?_⟩
  · refine ⟨0, ?_⟩
    try dsimp only
    refine ⟨⟨?_, ⟨?_, ⟨?_, ⟨?_, ⟨?_, ⟨?_, ⟨?_, ⟨?_, ?_⟩⟩⟩⟩⟩⟩⟩⟩, ?_⟩
    · simp only [S.dropBlk, List.drop_drop]; congr 1
    · rfl
    · rfl
    · rfl
    · rfl
    · rfl
    · rfl
    · rfl
    · rfl
    omega
  intro x1
  intro h2
  refine ⟨?_, ?_⟩
  · intro h3
    try simp only [dt] at h3
    refine ⟨⟨?_, ?_⟩, ⟨?_, ⟨⟨?_, ?_⟩, ?_⟩⟩⟩
    · omega
    · omega
    · exact ⟨S.proc_ok _ _ hp _, by simp only [S.dropBlk, List.length_take, List.length_drop] at *; omega⟩
    · omega
    · omega
    refine ⟨(x1 + 1), ?_⟩
    try dsimp only
    refine ⟨⟨?_, ⟨?_, ⟨?_, ⟨?_, ⟨?_, ⟨?_, ⟨?_, ⟨?_, ?_⟩⟩⟩⟩⟩⟩⟩⟩, ⟨?_, ?_⟩⟩
    · simp only [S.dropBlk, List.drop_drop]; congr 1
    · simp only [S.proc_V]
    · simp only [S.proc_V]
    · simp only [S.proc_V]
    · simp only [S.proc_V]
    · simp only [S.proc_V]
    · simp only [S.proc_V]
    · simp only [S.proc_V]
    · simp only [S.proc_V]
    · simp only [S.dropBlk, List.length_drop, S.meas, S.blocks] at *; omega
    simp only [S.dropBlk, List.length_drop, S.meas, S.blocks] at *; omega
  intro h4
  try simp only [df] at h4
  refine ⟨?_, ⟨?_, ⟨?_, ⟨?_, ⟨?_, ⟨?_, ⟨?_, ⟨?_, ?_⟩⟩⟩⟩⟩⟩⟩⟩
  · rw [show x1 = S.blocks b by (simp only [S.dropBlk, List.length_drop, S.blocks] at *; omega)]
    rfl
  · rw [show x1 = S.blocks b by (simp only [S.dropBlk, List.length_drop, S.blocks] at *; omega)]
    rfl
  · rw [show x1 = S.blocks b by (simp only [S.dropBlk, List.length_drop, S.blocks] at *; omega)]
    rfl
  · rw [show x1 = S.blocks b by (simp only [S.dropBlk, List.length_drop, S.blocks] at *; omega)]
    rfl
  · rw [show x1 = S.blocks b by (simp only [S.dropBlk, List.length_drop, S.blocks] at *; omega)]
    rfl
  · rw [show x1 = S.blocks b by (simp only [S.dropBlk, List.length_drop, S.blocks] at *; omega)]
    rfl
  · rw [show x1 = S.blocks b by (simp only [S.dropBlk, List.length_drop, S.blocks] at *; omega)]
    rfl
  · rw [show x1 = S.blocks b by (simp only [S.dropBlk, List.length_drop, S.blocks] at *; omega)]
    rfl
  rw [show x1 = S.blocks b by (simp only [S.dropBlk, List.length_drop, S.blocks] at *; omega)]
  rfl
theorem H_a5 (s1 : Int) (s2 : Int) (s3 : Int) (s4 : Int) (s5 : Int) (s6 : Int) (s7 : Int) (s8 : Int) (s9 : List UInt8) (s10 : Int) (b : List UInt8) (hp : S.addPre (s1, s2, s3, s4, s5, s6, s7, s8) s9 s10 b) (hf : Vg.Row.ok (Vg.PS.flat [.agg [.int .u32, .int .u32, .int .u32, .int .u32, .int .u32, .int .u32, .int .u32, .int .u32, .slice [.int .u8], .int .i64], .one (.slice [.int .u8])]) (s1, s2, s3, s4, s5, s6, s7, s8, s9, s10, b)) : V_a5 s1 s2 s3 s4 s5 s6 s7 s8 s9 s10 b := by
  unfold V_a5
  have hr_s1 : 0 ≤ s1 ∧ s1 ≤ 4294967295 := hf.1
  have hr_s2 : 0 ≤ s2 ∧ s2 ≤ 4294967295 := hf.2.1
  have hr_s3 : 0 ≤ s3 ∧ s3 ≤ 4294967295 := hf.2.2.1
  have hr_s4 : 0 ≤ s4 ∧ s4 ≤ 4294967295 := hf.2.2.2.1
  have hr_s5 : 0 ≤ s5 ∧ s5 ≤ 4294967295 := hf.2.2.2.2.1
  have hr_s6 : 0 ≤ s6 ∧ s6 ≤ 4294967295 := hf.2.2.2.2.2.1
  have hr_s7 : 0 ≤ s7 ∧ s7 ≤ 4294967295 := hf.2.2.2.2.2.2.1
  have hr_s8 : 0 ≤ s8 ∧ s8 ≤ 4294967295 := hf.2.2.2.2.2.2.2.1
  have hr_s9 : s9.length ≤ 9223372036854775807 := hf.2.2.2.2.2.2.2.2.1.1
  have hr_s10 : -9223372036854775808 ≤ s10 ∧ s10 ≤ 9223372036854775807 := hf.2.2.2.2.2.2.2.2.2.1
  have hr_b : b.length ≤ 9223372036854775807 := hf.2.2.2.2.2.2.2.2.2.2.1.1
  clear hf
  obtain ⟨hok, rfl, rfl, hs⟩ := hp
  simp only [S.small] at hs
  have hv : S.stValid [] 0 = true := by decide
  have hd : decide ((1099511627776 : Int) - 0 < (b.length : Int)) = false := by simp; omega
  simp only [hv, hd, Bool.not_true, cond_false, cond_true, ln, Int.toNat_zero]
  refine ⟨?_, ⟨⟨?_, ?_⟩, ⟨⟨?_, ?_⟩, ⟨⟨?_, ?_⟩, ⟨⟨?_, ⟨?_, ?_⟩⟩, ⟨?_, ⟨?_, ⟨?_, ⟨?_, ⟨⟨?_, ?_⟩, ⟨?_, ⟨?_, ⟨?_, ⟨?_, ⟨?_, ⟨?_, ⟨?_, ⟨?_, ⟨?_, ?_⟩⟩⟩⟩⟩⟩⟩⟩⟩⟩⟩⟩⟩⟩⟩⟩⟩⟩⟩
  · trivial
  · intro h1
    try simp only [nt] at h1
    trivial
  · intro h2
    try simp only [nf] at h2
    refine ⟨?_, ?_⟩
    · omega
    omega
  · intro h3
    try simp only [V.bor, nt, dt] at h3
    trivial
  · intro h4
    try simp only [V.bor_f, nf, df] at h4
    trivial
  · omega
  · omega
  · omega
  · omega
  · omega
  · simp only [List.replicate_zero, List.nil_append, List.append_nil, S.restOf_len, S.lenI, ln, List.length_append] at *; omega
  · simp only [List.replicate_zero, List.nil_append, List.append_nil, S.restOf_len, S.lenI, ln, List.length_append] at *; omega
  · omega
  · simp only [List.replicate_zero, List.nil_append, List.append_nil, S.restOf_len, S.lenI, ln, List.length_append] at *; omega
  · omega
  · omega
  · rfl
  · rfl
  · rfl
  · rfl
  · rfl
  · rfl
  · rfl
  · rfl
  · rfl
  simp only [List.replicate_zero, List.nil_append, List.append_nil, S.restOf_len, S.lenI, ln, List.length_append] at *; omega
theorem H_a6 (s1 : Int) (s2 : Int) (s3 : Int) (s4 : Int) (s5 : Int) (s6 : Int) (s7 : Int) (s8 : Int) (s9 : List UInt8) (s10 : Int) (hp : S.endPre (s1, s2, s3, s4, s5, s6, s7, s8) s9 s10) (hf : Vg.Row.ok (Vg.PS.flat [.agg [.int .u32, .int .u32, .int .u32, .int .u32, .int .u32, .int .u32, .int .u32, .int .u32, .slice [.int .u8], .int .i64]]) (s1, s2, s3, s4, s5, s6, s7, s8, s9, s10)) : V_a6 s1 s2 s3 s4 s5 s6 s7 s8 s9 s10 := by
  unfold V_a6
  have hr_s1 : 0 ≤ s1 ∧ s1 ≤ 4294967295 := hf.1
  have hr_s2 : 0 ≤ s2 ∧ s2 ≤ 4294967295 := hf.2.1
  have hr_s3 : 0 ≤ s3 ∧ s3 ≤ 4294967295 := hf.2.2.1
  have hr_s4 : 0 ≤ s4 ∧ s4 ≤ 4294967295 := hf.2.2.2.1
  have hr_s5 : 0 ≤ s5 ∧ s5 ≤ 4294967295 := hf.2.2.2.2.1
  have hr_s6 : 0 ≤ s6 ∧ s6 ≤ 4294967295 := hf.2.2.2.2.2.1
  have hr_s7 : 0 ≤ s7 ∧ s7 ≤ 4294967295 := hf.2.2.2.2.2.2.1
  have hr_s8 : 0 ≤ s8 ∧ s8 ≤ 4294967295 := hf.2.2.2.2.2.2.2.1
  have hr_s9 : s9.length ≤ 9223372036854775807 := hf.2.2.2.2.2.2.2.2.1.1
  have hr_s10 : -9223372036854775808 ≤ s10 ∧ s10 ≤ 9223372036854775807 := hf.2.2.2.2.2.2.2.2.2.1
  clear hf
  have hv := S.valid_of hp
  obtain ⟨hok, h01, h02, h03⟩ := hp
  simp only [hv, Bool.not_true, cond_false]
  refine ⟨?_, ⟨⟨?_, ?_⟩, ⟨?_, ⟨?_, ⟨?_, ?_⟩⟩⟩⟩⟩
  · trivial
  · intro h1
    try simp only [nt] at h1
    trivial
  · intro h2
    try simp only [nf] at h2
    trivial
  · omega
  · simp only [S.tailZ_len, S.tailL_len, S.tailInv, S.padZ, S.leN, S.meas, S.len, lc, ln] at *; omega
  · refine ⟨0, ?_⟩
    try dsimp only
    refine ⟨?_, ?_⟩
    · exact S.tailZ_0 _
    simp only [S.tailZ_len, S.tailL_len, S.tailInv, S.padZ, S.leN, S.meas, S.len, lc, ln] at *; omega
  intro x3
  intro h4
  refine ⟨?_, ⟨?_, ⟨?_, ?_⟩⟩⟩
  · omega
  · omega
  · intro h5
    try simp only [nt, df] at h5
    refine ⟨?_, ?_⟩
    · simp only [S.tailZ_len, S.tailL_len, S.tailInv, S.padZ, S.leN, S.meas, S.len, lc, ln] at *; omega
    refine ⟨(x3 + 1), ?_⟩
    try dsimp only
    refine ⟨?_, ⟨?_, ?_⟩⟩
    · exact S.tailZ_succ _ _
    · exact S.padZ_more h4 h5
    simp only [S.tailZ_len, S.tailL_len, S.tailInv, S.padZ, S.leN, S.meas, S.len, lc, ln] at *; omega
  intro h6
  try simp only [nf, dt] at h6
  refine ⟨?_, ?_⟩
  · refine ⟨(nat_lit 0 : Nat), ?_⟩
    try dsimp only
    refine ⟨⟨?_, ?_⟩, ?_⟩
    · omega
    · rw [S.tailL_0, ← S.padZ_end h4 h6]
    simp only [S.tailZ_len, S.tailL_len, S.tailInv, S.padZ, S.leN, S.meas, S.len, lc, ln] at *; omega
  intro x7
  intro h8
  refine ⟨?_, ?_⟩
  · intro h9
    try simp only [dt] at h9
    refine ⟨⟨?_, ?_⟩, ⟨⟨?_, ?_⟩, ⟨⟨?_, ?_⟩, ⟨?_, ⟨⟨?_, ?_⟩, ?_⟩⟩⟩⟩⟩
    · omega
    · omega
    · omega
    · omega
    · omega
    · omega
    · simp only [S.tailZ_len, S.tailL_len, S.tailInv, S.padZ, S.leN, S.meas, S.len, lc, ln] at *; omega
    · omega
    · omega
    refine ⟨(x7 + nat_lit 1), ?_⟩
    try dsimp only
    refine ⟨⟨?_, ?_⟩, ⟨?_, ?_⟩⟩
    · omega
    · exact S.tailL_succ s9 s10 x7 h01 h02 (by omega)
    · simp only [S.tailZ_len, S.tailL_len, S.tailInv, S.padZ, S.leN, S.meas, S.len, lc, ln] at *; omega
    simp only [S.tailZ_len, S.tailL_len, S.tailInv, S.padZ, S.leN, S.meas, S.len, lc, ln] at *; omega
  intro h10
  try simp only [df] at h10
  refine ⟨?_, ⟨⟨?_, ⟨?_, ?_⟩⟩, ⟨?_, ?_⟩⟩⟩
  · omega
  · omega
  · omega
  · omega
  · refine ⟨(nat_lit 0 : Nat), ?_⟩
    try dsimp only
    refine ⟨⟨?_, ?_⟩, ?_⟩
    · omega
    · rfl
    simp only [S.tailZ_len, S.tailL_len, S.tailInv, S.padZ, S.leN, S.meas, S.len, lc, ln] at *; omega
  intro x11
  intro h12
  refine ⟨?_, ?_⟩
  · intro h13
    try simp only [dt] at h13
    refine ⟨⟨?_, ?_⟩, ⟨⟨?_, ?_⟩, ⟨⟨?_, ?_⟩, ⟨⟨?_, ?_⟩, ⟨?_, ⟨⟨?_, ?_⟩, ?_⟩⟩⟩⟩⟩⟩
    · omega
    · omega
    · omega
    · omega
    · omega
    · omega
    · omega
    · omega
    · rw [S.digN_len _ _ (by simp only [S.leN] at *; omega)]; simp; omega
    · omega
    · omega
    refine ⟨(x11 + nat_lit 1), ?_⟩
    try dsimp only
    refine ⟨⟨?_, ?_⟩, ⟨?_, ?_⟩⟩
    · omega
    · rw [show x7 = 8 by (simp only [S.leN] at *; omega)]
      exact S.digN_V _ x11 (by omega)
    · simp only [S.tailZ_len, S.tailL_len, S.tailInv, S.padZ, S.leN, S.meas, S.len, lc, ln] at *; omega
    simp only [S.tailZ_len, S.tailL_len, S.tailInv, S.padZ, S.leN, S.meas, S.len, lc, ln] at *; omega
  intro h14
  try simp only [df] at h14
  rw [show x11 = 8 by (simp only [S.leN] at *; omega)]
  rfl
theorem H_a7 (b : List UInt8) (hp : S.small b) (hf : Vg.Row.ok (Vg.PS.flat [.one (.slice [.int .u8])]) b) : V_a7 b := by
  unfold V_a7
  have hr_b : b.length ≤ 9223372036854775807 := hf.1.1
  clear hf
  refine ⟨?_, ⟨?_, ⟨?_, ?_⟩⟩⟩
  · trivial
  · exact ⟨S.ok_H0, rfl, rfl, hp⟩
  · simp only [S.small] at hp
    exact ⟨S.proc_ok _ _ S.ok_H0 _, by simp only [S.lenI]; omega, by simp only [S.lenI]; omega, by rw [S.restOf_len]; simp [S.lenI]⟩
  exact congrArg S.dig (S.proc_tail b _)
theorem H_a8 (b : List UInt8) (hp : b.length ≤ 140737488355328) (hf : Vg.Row.ok (Vg.PS.flat [.one (.slice [.int .u8])]) b) : V_a8 b := by
  unfold V_a8
  have hr_b : b.length ≤ 9223372036854775807 := hf.1.1
  clear hf
  refine ⟨?_, ?_⟩
  · omega
  rfl
theorem H_a9 (v : Int) (l : List UInt8) (hp : S.putPre l v) (hf : Vg.Row.ok (Vg.TA.tyss [.own 50000, .dat (.int .i64)]) v) (hg : Vg.BsD.ok [.row 5 [.int .u8]] (l, ())) : V_a9 v l := by
  unfold V_a9
  have hr_v : -9223372036854775808 ≤ v ∧ v ≤ 9223372036854775807 := hf.1
  have hr_l : l.length ≤ 9223372036854775807 := hg.1.1
  clear hf hg
  obtain ⟨hp1, hp2⟩ := hp
  refine ⟨?_, ?_⟩
  · refine ⟨((l), (v)), ?_⟩
    try dsimp only
    refine ⟨⟨?_, ?_⟩, ?_⟩
    · omega
    · rfl
    exact ⟨hp1, Int.le_refl _, rfl⟩
  intro x1
  intro h2
  refine ⟨?_, ?_⟩
  · intro h3
    try simp only [dt] at h3
    refine ⟨?_, ⟨?_, ⟨?_, ⟨⟨?_, ?_⟩, ?_⟩⟩⟩⟩
    · omega
    · omega
    · (have hl := S.put_len h2; have hu := S.put_le h2; simp; omega)
    · omega
    · omega
    refine ⟨((Prod.fst x1 ++ [UInt8.ofNat (Int.toNat (Vg.natOr (Vg.natAnd (Prod.snd x1) (127 : Int) % (256 : Int)) (128 : Int)))]), (Prod.snd x1 / (2 : Int) ^ Int.toNat (7 : Int))), ?_⟩
    try dsimp only
    refine ⟨⟨?_, ?_⟩, ⟨?_, ?_⟩⟩
    · omega
    · rfl
    · (have hl := S.put_len h2; have hu := S.put_le h2; exact S.put_step h2 h3 (by omega))
    (have hl := S.put_len h2; have hu := S.put_le h2; simp; omega)
  intro h4
  try simp only [df] at h4
  refine ⟨?_, ?_⟩
  · (have hl := S.put_len h2; have hu := S.put_le h2; simp; omega)
  (have hl := S.put_len h2; have hu := S.put_le h2; exact S.put_fin h2 h4)
theorem H_a10 (s : List UInt8) (l : List UInt8) (hp : S.textPre l s) (hf : Vg.Row.ok (Vg.TA.tyss [.own 50000, .dat (.str)]) s) (hg : Vg.BsD.ok [.row 5 [.int .u8]] (l, ())) : V_a10 s l := by
  unfold V_a10
  have hr_s : s.length ≤ 9223372036854775807 := hf.1
  have hr_l : l.length ≤ 9223372036854775807 := hg.1.1
  clear hf hg
  obtain ⟨hp1, hp2⟩ := hp
  have := S.num_len s.length
  refine ⟨?_, ⟨?_, ?_⟩⟩
  · simp only [S.putPre]; omega
  · simp only [List.length_append]; omega
  simp [S.text]
theorem H_a11 (b : List UInt8) (v : Int) (hp : b.length ≤ 35184372088832) (hf : Vg.Row.ok (Vg.PS.flat [.one (.slice [.int .u8]), .one (.int .i64)]) (b, v)) : V_a11 b v := by
  unfold V_a11
  have hr_b : b.length ≤ 9223372036854775807 := hf.1.1
  have hr_v : -9223372036854775808 ≤ v ∧ v ≤ 9223372036854775807 := hf.2.1
  clear hf
  refine ⟨?_, ?_⟩
  · intro h1
    try simp only [V.bor, dt] at h1
    refine ⟨?_, ?_⟩
    · grind [S.numB, S.numE, S.numBad]
    grind [S.numB, S.numE, S.numBad]
  intro h2
  try simp only [V.bor_f, df] at h2
  refine ⟨?_, ⟨?_, ⟨?_, ?_⟩⟩⟩
  · omega
  · exact ⟨by omega, by omega⟩
  · grind [S.numB, S.numE, S.numBad]
  grind [S.numB, S.numE, S.numBad]
theorem H_a12 (b : List UInt8) (s : List UInt8) (hp : S.textPre b s) (hf : Vg.Row.ok (Vg.PS.flat [.one (.slice [.int .u8]), .one (.str)]) (b, s)) : V_a12 b s := by
  unfold V_a12
  have hr_b : b.length ≤ 9223372036854775807 := hf.1.1
  have hr_s : s.length ≤ 9223372036854775807 := hf.2.1
  clear hf
  refine ⟨?_, ⟨?_, ?_⟩⟩
  · simp only [S.textPre] at *; omega
  · omega
  rfl
theorem H_a13 (r1 : List UInt8) (r2 : Int) (r3 : Int) (hp : True) (hf : Vg.Row.ok (Vg.PS.flat [.agg [.slice [.int .u8], .int .i64, .int .i64]]) (r1, r2, r3)) : V_a13 r1 r2 r3 := by
  unfold V_a13
  have hr_r1 : r1.length ≤ 9223372036854775807 := hf.1.1
  have hr_r2 : -9223372036854775808 ≤ r2 ∧ r2 ≤ 9223372036854775807 := hf.2.1
  have hr_r3 : -9223372036854775808 ≤ r3 ∧ r3 ≤ 9223372036854775807 := hf.2.2.1
  clear hf
  simp only [S.inside]; cases decide (0 ≤ r2) <;> rfl
theorem H_a14 (r1 : List UInt8) (r2 : Int) (r3 : Int) (hp : r1.length ≤ 140737488355328) (hf : Vg.Row.ok (Vg.PS.flat [.agg [.slice [.int .u8], .int .i64, .int .i64]]) (r1, r2, r3)) : V_a14 r1 r2 r3 := by
  unfold V_a14
  have hr_r1 : r1.length ≤ 9223372036854775807 := hf.1.1
  have hr_r2 : -9223372036854775808 ≤ r2 ∧ r2 ≤ 9223372036854775807 := hf.2.1
  have hr_r3 : -9223372036854775808 ≤ r3 ∧ r3 ≤ 9223372036854775807 := hf.2.2.1
  clear hf
  refine ⟨?_, ⟨⟨?_, ?_⟩, ⟨?_, ⟨?_, ?_⟩⟩⟩⟩
  · omega
  · intro h1
    try simp only [dt] at h1
    trivial
  · intro h2
    try simp only [df] at h2
    trivial
  · rfl
  · cases decide (r3 = 0) <;> cases S.inside r1 r2 <;> rfl
  simp only [S.startE]; by_cases h : r3 = 0 <;> cases S.inside r1 r2 <;> simp [h]
theorem H_a15 (b : List UInt8) (p : Int) (hp : S.atPre b p) (hf : Vg.Row.ok (Vg.PS.flat [.one (.slice [.int .u8]), .one (.int .i64)]) (b, p)) : V_a15 b p := by
  unfold V_a15
  have hr_b : b.length ≤ 9223372036854775807 := hf.1.1
  have hr_p : -9223372036854775808 ≤ p ∧ p ≤ 9223372036854775807 := hf.2.1
  clear hf
  have hp' := hp
  simp only [S.atPre] at hp'
  refine ⟨?_, ?_⟩
  · refine ⟨(nat_lit 0 : Nat), ?_⟩
    try dsimp only
    refine ⟨⟨?_, ?_⟩, ?_⟩
    · exact (S.val0 b p).symm
    · omega
    exact S.get0 hp
  intro x1
  intro h2
  refine ⟨?_, ?_⟩
  · intro h3
    try simp only [dt] at h3
    refine ⟨?_, ⟨?_, ?_⟩⟩
    · grind [S.get_9, S.get_end]
    · grind [S.get_9, S.get_end]
    grind [S.get_9, S.get_end]
  intro h4
  try simp only [df] at h4
  refine ⟨⟨?_, ?_⟩, ⟨?_, ?_⟩⟩
  · omega
  · omega
  · intro h5
    try simp only [dt] at h5
    refine ⟨?_, ⟨?_, ?_⟩⟩
    · grind [S.get_9, S.get_end]
    · grind [S.get_9, S.get_end]
    grind [S.get_9, S.get_end]
  intro h6
  try simp only [df] at h6
  refine ⟨⟨?_, ?_⟩, ⟨⟨?_, ?_⟩, ⟨⟨?_, ?_⟩, ⟨⟨?_, ?_⟩, ⟨⟨?_, ?_⟩, ⟨?_, ⟨?_, ⟨⟨?_, ?_⟩, ⟨?_, ?_⟩⟩⟩⟩⟩⟩⟩⟩⟩
  · omega
  · (have hg := S.get_bd h2; omega)
  · omega
  · (have hg := S.get_bd h2; omega)
  · omega
  · (have hg := S.get_bd h2; omega)
  · omega
  · (have hg := S.get_bd h2; omega)
  · have hg := S.get_bd h2
    have hn := S.natAnd_127 ((b.getD (p + (x1 : Int)).toNat 0).toNat : Int) (by omega)
    have hs := S.shl_bd (Vg.natAnd ((b.getD (p + (x1 : Int)).toNat 0).toNat : Int) 127) x1 (by omega) (by omega) (by omega)
    try clear h8
    try clear h9
    clear hn
    generalize Vg.natAnd ((b.getD (p + (x1 : Int)).toNat 0).toNat : Int) 127 * 2 ^ (7 * (x1 : Int)).toNat = z at *
    omega
  · have hg := S.get_bd h2
    have hn := S.natAnd_127 ((b.getD (p + (x1 : Int)).toNat 0).toNat : Int) (by omega)
    have hs := S.shl_bd (Vg.natAnd ((b.getD (p + (x1 : Int)).toNat 0).toNat : Int) 127) x1 (by omega) (by omega) (by omega)
    try clear h8
    try clear h9
    clear hn
    generalize Vg.natAnd ((b.getD (p + (x1 : Int)).toNat 0).toNat : Int) 127 * 2 ^ (7 * (x1 : Int)).toNat = z at *
    omega
  · (have hg := S.get_bd h2; have hv := S.val_bd (b := b) (p := p) hg.1; have hw := S.val_bd (b := b) (p := p) (x := x1 + 1) (by omega); have hn := S.natAnd_127 ((b.getD (p + (x1 : Int)).toNat 0).toNat : Int) (by omega); have hs := S.shl_bd (Vg.natAnd ((b.getD (p + (x1 : Int)).toNat 0).toNat : Int) 127) x1 (by omega) (by omega) (by omega); exact hv.1)
  · (have hg := S.get_bd h2; have hv := S.val_bd (b := b) (p := p) hg.1; have hw := S.val_bd (b := b) (p := p) (x := x1 + 1) (by omega); have hn := S.natAnd_127 ((b.getD (p + (x1 : Int)).toNat 0).toNat : Int) (by omega); have hs := S.shl_bd (Vg.natAnd ((b.getD (p + (x1 : Int)).toNat 0).toNat : Int) 127) x1 (by omega) (by omega) (by omega); exact hs.1)
  · omega
  · (have hg := S.get_bd h2; omega)
  · intro h7
    try simp only [dt] at h7
    refine ⟨⟨?_, ?_⟩, ⟨?_, ?_⟩⟩
    · intro h8
      try simp only [dt] at h8
      refine ⟨⟨?_, ?_⟩, ⟨⟨?_, ?_⟩, ⟨?_, ?_⟩⟩⟩
      · omega
      · have hg := S.get_bd h2
        have hn := S.natAnd_127 ((b.getD (p + (x1 : Int)).toNat 0).toNat : Int) (by omega)
        have hs := S.shl_bd (Vg.natAnd ((b.getD (p + (x1 : Int)).toNat 0).toNat : Int) 127) x1 (by omega) (by omega) (by omega)
        try clear h8
        try clear h9
        clear hn
        generalize Vg.natAnd ((b.getD (p + (x1 : Int)).toNat 0).toNat : Int) 127 * 2 ^ (7 * (x1 : Int)).toNat = z at *
        omega
      · omega
      · have hg := S.get_bd h2
        have hn := S.natAnd_127 ((b.getD (p + (x1 : Int)).toNat 0).toNat : Int) (by omega)
        have hs := S.shl_bd (Vg.natAnd ((b.getD (p + (x1 : Int)).toNat 0).toNat : Int) 127) x1 (by omega) (by omega) (by omega)
        try clear h8
        try clear h9
        clear hn
        generalize Vg.natAnd ((b.getD (p + (x1 : Int)).toNat 0).toNat : Int) 127 * 2 ^ (7 * (x1 : Int)).toNat = z at *
        omega
      · omega
      have hg := S.get_bd h2
      have hn := S.natAnd_127 ((b.getD (p + (x1 : Int)).toNat 0).toNat : Int) (by omega)
      have hs := S.shl_bd (Vg.natAnd ((b.getD (p + (x1 : Int)).toNat 0).toNat : Int) 127) x1 (by omega) (by omega) (by omega)
      try clear h8
      try clear h9
      clear hn
      generalize Vg.natAnd ((b.getD (p + (x1 : Int)).toNat 0).toNat : Int) 127 * 2 ^ (7 * (x1 : Int)).toNat = z at *
      omega
    · intro h9
      try simp only [df] at h9
      trivial
    · intro h10
      refine ⟨?_, ⟨?_, ?_⟩⟩
      · exact (S.getLeaf1 hp h2 (by have hg := S.get_bd h2; omega) (by omega) (by omega) h10).1
      · exact (S.getLeaf1 hp h2 (by have hg := S.get_bd h2; omega) (by omega) (by omega) h10).2.1
      exact (S.getLeaf1 hp h2 (by have hg := S.get_bd h2; omega) (by omega) (by omega) h10).2.2
    intro h11
    refine ⟨⟨?_, ?_⟩, ⟨?_, ⟨?_, ?_⟩⟩⟩
    · omega
    · clear h11
      have hg := S.get_bd h2
      omega
    · exact (S.getLeaf2 hp h2 (by have hg := S.get_bd h2; omega) (by omega) (by omega) h11).1
    · exact (S.getLeaf2 hp h2 (by have hg := S.get_bd h2; omega) (by omega) (by omega) h11).2.1
    exact (S.getLeaf2 hp h2 (by have hg := S.get_bd h2; omega) (by omega) (by omega) h11).2.2
  intro h12
  try simp only [df] at h12
  refine ⟨(x1 + nat_lit 1), ?_⟩
  try dsimp only
  refine ⟨⟨?_, ?_⟩, ⟨?_, ?_⟩⟩
  · (have hg := S.get_bd h2; have hv := S.val_bd (b := b) (p := p) hg.1; have hw := S.val_bd (b := b) (p := p) (x := x1 + 1) (by omega); have hn := S.natAnd_127 ((b.getD (p + (x1 : Int)).toNat 0).toNat : Int) (by omega); have hs := S.shl_bd (Vg.natAnd ((b.getD (p + (x1 : Int)).toNat 0).toNat : Int) 127) x1 (by omega) (by omega) (by omega); exact S.val_or hp h2 (by omega))
  · omega
  · (have hg := S.get_bd h2; exact S.get_step hp h2 (by omega) (by omega) (by omega))
  (have hg := S.get_bd h2; simp only [S.meas]; omega)
theorem H_a16 (b : List UInt8) (p : Int) (most : Int) (hp : S.atPre b p) (hf : Vg.Row.ok (Vg.PS.flat [.one (.slice [.int .u8]), .one (.int .i64), .one (.int .i64)]) (b, p, most)) : V_a16 b p most := by
  unfold V_a16
  have hr_b : b.length ≤ 9223372036854775807 := hf.1.1
  have hr_p : -9223372036854775808 ≤ p ∧ p ≤ 9223372036854775807 := hf.2.1
  have hr_most : -9223372036854775808 ≤ most ∧ most ≤ 9223372036854775807 := hf.2.2.1
  clear hf
  have hb := S.getNum_bd hp
  refine ⟨?_, ⟨?_, ?_⟩⟩
  · omega
  · intro h1
    try simp only [nt, df] at h1
    refine ⟨?_, ⟨?_, ?_⟩⟩
    · grind [S.getText]
    · grind [S.getText]
    grind [S.getText]
  intro h2
  try simp only [nf, dt] at h2
  refine ⟨?_, ?_⟩
  · intro h3
    try simp only [dt] at h3
    refine ⟨?_, ⟨?_, ?_⟩⟩
    · grind [S.getText]
    · grind [S.getText]
    grind [S.getText]
  intro h4
  try simp only [df] at h4
  refine ⟨⟨?_, ?_⟩, ⟨?_, ?_⟩⟩
  · omega
  · omega
  · intro h5
    try simp only [dt] at h5
    refine ⟨?_, ⟨?_, ?_⟩⟩
    · grind [S.getText]
    · grind [S.getText]
    grind [S.getText]
  intro h6
  try simp only [df] at h6
  refine ⟨⟨?_, ?_⟩, ⟨⟨?_, ⟨?_, ?_⟩⟩, ⟨⟨?_, ?_⟩, ⟨?_, ⟨?_, ?_⟩⟩⟩⟩⟩
  · omega
  · omega
  · omega
  · omega
  · omega
  · omega
  · omega
  · grind [S.getText]
  · grind [S.getText]
  grind [S.getText]
theorem H_a17 (r1 : List UInt8) (r2 : Int) (r3 : Int) (most : Int) (hp : r1.length ≤ 140737488355328) (hf : Vg.Row.ok (Vg.PS.flat [.agg [.slice [.int .u8], .int .i64, .int .i64], .one (.int .i64)]) (r1, r2, r3, most)) : V_a17 r1 r2 r3 most := by
  unfold V_a17
  have hr_r1 : r1.length ≤ 9223372036854775807 := hf.1.1
  have hr_r2 : -9223372036854775808 ≤ r2 ∧ r2 ≤ 9223372036854775807 := hf.2.1
  have hr_r3 : -9223372036854775808 ≤ r3 ∧ r3 ≤ 9223372036854775807 := hf.2.2.1
  have hr_most : -9223372036854775808 ≤ most ∧ most ≤ 9223372036854775807 := hf.2.2.2.1
  clear hf
  refine ⟨?_, ⟨?_, ?_⟩⟩
  · omega
  · intro h1
    try simp only [nt, df] at h1
    refine ⟨?_, ⟨?_, ⟨?_, ?_⟩⟩⟩
    · grind [S.readText, S.atPre, S.startE, S.inside]
    · grind [S.readText, S.atPre, S.startE, S.inside]
    · grind [S.readText, S.atPre, S.startE, S.inside]
    grind [S.readText, S.atPre, S.startE, S.inside]
  intro h2
  try simp only [nf, dt] at h2
  refine ⟨?_, ⟨?_, ?_⟩⟩
  · grind [S.readText, S.atPre, S.startE, S.inside]
  · intro h3
    try simp only [nt, df] at h3
    refine ⟨?_, ⟨?_, ⟨?_, ?_⟩⟩⟩
    · grind [S.readText, S.atPre, S.startE, S.inside]
    · grind [S.readText, S.atPre, S.startE, S.inside]
    · grind [S.readText, S.atPre, S.startE, S.inside]
    grind [S.readText, S.atPre, S.startE, S.inside]
  intro h4
  try simp only [nf, dt] at h4
  refine ⟨?_, ⟨?_, ⟨?_, ?_⟩⟩⟩
  · grind [S.readText, S.atPre, S.startE, S.inside]
  · grind [S.readText, S.atPre, S.startE, S.inside]
  · grind [S.readText, S.atPre, S.startE, S.inside]
  grind [S.readText, S.atPre, S.startE, S.inside]
theorem H_a18 (r1 : List UInt8) (r2 : Int) (r3 : Int) (hp : r1.length ≤ 140737488355328) (hf : Vg.Row.ok (Vg.PS.flat [.agg [.slice [.int .u8], .int .i64, .int .i64]]) (r1, r2, r3)) : V_a18 r1 r2 r3 := by
  unfold V_a18
  have hr_r1 : r1.length ≤ 9223372036854775807 := hf.1.1
  have hr_r2 : -9223372036854775808 ≤ r2 ∧ r2 ≤ 9223372036854775807 := hf.2.1
  have hr_r3 : -9223372036854775808 ≤ r3 ∧ r3 ≤ 9223372036854775807 := hf.2.2.1
  clear hf
  refine ⟨?_, ⟨?_, ?_⟩⟩
  · omega
  · intro h1
    try simp only [nt, df] at h1
    refine ⟨?_, ⟨?_, ⟨?_, ?_⟩⟩⟩
    · grind [S.readDigest, S.atPre, S.startE, S.inside]
    · grind [S.readDigest, S.atPre, S.startE, S.inside]
    · grind [S.readDigest, S.atPre, S.startE, S.inside]
    grind [S.readDigest, S.atPre, S.startE, S.inside]
  intro h2
  try simp only [nf, dt] at h2
  refine ⟨⟨?_, ?_⟩, ⟨?_, ?_⟩⟩
  · omega
  · grind [S.readDigest, S.atPre, S.startE, S.inside]
  · intro h3
    try simp only [dt] at h3
    refine ⟨?_, ⟨?_, ⟨?_, ?_⟩⟩⟩
    · grind [S.readDigest, S.atPre, S.startE, S.inside]
    · grind [S.readDigest, S.atPre, S.startE, S.inside]
    · grind [S.readDigest, S.atPre, S.startE, S.inside]
    grind [S.readDigest, S.atPre, S.startE, S.inside]
  intro h4
  try simp only [df] at h4
  refine ⟨⟨?_, ?_⟩, ⟨⟨?_, ⟨?_, ?_⟩⟩, ⟨⟨?_, ?_⟩, ⟨?_, ⟨?_, ⟨?_, ?_⟩⟩⟩⟩⟩⟩
  · omega
  · omega
  · grind [S.readDigest, S.atPre, S.startE, S.inside]
  · omega
  · omega
  · omega
  · omega
  · grind [S.readDigest, S.atPre, S.startE, S.inside]
  · grind [S.readDigest, S.atPre, S.startE, S.inside]
  · grind [S.readDigest, S.atPre, S.startE, S.inside]
  have h0 := S.startE_0 h2
  simp only [S.readDigest, List.drop_take, show (r2 + 32).toNat - r2.toNat = 32 by omega]
  (repeat' split) <;> first | rfl | omega | contradiction
theorem H_a19 (r1 : List UInt8) (r2 : Int) (r3 : Int) (hp : True) (hf : Vg.Row.ok (Vg.PS.flat [.agg [.slice [.int .u8], .int .i64, .int .i64]]) (r1, r2, r3)) : V_a19 r1 r2 r3 := by
  unfold V_a19
  have hr_r1 : r1.length ≤ 9223372036854775807 := hf.1.1
  have hr_r2 : -9223372036854775808 ≤ r2 ∧ r2 ≤ 9223372036854775807 := hf.2.1
  have hr_r3 : -9223372036854775808 ≤ r3 ∧ r3 ≤ 9223372036854775807 := hf.2.2.1
  clear hf
  refine ⟨?_, ?_⟩
  · intro h1
    try simp only [nt, df] at h1
    grind [S.done]
  intro h2
  try simp only [nf, dt] at h2
  refine ⟨?_, ⟨?_, ?_⟩⟩
  · trivial
  · intro h3
    try simp only [nt] at h3
    grind [S.done]
  intro h4
  try simp only [nf] at h4
  refine ⟨?_, ?_⟩
  · intro h5
    try simp only [dt] at h5
    grind [S.done]
  intro h6
  try simp only [df] at h6
  grind [S.done]
theorem H_a20 (kind : UInt8) (parts : List (List UInt8)) (hp : S.joinPre parts) (hf : Vg.Row.ok (Vg.PS.flat [.one (.int .u8), .one (.slice [.slice [.int .u8]])]) (kind, parts)) : V_a20 kind parts := by
  unfold V_a20
  have hr_parts : parts.length ≤ 9223372036854775807 := hf.2.1.1
  clear hf
  refine ⟨?_, ?_⟩
  · refine ⟨(nat_lit 0 : Nat), ?_⟩
    try dsimp only
    refine ⟨⟨?_, ?_⟩, ?_⟩
    · omega
    · exact S.joinAt_0 _ _
    simp only [S.minv, S.meas, S.len] at *; omega
  intro x1
  intro h2
  refine ⟨?_, ?_⟩
  · intro h3
    try simp only [dt] at h3
    refine ⟨⟨?_, ?_⟩, ⟨?_, ⟨⟨?_, ?_⟩, ?_⟩⟩⟩
    · omega
    · omega
    · exact S.join_len' kind hp (by omega)
    · omega
    · omega
    refine ⟨(x1 + nat_lit 1), ?_⟩
    try dsimp only
    refine ⟨⟨?_, ?_⟩, ⟨?_, ?_⟩⟩
    · omega
    · exact S.joinAt_succ _ _ _ (by omega)
    · simp only [S.minv, S.meas, S.len] at *; omega
    simp only [S.minv, S.meas, S.len] at *; omega
  intro h4
  try simp only [df] at h4
  exact S.joinAt_end _ _ _ (by omega)
theorem H_a21 (b : List UInt8) (hp : S.sealPre b) (hf : Vg.Row.ok (Vg.PS.flat [.one (.slice [.int .u8])]) b) : V_a21 b := by
  unfold V_a21
  have hr_b : b.length ≤ 9223372036854775807 := hf.1.1
  clear hf
  refine ⟨?_, ?_⟩
  · simp only [S.joinPre, S.sealPre] at *; simp; omega
  simp [S.sealJoin, S.sealB]
theorem H_a22 (b : List UInt8) (hp : S.sealPre b) (hf : Vg.Row.ok (Vg.PS.flat [.one (.slice [.int .u8])]) b) : V_a22 b := by
  unfold V_a22
  have hr_b : b.length ≤ 9223372036854775807 := hf.1.1
  clear hf
  refine ⟨?_, ⟨?_, ?_⟩⟩
  · exact hp
  · exact hp
  rfl
theorem H_a23 (c : Int) (hp : True) (hf : Vg.Row.ok (Vg.PS.flat [.one (.int .i64)]) c) : V_a23 c := by
  unfold V_a23
  have hr_c : -9223372036854775808 ≤ c ∧ c ≤ 9223372036854775807 := hf.1
  clear hf
  simp only [S.uRight]; grind
theorem H_a24 (c : Int) (hp : True) (hf : Vg.Row.ok (Vg.PS.flat [.one (.int .i64)]) c) : V_a24 c := by
  unfold V_a24
  have hr_c : -9223372036854775808 ≤ c ∧ c ≤ 9223372036854775807 := hf.1
  clear hf
  refine ⟨?_, ?_⟩
  · intro h1
    try simp only [dt] at h1
    grind [S.uSize]
  intro h2
  try simp only [df] at h2
  refine ⟨?_, ?_⟩
  · intro h3
    try simp only [dt] at h3
    grind [S.uSize]
  intro h4
  try simp only [df] at h4
  refine ⟨?_, ?_⟩
  · intro h5
    try simp only [dt] at h5
    grind [S.uSize]
  intro h6
  try simp only [df] at h6
  grind [S.uSize]
theorem H_a25 (c : Int) (hp : 0 ≤ c) (hf : Vg.Row.ok (Vg.PS.flat [.one (.int .i64)]) c) : V_a25 c := by
  unfold V_a25
  have hr_c : -9223372036854775808 ≤ c ∧ c ≤ 9223372036854775807 := hf.1
  clear hf
  have e : Vg.natAnd c 63 % 256 = c % 64 := by rw [S.natAnd_63 _ hp]; omega
  refine ⟨?_, ⟨?_, ?_⟩⟩
  · omega
  · omega
  rw [e, S.natOr_comm]
  exact S.more_V c
theorem H_a26 (c : Int) (hp : True) (hf : Vg.Row.ok (Vg.PS.flat [.one (.int .i64)]) c) : V_a26 c := by
  unfold V_a26
  have hr_c : -9223372036854775808 ≤ c ∧ c ≤ 9223372036854775807 := hf.1
  clear hf
  refine ⟨?_, ⟨?_, ?_⟩⟩
  · trivial
  · intro h1
    try simp only [nt] at h1
    refine ⟨?_, ?_⟩
    · simp only [S.encE, nt] at *
      grind
    simp only [S.encR, nt] at *
    grind
  intro h2
  try simp only [nf] at h2
  refine ⟨?_, ⟨?_, ?_⟩⟩
  · trivial
  · intro h3
    try simp only [dt] at h3
    refine ⟨?_, ?_⟩
    · (have hc := S.uRight_bd h2; simp only [S.encE, h2]; rfl)
    (have hc := S.uRight_bd h2; (simp only [S.encR, h2, if_true]; exact S.enc_V1 c hc.1 (by simp only [S.uSize] at *; grind)))
  intro h4
  try simp only [df] at h4
  refine ⟨?_, ?_⟩
  · intro h5
    try simp only [dt] at h5
    refine ⟨⟨?_, ?_⟩, ⟨?_, ⟨?_, ?_⟩⟩⟩
    · omega
    · omega
    · (have hc := S.uRight_bd h2; omega)
    · (have hc := S.uRight_bd h2; simp only [S.encE, h2]; rfl)
    (have hc := S.uRight_bd h2; (simp only [S.encR, h2, if_true]; exact S.enc_V2 c hc.1 (by simp only [S.uSize] at *; grind)))
  intro h6
  try simp only [df] at h6
  refine ⟨?_, ?_⟩
  · intro h7
    try simp only [dt] at h7
    refine ⟨⟨?_, ?_⟩, ⟨⟨?_, ?_⟩, ⟨?_, ⟨?_, ⟨?_, ?_⟩⟩⟩⟩⟩
    · omega
    · omega
    · omega
    · omega
    · (have hc := S.uRight_bd h2; simp only [show Int.toNat 6 = 6 by rfl, show Int.toNat 12 = 12 by rfl, show Int.toNat 18 = 18 by rfl]; omega)
    · (have hc := S.uRight_bd h2; omega)
    · (have hc := S.uRight_bd h2; simp only [S.encE, h2]; rfl)
    (have hc := S.uRight_bd h2; (simp only [S.encR, h2, if_true]; exact S.enc_V3 c hc.1 (by simp only [S.uSize] at *; grind)))
  intro h8
  try simp only [df] at h8
  refine ⟨⟨?_, ?_⟩, ⟨⟨?_, ?_⟩, ⟨?_, ⟨⟨?_, ?_⟩, ⟨?_, ⟨?_, ⟨?_, ?_⟩⟩⟩⟩⟩⟩⟩
  · omega
  · omega
  · omega
  · omega
  · (have hc := S.uRight_bd h2; simp only [show Int.toNat 6 = 6 by rfl, show Int.toNat 12 = 12 by rfl, show Int.toNat 18 = 18 by rfl]; omega)
  · omega
  · omega
  · (have hc := S.uRight_bd h2; simp only [show Int.toNat 6 = 6 by rfl, show Int.toNat 12 = 12 by rfl, show Int.toNat 18 = 18 by rfl]; omega)
  · (have hc := S.uRight_bd h2; omega)
  · (have hc := S.uRight_bd h2; simp only [S.encE, h2]; rfl)
  (have hc := S.uRight_bd h2; (simp only [S.encR, h2, if_true]; exact S.enc_V4 c hc.1 hc.2 (by simp only [S.uSize] at *; grind)))
theorem H_a27 (b : List UInt8) (hp : 0 < b.length) (hf : Vg.Row.ok (Vg.PS.flat [.one (.slice [.int .u8])]) b) : V_a27 b := by
  unfold V_a27
  have hr_b : b.length ≤ 9223372036854775807 := hf.1.1
  clear hf
  have hp' : (0 : Int) < b.length := by omega
  refine ⟨⟨?_, ?_⟩, ⟨?_, ?_⟩⟩
  · omega
  · omega
  · intro h1
    try simp only [dt] at h1
    refine ⟨?_, ?_⟩
    · rw [S.uf1 (b := b) (by with_reducible assumption)]
    rw [S.uf1 (b := b) (by with_reducible assumption)]
  intro h2
  try simp only [df] at h2
  refine ⟨⟨?_, ?_⟩, ⟨?_, ?_⟩⟩
  · omega
  · omega
  · intro h3
    try simp only [dt] at h3
    refine ⟨?_, ⟨?_, ⟨?_, ?_⟩⟩⟩
    · omega
    · omega
    · intro h4
      try simp only [dt] at h4
      refine ⟨?_, ?_⟩
      · (have hn := S.uN_2 (b := b) (by with_reducible assumption) (by with_reducible assumption); rw [S.uf_short hn (by omega) (by omega)])
      (have hn := S.uN_2 (b := b) (by with_reducible assumption) (by with_reducible assumption); rw [S.uf_short hn (by omega) (by omega)])
    intro h5
    try simp only [df] at h5
    refine ⟨⟨?_, ⟨?_, ?_⟩⟩, ⟨?_, ?_⟩⟩
    · omega
    · omega
    · omega
    · refine ⟨(nat_lit 0 : Nat), ?_⟩
      try dsimp only
      refine ⟨⟨?_, ?_⟩, ?_⟩
      · omega
      · (have hn := S.uN_2 (b := b) (by with_reducible assumption) (by with_reducible assumption); exact S.uC_2 (by with_reducible assumption))
      (have hn := S.uN_2 (b := b) (by with_reducible assumption) (by with_reducible assumption); exact S.uinv0 hn (by omega) (by omega))
    intro x6
    intro h7
    refine ⟨?_, ?_⟩
    · intro h8
      try simp only [dt] at h8
      refine ⟨⟨?_, ?_⟩, ⟨⟨?_, ?_⟩, ⟨?_, ?_⟩⟩⟩
      · omega
      · omega
      · omega
      · omega
      · intro h9
        try simp only [nt, df, tn] at h9
        refine ⟨?_, ?_⟩
        · have hn := S.uN_2 (b := b) (by with_reducible assumption) (by with_reducible assumption)
          have hb := S.uinv_bd h7
          have hx : (x6 : Int) + 1 < 2 := by (have hc := S.cut_len b 2 (by omega) (by omega); simp only [hc, show Int.toNat 2 = 2 by rfl] at *; omega)
          simp only [S.cut_get b 2 x6 hx, S.cut_get' b 2 x6 hx] at *
          rw [S.uf_cont hn h7 (by omega) (by with_reducible assumption)]
        have hn := S.uN_2 (b := b) (by with_reducible assumption) (by with_reducible assumption)
        have hb := S.uinv_bd h7
        have hx : (x6 : Int) + 1 < 2 := by (have hc := S.cut_len b 2 (by omega) (by omega); simp only [hc, show Int.toNat 2 = 2 by rfl] at *; omega)
        simp only [S.cut_get b 2 x6 hx, S.cut_get' b 2 x6 hx] at *
        rw [S.uf_cont hn h7 (by omega) (by with_reducible assumption)]
      intro h10
      try simp only [nf, dt, tn] at h10
      refine ⟨⟨?_, ?_⟩, ⟨⟨?_, ?_⟩, ⟨?_, ⟨?_, ⟨⟨?_, ?_⟩, ?_⟩⟩⟩⟩⟩
      · omega
      · omega
      · (have hn := S.uN_2 (b := b) (by with_reducible assumption) (by with_reducible assumption); (have hb := S.uinv_bd h7; (try simp only [S.cut_len b 2 (by omega) (by omega), show Int.toNat 2 = 2 by rfl] at *); simp only [show Int.toNat 6 = 6 by rfl, S.meas] at *; omega))
      · (have hn := S.uN_2 (b := b) (by with_reducible assumption) (by with_reducible assumption); (have hb := S.uinv_bd h7; (try simp only [S.cut_len b 2 (by omega) (by omega), show Int.toNat 2 = 2 by rfl] at *); simp only [show Int.toNat 6 = 6 by rfl, S.meas] at *; omega))
      · (have hn := S.uN_2 (b := b) (by with_reducible assumption) (by with_reducible assumption); (have hb := S.uinv_bd h7; (try simp only [S.cut_len b 2 (by omega) (by omega), show Int.toNat 2 = 2 by rfl] at *); simp only [show Int.toNat 6 = 6 by rfl, S.meas] at *; omega))
      · exact Int.natCast_nonneg _
      · omega
      · (have hn := S.uN_2 (b := b) (by with_reducible assumption) (by with_reducible assumption); (have hb := S.uinv_bd h7; (try simp only [S.cut_len b 2 (by omega) (by omega), show Int.toNat 2 = 2 by rfl] at *); omega))
      refine ⟨(x6 + nat_lit 1), ?_⟩
      try dsimp only
      refine ⟨⟨?_, ?_⟩, ⟨?_, ?_⟩⟩
      · omega
      · have hn := S.uN_2 (b := b) (by with_reducible assumption) (by with_reducible assumption)
        have hb := S.uinv_bd h7
        have hx : (x6 : Int) + 1 < 2 := by (have hc := S.cut_len b 2 (by omega) (by omega); simp only [hc, show Int.toNat 2 = 2 by rfl] at *; omega)
        rw [S.cut_get b 2 x6 hx]
        exact S.u_acc h7 (by omega)
      · have hn := S.uN_2 (b := b) (by with_reducible assumption) (by with_reducible assumption)
        have hb := S.uinv_bd h7
        have hx : (x6 : Int) + 1 < 2 := by (have hc := S.cut_len b 2 (by omega) (by omega); simp only [hc, show Int.toNat 2 = 2 by rfl] at *; omega)
        simp only [S.cut_get b 2 x6 hx, S.cut_get' b 2 x6 hx] at *
        exact S.u_step h7 (by with_reducible assumption) (by omega)
      (have hn := S.uN_2 (b := b) (by with_reducible assumption) (by with_reducible assumption); (have hb := S.uinv_bd h7; (try simp only [S.cut_len b 2 (by omega) (by omega), show Int.toNat 2 = 2 by rfl] at *); simp only [show Int.toNat 6 = 6 by rfl, S.meas] at *; omega))
    intro h11
    try simp only [df] at h11
    refine ⟨?_, ⟨⟨?_, ?_⟩, ⟨?_, ?_⟩⟩⟩
    · trivial
    · intro h12
      try simp only [nt] at h12
      trivial
    · intro h13
      try simp only [nf] at h13
      trivial
    · intro h14
      try simp only [V.bor, nt, df] at h14
      refine ⟨?_, ?_⟩
      · have hn := S.uN_2 (b := b) (by with_reducible assumption) (by with_reducible assumption)
        have hb := S.uinv_bd h7
        have hc := S.cut_len b 2 (by omega) (by omega)
        rw [hc] at h11
        have hx : x6 + 1 = 2 := by omega
        rw [S.uf_end1 hn h7 hx h14 rfl]
      have hn := S.uN_2 (b := b) (by with_reducible assumption) (by with_reducible assumption)
      have hb := S.uinv_bd h7
      have hc := S.cut_len b 2 (by omega) (by omega)
      rw [hc] at h11
      have hx : x6 + 1 = 2 := by omega
      rw [S.uf_end1 hn h7 hx h14 rfl]
    intro h15
    try simp only [V.bor_f, nf, dt] at h15
    refine ⟨?_, ?_⟩
    · have hn := S.uN_2 (b := b) (by with_reducible assumption) (by with_reducible assumption)
      have hb := S.uinv_bd h7
      have hc := S.cut_len b 2 (by omega) (by omega)
      rw [hc] at h11
      have hx : x6 + 1 = 2 := by omega
      rw [S.uf_end2 hn h7 hx h15 rfl]
    have hn := S.uN_2 (b := b) (by with_reducible assumption) (by with_reducible assumption)
    have hb := S.uinv_bd h7
    have hc := S.cut_len b 2 (by omega) (by omega)
    rw [hc] at h11
    have hx : x6 + 1 = 2 := by omega
    rw [S.uf_end2 hn h7 hx h15 rfl]
  intro h16
  try simp only [df] at h16
  refine ⟨⟨?_, ?_⟩, ⟨?_, ?_⟩⟩
  · omega
  · omega
  · intro h17
    try simp only [dt] at h17
    refine ⟨?_, ⟨?_, ⟨?_, ?_⟩⟩⟩
    · omega
    · omega
    · intro h18
      try simp only [dt] at h18
      refine ⟨?_, ?_⟩
      · (have hn := S.uN_3 (b := b) (by with_reducible assumption) (by with_reducible assumption) (by with_reducible assumption); rw [S.uf_short hn (by omega) (by omega)])
      (have hn := S.uN_3 (b := b) (by with_reducible assumption) (by with_reducible assumption) (by with_reducible assumption); rw [S.uf_short hn (by omega) (by omega)])
    intro h19
    try simp only [df] at h19
    refine ⟨⟨?_, ⟨?_, ?_⟩⟩, ⟨?_, ?_⟩⟩
    · omega
    · omega
    · omega
    · refine ⟨(nat_lit 0 : Nat), ?_⟩
      try dsimp only
      refine ⟨⟨?_, ?_⟩, ?_⟩
      · omega
      · (have hn := S.uN_3 (b := b) (by with_reducible assumption) (by with_reducible assumption) (by with_reducible assumption); exact S.uC_3 (by with_reducible assumption) (by with_reducible assumption))
      (have hn := S.uN_3 (b := b) (by with_reducible assumption) (by with_reducible assumption) (by with_reducible assumption); exact S.uinv0 hn (by omega) (by omega))
    intro x20
    intro h21
    refine ⟨?_, ?_⟩
    · intro h22
      try simp only [dt] at h22
      refine ⟨⟨?_, ?_⟩, ⟨⟨?_, ?_⟩, ⟨?_, ?_⟩⟩⟩
      · omega
      · omega
      · omega
      · omega
      · intro h23
        try simp only [nt, df, tn] at h23
        refine ⟨?_, ?_⟩
        · have hn := S.uN_3 (b := b) (by with_reducible assumption) (by with_reducible assumption) (by with_reducible assumption)
          have hb := S.uinv_bd h21
          have hx : (x20 : Int) + 1 < 3 := by (have hc := S.cut_len b 3 (by omega) (by omega); simp only [hc, show Int.toNat 3 = 3 by rfl] at *; omega)
          simp only [S.cut_get b 3 x20 hx, S.cut_get' b 3 x20 hx] at *
          rw [S.uf_cont hn h21 (by omega) (by with_reducible assumption)]
        have hn := S.uN_3 (b := b) (by with_reducible assumption) (by with_reducible assumption) (by with_reducible assumption)
        have hb := S.uinv_bd h21
        have hx : (x20 : Int) + 1 < 3 := by (have hc := S.cut_len b 3 (by omega) (by omega); simp only [hc, show Int.toNat 3 = 3 by rfl] at *; omega)
        simp only [S.cut_get b 3 x20 hx, S.cut_get' b 3 x20 hx] at *
        rw [S.uf_cont hn h21 (by omega) (by with_reducible assumption)]
      intro h24
      try simp only [nf, dt, tn] at h24
      refine ⟨⟨?_, ?_⟩, ⟨⟨?_, ?_⟩, ⟨?_, ⟨?_, ⟨⟨?_, ?_⟩, ?_⟩⟩⟩⟩⟩
      · omega
      · omega
      · (have hn := S.uN_3 (b := b) (by with_reducible assumption) (by with_reducible assumption) (by with_reducible assumption); (have hb := S.uinv_bd h21; (try simp only [S.cut_len b 3 (by omega) (by omega), show Int.toNat 3 = 3 by rfl] at *); simp only [show Int.toNat 6 = 6 by rfl, S.meas] at *; omega))
      · (have hn := S.uN_3 (b := b) (by with_reducible assumption) (by with_reducible assumption) (by with_reducible assumption); (have hb := S.uinv_bd h21; (try simp only [S.cut_len b 3 (by omega) (by omega), show Int.toNat 3 = 3 by rfl] at *); simp only [show Int.toNat 6 = 6 by rfl, S.meas] at *; omega))
      · (have hn := S.uN_3 (b := b) (by with_reducible assumption) (by with_reducible assumption) (by with_reducible assumption); (have hb := S.uinv_bd h21; (try simp only [S.cut_len b 3 (by omega) (by omega), show Int.toNat 3 = 3 by rfl] at *); simp only [show Int.toNat 6 = 6 by rfl, S.meas] at *; omega))
      · exact Int.natCast_nonneg _
      · omega
      · (have hn := S.uN_3 (b := b) (by with_reducible assumption) (by with_reducible assumption) (by with_reducible assumption); (have hb := S.uinv_bd h21; (try simp only [S.cut_len b 3 (by omega) (by omega), show Int.toNat 3 = 3 by rfl] at *); omega))
      refine ⟨(x20 + nat_lit 1), ?_⟩
      try dsimp only
      refine ⟨⟨?_, ?_⟩, ⟨?_, ?_⟩⟩
      · omega
      · have hn := S.uN_3 (b := b) (by with_reducible assumption) (by with_reducible assumption) (by with_reducible assumption)
        have hb := S.uinv_bd h21
        have hx : (x20 : Int) + 1 < 3 := by (have hc := S.cut_len b 3 (by omega) (by omega); simp only [hc, show Int.toNat 3 = 3 by rfl] at *; omega)
        rw [S.cut_get b 3 x20 hx]
        exact S.u_acc h21 (by omega)
      · have hn := S.uN_3 (b := b) (by with_reducible assumption) (by with_reducible assumption) (by with_reducible assumption)
        have hb := S.uinv_bd h21
        have hx : (x20 : Int) + 1 < 3 := by (have hc := S.cut_len b 3 (by omega) (by omega); simp only [hc, show Int.toNat 3 = 3 by rfl] at *; omega)
        simp only [S.cut_get b 3 x20 hx, S.cut_get' b 3 x20 hx] at *
        exact S.u_step h21 (by with_reducible assumption) (by omega)
      (have hn := S.uN_3 (b := b) (by with_reducible assumption) (by with_reducible assumption) (by with_reducible assumption); (have hb := S.uinv_bd h21; (try simp only [S.cut_len b 3 (by omega) (by omega), show Int.toNat 3 = 3 by rfl] at *); simp only [show Int.toNat 6 = 6 by rfl, S.meas] at *; omega))
    intro h25
    try simp only [df] at h25
    refine ⟨?_, ⟨⟨?_, ?_⟩, ⟨?_, ?_⟩⟩⟩
    · trivial
    · intro h26
      try simp only [nt] at h26
      trivial
    · intro h27
      try simp only [nf] at h27
      trivial
    · intro h28
      try simp only [V.bor, nt, df] at h28
      refine ⟨?_, ?_⟩
      · have hn := S.uN_3 (b := b) (by with_reducible assumption) (by with_reducible assumption) (by with_reducible assumption)
        have hb := S.uinv_bd h21
        have hc := S.cut_len b 3 (by omega) (by omega)
        rw [hc] at h25
        have hx : x20 + 1 = 3 := by omega
        rw [S.uf_end1 hn h21 hx h28 rfl]
      have hn := S.uN_3 (b := b) (by with_reducible assumption) (by with_reducible assumption) (by with_reducible assumption)
      have hb := S.uinv_bd h21
      have hc := S.cut_len b 3 (by omega) (by omega)
      rw [hc] at h25
      have hx : x20 + 1 = 3 := by omega
      rw [S.uf_end1 hn h21 hx h28 rfl]
    intro h29
    try simp only [V.bor_f, nf, dt] at h29
    refine ⟨?_, ?_⟩
    · have hn := S.uN_3 (b := b) (by with_reducible assumption) (by with_reducible assumption) (by with_reducible assumption)
      have hb := S.uinv_bd h21
      have hc := S.cut_len b 3 (by omega) (by omega)
      rw [hc] at h25
      have hx : x20 + 1 = 3 := by omega
      rw [S.uf_end2 hn h21 hx h29 rfl]
    have hn := S.uN_3 (b := b) (by with_reducible assumption) (by with_reducible assumption) (by with_reducible assumption)
    have hb := S.uinv_bd h21
    have hc := S.cut_len b 3 (by omega) (by omega)
    rw [hc] at h25
    have hx : x20 + 1 = 3 := by omega
    rw [S.uf_end2 hn h21 hx h29 rfl]
  intro h30
  try simp only [df] at h30
  refine ⟨⟨?_, ?_⟩, ⟨?_, ?_⟩⟩
  · omega
  · omega
  · intro h31
    try simp only [dt] at h31
    refine ⟨?_, ⟨?_, ⟨?_, ?_⟩⟩⟩
    · omega
    · omega
    · intro h32
      try simp only [dt] at h32
      refine ⟨?_, ?_⟩
      · (have hn := S.uN_4 (b := b) (by with_reducible assumption) (by with_reducible assumption) (by with_reducible assumption) (by with_reducible assumption); rw [S.uf_short hn (by omega) (by omega)])
      (have hn := S.uN_4 (b := b) (by with_reducible assumption) (by with_reducible assumption) (by with_reducible assumption) (by with_reducible assumption); rw [S.uf_short hn (by omega) (by omega)])
    intro h33
    try simp only [df] at h33
    refine ⟨⟨?_, ⟨?_, ?_⟩⟩, ⟨?_, ?_⟩⟩
    · omega
    · omega
    · omega
    · refine ⟨(nat_lit 0 : Nat), ?_⟩
      try dsimp only
      refine ⟨⟨?_, ?_⟩, ?_⟩
      · omega
      · (have hn := S.uN_4 (b := b) (by with_reducible assumption) (by with_reducible assumption) (by with_reducible assumption) (by with_reducible assumption); exact S.uC_4 (by with_reducible assumption) (by with_reducible assumption))
      (have hn := S.uN_4 (b := b) (by with_reducible assumption) (by with_reducible assumption) (by with_reducible assumption) (by with_reducible assumption); exact S.uinv0 hn (by omega) (by omega))
    intro x34
    intro h35
    refine ⟨?_, ?_⟩
    · intro h36
      try simp only [dt] at h36
      refine ⟨⟨?_, ?_⟩, ⟨⟨?_, ?_⟩, ⟨?_, ?_⟩⟩⟩
      · omega
      · omega
      · omega
      · omega
      · intro h37
        try simp only [nt, df, tn] at h37
        refine ⟨?_, ?_⟩
        · have hn := S.uN_4 (b := b) (by with_reducible assumption) (by with_reducible assumption) (by with_reducible assumption) (by with_reducible assumption)
          have hb := S.uinv_bd h35
          have hx : (x34 : Int) + 1 < 4 := by (have hc := S.cut_len b 4 (by omega) (by omega); simp only [hc, show Int.toNat 4 = 4 by rfl] at *; omega)
          simp only [S.cut_get b 4 x34 hx, S.cut_get' b 4 x34 hx] at *
          rw [S.uf_cont hn h35 (by omega) (by with_reducible assumption)]
        have hn := S.uN_4 (b := b) (by with_reducible assumption) (by with_reducible assumption) (by with_reducible assumption) (by with_reducible assumption)
        have hb := S.uinv_bd h35
        have hx : (x34 : Int) + 1 < 4 := by (have hc := S.cut_len b 4 (by omega) (by omega); simp only [hc, show Int.toNat 4 = 4 by rfl] at *; omega)
        simp only [S.cut_get b 4 x34 hx, S.cut_get' b 4 x34 hx] at *
        rw [S.uf_cont hn h35 (by omega) (by with_reducible assumption)]
      intro h38
      try simp only [nf, dt, tn] at h38
      refine ⟨⟨?_, ?_⟩, ⟨⟨?_, ?_⟩, ⟨?_, ⟨?_, ⟨⟨?_, ?_⟩, ?_⟩⟩⟩⟩⟩
      · omega
      · omega
      · (have hn := S.uN_4 (b := b) (by with_reducible assumption) (by with_reducible assumption) (by with_reducible assumption) (by with_reducible assumption); (have hb := S.uinv_bd h35; (try simp only [S.cut_len b 4 (by omega) (by omega), show Int.toNat 4 = 4 by rfl] at *); simp only [show Int.toNat 6 = 6 by rfl, S.meas] at *; omega))
      · (have hn := S.uN_4 (b := b) (by with_reducible assumption) (by with_reducible assumption) (by with_reducible assumption) (by with_reducible assumption); (have hb := S.uinv_bd h35; (try simp only [S.cut_len b 4 (by omega) (by omega), show Int.toNat 4 = 4 by rfl] at *); simp only [show Int.toNat 6 = 6 by rfl, S.meas] at *; omega))
      · (have hn := S.uN_4 (b := b) (by with_reducible assumption) (by with_reducible assumption) (by with_reducible assumption) (by with_reducible assumption); (have hb := S.uinv_bd h35; (try simp only [S.cut_len b 4 (by omega) (by omega), show Int.toNat 4 = 4 by rfl] at *); simp only [show Int.toNat 6 = 6 by rfl, S.meas] at *; omega))
      · exact Int.natCast_nonneg _
      · omega
      · (have hn := S.uN_4 (b := b) (by with_reducible assumption) (by with_reducible assumption) (by with_reducible assumption) (by with_reducible assumption); (have hb := S.uinv_bd h35; (try simp only [S.cut_len b 4 (by omega) (by omega), show Int.toNat 4 = 4 by rfl] at *); omega))
      refine ⟨(x34 + nat_lit 1), ?_⟩
      try dsimp only
      refine ⟨⟨?_, ?_⟩, ⟨?_, ?_⟩⟩
      · omega
      · have hn := S.uN_4 (b := b) (by with_reducible assumption) (by with_reducible assumption) (by with_reducible assumption) (by with_reducible assumption)
        have hb := S.uinv_bd h35
        have hx : (x34 : Int) + 1 < 4 := by (have hc := S.cut_len b 4 (by omega) (by omega); simp only [hc, show Int.toNat 4 = 4 by rfl] at *; omega)
        rw [S.cut_get b 4 x34 hx]
        exact S.u_acc h35 (by omega)
      · have hn := S.uN_4 (b := b) (by with_reducible assumption) (by with_reducible assumption) (by with_reducible assumption) (by with_reducible assumption)
        have hb := S.uinv_bd h35
        have hx : (x34 : Int) + 1 < 4 := by (have hc := S.cut_len b 4 (by omega) (by omega); simp only [hc, show Int.toNat 4 = 4 by rfl] at *; omega)
        simp only [S.cut_get b 4 x34 hx, S.cut_get' b 4 x34 hx] at *
        exact S.u_step h35 (by with_reducible assumption) (by omega)
      (have hn := S.uN_4 (b := b) (by with_reducible assumption) (by with_reducible assumption) (by with_reducible assumption) (by with_reducible assumption); (have hb := S.uinv_bd h35; (try simp only [S.cut_len b 4 (by omega) (by omega), show Int.toNat 4 = 4 by rfl] at *); simp only [show Int.toNat 6 = 6 by rfl, S.meas] at *; omega))
    intro h39
    try simp only [df] at h39
    refine ⟨?_, ⟨⟨?_, ?_⟩, ⟨?_, ?_⟩⟩⟩
    · trivial
    · intro h40
      try simp only [nt] at h40
      trivial
    · intro h41
      try simp only [nf] at h41
      trivial
    · intro h42
      try simp only [V.bor, nt, df] at h42
      refine ⟨?_, ?_⟩
      · have hn := S.uN_4 (b := b) (by with_reducible assumption) (by with_reducible assumption) (by with_reducible assumption) (by with_reducible assumption)
        have hb := S.uinv_bd h35
        have hc := S.cut_len b 4 (by omega) (by omega)
        rw [hc] at h39
        have hx : x34 + 1 = 4 := by omega
        rw [S.uf_end1 hn h35 hx h42 rfl]
      have hn := S.uN_4 (b := b) (by with_reducible assumption) (by with_reducible assumption) (by with_reducible assumption) (by with_reducible assumption)
      have hb := S.uinv_bd h35
      have hc := S.cut_len b 4 (by omega) (by omega)
      rw [hc] at h39
      have hx : x34 + 1 = 4 := by omega
      rw [S.uf_end1 hn h35 hx h42 rfl]
    intro h43
    try simp only [V.bor_f, nf, dt] at h43
    refine ⟨?_, ?_⟩
    · have hn := S.uN_4 (b := b) (by with_reducible assumption) (by with_reducible assumption) (by with_reducible assumption) (by with_reducible assumption)
      have hb := S.uinv_bd h35
      have hc := S.cut_len b 4 (by omega) (by omega)
      rw [hc] at h39
      have hx : x34 + 1 = 4 := by omega
      rw [S.uf_end2 hn h35 hx h43 rfl]
    have hn := S.uN_4 (b := b) (by with_reducible assumption) (by with_reducible assumption) (by with_reducible assumption) (by with_reducible assumption)
    have hb := S.uinv_bd h35
    have hc := S.cut_len b 4 (by omega) (by omega)
    rw [hc] at h39
    have hx : x34 + 1 = 4 := by omega
    rw [S.uf_end2 hn h35 hx h43 rfl]
  intro h44
  try simp only [df] at h44
  refine ⟨?_, ?_⟩
  · rw [S.uf0 (b := b) (by with_reducible assumption) (by with_reducible assumption) (by with_reducible assumption) (by with_reducible assumption)]
  rw [S.uf0 (b := b) (by with_reducible assumption) (by with_reducible assumption) (by with_reducible assumption) (by with_reducible assumption)]
theorem H_a28 (b : List UInt8) (hp : S.small b) (hf : Vg.Row.ok (Vg.PS.flat [.one (.slice [.int .u8])]) b) : V_a28 b := by
  unfold V_a28
  have hr_b : b.length ≤ 9223372036854775807 := hf.1.1
  clear hf
  simp only [S.small] at hp
  refine ⟨?_, ?_⟩
  · refine ⟨((b), ([])), ?_⟩
    try dsimp only
    refine ⟨⟨?_, ?_⟩, ?_⟩
    · with_reducible rfl
    · with_reducible rfl
    exact S.dec_0 b
  intro x1
  intro h2
  refine ⟨?_, ?_⟩
  · intro h3
    try simp only [dt] at h3
    refine ⟨?_, ⟨?_, ⟨⟨?_, ?_⟩, ?_⟩⟩⟩
    · omega
    · (have hd := S.dec_bd h2 (by with_reducible assumption); simp only [S.len, List.length_drop, lc, ln] at *; omega)
    · (have hd := S.dec_bd h2 (by with_reducible assumption); omega)
    · (have hd := S.dec_bd h2 (by with_reducible assumption); omega)
    refine ⟨((List.drop (Int.toNat (Prod.snd (S.uFirst (Prod.fst x1)))) (Prod.fst x1)), (Prod.snd x1 ++ [Prod.fst (S.uFirst (Prod.fst x1))])), ?_⟩
    try dsimp only
    refine ⟨⟨?_, ?_⟩, ⟨?_, ?_⟩⟩
    · with_reducible rfl
    · with_reducible rfl
    · exact S.dec_step h2 h3
    (have hd := S.dec_bd h2 (by with_reducible assumption); simp only [S.len, List.length_drop, lc, ln] at *; omega)
  intro h4
  try simp only [df] at h4
  exact (S.dec_end h2 (by with_reducible assumption))
theorem H_a29 (c : Int) (hp : True) (hf : Vg.Row.ok (Vg.PS.flat [.one (.int .i64)]) c) : V_a29 c := by
  unfold V_a29
  have hr_c : -9223372036854775808 ≤ c ∧ c ≤ 9223372036854775807 := hf.1
  clear hf
  refine ⟨?_, ?_⟩
  · refine ⟨(nat_lit 0 : Nat), ?_⟩
    try dsimp only
    refine ⟨?_, ?_⟩
    · omega
    simp [S.noLetter]
  intro x1
  intro h2
  refine ⟨?_, ?_⟩
  · intro h3
    try simp only [dt] at h3
    refine ⟨⟨?_, ?_⟩, ⟨?_, ?_⟩⟩
    · omega
    · omega
    · intro h4
      try simp only [V.band, dt, tn] at h4
      exact S.letter_V1 (x := x1) (by omega) (S.bif_t h4)
    intro h5
    try simp only [V.band_f, df, tn] at h5
    refine ⟨⟨?_, ?_⟩, ?_⟩
    · omega
    · omega
    refine ⟨(x1 + nat_lit 1), ?_⟩
    try dsimp only
    refine ⟨?_, ⟨?_, ?_⟩⟩
    · omega
    · exact S.letter_V2 (x := x1) h2 (by omega) (S.bif_f h5)
    simp only [S.meas]; omega
  intro h6
  try simp only [df] at h6
  exact S.letter_V3 h2 (by omega)
theorem H_a30 (c : Int) (hp : True) (hf : Vg.Row.ok (Vg.PS.flat [.one (.int .i64)]) c) : V_a30 c := by
  unfold V_a30
  have hr_c : -9223372036854775808 ≤ c ∧ c ≤ 9223372036854775807 := hf.1
  clear hf
  simp only [S.digit]; grind
theorem H_a31 (c : Int) (hp : True) (hf : Vg.Row.ok (Vg.PS.flat [.one (.int .i64)]) c) : V_a31 c := by
  unfold V_a31
  have hr_c : -9223372036854775808 ≤ c ∧ c ≤ 9223372036854775807 := hf.1
  clear hf
  refine ⟨?_, ?_⟩
  · refine ⟨(nat_lit 0 : Nat), ?_⟩
    try dsimp only
    refine ⟨?_, ?_⟩
    · omega
    simp [S.noShift]
  intro x1
  intro h2
  refine ⟨?_, ?_⟩
  · intro h3
    try simp only [dt] at h3
    refine ⟨⟨?_, ?_⟩, ⟨?_, ?_⟩⟩
    · omega
    · omega
    · intro h4
      try simp only [V.band, dt, tn] at h4
      refine ⟨⟨?_, ?_⟩, ?_⟩
      · have hs := (S.small_V1 (c := c) (x := x1) h2 h3 (S.bif_t h4)).2
        clear h4
        generalize List.getD [32, 32, 32, 32, 32, 80, 32] (Int.toNat (x1 : Int)) (0 : Int) = X at *
        omega
      · have hs := (S.small_V1 (c := c) (x := x1) h2 h3 (S.bif_t h4)).2
        clear h4
        generalize List.getD [32, 32, 32, 32, 32, 80, 32] (Int.toNat (x1 : Int)) (0 : Int) = X at *
        omega
      exact (S.small_V1 (x := x1) h2 (by omega) (S.bif_t h4)).1
    intro h5
    try simp only [V.band_f, df, tn] at h5
    refine ⟨⟨?_, ?_⟩, ?_⟩
    · omega
    · omega
    refine ⟨(x1 + nat_lit 1), ?_⟩
    try dsimp only
    refine ⟨?_, ⟨?_, ?_⟩⟩
    · omega
    · exact S.small_V2 (x := x1) h2 (by omega) (S.bif_f h5)
    simp only [S.meas]; omega
  intro h6
  try simp only [df] at h6
  exact S.small_V3 h2 (by omega)
theorem H_a32 (u : List Int) (hp : S.okC u) (hf : Vg.Row.ok (Vg.PS.flat [.one (.slice [.int .i64])]) u) : V_a32 u := by
  unfold V_a32
  have hr_u : u.length ≤ 9223372036854775807 := hf.1.1
  clear hf
  have hq := hp.1
  refine ⟨?_, ?_⟩
  · refine ⟨((nat_lit 0 : Nat), ([])), ?_⟩
    try dsimp only
    refine ⟨⟨?_, ?_⟩, ?_⟩
    · omega
    · rfl
    exact S.term_0 u
  intro x1
  intro h2
  refine ⟨?_, ?_⟩
  · intro h3
    try simp only [dt] at h3
    refine ⟨⟨?_, ?_⟩, ⟨?_, ⟨?_, ⟨⟨?_, ?_⟩, ⟨?_, ?_⟩⟩⟩⟩⟩
    · omega
    · omega
    · trivial
    · trivial
    · omega
    · have := h2.2.2; have := S.encR_len (S.smallC (List.getD u (Int.toNat (x1.1 : Int)) 0)); omega
    · intro h4
      try simp only [dt, tn] at h4
      exact S.term_stop h2 h3 h4
    intro h5
    try simp only [df, tn] at h5
    refine ⟨?_, ⟨⟨?_, ?_⟩, ?_⟩⟩
    · have := h2.2.2; have := S.encR_len (S.smallC (List.getD u (Int.toNat (x1.1 : Int)) 0)); omega
    · omega
    · omega
    refine ⟨((Prod.fst x1 + nat_lit 1), (Prod.snd x1 ++ S.encR (S.smallC (List.getD u (Int.toNat (↑(Prod.fst x1) : Int)) (0 : Int))))), ?_⟩
    try dsimp only
    refine ⟨⟨?_, ?_⟩, ⟨?_, ?_⟩⟩
    · omega
    · rfl
    · exact S.term_step h2 h3 h5
    simp only [S.meas, S.len]; omega
  intro h6
  try simp only [df] at h6
  exact S.term_end h2 (by with_reducible assumption)
theorem H_a33 (b : List UInt8) (hp : S.small b) (hf : Vg.Row.ok (Vg.PS.flat [.one (.slice [.int .u8])]) b) : V_a33 b := by
  unfold V_a33
  have hr_b : b.length ≤ 9223372036854775807 := hf.1.1
  clear hf
  have hp0 : b.length ≤ 1099511627776 := hp
  refine ⟨?_, ⟨?_, ?_⟩⟩
  · omega
  · refine ⟨((nat_lit 0 : Nat), (([]), ([]))), ?_⟩
    try dsimp only
    refine ⟨⟨?_, ⟨?_, ?_⟩⟩, ?_⟩
    · omega
    · with_reducible rfl
    · with_reducible rfl
    exact S.tok_0 _
  intro x1
  intro h2
  refine ⟨?_, ?_⟩
  · intro h3
    try simp only [dt] at h3
    refine ⟨⟨?_, ?_⟩, ⟨?_, ⟨?_, ⟨⟨?_, ?_⟩, ⟨?_, ?_⟩⟩⟩⟩⟩
    · omega
    · omega
    · omega
    · trivial
    · intro h4
      trivial
    · intro h5
      trivial
    · intro h6
      try simp only [V.bor] at h6
      refine ⟨?_, ⟨⟨?_, ?_⟩, ?_⟩⟩
      · (have hq := S.tok_bd h2 hp0; simp only [lc, ln]; omega)
      · omega
      · (have hq := S.tok_bd h2 hp0; omega)
      refine ⟨((Prod.fst x1 + nat_lit 1), ((Prod.fst (Prod.snd x1)), (Prod.snd (Prod.snd x1) ++ [List.getD (S.decode b) (Int.toNat (↑(Prod.fst x1) : Int)) (0 : Int)]))), ?_⟩
      try dsimp only
      refine ⟨⟨?_, ⟨?_, ?_⟩⟩, ⟨?_, ?_⟩⟩
      · omega
      · with_reducible rfl
      · with_reducible rfl
      · exact S.tok_word h2 h3 (S.wordC_t (by with_reducible assumption))
      (have hq := S.tok_bd h2 hp0; simp only [S.meas, S.len]; omega)
    intro h7
    try simp only [V.bor_f] at h7
    refine ⟨?_, ?_⟩
    · intro h8
      try simp only [dt] at h8
      refine ⟨?_, ⟨?_, ⟨⟨?_, ?_⟩, ?_⟩⟩⟩
      · (have hq := S.tok_bd h2 hp0; exact hq.1)
      · (have hq := S.tok_bd h2 hp0; simp only [lc, ln]; omega)
      · omega
      · (have hq := S.tok_bd h2 hp0; omega)
      refine ⟨((Prod.fst x1 + nat_lit 1), ((Prod.fst (Prod.snd x1) ++ [S.termOf (Prod.snd (Prod.snd x1))]), ([]))), ?_⟩
      try dsimp only
      refine ⟨⟨?_, ⟨?_, ?_⟩⟩, ⟨?_, ?_⟩⟩
      · omega
      · with_reducible rfl
      · with_reducible rfl
      · exact S.tok_cut h2 h3 (S.wordC_f (by with_reducible assumption)) (by with_reducible assumption)
      (have hq := S.tok_bd h2 hp0; simp only [S.meas, S.len]; omega)
    intro h9
    try simp only [df] at h9
    refine ⟨⟨?_, ?_⟩, ?_⟩
    · omega
    · (have hq := S.tok_bd h2 hp0; omega)
    refine ⟨((Prod.fst x1 + nat_lit 1), ((Prod.fst (Prod.snd x1)), (Prod.snd (Prod.snd x1)))), ?_⟩
    try dsimp only
    refine ⟨⟨?_, ⟨?_, ?_⟩⟩, ⟨?_, ?_⟩⟩
    · omega
    · with_reducible rfl
    · with_reducible rfl
    · exact S.tok_skip h2 h3 (S.wordC_f (by with_reducible assumption)) (by with_reducible assumption)
    (have hq := S.tok_bd h2 hp0; simp only [S.meas, S.len]; omega)
  intro h10
  try simp only [df] at h10
  refine ⟨?_, ?_⟩
  · intro h11
    try simp only [dt] at h11
    refine ⟨?_, ⟨?_, ?_⟩⟩
    · (have hq := S.tok_bd h2 hp0; exact hq.1)
    · (have hq := S.tok_bd h2 hp0; simp only [lc, ln]; omega)
    exact S.tok_end1 h2 (by with_reducible assumption) (by with_reducible assumption)
  intro h12
  try simp only [df] at h12
  exact S.tok_end2 h2 (by with_reducible assumption) (by with_reducible assumption)
theorem H_a34 (s : List UInt8) (hp : S.small s) (hf : Vg.Row.ok (Vg.PS.flat [.one (.str)]) s) : V_a34 s := by
  unfold V_a34
  have hr_s : s.length ≤ 9223372036854775807 := hf.1
  clear hf
  refine ⟨?_, ⟨⟨?_, ?_⟩, ?_⟩⟩
  · omega
  · intro h1
    try simp only [dt] at h1
    refine ⟨⟨?_, ?_⟩, ?_⟩
    · omega
    · omega
    omega
  · intro h2
    try simp only [df] at h2
    trivial
  exact S.isTerm_V s
theorem H_a35 (s : List UInt8) (hp : True) (hf : Vg.Row.ok (Vg.PS.flat [.one (.str)]) s) : V_a35 s := by
  unfold V_a35
  have hr_s : s.length ≤ 9223372036854775807 := hf.1
  clear hf
  simp
theorem H_a36 (a : List UInt8) (b : List UInt8) (hp : True) (hf : Vg.Row.ok (Vg.PS.flat [.one (.str), .one (.str)]) (a, b)) : V_a36 a b := by
  unfold V_a36
  have hr_a : a.length ≤ 9223372036854775807 := hf.1
  have hr_b : b.length ≤ 9223372036854775807 := hf.2.1
  clear hf
  refine ⟨?_, ⟨?_, ⟨?_, ?_⟩⟩⟩
  · trivial
  · trivial
  · intro h1
    refine ⟨?_, ?_⟩
    · intro h2
      simp only [S.cmpS] at *; grind [S.bl_irrefl, S.bl_tri, S.bl_asymm]
    intro h3
    simp only [S.cmpS] at *; grind [S.bl_irrefl, S.bl_tri, S.bl_asymm]
  intro h4
  refine ⟨?_, ?_⟩
  · intro h5
    simp only [S.cmpS] at *; grind [S.bl_irrefl, S.bl_tri, S.bl_asymm]
  intro h6
  refine ⟨?_, ?_⟩
  · intro h7
    simp only [S.cmpS] at *; grind [S.bl_irrefl, S.bl_tri, S.bl_asymm]
  intro h8
  refine ⟨?_, ?_⟩
  · intro h9
    try simp only [nt] at h9
    simp only [S.cmpS] at *; grind [S.bl_irrefl, S.bl_tri, S.bl_asymm]
  intro h10
  try simp only [nf] at h10
  simp only [S.cmpS] at *; grind [S.bl_irrefl, S.bl_tri, S.bl_asymm]
theorem H_a37 (a : List UInt8) (b : List UInt8) (hp : True) (hf : Vg.Row.ok (Vg.TA.tyss [.dat (.str), .dat (.str), .ref 50000 0]) (a, b)) (hg : Vg.BsD.ok [.cells [.fn (.func 85) [] []]] ((), ())) : V_a37 a b := by
  unfold V_a37
  have hr_a : a.length ≤ 9223372036854775807 := hf.1
  have hr_b : b.length ≤ 9223372036854775807 := hf.2.1
  clear hf hg
  refine ⟨?_, ?_⟩
  · trivial
  exact S.cmpS_0 a b
theorem H_a38 (l : List (List UInt8)) (hp : S.small l) (hf : Vg.Row.ok (Vg.TA.tyss [.own 50000, .fn (.func 114) [] [.ref 50001 0]]) ()) (hg : Vg.BsD.ok [.row 9 [.str], .cells [.fn (.func 85) [] []]] (l, ((), ()))) : V_a38 l := by
  unfold V_a38
  have hr_l : l.length ≤ 9223372036854775807 := hg.1.1
  clear hf hg
  have hp0 : l.length ≤ 1099511627776 := hp
  refine ⟨?_, ?_⟩
  · intro h1
    try simp only [dt] at h1
    exact S.cmp_short h1
  intro h2
  try simp only [df] at h2
  refine ⟨?_, ?_⟩
  · refine ⟨(nat_lit 1 : Nat), ?_⟩
    try dsimp only
    refine ⟨?_, ?_⟩
    · omega
    exact S.cmp_1 h2
  intro x3
  intro h4
  refine ⟨?_, ?_⟩
  · intro h5
    try simp only [dt] at h5
    refine ⟨⟨?_, ?_⟩, ⟨?_, ⟨⟨?_, ?_⟩, ⟨⟨?_, ?_⟩, ⟨?_, ⟨?_, ⟨?_, ?_⟩⟩⟩⟩⟩⟩⟩
    · omega
    · omega
    · omega
    · omega
    · omega
    · have := h4.1; omega
    · omega
    · omega
    · trivial
    · intro h6
      try simp only [dt, tn] at h6
      refine ⟨⟨?_, ?_⟩, ⟨?_, ?_⟩⟩
      · omega
      · omega
      · refine ⟨((x3), ((nat_lit 1 : Nat), ((l), (x3)))), ?_⟩
        try dsimp only
        refine ⟨⟨?_, ⟨?_, ?_⟩⟩, ⟨?_, ?_⟩⟩
        · omega
        · omega
        · trivial
        · exact S.cmp2_0 h4 h5 h6
        omega
      intro x7
      intro h8
      refine ⟨?_, ?_⟩
      · intro h9
        try simp only [dt, tn] at h9
        refine ⟨⟨?_, ?_⟩, ⟨?_, ⟨⟨?_, ?_⟩, ⟨⟨?_, ?_⟩, ⟨?_, ⟨?_, ⟨⟨?_, ?_⟩, ⟨⟨?_, ?_⟩, ?_⟩⟩⟩⟩⟩⟩⟩⟩
        · omega
        · omega
        · have q1 := h8.1.1; have q2 := h8.1.2.1; have q3 := h8.1.2.2.2.1; have q4 := h8.1.2.2.2.2.1; have q5 := h8.2; omega
        · omega
        · omega
        · have q1 := h8.1.1; have q2 := h8.1.2.1; have q3 := h8.1.2.2.2.1; have q4 := h8.1.2.2.2.2.1; have q5 := h8.2; omega
        · omega
        · have q1 := h8.1.1; have q2 := h8.1.2.1; have q3 := h8.1.2.2.2.1; have q4 := h8.1.2.2.2.2.1; have q5 := h8.2; omega
        · trivial
        · intro h10
          try simp only [nt, df, tn] at h10
          refine ⟨⟨?_, ?_⟩, ⟨?_, ⟨⟨?_, ?_⟩, ⟨?_, ⟨?_, ?_⟩⟩⟩⟩⟩
          · omega
          · omega
          · have q1 := h8.1.1; have q2 := h8.1.2.1; have q3 := h8.1.2.2.2.1; have q4 := h8.1.2.2.2.2.1; have q5 := h8.2; omega
          · omega
          · have q1 := h8.1.1; have q2 := h8.1.2.1; have q3 := h8.1.2.2.2.1; have q4 := h8.1.2.2.2.2.1; have q5 := h8.2; omega
          · have q1 := h8.1.1; have q2 := h8.1.2.1; have q3 := h8.1.2.2.2.1; have q4 := h8.1.2.2.2.2.1; have q5 := h8.2; omega
          · omega
          have q1 := h8.1.1; have q2 := h8.1.2.1; have q3 := h8.1.2.2.2.1; have q4 := h8.1.2.2.2.2.1; have q5 := h8.2; omega
        · intro h11
          try simp only [nf, dt, tn] at h11
          trivial
        · omega
        · omega
        refine ⟨((Int.toNat (bif !Decidable.decide (List.getD (Prod.fst (Prod.snd (Prod.snd x7))) (Int.toNat (↑x3 : Int) + Int.toNat (↑(Prod.fst (Prod.snd x7)) : Int)) [] = List.getD (Prod.fst (Prod.snd (Prod.snd x7))) (Int.toNat (↑x3 : Int) + Int.toNat ((↑(Prod.fst (Prod.snd x7)) : Int) - (1 : Int))) []) then (↑(Prod.fst x7) : Int) + (1 : Int) else (↑(Prod.fst x7) : Int))), ((Prod.fst (Prod.snd x7) + nat_lit 1), ((bif !Decidable.decide (List.getD (Prod.fst (Prod.snd (Prod.snd x7))) (Int.toNat (↑x3 : Int) + Int.toNat (↑(Prod.fst (Prod.snd x7)) : Int)) [] = List.getD (Prod.fst (Prod.snd (Prod.snd x7))) (Int.toNat (↑x3 : Int) + Int.toNat ((↑(Prod.fst (Prod.snd x7)) : Int) - (1 : Int))) []) then List.set (Prod.fst (Prod.snd (Prod.snd x7))) (Int.toNat (↑(Prod.fst x7) : Int)) (List.getD (Prod.fst (Prod.snd (Prod.snd x7))) (Int.toNat (↑x3 : Int) + Int.toNat (↑(Prod.fst (Prod.snd x7)) : Int)) []) else Prod.fst (Prod.snd (Prod.snd x7))), (x3)))), ?_⟩
        try dsimp only
        refine ⟨⟨?_, ⟨?_, ?_⟩⟩, ⟨⟨?_, ?_⟩, ?_⟩⟩
        · generalize (!decide (List.getD x7.2.2.1 (Int.toNat (x3 : Int) + Int.toNat (x7.2.1 : Int)) [] = List.getD x7.2.2.1 (Int.toNat (x3 : Int) + Int.toNat ((x7.2.1 : Int) - 1)) [])) = c
          cases c <;> simp only [cond_true, cond_false] <;> omega
        · omega
        · trivial
        · have q1 := h8.1.1
          have e3 : x7.2.2.2 = x3 := by have := h8.2; omega
          have hi := h8.1
          rw [e3] at hi
          have e1 : Int.toNat (x3 : Int) + Int.toNat (x7.2.1 : Int) = x3 + x7.2.1 := by omega
          have e2 : Int.toNat (x3 : Int) + Int.toNat ((x7.2.1 : Int) - 1) = x3 + x7.2.1 - 1 := by omega
          rw [e1, e2]
          by_cases hd : List.getD x7.2.2.1 (x3 + x7.2.1) [] = List.getD x7.2.2.1 (x3 + x7.2.1 - 1) []
          · rw [decide_eq_true hd]
            exact S.cmp2_skip hi (by omega) hd
          rw [decide_eq_false hd]
          exact S.cmp2_put hi (by omega) hd
        · omega
        simp only [S.meas, S.len]
        have q2 := h8.1.2.1
        omega
      intro h12
      try simp only [df, tn] at h12
      refine ⟨⟨?_, ?_⟩, ⟨?_, ⟨⟨?_, ?_⟩, ?_⟩⟩⟩
      · omega
      · have q1 := h8.1.2.1
        have q2 := h8.1.2.2.2.1
        have q3 := h8.1.2.2.2.2.1
        omega
      · have q1 := h8.1.2.1
        have q2 := h8.1.2.2.2.1
        have q3 := h8.1.2.2.2.2.1
        omega
      · omega
      · have q1 := h8.1.2.1
        have q2 := h8.1.2.2.2.1
        have q3 := h8.1.2.2.2.2.1
        simp only [List.length_append, List.length_take]
        omega
      have q1 := h8.1.2.1
      have q2 := h8.1.2.2.2.1
      have q3 := h8.1.2.2.2.2.1
      have e1 : Int.toNat (x7.1 : Int) = x7.1 := by omega
      rw [e1, S.take_clear (by omega)]
      exact S.cmp2_end h8.1 (by have := h8.2; omega)
    intro h13
    try simp only [df, tn] at h13
    refine ⟨⟨?_, ?_⟩, ?_⟩
    · omega
    · omega
    refine ⟨(x3 + nat_lit 1), ?_⟩
    try dsimp only
    refine ⟨?_, ⟨?_, ?_⟩⟩
    · omega
    · exact S.cmp_step h4 h5 h13
    simp only [S.meas, S.len]
    omega
  intro h14
  try simp only [df] at h14
  exact S.cmp_end h4 h14
theorem H_a42 (l : List (List UInt8)) (hp : S.small l) (hf : Vg.Row.ok (Vg.TA.tyss [.dat (.slice [.str]), .fn (.func 85) [] []]) l) (hg : Vg.BsD.ok [] ()) : V_a42 l := by
  unfold V_a42
  have hr_l : l.length ≤ 9223372036854775807 := hf.1.1
  clear hf hg
  refine ⟨?_, ⟨?_, ⟨?_, ?_⟩⟩⟩
  · exact hp
  · exact hp
  · exact S.sortS_small hp
  rfl
theorem H_a43 (b : List UInt8) (hp : S.small b) (hf : Vg.Row.ok (Vg.PS.flat [.one (.slice [.int .u8])]) b) : V_a43 b := by
  unfold V_a43
  have hr_b : b.length ≤ 9223372036854775807 := hf.1.1
  clear hf
  refine ⟨?_, ⟨?_, ?_⟩⟩
  · exact hp
  · exact S.terms_small hp
  exact S.set_law _
theorem H_a44 (l : List Int) (hp : True) (hf : Vg.Row.ok (Vg.PS.flat [.one (.slice [.int .i64])]) l) : V_a44 l := by
  unfold V_a44
  have hr_l : l.length ≤ 9223372036854775807 := hf.1.1
  clear hf
  refine ⟨?_, ?_⟩
  · refine ⟨(nat_lit 0 : Nat), ?_⟩
    try dsimp only
    refine ⟨⟨?_, ?_⟩, ?_⟩
    · omega
    · exact (S.prevI_0 l).symm
    exact S.post_0 l
  intro x1
  intro h2
  refine ⟨?_, ?_⟩
  · intro h3
    try simp only [dt] at h3
    refine ⟨⟨?_, ?_⟩, ⟨?_, ?_⟩⟩
    · omega
    · omega
    · intro h4
      try simp only [V.bor, dt, tn] at h4
      exact S.post_bad h3 h4
    intro h5
    try simp only [V.bor_f, df, tn] at h5
    refine ⟨⟨?_, ?_⟩, ?_⟩
    · omega
    · omega
    refine ⟨(x1 + nat_lit 1), ?_⟩
    try dsimp only
    refine ⟨⟨?_, ?_⟩, ⟨?_, ?_⟩⟩
    · omega
    · rw [S.prevI_succ, tn]
    · exact S.post_step h2 h3 h5
    simp only [S.meas, S.len]; omega
  intro h6
  try simp only [df] at h6
  exact S.post_end h2 (by with_reducible assumption)
theorem H_a45 (l : List Int) (hp : True) (hf : Vg.Row.ok (Vg.PS.flat [.one (.slice [.int .i64])]) l) : V_a45 l := by
  unfold V_a45
  have hr_l : l.length ≤ 9223372036854775807 := hf.1.1
  clear hf
  refine ⟨?_, ⟨?_, ?_⟩⟩
  · trivial
  · intro h1
    try simp only [nt] at h1
    refine ⟨?_, ?_⟩
    · simp only [S.postE, S.postW, h1]; rfl
    simp only [S.postE, S.postW, h1]; rfl
  intro h2
  try simp only [nf] at h2
  refine ⟨?_, ⟨?_, ?_⟩⟩
  · exact Nat.zero_le _
  · refine ⟨(nat_lit 0 : Nat), ?_⟩
    try dsimp only
    refine ⟨⟨?_, ⟨?_, ?_⟩⟩, ?_⟩
    · omega
    · exact (S.prevI_0 l).symm
    · have := S.post_len h2; rw [S.numB_nil (by omega) (by omega), S.postTo_0]
    omega
  intro x3
  intro h4
  refine ⟨?_, ?_⟩
  · intro h5
    try simp only [dt] at h5
    refine ⟨⟨?_, ?_⟩, ⟨⟨?_, ?_⟩, ⟨⟨?_, ?_⟩, ⟨?_, ⟨?_, ⟨⟨?_, ?_⟩, ?_⟩⟩⟩⟩⟩⟩
    · omega
    · omega
    · have := S.post_gap h2 h5; omega
    · have := S.post_gap h2 h5; omega
    · have := S.post_gap h2 h5; omega
    · have := S.post_gap h2 h5; omega
    · exact Nat.zero_le _
    · have := (S.post_gap_len h2 h5 (List.getD l (Int.toNat (x3 : Int)) 0 - S.prevI l x3 - 1)).1; omega
    · omega
    · omega
    refine ⟨(x3 + nat_lit 1), ?_⟩
    try dsimp only
    refine ⟨⟨?_, ⟨?_, ?_⟩⟩, ⟨?_, ?_⟩⟩
    · omega
    · rw [S.prevI_succ, tn]
    · exact S.post_gap_step h2 h5
    · omega
    simp only [S.meas, S.len]; omega
  intro h6
  try simp only [df] at h6
  refine ⟨?_, ?_⟩
  · simp only [S.postE, h2]; rfl
  rw [show x3 = l.length by omega]; exact S.postW_of h2
theorem H_a46 (l : List Int) (hp : True) (hf : Vg.Row.ok (Vg.PS.flat [.one (.slice [.int .i64])]) l) : V_a46 l := by
  unfold V_a46
  have hr_l : l.length ≤ 9223372036854775807 := hf.1.1
  clear hf
  refine ⟨?_, ⟨?_, ?_⟩⟩
  · trivial
  · intro h1
    try simp only [nt, df] at h1
    refine ⟨?_, ?_⟩
    · have hq : S.postR l = false := by
        cases hr : S.postR l with
        | false => rfl
        | true => exact absurd (by simp only [S.postE, hr]; rfl) h1
      simp only [S.postD, hq]; rfl
    rfl
  intro h2
  try simp only [nf, dt] at h2
  refine ⟨?_, ⟨?_, ?_⟩⟩
  · have hq : S.postR l = true := by
      cases hr : S.postR l with
      | true => rfl
      | false => simp only [S.postE, hr] at h2; exact absurd h2 (by decide)
    have hl := S.postB_len hq
    simp only [S.postW, S.postD, hq, if_true, S.sealPre]
    try (first | rfl | omega)
  · have hq : S.postR l = true := by
      cases hr : S.postR l with
      | true => rfl
      | false => simp only [S.postE, hr] at h2; exact absurd h2 (by decide)
    have hl := S.postB_len hq
    simp only [S.postW, S.postD, hq, if_true, S.sealPre]
    try (first | rfl | omega)
  omega
theorem H_a47 (a : List Int) (b : List Int) (hp : True) (hf : Vg.Row.ok (Vg.PS.flat [.one (.slice [.int .i64]), .one (.slice [.int .i64])]) (a, b)) : V_a47 a b := by
  unfold V_a47
  have hr_a : a.length ≤ 9223372036854775807 := hf.1.1
  have hr_b : b.length ≤ 9223372036854775807 := hf.2.1.1
  clear hf
  refine ⟨?_, ?_⟩
  · intro h1
    try simp only [nt, df] at h1
    exact S.same_len h1
  intro h2
  try simp only [nf, dt] at h2
  refine ⟨?_, ?_⟩
  · refine ⟨(nat_lit 0 : Nat), ?_⟩
    try dsimp only
    refine ⟨?_, ?_⟩
    · omega
    exact S.same_0 h2
  intro x3
  intro h4
  refine ⟨?_, ?_⟩
  · intro h5
    try simp only [dt] at h5
    refine ⟨⟨?_, ?_⟩, ⟨⟨?_, ?_⟩, ⟨?_, ?_⟩⟩⟩
    · omega
    · omega
    · omega
    · omega
    · intro h6
      try simp only [nt, df, tn] at h6
      exact S.same_bad h6
    intro h7
    try simp only [nf, dt, tn] at h7
    refine ⟨⟨?_, ?_⟩, ?_⟩
    · omega
    · omega
    refine ⟨(x3 + nat_lit 1), ?_⟩
    try dsimp only
    refine ⟨?_, ⟨?_, ?_⟩⟩
    · omega
    · exact S.same_step h4 h5 h7
    simp only [S.meas, S.len]; omega
  intro h8
  try simp only [df] at h8
  exact S.same_end h4 h8
theorem H_a48 (d : List (List UInt8 × List Int)) (hp : S.dictPre d) (hf : Vg.Row.ok (Vg.PS.flat [.one (.slice [.str, .slice [.int .i64]])]) d) : V_a48 d := by
  unfold V_a48
  have hr_d : d.length ≤ 9223372036854775807 := hf.1.1
  clear hf
  have hp0 := hp.1
  refine ⟨?_, ?_⟩
  · refine ⟨(nat_lit 0 : Nat), ?_⟩
    try dsimp only
    refine ⟨?_, ?_⟩
    · omega
    exact S.dR_0 d
  intro x1
  intro h2
  refine ⟨?_, ?_⟩
  · intro h3
    try simp only [dt] at h3
    refine ⟨⟨?_, ?_⟩, ⟨⟨?_, ?_⟩, ⟨?_, ?_⟩⟩⟩
    · omega
    · omega
    · intro h4
      try simp only [dt] at h4
      refine ⟨⟨?_, ?_⟩, ⟨?_, ?_⟩⟩
      · omega
      · omega
      · omega
      omega
    · intro h5
      try simp only [df] at h5
      trivial
    · intro h6
      try simp only [V.band, dt] at h6
      refine S.dR_bad h3 ((S.ent_false _ _).2 (.inl ⟨by omega, ?_⟩))
      have e : Int.toNat ((x1 : Int) - 1) = x1 - 1 := by omega
      have h62 := h6.2
      rw [e] at h62
      exact h62
    intro h7
    try simp only [V.band_f, df] at h7
    refine ⟨⟨?_, ?_⟩, ⟨?_, ?_⟩⟩
    · intro h8
      try simp only [dt, tn] at h8
      trivial
    · intro h9
      try simp only [df, tn] at h9
      refine ⟨?_, ⟨?_, ?_⟩⟩
      · trivial
      · intro h10
        try simp only [nt] at h10
        trivial
      intro h11
      try simp only [nf] at h11
      exact S.getD_pre hp
    · intro h12
      try simp only [V.bor, dt, tn, nt] at h12
      exact S.dR_bad h3 ((S.ent_false _ _).2 (.inr (h12.imp (fun q => by have : ((S.entD d x1).length : Int) = 0 := q; omega) id)))
    intro h13
    try simp only [V.bor_f, df, tn, nf] at h13
    refine ⟨⟨?_, ?_⟩, ?_⟩
    · omega
    · omega
    refine ⟨(x1 + nat_lit 1), ?_⟩
    try dsimp only
    refine ⟨?_, ⟨?_, ?_⟩⟩
    · omega
    · refine S.dR_step h2 h3 ((S.ent_iff _ _).2 ⟨?_, ?_, h13.2.1, h13.2.2⟩)
      rotate_left
      · have := h13.1
        simp only [S.entD]; omega
      rcases h7 with h7 | h7
      · left; omega
      right
      have e : Int.toNat ((x1 : Int) - 1) = x1 - 1 := by omega
      rw [e] at h7
      exact h7
    simp only [S.meas, S.len]; omega
  intro h14
  try simp only [df] at h14
  exact S.dR_end h2 (by with_reducible assumption)
theorem H_a49 (l1 : List UInt8) (l2 : List UInt8) (l3 : List UInt8) (hp : True) (hf : Vg.Row.ok (Vg.PS.flat [.agg [.str, .str, .str]]) (l1, l2, l3)) : V_a49 l1 l2 l3 := by
  unfold V_a49
  have hr_l1 : l1.length ≤ 9223372036854775807 := hf.1
  have hr_l2 : l2.length ≤ 9223372036854775807 := hf.2.1
  have hr_l3 : l3.length ≤ 9223372036854775807 := hf.2.2.1
  clear hf
  refine ⟨?_, ?_⟩
  · intro h1
    try simp only [V.bor, dt, nt, df] at h1
    refine ⟨?_, ?_⟩
    · have hq := S.linkOk_no h1
      simp only [S.linkW, S.linkE, hq]; rfl
    have hq := S.linkOk_no h1
    simp only [S.linkW, S.linkE, hq]; rfl
  intro h2
  try simp only [V.bor_f, df, nf, dt] at h2
  refine ⟨?_, ⟨?_, ⟨?_, ⟨?_, ?_⟩⟩⟩⟩
  · have hq := S.linkOk_yes h2
    have q := (S.linkOk_iff _ _ _).1 hq
    have t1 := S.text_len (s := l1); have t2 := S.text_len (s := l2)
    exact S.textPre_of (Nat.zero_le _) (by omega)
  · have hq := S.linkOk_yes h2
    have q := (S.linkOk_iff _ _ _).1 hq
    have t1 := S.text_len (s := l1); have t2 := S.text_len (s := l2)
    exact S.textPre_of (by rw [List.nil_append]; omega) (by omega)
  · have hq := S.linkOk_yes h2
    have q := (S.linkOk_iff _ _ _).1 hq
    have t1 := S.text_len (s := l1); have t2 := S.text_len (s := l2)
    simp only [List.length_append, ln]; omega
  · have hq := S.linkOk_yes h2
    have q := (S.linkOk_iff _ _ _).1 hq
    have t1 := S.text_len (s := l1); have t2 := S.text_len (s := l2)
    simp only [S.linkW, hq, if_true]; rfl
  have hq := S.linkOk_yes h2
  have q := (S.linkOk_iff _ _ _).1 hq
  have t1 := S.text_len (s := l1); have t2 := S.text_len (s := l2)
  simp only [S.linkE, hq, if_true]; done
theorem H_a50 (b : List UInt8) (hp : b.length ≤ 140737488355328) (hf : Vg.Row.ok (Vg.PS.flat [.one (.slice [.int .u8])]) b) : V_a50 b := by
  unfold V_a50
  clear hf
  refine ⟨hp, ?_, ?_, trivial, fun h => ?_, fun h => ?_⟩
  · rw [S.readText_b]; exact hp
  · rw [S.readText_b, S.readText_b]; exact hp
  · have h' : (!decide (S.done (S.rd3 b).1.1 (S.rd3 b).1.2.1 (S.rd3 b).1.2.2 = 0)) = true := h
    have e : S.readLink b = (([], [], []), S.done (S.rd3 b).1.1 (S.rd3 b).1.2.1 (S.rd3 b).1.2.2) := by
      unfold S.readLink; rw [if_neg]; intro hc; rw [decide_eq_true hc] at h'; cases h'
    rw [e]; exact ⟨rfl, rfl, rfl, rfl⟩
  have h' : (!decide (S.done (S.rd3 b).1.1 (S.rd3 b).1.2.1 (S.rd3 b).1.2.2 = 0)) = false := h
  have e : S.readLink b = (((S.rd1 b).2, (S.rd2 b).2, (S.rd3 b).2), 0) := by
    unfold S.readLink; rw [if_pos]; by_cases hc : S.done (S.rd3 b).1.1 (S.rd3 b).1.2.1 (S.rd3 b).1.2.2 = 0; exact hc; rw [decide_eq_false hc] at h'; cases h'
  rw [e]; exact ⟨rfl, rfl, rfl, rfl⟩
theorem H_a51 (d : List (List UInt8 × List Int)) (hp : S.dictPre d) (hf : Vg.Row.ok (Vg.PS.flat [.one (.slice [.str, .slice [.int .i64]])]) d) : V_a51 d := by
  unfold V_a51
  have hr_d : d.length ≤ 9223372036854775807 := hf.1.1
  clear hf
  have hp0 := hp.1
  refine ⟨?_, ⟨?_, ?_⟩⟩
  · omega
  · intro h1
    try simp only [nt] at h1
    refine ⟨?_, ?_⟩
    · simp only [S.dE, S.dLinks, h1]; rfl
    simp only [S.dE, S.dLinks, h1]; rfl
  intro h2
  try simp only [nf] at h2
  refine ⟨⟨?_, ?_⟩, ⟨?_, ?_⟩⟩
  · omega
  · omega
  · refine ⟨(nat_lit 0 : Nat), ?_⟩
    try dsimp only
    refine ⟨⟨?_, ?_⟩, ?_⟩
    · omega
    · rfl
    omega
  intro x3
  intro h4
  refine ⟨?_, ?_⟩
  · intro h5
    try simp only [dt] at h5
    refine ⟨⟨?_, ?_⟩, ⟨⟨?_, ?_⟩, ⟨?_, ⟨?_, ⟨?_, ⟨⟨?_, ?_⟩, ?_⟩⟩⟩⟩⟩⟩
    · intro h6
      try simp only [dt] at h6
      refine ⟨⟨?_, ?_⟩, ⟨⟨?_, ?_⟩, ⟨⟨?_, ?_⟩, ⟨?_, ?_⟩⟩⟩⟩
      · omega
      · omega
      · omega
      · omega
      · omega
      · omega
      · omega
      omega
    · intro h7
      try simp only [df] at h7
      trivial
    · intro h8
      try simp only [dt] at h8
      refine ⟨?_, ?_⟩
      · omega
      omega
    · intro h9
      try simp only [df] at h9
      trivial
    · trivial
    · trivial
    · rw [S.links_len]; simp only [lc, ln]; omega
    · omega
    · omega
    refine ⟨(x3 + nat_lit 1), ?_⟩
    try dsimp only
    refine ⟨⟨?_, ?_⟩, ⟨?_, ?_⟩⟩
    · omega
    · rw [S.link_V h2 (by omega), S.links_succ]
    · omega
    simp only [S.meas, S.len]; omega
  intro h10
  try simp only [df] at h10
  refine ⟨?_, ?_⟩
  · simp only [S.dE, h2]; rfl
  simp only [S.dLinks, h2, if_true]; rw [show x3 = d.length + 1 by omega]; rfl
theorem H_a52 (d : List (List UInt8 × List Int)) (t : List UInt8) (hp : S.dictPre d) (hf : Vg.Row.ok (Vg.PS.flat [.one (.slice [.str, .slice [.int .i64]]), .one (.str)]) (d, t)) : V_a52 d t := by
  unfold V_a52
  have hr_d : d.length ≤ 9223372036854775807 := hf.1.1
  have hr_t : t.length ≤ 9223372036854775807 := hf.2.1
  clear hf
  have hp0 := hp.1
  refine ⟨?_, ⟨?_, ?_⟩⟩
  · omega
  · intro h1
    try simp only [nt] at h1
    refine ⟨?_, ?_⟩
    · exact (S.dFind_no h1).1
    exact (S.dFind_no h1).2
  intro h2
  try simp only [nf] at h2
  refine ⟨?_, ?_⟩
  · refine ⟨(nat_lit 0 : Nat), ?_⟩
    try dsimp only
    refine ⟨⟨?_, ?_⟩, ?_⟩
    · omega
    · rfl
    omega
  intro x3
  intro h4
  refine ⟨?_, ?_⟩
  · intro h5
    try simp only [dt] at h5
    refine ⟨⟨?_, ?_⟩, ⟨⟨?_, ?_⟩, ?_⟩⟩
    · omega
    · omega
    · omega
    · omega
    refine ⟨(x3 + nat_lit 1), ?_⟩
    try dsimp only
    refine ⟨⟨?_, ?_⟩, ⟨?_, ?_⟩⟩
    · omega
    · exact S.find_V d t x3
    · omega
    simp only [S.meas, S.len]; omega
  intro h6
  try simp only [df] at h6
  refine ⟨⟨?_, ?_⟩, ⟨?_, ?_⟩⟩
  · intro h7
    try simp only [dt] at h7
    refine ⟨?_, ?_⟩
    · omega
    have := (S.find_le (d := d) (t := t) x3).2; omega
  · intro h8
    try simp only [df] at h8
    trivial
  · rw [show x3 = d.length by omega, S.dFind_V h2]; cases decide (0 ≤ S.dFind d t) <;> rfl
  rw [show x3 = d.length by omega]; exact S.findB_V h2
theorem H_a53 (d : List (List UInt8 × List Int)) (t : List UInt8) (hp : S.dictPre d) (hf : Vg.Row.ok (Vg.PS.flat [.one (.slice [.str, .slice [.int .i64]]), .one (.str)]) (d, t)) : V_a53 d t := by
  unfold V_a53
  have hr_d : d.length ≤ 9223372036854775807 := hf.1.1
  have hr_t : t.length ≤ 9223372036854775807 := hf.2.1
  clear hf
  have hp0 := hp
  refine ⟨?_, ⟨?_, ?_⟩⟩
  · exact hp
  · intro h1
    try simp only [nt] at h1
    exact S.docs_0 h1
  intro h2
  try simp only [nf] at h2
  refine ⟨⟨?_, ?_⟩, ⟨?_, ?_⟩⟩
  · exact (S.docs_1 h2).1
  · exact (S.docs_1 h2).2.1
  · exact S.docs_2 h2
  exact (S.docs_1 h2).2.2
theorem H_a55 (d : List (List UInt8 × List Int)) (hp : True) (hf : Vg.Row.ok (Vg.PS.flat [.one (.slice [.str, .slice [.int .i64]])]) d) : V_a55 d := by
  unfold V_a55
  have hr_d : d.length ≤ 9223372036854775807 := hf.1.1
  clear hf
  refine ⟨?_, ?_⟩
  · refine ⟨(nat_lit 0 : Nat), ?_⟩
    try dsimp only
    refine ⟨?_, ?_⟩
    · omega
    exact S.gd_0 d
  intro x1
  intro h2
  refine ⟨?_, ?_⟩
  · intro h3
    try simp only [dt] at h3
    refine ⟨⟨?_, ?_⟩, ⟨⟨?_, ?_⟩, ⟨?_, ?_⟩⟩⟩
    · omega
    · omega
    · intro h4
      try simp only [dt, tn] at h4
      trivial
    · intro h5
      try simp only [df, tn] at h5
      refine ⟨?_, ?_⟩
      · omega
      omega
    · intro h6
      try simp only [V.bor, dt, tn] at h6
      refine S.gd_bad h3 ?_
      simp only [S.entBig, Bool.or_eq_true, dt]; exact h6
    intro h7
    try simp only [V.bor_f, df, tn] at h7
    refine ⟨⟨?_, ?_⟩, ?_⟩
    · omega
    · omega
    refine ⟨(x1 + nat_lit 1), ?_⟩
    try dsimp only
    refine ⟨?_, ⟨?_, ?_⟩⟩
    · omega
    · refine S.gd_step h2 h3 ?_
      simp only [S.entBig, Bool.or_eq_false_iff, df]; exact h7
    simp only [S.meas, S.len]; omega
  intro h8
  try simp only [df] at h8
  exact S.gd_end h2 h8
theorem H_a56  (hp : True) (hf : Vg.Row.ok (Vg.PS.flat []) ()) : V_a56  := by
  unfold V_a56
  clear hf
  refine ⟨?_, ⟨?_, ⟨?_, ⟨?_, ⟨?_, ?_⟩⟩⟩⟩⟩
  · trivial
  · trivial
  · trivial
  · trivial
  · intro h1
    try simp only [V.bor, nt, df] at h1
    trivial
  intro h2
  try simp only [V.bor_f, nf, dt] at h2
  refine ⟨⟨?_, ?_⟩, ⟨?_, ⟨?_, ⟨⟨?_, ?_⟩, ?_⟩⟩⟩⟩
  · trivial
  · trivial
  · trivial
  · trivial
  · intro h3
    try simp only [dt] at h3
    refine ⟨?_, ?_⟩
    · intro h4
      try simp only [dt] at h4
      refine ⟨⟨?_, ?_⟩, ⟨?_, ?_⟩⟩
      · trivial
      · trivial
      · intro h5
        try simp only [dt] at h5
        refine ⟨⟨?_, ?_⟩, ⟨?_, ⟨?_, ?_⟩⟩⟩
        · trivial
        · trivial
        · trivial
        · intro h6
          refine ⟨?_, ⟨?_, ⟨?_, ?_⟩⟩⟩
          · trivial
          · trivial
          · intro h7
            refine ⟨?_, ?_⟩
            · intro h8
              try simp only [dt] at h8
              refine ⟨?_, ?_⟩
              · intro h9
                try simp only [dt] at h9
                refine ⟨?_, ?_⟩
                · intro h10
                  try simp only [dt] at h10
                  trivial
                intro h11
                try simp only [df] at h11
                trivial
              intro h12
              try simp only [df] at h12
              trivial
            intro h13
            try simp only [df] at h13
            trivial
          intro h14
          trivial
        intro h15
        trivial
      intro h16
      try simp only [df] at h16
      trivial
    intro h17
    try simp only [df] at h17
    trivial
  · intro h18
    try simp only [df] at h18
    trivial
  trivial
theorem H_a58 (d : List (List UInt8 × List Int)) (s : List UInt8) (hp : True) (hf : Vg.Row.ok (Vg.PS.flat [.one (.slice [.str, .slice [.int .i64]]), .one (.str)]) (d, s)) : V_a58 d s := by
  unfold V_a58
  have hr_d : d.length ≤ 9223372036854775807 := hf.1.1
  have hr_s : s.length ≤ 9223372036854775807 := hf.2.1
  clear hf
  refine ⟨?_, ⟨?_, ?_⟩⟩
  · trivial
  · intro h1
    try simp only [V.bor, dt] at h1
    refine ⟨?_, ?_⟩
    · trivial
    · rfl
  · intro h2
    try simp only [V.bor_f, df] at h2
    refine ⟨?_, ⟨?_, ?_⟩⟩
    · exact S.great_pre h2.1
    · intro h3
      try simp only [nt, df] at h3
      refine ⟨⟨?_, ?_⟩, ?_⟩
      · intro h4
        try simp only [dt] at h4
        trivial
      · intro h5
        try simp only [df] at h5
        trivial
      · rw [S.dE_no h3]; rfl
    · intro h6
      try simp only [nf, dt] at h6
      refine ⟨?_, ?_⟩
      · refine ⟨(nat_lit 0 : Nat), ?_⟩
        try dsimp only
        refine ⟨⟨?_, ?_⟩, ?_⟩
        · first | omega | trivial
        · first | omega | trivial
        · exact ⟨Nat.zero_le _, (S.dE_ok h6).1⟩
      · intro x7
        intro h8
        refine ⟨?_, ?_⟩
        · intro h9
          try simp only [dt] at h9
          refine ⟨⟨?_, ?_⟩, ⟨?_, ⟨?_, ⟨?_, ?_⟩⟩⟩⟩
          · first | omega | trivial
          · first | omega | trivial
          · first | omega | trivial
          · rw [(S.dE_ok h6).2] at h9 ⊢
            have q := S.links_len d (d.length + 1)
            have := S.link_len (S.dE_ok h6).1 (k := x7) (by unfold S.links at h9; omega)
            simp only [tn]
            omega
          · intro h10
            try simp only [nt, df, tn] at h10
            rw [(S.dE_ok h6).2] at h9 h10
            have q := S.links_len d (d.length + 1)
            rw [S.link_read (S.dE_ok h6).1 (by unfold S.links at h9; omega)] at h10
            exact absurd rfl h10
          · intro h11
            try simp only [nf, dt, tn] at h11
            refine ⟨⟨?_, ?_⟩, ⟨⟨?_, ?_⟩, ?_⟩⟩
            · intro h12
              try simp only [V.band, V.bor, dt, tn] at h12
              refine ⟨?_, ?_⟩
              · first | omega | trivial
              · have q := S.lies_le d s x7
                have := (S.great_pre h2.1).1
                have := h8.1
                omega
            · intro h13
              try simp only [V.band_f, V.bor_f, df, tn] at h13
              trivial
            · first | omega | trivial
            · have := (S.great_pre h2.1).1
              have := h8.1
              omega
            · refine ⟨(x7 + nat_lit 1), ?_⟩
              try dsimp only
              refine ⟨⟨?_, ?_⟩, ⟨?_, ?_⟩⟩
              · first | omega | trivial
              · rw [(S.dE_ok h6).2] at h9 ⊢
                have q := S.links_len d (d.length + 1)
                have q2 : S.readLink (List.getD (S.links d) (Int.toNat (x7 : Int)) []) = _ := S.link_read (S.dE_ok h6).1 (k := x7) (by unfold S.links at h9; omega)
                simp only [q2]
                rw [S.lies_bif, S.lies_succ]
                cases S.lies d s x7 <;> rfl
              · rw [(S.dE_ok h6).2] at h9
                have q := S.links_len d (d.length + 1)
                exact ⟨by unfold S.links at h9; omega, h8.2⟩
              · rw [(S.dE_ok h6).2] at h9
                have q := S.links_len d (d.length + 1)
                unfold S.links at h9
                simp only [S.meas, S.len]; omega
        · intro h14
          try simp only [df] at h14
          refine ⟨?_, ⟨⟨?_, ?_⟩, ?_⟩⟩
          · exact S.great_pre h2.1
          · intro h15
            try simp only [dt] at h15
            refine ⟨?_, ?_⟩
            · intro h16
              refine ⟨⟨?_, ?_⟩, ⟨?_, ?_⟩⟩
              · first | omega | trivial
              · have := (S.great_pre h2.1).1
                omega
              · intro h17
                try simp only [dt] at h17
                trivial
              · intro h18
                try simp only [df] at h18
                trivial
            · intro h19
              trivial
          · intro h20
            try simp only [df] at h20
            trivial
          · rw [(S.dE_ok h6).2] at h14 ⊢
            have q := S.links_len d (d.length + 1)
            have e : x7 = d.length + 1 := by have := h8.1; unfold S.links at h14; omega
            subst e
            rw [S.between h8.2 h2.2.2]
            unfold S.links
            rw [q]
            cases S.dFindB d s <;> simp
end Go
end
section
set_option linter.unusedVariables false
namespace Go.J
open Go Vg
def body (f : Func) : Code := f.body.getD .skip
def E0 : Env := { T := tab, sig := fun _ => none, glob := G0 }
abbrev p_a0 : List PS := [.one (.int .u32), .one (.int .i64)]
def F_a0 : Int × Int → Prop × AV × List AB := fun x => match x with
  | (x, k) => (S.rotPre x k, .int .u32 (S.rotl x k : Int), [])
def L_a0 : Int × Int → Nat → Option LoopAnn := fun _ _ => none
def s_a0 : Sig := sigOf p_a0 F_a0
def E_a0 : Env := Env.cons 98 s_a0 E0
abbrev p_a1 : List PS := []
def F_a1 : Unit → Prop × AV × List AB := fun x => match x with
  | () => (True, .agg [.int .u32 1779033703, .int .u32 3144134277, .int .u32 1013904242, .int .u32 2773480762, .int .u32 1359893119, .int .u32 2600822924, .int .u32 528734635, .int .u32 1541459225, .nil, .int .i64 0], [])
def L_a1 : Unit → Nat → Option LoopAnn := fun _ _ => none
def s_a1 : Sig := sigOf p_a1 F_a1
def E_a1 : Env := Env.cons 58 s_a1 E_a0
abbrev p_a2 : List PS := [.agg [.int .u32, .int .u32, .int .u32, .int .u32, .int .u32, .int .u32, .int .u32, .int .u32, .slice [.int .u8], .int .i64]]
def F_a2 : Int × Int × Int × Int × Int × Int × Int × Int × List UInt8 × Int → Prop × AV × List AB := fun x => match x with
  | (s1, s2, s3, s4, s5, s6, s7, s8, s9, s10) => (True, .bool (S.stValid s9 s10), [])
def L_a2 : Int × Int × Int × Int × Int × Int × Int × Int × List UInt8 × Int → Nat → Option LoopAnn := fun _ _ => none
def s_a2 : Sig := sigOf p_a2 F_a2
def E_a2 : Env := Env.cons 75 s_a2 E_a1
abbrev p_a3 : List PS := [.agg [.int .u32, .int .u32, .int .u32, .int .u32, .int .u32, .int .u32, .int .u32, .int .u32], .one (.slice [.int .u8])]
def F_a3 : Int × Int × Int × Int × Int × Int × Int × Int × List UInt8 → Prop × AV × List AB := fun x => match x with
  | (u1, u2, u3, u4, u5, u6, u7, u8, p) => (S.blkPre (u1, u2, u3, u4, u5, u6, u7, u8) p, .agg [.int .u32 ((S.block (u1, u2, u3, u4, u5, u6, u7, u8) p).1 : Int), .int .u32 ((S.block (u1, u2, u3, u4, u5, u6, u7, u8) p).2.1 : Int), .int .u32 ((S.block (u1, u2, u3, u4, u5, u6, u7, u8) p).2.2.1 : Int), .int .u32 ((S.block (u1, u2, u3, u4, u5, u6, u7, u8) p).2.2.2.1 : Int), .int .u32 ((S.block (u1, u2, u3, u4, u5, u6, u7, u8) p).2.2.2.2.1 : Int), .int .u32 ((S.block (u1, u2, u3, u4, u5, u6, u7, u8) p).2.2.2.2.2.1 : Int), .int .u32 ((S.block (u1, u2, u3, u4, u5, u6, u7, u8) p).2.2.2.2.2.2.1 : Int), .int .u32 ((S.block (u1, u2, u3, u4, u5, u6, u7, u8) p).2.2.2.2.2.2.2 : Int)], [])
def L_a3 : Int × Int × Int × Int × Int × Int × Int × Int × List UInt8 → Nat → Option LoopAnn := fun x => match x with
  | (u1, u2, u3, u4, u5, u6, u7, u8, p) => fun id => (match id with
    | 0 => some { τ := Nat, slots := [(26, fun k => .int .i64 ((k : Nat) : Int))], keys := [(5, fun k => .arr [.int .u32] (S.schedArr p k))], ren := [], drop := [], ties := [], inv := fun k => S.leN k 16, meas := fun k => S.meas 16 k }
    | 2 => some { τ := Nat, slots := [(7, fun k => .int .i64 ((k : Nat) : Int))], keys := [(5, fun k => .arr [.int .u32] (S.schedArr p k))], ren := [], drop := [], ties := [], inv := fun k => 16 ≤ k ∧ k ≤ 64, meas := fun k => S.meas 64 k }
    | 4 => some { τ := Nat, slots := [(124, fun k => .int .i64 ((k : Nat) : Int)), (12, fun k => .int .u32 (S.rnds (S.sched p 64) (u1, u2, u3, u4, u5, u6, u7, u8) k).1), (13, fun k => .int .u32 (S.rnds (S.sched p 64) (u1, u2, u3, u4, u5, u6, u7, u8) k).2.1), (14, fun k => .int .u32 (S.rnds (S.sched p 64) (u1, u2, u3, u4, u5, u6, u7, u8) k).2.2.1), (15, fun k => .int .u32 (S.rnds (S.sched p 64) (u1, u2, u3, u4, u5, u6, u7, u8) k).2.2.2.1), (16, fun k => .int .u32 (S.rnds (S.sched p 64) (u1, u2, u3, u4, u5, u6, u7, u8) k).2.2.2.2.1), (17, fun k => .int .u32 (S.rnds (S.sched p 64) (u1, u2, u3, u4, u5, u6, u7, u8) k).2.2.2.2.2.1), (18, fun k => .int .u32 (S.rnds (S.sched p 64) (u1, u2, u3, u4, u5, u6, u7, u8) k).2.2.2.2.2.2.1), (19, fun k => .int .u32 (S.rnds (S.sched p 64) (u1, u2, u3, u4, u5, u6, u7, u8) k).2.2.2.2.2.2.2)], keys := [], ren := [], drop := [], ties := [], inv := fun k => S.leN k 64, meas := fun k => S.meas 64 k }
    | _ => none)
def s_a3 : Sig := sigOf p_a3 F_a3
def E_a3 : Env := Env.cons 93 s_a3 E_a2
abbrev p_a4 : List PS := [.agg [.int .u32, .int .u32, .int .u32, .int .u32, .int .u32, .int .u32, .int .u32, .int .u32], .one (.slice [.int .u8])]
def F_a4 : Int × Int × Int × Int × Int × Int × Int × Int × List UInt8 → Prop × AV × List AB := fun x => match x with
  | (u1, u2, u3, u4, u5, u6, u7, u8, b) => (S.ok8 (u1, u2, u3, u4, u5, u6, u7, u8), .tup [.agg [.int .u32 ((((S.procAll (u1, u2, u3, u4, u5, u6, u7, u8) b, S.restOf b)).1).1 : Int), .int .u32 ((((S.procAll (u1, u2, u3, u4, u5, u6, u7, u8) b, S.restOf b)).1).2.1 : Int), .int .u32 ((((S.procAll (u1, u2, u3, u4, u5, u6, u7, u8) b, S.restOf b)).1).2.2.1 : Int), .int .u32 ((((S.procAll (u1, u2, u3, u4, u5, u6, u7, u8) b, S.restOf b)).1).2.2.2.1 : Int), .int .u32 ((((S.procAll (u1, u2, u3, u4, u5, u6, u7, u8) b, S.restOf b)).1).2.2.2.2.1 : Int), .int .u32 ((((S.procAll (u1, u2, u3, u4, u5, u6, u7, u8) b, S.restOf b)).1).2.2.2.2.2.1 : Int), .int .u32 ((((S.procAll (u1, u2, u3, u4, u5, u6, u7, u8) b, S.restOf b)).1).2.2.2.2.2.2.1 : Int), .int .u32 ((((S.procAll (u1, u2, u3, u4, u5, u6, u7, u8) b, S.restOf b)).1).2.2.2.2.2.2.2 : Int)], .sl [.int .u8] (((S.procAll (u1, u2, u3, u4, u5, u6, u7, u8) b, S.restOf b)).2)], [])
def L_a4 : Int × Int × Int × Int × Int × Int × Int × Int × List UInt8 → Nat → Option LoopAnn := fun x => match x with
  | (u1, u2, u3, u4, u5, u6, u7, u8, b) => fun id => (match id with
    | 0 => some { τ := Nat, slots := [(1, fun k => .sl [.int .u8] (S.dropBlk b k))], keys := [(2, fun k => .cells [.int .u32 (S.proc (u1, u2, u3, u4, u5, u6, u7, u8) b k).1, .int .u32 (S.proc (u1, u2, u3, u4, u5, u6, u7, u8) b k).2.1, .int .u32 (S.proc (u1, u2, u3, u4, u5, u6, u7, u8) b k).2.2.1, .int .u32 (S.proc (u1, u2, u3, u4, u5, u6, u7, u8) b k).2.2.2.1, .int .u32 (S.proc (u1, u2, u3, u4, u5, u6, u7, u8) b k).2.2.2.2.1, .int .u32 (S.proc (u1, u2, u3, u4, u5, u6, u7, u8) b k).2.2.2.2.2.1, .int .u32 (S.proc (u1, u2, u3, u4, u5, u6, u7, u8) b k).2.2.2.2.2.2.1, .int .u32 (S.proc (u1, u2, u3, u4, u5, u6, u7, u8) b k).2.2.2.2.2.2.2])], ren := [], drop := [], ties := [], inv := fun k => 64 * k ≤ b.length, meas := fun k => S.meas (S.blocks b) k }
    | _ => none)
def s_a4 : Sig := sigOf p_a4 F_a4
def E_a4 : Env := Env.cons 76 s_a4 E_a3
abbrev p_a5 : List PS := [.agg [.int .u32, .int .u32, .int .u32, .int .u32, .int .u32, .int .u32, .int .u32, .int .u32, .slice [.int .u8], .int .i64], .one (.slice [.int .u8])]
def F_a5 : Int × Int × Int × Int × Int × Int × Int × Int × List UInt8 × Int × List UInt8 → Prop × AV × List AB := fun x => match x with
  | (s1, s2, s3, s4, s5, s6, s7, s8, s9, s10, b) => (S.addPre (s1, s2, s3, s4, s5, s6, s7, s8) s9 s10 b, .agg [.int .u32 (S.procAll (s1, s2, s3, s4, s5, s6, s7, s8) b).1, .int .u32 (S.procAll (s1, s2, s3, s4, s5, s6, s7, s8) b).2.1, .int .u32 (S.procAll (s1, s2, s3, s4, s5, s6, s7, s8) b).2.2.1, .int .u32 (S.procAll (s1, s2, s3, s4, s5, s6, s7, s8) b).2.2.2.1, .int .u32 (S.procAll (s1, s2, s3, s4, s5, s6, s7, s8) b).2.2.2.2.1, .int .u32 (S.procAll (s1, s2, s3, s4, s5, s6, s7, s8) b).2.2.2.2.2.1, .int .u32 (S.procAll (s1, s2, s3, s4, s5, s6, s7, s8) b).2.2.2.2.2.2.1, .int .u32 (S.procAll (s1, s2, s3, s4, s5, s6, s7, s8) b).2.2.2.2.2.2.2, .sl [.int .u8] (S.restOf b), .int .i64 (S.lenI b)], [])
def L_a5 : Int × Int × Int × Int × Int × Int × Int × Int × List UInt8 × Int × List UInt8 → Nat → Option LoopAnn := fun _ _ => none
def s_a5 : Sig := sigOf p_a5 F_a5
def E_a5 : Env := Env.cons 57 s_a5 E_a4
abbrev p_a6 : List PS := [.agg [.int .u32, .int .u32, .int .u32, .int .u32, .int .u32, .int .u32, .int .u32, .int .u32, .slice [.int .u8], .int .i64]]
def F_a6 : Int × Int × Int × Int × Int × Int × Int × Int × List UInt8 × Int → Prop × AV × List AB := fun x => match x with
  | (s1, s2, s3, s4, s5, s6, s7, s8, s9, s10) => (S.endPre (s1, s2, s3, s4, s5, s6, s7, s8) s9 s10, .str (S.dig (S.procAll (s1, s2, s3, s4, s5, s6, s7, s8) (S.tail s9 s10))), [])
def L_a6 : Int × Int × Int × Int × Int × Int × Int × Int × List UInt8 × Int → Nat → Option LoopAnn := fun x => match x with
  | (s1, s2, s3, s4, s5, s6, s7, s8, s9, s10) => fun id => (match id with
    | 0 => some { τ := Nat, slots := [(3, fun k => .own 300)], keys := [(300, fun k => .row 5 [.int .u8] (S.tailZ s9 k) false)], ren := [(Vg.Loc.slot 3, 300)], drop := [101700, 101701, 101702, 43, 104300, 102000, 17, 102001, 102002, 20, 104301, 104302, 301], ties := [], inv := fun k => S.tailInv s9 k, meas := fun k => S.meas (S.padZ (S.len s9)) k }
    | 2 => some { τ := Nat, slots := [(32, fun k => .int .i64 ((k : Nat) : Int)), (3, fun k => .own 301)], keys := [(301, fun k => .row 5 [.int .u8] (S.tailL s9 s10 k) false)], ren := [(Vg.Loc.slot 3, 301)], drop := [300, 101700, 101701, 101702, 102700, 102701, 102702, 102000, 17, 102001, 102002, 20, 27], ties := [], inv := fun k => S.leN k 8, meas := fun k => S.meas 8 k }
    | 4 => some { τ := Nat, slots := [(54, fun k => .int .i64 ((k : Nat) : Int)), (8, fun k => .own 302)], keys := [(302, fun k => .row 5 [.int .u8] (S.digN (S.procAll (s1, s2, s3, s4, s5, s6, s7, s8) (S.tail s9 s10)) k) false)], ren := [(Vg.Loc.slot 8, 302)], drop := [52], ties := [], inv := fun k => S.leN k 8, meas := fun k => S.meas 8 k }
    | _ => none)
def s_a6 : Sig := sigOf p_a6 F_a6
def E_a6 : Env := Env.cons 56 s_a6 E_a5
abbrev p_a7 : List PS := [.one (.slice [.int .u8])]
def F_a7 : List UInt8 → Prop × AV × List AB := fun x => match x with
  | b => (S.small b, .str (S.sum b), [])
def L_a7 : List UInt8 → Nat → Option LoopAnn := fun _ _ => none
def s_a7 : Sig := sigOf p_a7 F_a7
def E_a7 : Env := Env.cons 42 s_a7 E_a6
abbrev p_a8 : List PS := [.one (.slice [.int .u8])]
def F_a8 : List UInt8 → Prop × AV × List AB := fun x => match x with
  | b => (b.length ≤ 140737488355328, .own 0, [.row 5 [.int .u8] (b) false])
def L_a8 : List UInt8 → Nat → Option LoopAnn := fun _ _ => none
def s_a8 : Sig := sigOf p_a8 F_a8
def E_a8 : Env := Env.cons 27 s_a8 E_a7
abbrev p_a9 : List TA := [.own 50000, .dat (.int .i64)]
abbrev q_a9 : List TB := [.row 5 [.int .u8]]
def F_a9 : Int → ((List UInt8) × Unit) → HRes := fun x y => match x, y with
  | v, (l, ()) => { pre := S.putPre l v, res := .own 60000, heap := [none], new := [.row 5 [.int .u8] (l ++ S.num v) false] }
def L_a9 : Int → ((List UInt8) × Unit) → Nat → Option LoopAnn := fun x y => match x, y with
  | v, (l, ()) => fun id => (match id with
    | 0 => some { τ := List UInt8 × Int, slots := [(1, fun k => .int .i64 k.2), (0, fun k => .own 300)], keys := [(300, fun k => .row 5 [.int .u8] k.1 false)], ren := [(Vg.Loc.slot 0, 300)], drop := [50000], ties := [], inv := fun k => S.putInv l v k.1 k.2, meas := fun k => k.2.toNat }
    | _ => none)
def s_a9 : HSig := hsigOf p_a9 q_a9 F_a9
def c_a9 : HSig := s_a9
def E_a9 : Env := Env.consH 39 [true, false] c_a9 E_a8
abbrev p_a10 : List TA := [.own 50000, .dat (.str)]
abbrev q_a10 : List TB := [.row 5 [.int .u8]]
def F_a10 : (List UInt8) → ((List UInt8) × Unit) → HRes := fun x y => match x, y with
  | s, (l, ()) => { pre := S.textPre l s, res := .own 60000, heap := [none], new := [.row 5 [.int .u8] (l ++ S.text s) false] }
def L_a10 : (List UInt8) → ((List UInt8) × Unit) → Nat → Option LoopAnn := fun _ _ _ => none
def s_a10 : HSig := hsigOf p_a10 q_a10 F_a10
def c_a10 : HSig := s_a10
def E_a10 : Env := Env.consH 26 [true, false] c_a10 E_a9
abbrev p_a11 : List PS := [.one (.slice [.int .u8]), .one (.int .i64)]
def F_a11 : List UInt8 × Int → Prop × AV × List AB := fun x => match x with
  | (b, v) => (b.length ≤ 35184372088832, .tup [.own 0, .int .i64 (((S.numB b v, S.numE v)).2 : Int)], [.row 5 [.int .u8] (((S.numB b v, S.numE v)).1) false])
def L_a11 : List UInt8 × Int → Nat → Option LoopAnn := fun _ _ => none
def s_a11 : Sig := sigOf p_a11 F_a11
def E_a11 : Env := Env.cons 41 s_a11 E_a10
abbrev p_a12 : List PS := [.one (.slice [.int .u8]), .one (.str)]
def F_a12 : List UInt8 × List UInt8 → Prop × AV × List AB := fun x => match x with
  | (b, s) => (S.textPre b s, .own 0, [.row 5 [.int .u8] (b ++ S.text s) false])
def L_a12 : List UInt8 × List UInt8 → Nat → Option LoopAnn := fun _ _ => none
def s_a12 : Sig := sigOf p_a12 F_a12
def E_a12 : Env := Env.cons 15 s_a12 E_a11
abbrev p_a13 : List PS := [.agg [.slice [.int .u8], .int .i64, .int .i64]]
def F_a13 : List UInt8 × Int × Int → Prop × AV × List AB := fun x => match x with
  | (r1, r2, r3) => (True, .bool (S.inside r1 r2), [])
def L_a13 : List UInt8 × Int × Int → Nat → Option LoopAnn := fun _ _ => none
def s_a13 : Sig := sigOf p_a13 F_a13
def E_a13 : Env := Env.cons 30 s_a13 E_a12
abbrev p_a14 : List PS := [.agg [.slice [.int .u8], .int .i64, .int .i64]]
def F_a14 : List UInt8 × Int × Int → Prop × AV × List AB := fun x => match x with
  | (r1, r2, r3) => (r1.length ≤ 140737488355328, .agg [.sl [.int .u8] (((r1, r2, S.startE r1 r2 r3)).1), .int .i64 (((r1, r2, S.startE r1 r2 r3)).2.1 : Int), .int .i64 (((r1, r2, S.startE r1 r2 r3)).2.2 : Int)], [])
def L_a14 : List UInt8 × Int × Int → Nat → Option LoopAnn := fun _ _ => none
def s_a14 : Sig := sigOf p_a14 F_a14
def E_a14 : Env := Env.cons 28 s_a14 E_a13
abbrev p_a15 : List PS := [.one (.slice [.int .u8]), .one (.int .i64)]
def F_a15 : List UInt8 × Int → Prop × AV × List AB := fun x => match x with
  | (b, p) => (S.atPre b p, .tup [.int .i64 ((S.getNum b p).1 : Int), .int .i64 ((S.getNum b p).2.1 : Int), .int .i64 ((S.getNum b p).2.2 : Int)], [])
def L_a15 : List UInt8 × Int → Nat → Option LoopAnn := fun x => match x with
  | (b, p) => fun id => (match id with
    | 0 => some { τ := Nat, slots := [(7, fun k => .int .i64 (S.valAt b p k)), (8, fun k => .int .i64 ((k : Nat) : Int))], keys := [], ren := [], drop := [], ties := [], inv := fun k => S.getInv b p k, meas := fun k => S.meas 9 k }
    | _ => none)
def s_a15 : Sig := sigOf p_a15 F_a15
def E_a15 : Env := Env.cons 40 s_a15 E_a14
abbrev p_a16 : List PS := [.one (.slice [.int .u8]), .one (.int .i64), .one (.int .i64)]
def F_a16 : List UInt8 × Int × Int → Prop × AV × List AB := fun x => match x with
  | (b, p, most) => (S.atPre b p, .tup [.str ((S.getText b p most).1), .int .i64 ((S.getText b p most).2.1 : Int), .int .i64 ((S.getText b p most).2.2 : Int)], [])
def L_a16 : List UInt8 × Int × Int → Nat → Option LoopAnn := fun _ _ => none
def s_a16 : Sig := sigOf p_a16 F_a16
def E_a16 : Env := Env.cons 29 s_a16 E_a15
abbrev p_a17 : List PS := [.agg [.slice [.int .u8], .int .i64, .int .i64], .one (.int .i64)]
def F_a17 : List UInt8 × Int × Int × Int → Prop × AV × List AB := fun x => match x with
  | (r1, r2, r3, most) => (r1.length ≤ 140737488355328, .tup [.agg [.sl [.int .u8] (((S.readText r1 r2 r3 most).1).1), .int .i64 (((S.readText r1 r2 r3 most).1).2.1 : Int), .int .i64 (((S.readText r1 r2 r3 most).1).2.2 : Int)], .str ((S.readText r1 r2 r3 most).2)], [])
def L_a17 : List UInt8 × Int × Int × Int → Nat → Option LoopAnn := fun _ _ => none
def s_a17 : Sig := sigOf p_a17 F_a17
def E_a17 : Env := Env.cons 16 s_a17 E_a16
abbrev p_a18 : List PS := [.agg [.slice [.int .u8], .int .i64, .int .i64]]
def F_a18 : List UInt8 × Int × Int → Prop × AV × List AB := fun x => match x with
  | (r1, r2, r3) => (r1.length ≤ 140737488355328, .tup [.agg [.sl [.int .u8] (((S.readDigest r1 r2 r3).1).1), .int .i64 (((S.readDigest r1 r2 r3).1).2.1 : Int), .int .i64 (((S.readDigest r1 r2 r3).1).2.2 : Int)], .str ((S.readDigest r1 r2 r3).2)], [])
def L_a18 : List UInt8 × Int × Int → Nat → Option LoopAnn := fun _ _ => none
def s_a18 : Sig := sigOf p_a18 F_a18
def E_a18 : Env := Env.cons 17 s_a18 E_a17
abbrev p_a19 : List PS := [.agg [.slice [.int .u8], .int .i64, .int .i64]]
def F_a19 : List UInt8 × Int × Int → Prop × AV × List AB := fun x => match x with
  | (r1, r2, r3) => (True, .int .i64 (S.done r1 r2 r3 : Int), [])
def L_a19 : List UInt8 × Int × Int → Nat → Option LoopAnn := fun _ _ => none
def s_a19 : Sig := sigOf p_a19 F_a19
def E_a19 : Env := Env.cons 18 s_a19 E_a18
abbrev p_a20 : List PS := [.one (.int .u8), .one (.slice [.slice [.int .u8]])]
def F_a20 : UInt8 × List (List UInt8) → Prop × AV × List AB := fun x => match x with
  | (kind, parts) => (S.joinPre parts, .own 0, [.row 5 [.int .u8] (S.sealJoin kind parts) false])
def L_a20 : UInt8 × List (List UInt8) → Nat → Option LoopAnn := fun x => match x with
  | (kind, parts) => fun id => (match id with
    | 0 => some { τ := Nat, slots := [(12, fun k => .int .i64 ((k : Nat) : Int)), (5, fun k => .own 300)], keys := [(300, fun k => .row 5 [.int .u8] (S.joinAt kind parts k) false)], ren := [(Vg.Loc.slot 5, 300)], drop := [9], ties := [], inv := fun k => S.minv parts k, meas := fun k => S.meas (S.len parts) k }
    | _ => none)
def s_a20 : Sig := sigOf p_a20 F_a20
def E_a20 : Env := Env.cons 59 s_a20 E_a19
abbrev p_a21 : List PS := [.one (.slice [.int .u8])]
def F_a21 : List UInt8 → Prop × AV × List AB := fun x => match x with
  | b => (S.sealPre b, .own 0, [.row 5 [.int .u8] (S.sealB 2 b) false])
def L_a21 : List UInt8 → Nat → Option LoopAnn := fun _ _ => none
def s_a21 : Sig := sigOf p_a21 F_a21
def E_a21 : Env := Env.cons 43 s_a21 E_a20
abbrev p_a22 : List PS := [.one (.slice [.int .u8])]
def F_a22 : List UInt8 → Prop × AV × List AB := fun x => match x with
  | b => (S.sealPre b, .str (S.sealD 2 b), [])
def L_a22 : List UInt8 → Nat → Option LoopAnn := fun _ _ => none
def s_a22 : Sig := sigOf p_a22 F_a22
def E_a22 : Env := Env.cons 32 s_a22 E_a21
abbrev p_a23 : List PS := [.one (.int .i64)]
def F_a23 : Int → Prop × AV × List AB := fun x => match x with
  | c => (True, .bool (S.uRight c), [])
def L_a23 : Int → Nat → Option LoopAnn := fun _ _ => none
def s_a23 : Sig := sigOf p_a23 F_a23
def E_a23 : Env := Env.cons 85 s_a23 E_a22
abbrev p_a24 : List PS := [.one (.int .i64)]
def F_a24 : Int → Prop × AV × List AB := fun x => match x with
  | c => (True, .int .i64 (S.uSize c : Int), [])
def L_a24 : Int → Nat → Option LoopAnn := fun _ _ => none
def s_a24 : Sig := sigOf p_a24 F_a24
def E_a24 : Env := Env.cons 86 s_a24 E_a23
abbrev p_a25 : List PS := [.one (.int .i64)]
def F_a25 : Int → Prop × AV × List AB := fun x => match x with
  | c => (0 ≤ c, .int .u8 ((S.more c).toNat : Int), [])
def L_a25 : Int → Nat → Option LoopAnn := fun _ _ => none
def s_a25 : Sig := sigOf p_a25 F_a25
def E_a25 : Env := Env.cons 87 s_a25 E_a24
abbrev p_a26 : List PS := [.one (.int .i64)]
def F_a26 : Int → Prop × AV × List AB := fun x => match x with
  | c => (True, .tup [.own 0, .int .i64 (((S.encR c, S.encE c)).2 : Int)], [.row 5 [.int .u8] (((S.encR c, S.encE c)).1) false])
def L_a26 : Int → Nat → Option LoopAnn := fun _ _ => none
def s_a26 : Sig := sigOf p_a26 F_a26
def E_a26 : Env := Env.cons 62 s_a26 E_a25
abbrev p_a27 : List PS := [.one (.slice [.int .u8])]
def F_a27 : List UInt8 → Prop × AV × List AB := fun x => match x with
  | b => (0 < b.length, .tup [.int .i64 ((S.uFirst b).1 : Int), .int .i64 ((S.uFirst b).2 : Int)], [])
def L_a27 : List UInt8 → Nat → Option LoopAnn := fun x => match x with
  | b => fun id => (match id with
    | 1 => some { τ := Nat, slots := [(42, fun k => .int .i64 ((k : Nat) : Int)), (4, fun k => .int .i64 (S.uAcc b k))], keys := [], ren := [], drop := [], ties := [], inv := fun k => S.uInv b k, meas := fun k => S.meas 4 k }
    | _ => none)
def s_a27 : Sig := sigOf p_a27 F_a27
def E_a27 : Env := Env.cons 61 s_a27 E_a26
abbrev p_a28 : List PS := [.one (.slice [.int .u8])]
def F_a28 : List UInt8 → Prop × AV × List AB := fun x => match x with
  | b => (S.small b, .own 0, [.row 3 [.int .i64] (S.decode b) false])
def L_a28 : List UInt8 → Nat → Option LoopAnn := fun x => match x with
  | b => fun id => (match id with
    | 0 => some { τ := List UInt8 × List Int, slots := [(0, fun k => .sl [.int .u8] k.1), (3, fun k => .own 300)], keys := [(300, fun k => .row 3 [.int .i64] k.2 false)], ren := [(Vg.Loc.slot 3, 300)], drop := [], ties := [], inv := fun k => S.decInv b k.1 k.2, meas := fun k => S.len k.1 }
    | _ => none)
def s_a28 : Sig := sigOf p_a28 F_a28
def E_a28 : Env := Env.cons 48 s_a28 E_a27
abbrev p_a29 : List PS := [.one (.int .i64)]
def F_a29 : Int → Prop × AV × List AB := fun x => match x with
  | c => (True, .bool (S.letter c), [])
def L_a29 : Int → Nat → Option LoopAnn := fun x => match x with
  | c => fun id => (match id with
    | 0 => some { τ := Nat, slots := [(6, fun k => .int .i64 ((k : Nat) : Int))], keys := [], ren := [], drop := [], ties := [], inv := fun k => S.noLetter c k, meas := fun k => S.meas 9 k }
    | _ => none)
def s_a29 : Sig := sigOf p_a29 F_a29
def E_a29 : Env := Env.cons 49 s_a29 E_a28
abbrev p_a30 : List PS := [.one (.int .i64)]
def F_a30 : Int → Prop × AV × List AB := fun x => match x with
  | c => (True, .bool (S.digit c), [])
def L_a30 : Int → Nat → Option LoopAnn := fun _ _ => none
def s_a30 : Sig := sigOf p_a30 F_a30
def E_a30 : Env := Env.cons 50 s_a30 E_a29
abbrev p_a31 : List PS := [.one (.int .i64)]
def F_a31 : Int → Prop × AV × List AB := fun x => match x with
  | c => (True, .int .i64 (S.smallC c : Int), [])
def L_a31 : Int → Nat → Option LoopAnn := fun x => match x with
  | c => fun id => (match id with
    | 0 => some { τ := Nat, slots := [(6, fun k => .int .i64 ((k : Nat) : Int))], keys := [], ren := [], drop := [], ties := [], inv := fun k => S.noShift c k, meas := fun k => S.meas 7 k }
    | _ => none)
def s_a31 : Sig := sigOf p_a31 F_a31
def E_a31 : Env := Env.cons 63 s_a31 E_a30
abbrev p_a32 : List PS := [.one (.slice [.int .i64])]
def F_a32 : List Int → Prop × AV × List AB := fun x => match x with
  | u => (S.okC u, .str (S.termOf u), [])
def L_a32 : List Int → Nat → Option LoopAnn := fun x => match x with
  | u => fun id => (match id with
    | 0 => some { τ := Nat × List UInt8, slots := [(10, fun k => .int .i64 ((k.1 : Nat) : Int)), (3, fun k => .own 300)], keys := [(300, fun k => .row 5 [.int .u8] k.2 false)], ren := [(Vg.Loc.slot 3, 300)], drop := [], ties := [], inv := fun k => S.termInv u k.1 k.2, meas := fun k => S.meas (S.len u) k.1 }
    | _ => none)
def s_a32 : Sig := sigOf p_a32 F_a32
def E_a32 : Env := Env.cons 51 s_a32 E_a31
abbrev p_a33 : List PS := [.one (.slice [.int .u8])]
def F_a33 : List UInt8 → Prop × AV × List AB := fun x => match x with
  | b => (S.small b, .own 0, [.row 9 [.str] (S.terms b) false])
def L_a33 : List UInt8 → Nat → Option LoopAnn := fun x => match x with
  | b => fun id => (match id with
    | 0 => some { τ := Nat × List (List UInt8) × List Int, slots := [(10, fun k => .int .i64 ((k.1 : Nat) : Int)), (3, fun k => .own 300), (4, fun k => .own 301)], keys := [(300, fun k => .row 9 [.str] k.2.1 false), (301, fun k => .row 3 [.int .i64] k.2.2 false)], ren := [(Vg.Loc.slot 3, 300), (Vg.Loc.slot 4, 301)], drop := [104000, 104001, 104002, 40], ties := [], inv := fun k => S.tokInv (S.decode b) k.1 k.2.1 k.2.2, meas := fun k => S.meas (S.len (S.decode b)) k.1 }
    | _ => none)
def s_a33 : Sig := sigOf p_a33 F_a33
def E_a33 : Env := Env.cons 34 s_a33 E_a32
abbrev p_a34 : List PS := [.one (.str)]
def F_a34 : List UInt8 → Prop × AV × List AB := fun x => match x with
  | s => (S.small s, .bool (S.isTerm s), [])
def L_a34 : List UInt8 → Nat → Option LoopAnn := fun _ _ => none
def s_a34 : Sig := sigOf p_a34 F_a34
def E_a34 : Env := Env.cons 25 s_a34 E_a33
abbrev p_a35 : List PS := [.one (.str)]
def F_a35 : List UInt8 → Prop × AV × List AB := fun x => match x with
  | s => (True, .bool false, [])
def L_a35 : List UInt8 → Nat → Option LoopAnn := fun _ _ => none
def s_a35 : Sig := sigOf p_a35 F_a35
def E_a35 : Env := Env.cons 52 s_a35 E_a34
abbrev p_a36 : List PS := [.one (.str), .one (.str)]
def F_a36 : List UInt8 × List UInt8 → Prop × AV × List AB := fun x => match x with
  | (a, b) => (True, .int .i64 (S.cmpS a b : Int), [])
def L_a36 : List UInt8 × List UInt8 → Nat → Option LoopAnn := fun _ _ => none
def s_a36 : Sig := sigOf p_a36 F_a36
def E_a36 : Env := Env.cons 35 s_a36 E_a35
abbrev p_a37 : List TA := [.dat (.str), .dat (.str), .ref 50000 0]
abbrev q_a37 : List TB := [.cells [.fn (.func 35) [] []]]
def F_a37 : (List UInt8 × List UInt8) → (Unit × Unit) → HRes := fun x y => match x, y with
  | (a, b), ((), ()) => { pre := True, res := .bool (decide (a = b)), heap := [some (.cells [.fn (.func 35) [] []])], new := [] }
def L_a37 : (List UInt8 × List UInt8) → (Unit × Unit) → Nat → Option LoopAnn := fun _ _ _ => none
def s_a37 : HSig := hsigOf p_a37 q_a37 F_a37
def c_a37 : HSig := s_a37
def E_a37 : Env := Env.consH 47 [false, false, true] c_a37 E_a36
abbrev p_a38 : List TA := [.own 50000, .fn (.func 47) [] [.ref 50001 0]]
abbrev q_a38 : List TB := [.row 9 [.str], .cells [.fn (.func 35) [] []]]
def F_a38 : Unit → ((List (List UInt8)) × Unit × Unit) → HRes := fun x y => match x, y with
  | (), (l, ((), ())) => { pre := S.small l, res := .own 60000, heap := [none, some (.cells [.fn (.func 35) [] []])], new := [.row 9 [.str] (S.compact l) false] }
def L_a38 : Unit → ((List (List UInt8)) × Unit × Unit) → Nat → Option LoopAnn := fun x y => match x, y with
  | (), (l, ((), ())) => fun id => (match id with
    | 0 => some { τ := Nat, slots := [(5, fun k => .int .i64 ((k : Nat) : Int))], keys := [(50001, fun k => .cells [.fn (.func 35) [] []])], ren := [], drop := [], ties := [], inv := fun k => S.cmpInv l k, meas := fun k => S.meas (S.len l) k }
    | 2 => some { τ := Nat × Nat × List (List UInt8) × Nat, slots := [(5, fun k => .int .i64 ((k.1 : Nat) : Int)), (7, fun k => .int .i64 ((k.2.1 : Nat) : Int))], keys := [(50000, fun k => .row 9 [.str] k.2.2.1 false), (50001, fun k => .cells [.fn (.func 35) [] []])], ren := [], drop := [], ties := [(30, fun k => .int .i64 ((k.2.2.2 : Nat) : Int))], inv := fun k => S.cmpInv2 l k.2.2.2 k.1 k.2.1 k.2.2.1, meas := fun k => S.meas (S.len l) k.2.1 }
    | _ => none)
def s_a38 : HSig := hsigOf p_a38 q_a38 F_a38
def c_a38 : HSig := s_a38
def E_a38 : Env := Env.consH 46 [true, true] c_a38 E_a37
abbrev p_a39 : List PS := [.one (.slice [.str])]
def F_a39 : List (List UInt8) → Prop × AV × List AB := fun x => match x with
  | l => (S.small l, .own 0, [.row 9 [.str] (l) false])
def s_a39 : Sig := sigOf p_a39 F_a39
def E_a39 : Env := Env.cons 44 s_a39 E_a38
abbrev p_a40 : List PS := [.one (.slice [.int .i64])]
def F_a40 : List Int → Prop × AV × List AB := fun x => match x with
  | l => (S.small l, .own 0, [.row 3 [.int .i64] (l) false])
def s_a40 : Sig := sigOf p_a40 F_a40
def E_a40 : Env := Env.cons 23 s_a40 E_a39
abbrev p_a41 : List TA := [.own 50000, .fn (.func 35) [] []]
abbrev q_a41 : List TB := [.row 9 [.str]]
def F_a41 : Unit → ((List (List UInt8)) × Unit) → HRes := fun x y => match x, y with
  | (), (l, ()) => { pre := S.small l, res := .tup [], heap := [some (.row 9 [.str] (S.sortS l) false)], new := [] }
def s_a41 : HSig := hsigOf p_a41 q_a41 F_a41
def c_a41 : HSig := s_a41
def E_a41 : Env := Env.consH 45 [true, true] c_a41 E_a40
abbrev p_a42 : List TA := [.dat (.slice [.str]), .fn (.func 35) [] []]
abbrev q_a42 : List TB := []
def F_a42 : (List (List UInt8)) → Unit → HRes := fun x y => match x, y with
  | l, () => { pre := S.small l, res := .own 60000, heap := [], new := [.row 9 [.str] (S.compact (S.sortS l)) false] }
def L_a42 : (List (List UInt8)) → Unit → Nat → Option LoopAnn := fun _ _ _ => none
def s_a42 : HSig := hsigOf p_a42 q_a42 F_a42
def c_a42 : HSig := s_a42
def E_a42 : Env := Env.consH 33 [false, true] c_a42 E_a41
abbrev p_a43 : List PS := [.one (.slice [.int .u8])]
def F_a43 : List UInt8 → Prop × AV × List AB := fun x => match x with
  | b => (S.small b, .own 0, [.row 9 [.str] (S.sorted (S.terms b)) false])
def L_a43 : List UInt8 → Nat → Option LoopAnn := fun _ _ => none
def s_a43 : Sig := sigOf p_a43 F_a43
def E_a43 : Env := Env.cons 20 s_a43 E_a42
abbrev p_a44 : List PS := [.one (.slice [.int .i64])]
def F_a44 : List Int → Prop × AV × List AB := fun x => match x with
  | l => (True, .bool (S.postR l), [])
def L_a44 : List Int → Nat → Option LoopAnn := fun x => match x with
  | l => fun id => (match id with
    | 0 => some { τ := Nat, slots := [(8, fun k => .int .i64 ((k : Nat) : Int)), (3, fun k => .int .i64 (S.prevI l k))], keys := [], ren := [], drop := [], ties := [], inv := fun k => S.postInv l k, meas := fun k => S.meas (S.len l) k }
    | _ => none)
def s_a44 : Sig := sigOf p_a44 F_a44
def E_a44 : Env := Env.cons 24 s_a44 E_a43
abbrev p_a45 : List PS := [.one (.slice [.int .i64])]
def F_a45 : List Int → Prop × AV × List AB := fun x => match x with
  | l => (True, .tup [.own 0, .int .i64 (((S.postW l, S.postE l)).2 : Int)], [.row 5 [.int .u8] (((S.postW l, S.postE l)).1) false])
def L_a45 : List Int → Nat → Option LoopAnn := fun x => match x with
  | l => fun id => (match id with
    | 0 => some { τ := Nat, slots := [(22, fun k => .int .i64 ((k : Nat) : Int)), (6, fun k => .int .i64 (S.prevI l k)), (4, fun k => .own 300)], keys := [(300, fun k => .row 5 [.int .u8] (S.postTo l k) false)], ren := [(Vg.Loc.slot 4, 300)], drop := [101700, 101701, 101702, 17], ties := [], inv := fun k => k ≤ l.length, meas := fun k => S.meas (S.len l) k }
    | _ => none)
def s_a45 : Sig := sigOf p_a45 F_a45
def E_a45 : Env := Env.cons 31 s_a45 E_a44
abbrev p_a46 : List PS := [.one (.slice [.int .i64])]
def F_a46 : List Int → Prop × AV × List AB := fun x => match x with
  | l => (True, .tup [.str (((S.postD l, S.postE l)).1), .int .i64 (((S.postD l, S.postE l)).2 : Int)], [])
def L_a46 : List Int → Nat → Option LoopAnn := fun _ _ => none
def s_a46 : Sig := sigOf p_a46 F_a46
def E_a46 : Env := Env.cons 19 s_a46 E_a45
abbrev p_a47 : List PS := [.one (.slice [.int .i64]), .one (.slice [.int .i64])]
def F_a47 : List Int × List Int → Prop × AV × List AB := fun x => match x with
  | (a, b) => (True, .bool (S.sameL a b), [])
def L_a47 : List Int × List Int → Nat → Option LoopAnn := fun x => match x with
  | (a, b) => fun id => (match id with
    | 0 => some { τ := Nat, slots := [(5, fun k => .int .i64 ((k : Nat) : Int))], keys := [], ren := [], drop := [], ties := [], inv := fun k => S.sameTo a b k, meas := fun k => S.meas (S.len a) k }
    | _ => none)
def s_a47 : Sig := sigOf p_a47 F_a47
def E_a47 : Env := Env.cons 12 s_a47 E_a46
abbrev p_a48 : List PS := [.one (.slice [.str, .slice [.int .i64]])]
def F_a48 : List (List UInt8 × List Int) → Prop × AV × List AB := fun x => match x with
  | d => (S.dictPre d, .bool (S.dRight d), [])
def L_a48 : List (List UInt8 × List Int) → Nat → Option LoopAnn := fun x => match x with
  | d => fun id => (match id with
    | 0 => some { τ := Nat, slots := [(7, fun k => .int .i64 ((k : Nat) : Int))], keys := [], ren := [], drop := [], ties := [], inv := fun k => S.dInv d k, meas := fun k => S.meas (S.len d) k }
    | _ => none)
def s_a48 : Sig := sigOf p_a48 F_a48
def E_a48 : Env := Env.cons 14 s_a48 E_a47
abbrev p_a49 : List PS := [.agg [.str, .str, .str]]
def F_a49 : List UInt8 × List UInt8 × List UInt8 → Prop × AV × List AB := fun x => match x with
  | (l1, l2, l3) => (True, .tup [.sl [.int .u8] (((S.linkW l1 l2 l3, S.linkE l1 l2 l3)).1), .int .i64 (((S.linkW l1 l2 l3, S.linkE l1 l2 l3)).2 : Int)], [])
def L_a49 : List UInt8 × List UInt8 × List UInt8 → Nat → Option LoopAnn := fun _ _ => none
def s_a49 : Sig := sigOf p_a49 F_a49
def E_a49 : Env := Env.cons 6 s_a49 E_a48
abbrev p_a50 : List PS := [.one (.slice [.int .u8])]
def F_a50 : List UInt8 → Prop × AV × List AB := fun x => match x with
  | b => (b.length ≤ 140737488355328, .tup [.agg [.str (((S.readLink b).1).1), .str (((S.readLink b).1).2.1), .str (((S.readLink b).1).2.2)], .int .i64 ((S.readLink b).2 : Int)], [])
def L_a50 : List UInt8 → Nat → Option LoopAnn := fun _ _ => none
def s_a50 : Sig := sigOf p_a50 F_a50
def E_a50 : Env := Env.cons 7 s_a50 E_a49
abbrev p_a51 : List PS := [.one (.slice [.str, .slice [.int .i64]])]
def F_a51 : List (List UInt8 × List Int) → Prop × AV × List AB := fun x => match x with
  | d => (S.dictPre d, .tup [.own 0, .int .i64 (((S.dLinks d, S.dE d)).2 : Int)], [.row 24 [.slice [.int .u8]] (((S.dLinks d, S.dE d)).1) false])
def L_a51 : List (List UInt8 × List Int) → Nat → Option LoopAnn := fun x => match x with
  | d => fun id => (match id with
    | 0 => some { τ := Nat, slots := [(16, fun k => .int .i64 ((k : Nat) : Int)), (4, fun k => .own 300)], keys := [(300, fun k => .row 24 [.slice [.int .u8]] (S.linksTo d k) false)], ren := [(Vg.Loc.slot 4, 300)], drop := [], ties := [], inv := fun k => k ≤ d.length + 1, meas := fun k => S.meas (S.len d + 1) k }
    | _ => none)
def s_a51 : Sig := sigOf p_a51 F_a51
def E_a51 : Env := Env.cons 9 s_a51 E_a50
abbrev p_a52 : List PS := [.one (.slice [.str, .slice [.int .i64]]), .one (.str)]
def F_a52 : List (List UInt8 × List Int) × List UInt8 → Prop × AV × List AB := fun x => match x with
  | (d, t) => (S.dictPre d, .tup [.int .i64 (((S.dFind d t, S.dFindB d t)).1 : Int), .bool (((S.dFind d t, S.dFindB d t)).2)], [])
def L_a52 : List (List UInt8 × List Int) × List UInt8 → Nat → Option LoopAnn := fun x => match x with
  | (d, t) => fun id => (match id with
    | 0 => some { τ := Nat, slots := [(14, fun k => .int .i64 ((k : Nat) : Int)), (6, fun k => .int .i64 (S.findTo d t k))], keys := [], ren := [], drop := [], ties := [], inv := fun k => k ≤ d.length, meas := fun k => S.meas (S.len d) k }
    | _ => none)
def s_a52 : Sig := sigOf p_a52 F_a52
def E_a52 : Env := Env.cons 10 s_a52 E_a51
abbrev p_a53 : List PS := [.one (.slice [.str, .slice [.int .i64]]), .one (.str)]
def F_a53 : List (List UInt8 × List Int) × List UInt8 → Prop × AV × List AB := fun x => match x with
  | (d, t) => (S.dictPre d, .sl [.int .i64] (S.dDocs d t), [])
def L_a53 : List (List UInt8 × List Int) × List UInt8 → Nat → Option LoopAnn := fun _ _ => none
def s_a53 : Sig := sigOf p_a53 F_a53
def E_a53 : Env := Env.cons 13 s_a53 E_a52
abbrev p_a54 : List PS := [.one (.slice [.slice [.int .u8]]), .agg [.int .i64, .int .i64]]
def F_a54 : List (List UInt8) × Int × Int → Prop × AV × List AB := fun x => match x with
  | (docs, s1, s2) => (True, .tup [.sl [.str, .slice [.int .i64]] ((S.dMake docs s1 s2).1), .int .i64 ((S.dMake docs s1 s2).2 : Int)], [])
def s_a54 : Sig := sigOf p_a54 F_a54
def E_a54 : Env := Env.cons 11 s_a54 E_a53
abbrev p_a55 : List PS := [.one (.slice [.str, .slice [.int .i64]])]
def F_a55 : List (List UInt8 × List Int) → Prop × AV × List AB := fun x => match x with
  | d => (True, .bool (S.greatD d), [])
def L_a55 : List (List UInt8 × List Int) → Nat → Option LoopAnn := fun x => match x with
  | d => fun id => (match id with
    | 0 => some { τ := Nat, slots := [(3, fun k => .int .i64 ((k : Nat) : Int))], keys := [], ren := [], drop := [], ties := [], inv := fun k => S.gdInv d k, meas := fun k => S.meas (S.len d) k }
    | _ => none)
def s_a55 : Sig := sigOf p_a55 F_a55
def E_a55 : Env := Env.cons 8 s_a55 E_a54
abbrev p_a56 : List PS := []
def F_a56 : Unit → Prop × AV × List AB := fun x => match x with
  | () => (True, .bool true, [])
def L_a56 : Unit → Nat → Option LoopAnn := fun _ _ => none
def s_a56 : Sig := sigOf p_a56 F_a56
def E_a56 : Env := Env.cons 5 s_a56 E_a55
abbrev p_a58 : List PS := [.one (.slice [.str, .slice [.int .i64]]), .one (.str)]
def F_a58 : List (List UInt8 × List Int) × List UInt8 → Prop × AV × List AB := fun x => match x with
  | (d, s) => (True, .bool true, [])
def L_a58 : List (List UInt8 × List Int) × List UInt8 → Nat → Option LoopAnn := fun x => match x with
  | (d, s) => fun id => (match id with
    | 0 => some { τ := Nat, slots := [(8, fun k => .int .i64 ((k : Nat) : Int)), (7, fun k => .int .i64 (S.liesTo d s k))], keys := [], ren := [], drop := [], ties := [], inv := fun k => S.lenv d k, meas := fun k => S.meas (S.len d + 1) k }
    | _ => none)
def s_a58 : Sig := sigOf p_a58 F_a58
end Go.J
end
