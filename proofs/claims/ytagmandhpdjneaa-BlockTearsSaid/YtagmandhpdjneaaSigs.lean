import Derived.Test.YtagmandhpdjneaaTab
import Derived.Test.YtagmandhpdjneaaLaws
set_option linter.unusedVariables false
namespace Go.J
open Go Vg
def body (f : Func) : Code := f.body.getD .skip
def E0 : Env := { T := tab, sig := fun _ => none }
/-! block.copied -/
abbrev p_block_copied : List PS := [.one (.slice [.int .u8])]
def F_block_copied : List UInt8 → Prop × AV × List AB := fun x => match x with
  | b => (True, .own 0, [.row 5 [.int .u8] (S.copied b) false])
def L_block_copied : List UInt8 → Nat → Option LoopAnn := fun _ _ => none
def s_block_copied : Sig := sigOf p_block_copied F_block_copied
def E_block_copied : Env := Env.cons 26 s_block_copied E0
def vc_block_copied (b : List UInt8) : Prop := vcFn E0 (L_block_copied b) (body Go.Proofs.Try.f26) 9 Go.Proofs.Try.f26.results.toList (backD p_block_copied b) (F_block_copied b).2.1 (F_block_copied b).2.2
/-! block.blank -/
abbrev p_block_blank : List PS := [.one (.int .i64)]
def F_block_blank : Int → Prop × AV × List AB := fun x => match x with
  | n => (S.blankPre n, .own 0, [.views 28 (some 1) n.toNat n.toNat 64, .row 5 [.int .u8] (S.zeros64 n) false])
def L_block_blank : Int → Nat → Option LoopAnn := fun x => match x with
  | n => fun id => (match id with
    | 0 => some { τ := Nat, slots := [(15, fun k => .int .i64 ((k : Nat) : Int))], keys := [(12, fun k => .views 28 (some 10) n.toNat k 64)], ren := [], inv := fun k => S.natLe k n.toNat, meas := fun k => S.meas n.toNat k }
    | _ => none)
def s_block_blank : Sig := sigOf p_block_blank F_block_blank
def E_block_blank : Env := Env.cons 27 s_block_blank E_block_copied
def vc_block_blank (n : Int) : Prop := vcFn E_block_copied (L_block_blank n) (body Go.Proofs.Try.f27) 33 Go.Proofs.Try.f27.results.toList (backD p_block_blank n) (F_block_blank n).2.1 (F_block_blank n).2.2
/-! block.stored -/
abbrev p_block_stored : List PS := [.agg [.slice [.slice [.int .u8]], .slice [.int .i64, .slice [.int .u8]]]]
def F_block_stored : List (List UInt8) × List (Int × List UInt8) → Prop × AV × List AB := fun x => match x with
  | (d1, d2) => (S.storedPre d1, .agg [.own 0, .nil], [.views 28 (some 1) (S.len d1) (S.len d1) 64, .row 5 [.int .u8] (S.flat d1) false])
def L_block_stored : List (List UInt8) × List (Int × List UInt8) → Nat → Option LoopAnn := fun x => match x with
  | (d1, d2) => fun id => (match id with
    | 0 => some { τ := Nat, slots := [(14, fun k => .int .i64 ((k : Nat) : Int))], keys := [(100901, fun k => .row 5 [.int .u8] (S.storedAt d1 k) false)], ren := [], inv := fun k => S.minv d1 k, meas := fun k => S.meas (S.len d1) k }
    | _ => none)
def s_block_stored : Sig := sigOf p_block_stored F_block_stored
def E_block_stored : Env := Env.cons 28 s_block_stored E_block_blank
def vc_block_stored (d1 : List (List UInt8)) (d2 : List (Int × List UInt8)) : Prop := vcFn E_block_blank (L_block_stored (d1, d2)) (body Go.Proofs.Try.f28) 28 Go.Proofs.Try.f28.results.toList (backD p_block_stored (d1, d2)) (F_block_stored (d1, d2)).2.1 (F_block_stored (d1, d2)).2.2
/-! block.Right -/
abbrev p_block_Right : List PS := [.agg [.slice [.slice [.int .u8]], .slice [.int .i64, .slice [.int .u8]]]]
def F_block_Right : List (List UInt8) × List (Int × List UInt8) → Prop × AV × List AB := fun x => match x with
  | (d1, d2) => (True, .bool (S.right d1 d2), [])
def L_block_Right : List (List UInt8) × List (Int × List UInt8) → Nat → Option LoopAnn := fun x => match x with
  | (d1, d2) => fun id => (match id with
    | 0 => some { τ := Nat, slots := [(20, fun k => .int .i64 ((k : Nat) : Int))], keys := [], ren := [], inv := fun k => S.rinv d1 k, meas := fun k => S.meas (S.len d1) k }
    | 2 => some { τ := Nat, slots := [(31, fun k => .int .i64 ((k : Nat) : Int))], keys := [], ren := [], inv := fun k => S.winv d1 d2 k, meas := fun k => S.meas (S.len d2) k }
    | _ => none)
def s_block_Right : Sig := sigOf p_block_Right F_block_Right
def E_block_Right : Env := Env.cons 13 s_block_Right E_block_stored
def vc_block_Right (d1 : List (List UInt8)) (d2 : List (Int × List UInt8)) : Prop := vcFn E_block_stored (L_block_Right (d1, d2)) (body Go.Proofs.Try.f13) 53 Go.Proofs.Try.f13.results.toList (backD p_block_Right (d1, d2)) (F_block_Right (d1, d2)).2.1 (F_block_Right (d1, d2)).2.2
/-! block.valid -/
abbrev p_block_valid : List PS := [.agg [.slice [.slice [.int .u8]], .slice [.int .i64, .slice [.int .u8]]]]
def F_block_valid : List (List UInt8) × List (Int × List UInt8) → Prop × AV × List AB := fun x => match x with
  | (d1, d2) => (True, .agg [.sl [.slice [.int .u8]] (((S.vB d1 d2, S.vW d1 d2)).1), .sl [.int .i64, .slice [.int .u8]] (((S.vB d1 d2, S.vW d1 d2)).2)], [])
def L_block_valid : List (List UInt8) × List (Int × List UInt8) → Nat → Option LoopAnn := fun _ _ => none
def s_block_valid : Sig := sigOf p_block_valid F_block_valid
def E_block_valid : Env := Env.cons 25 s_block_valid E_block_Right
def vc_block_valid (d1 : List (List UInt8)) (d2 : List (Int × List UInt8)) : Prop := vcFn E_block_Right (L_block_valid (d1, d2)) (body Go.Proofs.Try.f25) 8 Go.Proofs.Try.f25.results.toList (backD p_block_valid (d1, d2)) (F_block_valid (d1, d2)).2.1 (F_block_valid (d1, d2)).2.2
/-! block.Len -/
abbrev p_block_Len : List PS := [.agg [.slice [.slice [.int .u8]], .slice [.int .i64, .slice [.int .u8]]]]
def F_block_Len : List (List UInt8) × List (Int × List UInt8) → Prop × AV × List AB := fun x => match x with
  | (d1, d2) => (True, .int .i64 (S.lenI (S.vB d1 d2) : Int), [])
def L_block_Len : List (List UInt8) × List (Int × List UInt8) → Nat → Option LoopAnn := fun _ _ => none
def s_block_Len : Sig := sigOf p_block_Len F_block_Len
def E_block_Len : Env := Env.cons 15 s_block_Len E_block_valid
def vc_block_Len (d1 : List (List UInt8)) (d2 : List (Int × List UInt8)) : Prop := vcFn E_block_valid (L_block_Len (d1, d2)) (body Go.Proofs.Try.f15) 7 Go.Proofs.Try.f15.results.toList (backD p_block_Len (d1, d2)) (F_block_Len (d1, d2)).2.1 (F_block_Len (d1, d2)).2.2
/-! block.New -/
abbrev p_block_New : List PS := [.one (.int .i64)]
def F_block_New : Int → Prop × AV × List AB := fun x => match x with
  | n => (True, .tup [.agg [.sl [.slice [.int .u8]] (S.nRes n), .nil], .int .i64 (S.nErr n)], [])
def L_block_New : Int → Nat → Option LoopAnn := fun _ _ => none
def s_block_New : Sig := sigOf p_block_New F_block_New
def E_block_New : Env := Env.cons 18 s_block_New E_block_Len
def vc_block_New (n : Int) : Prop := vcFn E_block_Len (L_block_New n) (body Go.Proofs.Try.f18) 14 Go.Proofs.Try.f18.results.toList (backD p_block_New n) (F_block_New n).2.1 (F_block_New n).2.2
/-! block.Read -/
abbrev p_block_Read : List PS := [.agg [.slice [.slice [.int .u8]], .slice [.int .i64, .slice [.int .u8]]], .one (.int .i64)]
def F_block_Read : List (List UInt8) × List (Int × List UInt8) × Int → Prop × AV × List AB := fun x => match x with
  | (d1, d2, i) => (True, .tup [.sl [.int .u8] (((S.rRes d1 d2 i, S.rErr d1 d2 i)).1), .int .i64 (((S.rRes d1 d2 i, S.rErr d1 d2 i)).2 : Int)], [])
def L_block_Read : List (List UInt8) × List (Int × List UInt8) × Int → Nat → Option LoopAnn := fun x => match x with
  | (d1, d2, i) => fun id => (match id with
    | 0 => some { τ := Nat, slots := [(28, fun k => .int .i64 ((k : Nat) : Int)), (6, fun k => .sl [.int .u8] (S.contAt (S.vW d1 d2) i (S.blk (S.vB d1 d2) i) k))], keys := [], ren := [], inv := fun k => S.minv (S.vW d1 d2) k, meas := fun k => S.meas (S.len (S.vW d1 d2)) k }
    | _ => none)
def s_block_Read : Sig := sigOf p_block_Read F_block_Read
def E_block_Read : Env := Env.cons 11 s_block_Read E_block_New
def vc_block_Read (d1 : List (List UInt8)) (d2 : List (Int × List UInt8)) (i : Int) : Prop := vcFn E_block_New (L_block_Read (d1, d2, i)) (body Go.Proofs.Try.f11) 41 Go.Proofs.Try.f11.results.toList (backD p_block_Read (d1, d2, i)) (F_block_Read (d1, d2, i)).2.1 (F_block_Read (d1, d2, i)).2.2
/-! block.Write -/
abbrev p_block_Write : List PS := [.agg [.slice [.slice [.int .u8]], .slice [.int .i64, .slice [.int .u8]]], .one (.int .i64), .one (.slice [.int .u8])]
def F_block_Write : List (List UInt8) × List (Int × List UInt8) × Int × List UInt8 → Prop × AV × List AB := fun x => match x with
  | (d1, d2, i, b) => (True, .tup [.agg [.sl [.slice [.int .u8]] (((((S.wB d1 d2, S.wW d1 d2 i b), S.wErr d1 d2 i b)).1).1), .sl [.int .i64, .slice [.int .u8]] (((((S.wB d1 d2, S.wW d1 d2 i b), S.wErr d1 d2 i b)).1).2)], .int .i64 ((((S.wB d1 d2, S.wW d1 d2 i b), S.wErr d1 d2 i b)).2 : Int)], [])
def L_block_Write : List (List UInt8) × List (Int × List UInt8) × Int × List UInt8 → Nat → Option LoopAnn := fun x => match x with
  | (d1, d2, i, b) => fun id => (match id with
    | 0 => some { τ := Nat, slots := [(38, fun k => .int .i64 ((k : Nat) : Int))], keys := [(8, fun k => .cells [.own 103400, .own 200]), (200, fun k => .row 57 [.int .i64, .slice [.int .u8]] (S.waitsAt (S.vW d1 d2) k) false)], ren := [(Vg.Loc.cell 8 1, 200)], inv := fun k => S.minv (S.vW d1 d2) k, meas := fun k => S.meas (S.len (S.vW d1 d2)) k }
    | _ => none)
def s_block_Write : Sig := sigOf p_block_Write F_block_Write
def E_block_Write : Env := Env.cons 22 s_block_Write E_block_Read
def vc_block_Write (d1 : List (List UInt8)) (d2 : List (Int × List UInt8)) (i : Int) (b : List UInt8) : Prop := vcFn E_block_Read (L_block_Write (d1, d2, i, b)) (body Go.Proofs.Try.f22) 64 Go.Proofs.Try.f22.results.toList (backD p_block_Write (d1, d2, i, b)) (F_block_Write (d1, d2, i, b)).2.1 (F_block_Write (d1, d2, i, b)).2.2
/-! block.Sync -/
abbrev p_block_Sync : List PS := [.agg [.slice [.slice [.int .u8]], .slice [.int .i64, .slice [.int .u8]]]]
def F_block_Sync : List (List UInt8) × List (Int × List UInt8) → Prop × AV × List AB := fun x => match x with
  | (d1, d2) => (True, .agg [.sl [.slice [.int .u8]] (S.sync d1 d2), .nil], [])
def L_block_Sync : List (List UInt8) × List (Int × List UInt8) → Nat → Option LoopAnn := fun x => match x with
  | (d1, d2) => fun id => (match id with
    | 0 => some { τ := Nat, slots := [(13, fun k => .int .i64 ((k : Nat) : Int))], keys := [(100901, fun k => .row 5 [.int .u8] (S.syncAt (S.vB d1 d2) (S.vW d1 d2) k) false)], ren := [], inv := fun k => S.minv (S.vW d1 d2) k, meas := fun k => S.meas (S.len (S.vW d1 d2)) k }
    | _ => none)
def s_block_Sync : Sig := sigOf p_block_Sync F_block_Sync
def E_block_Sync : Env := Env.cons 21 s_block_Sync E_block_Write
def vc_block_Sync (d1 : List (List UInt8)) (d2 : List (Int × List UInt8)) : Prop := vcFn E_block_Write (L_block_Sync (d1, d2)) (body Go.Proofs.Try.f21) 28 Go.Proofs.Try.f21.results.toList (backD p_block_Sync (d1, d2)) (F_block_Sync (d1, d2)).2.1 (F_block_Sync (d1, d2)).2.2
/-! block.Crash -/
abbrev p_block_Crash : List PS := [.agg [.slice [.slice [.int .u8]], .slice [.int .i64, .slice [.int .u8]]], .one (.slice [.int .i64])]
def F_block_Crash : List (List UInt8) × List (Int × List UInt8) × List Int → Prop × AV × List AB := fun x => match x with
  | (d1, d2, keep) => (True, .agg [.sl [.slice [.int .u8]] (S.crash d1 d2 keep), .nil], [])
def L_block_Crash : List (List UInt8) × List (Int × List UInt8) × List Int → Nat → Option LoopAnn := fun x => match x with
  | (d1, d2, keep) => fun id => (match id with
    | 0 => some { τ := Nat, slots := [(16, fun k => .int .i64 ((k : Nat) : Int))], keys := [(101201, fun k => .row 5 [.int .u8] (S.crashAt keep (S.vB d1 d2) (S.vW d1 d2) k) false)], ren := [], inv := fun k => S.minv (S.vW d1 d2) k, meas := fun k => S.meas (S.len (S.vW d1 d2)) k }
    | _ => none)
def s_block_Crash : Sig := sigOf p_block_Crash F_block_Crash
def E_block_Crash : Env := Env.cons 23 s_block_Crash E_block_Sync
def vc_block_Crash (d1 : List (List UInt8)) (d2 : List (Int × List UInt8)) (keep : List Int) : Prop := vcFn E_block_Sync (L_block_Crash (d1, d2, keep)) (body Go.Proofs.Try.f23) 44 Go.Proofs.Try.f23.results.toList (backD p_block_Crash (d1, d2, keep)) (F_block_Crash (d1, d2, keep)).2.1 (F_block_Crash (d1, d2, keep)).2.2
/-! rubrickref22.Right -/
abbrev p_rubrickref22_Right : List PS := [.agg [.slice [.slice [.int .u8]], .slice [.int .i64, .slice [.int .u8]]]]
def F_rubrickref22_Right : List (List UInt8) × List (Int × List UInt8) → Prop × AV × List AB := fun x => match x with
  | (d1, d2) => (True, .bool (S.right d1 d2), [])
def L_rubrickref22_Right : List (List UInt8) × List (Int × List UInt8) → Nat → Option LoopAnn := fun x => match x with
  | (d1, d2) => fun id => (match id with
    | 0 => some { τ := Nat, slots := [(3, fun k => .int .i64 ((k : Nat) : Int))], keys := [], ren := [], inv := fun k => S.rinv d1 k, meas := fun k => S.meas (S.len d1) k }
    | 2 => some { τ := Nat, slots := [(4, fun k => .int .i64 ((k : Nat) : Int))], keys := [], ren := [], inv := fun k => S.winv d1 d2 k ∧ S.rinv d1 (S.len d1), meas := fun k => S.meas (S.len d2) k }
    | _ => none)
def s_rubrickref22_Right : Sig := sigOf p_rubrickref22_Right F_rubrickref22_Right
def E_rubrickref22_Right : Env := Env.cons 14 s_rubrickref22_Right E_block_Crash
def vc_rubrickref22_Right (d1 : List (List UInt8)) (d2 : List (Int × List UInt8)) : Prop := vcFn E_block_Crash (L_rubrickref22_Right (d1, d2)) (body Go.Proofs.Try.f14) 65 Go.Proofs.Try.f14.results.toList (backD p_rubrickref22_Right (d1, d2)) (F_rubrickref22_Right (d1, d2)).2.1 (F_rubrickref22_Right (d1, d2)).2.2
/-! rubrickref22.Good -/
abbrev p_rubrickref22_Good : List PS := [.agg [.slice [.slice [.int .u8]], .slice [.int .i64, .slice [.int .u8]]]]
def F_rubrickref22_Good : List (List UInt8) × List (Int × List UInt8) → Prop × AV × List AB := fun x => match x with
  | (d1, d2) => (True, .agg [.sl [.slice [.int .u8]] (((S.vB d1 d2, S.vW d1 d2)).1), .sl [.int .i64, .slice [.int .u8]] (((S.vB d1 d2, S.vW d1 d2)).2)], [])
def L_rubrickref22_Good : List (List UInt8) × List (Int × List UInt8) → Nat → Option LoopAnn := fun _ _ => none
def s_rubrickref22_Good : Sig := sigOf p_rubrickref22_Good F_rubrickref22_Good
def E_rubrickref22_Good : Env := Env.cons 16 s_rubrickref22_Good E_rubrickref22_Right
def vc_rubrickref22_Good (d1 : List (List UInt8)) (d2 : List (Int × List UInt8)) : Prop := vcFn E_rubrickref22_Right (L_rubrickref22_Good (d1, d2)) (body Go.Proofs.Try.f16) 7 Go.Proofs.Try.f16.results.toList (backD p_rubrickref22_Good (d1, d2)) (F_rubrickref22_Good (d1, d2)).2.1 (F_rubrickref22_Good (d1, d2)).2.2
/-! rubrickref22.Read -/
abbrev p_rubrickref22_Read : List PS := [.agg [.slice [.slice [.int .u8]], .slice [.int .i64, .slice [.int .u8]]], .one (.int .i64)]
def F_rubrickref22_Read : List (List UInt8) × List (Int × List UInt8) × Int → Prop × AV × List AB := fun x => match x with
  | (d1, d2, i) => (S.inRange i d1, .sl [.int .u8] (S.cont d2 i (S.blk d1 i)), [])
def L_rubrickref22_Read : List (List UInt8) × List (Int × List UInt8) × Int → Nat → Option LoopAnn := fun x => match x with
  | (d1, d2, i) => fun id => (match id with
    | 0 => some { τ := Nat, slots := [(6, fun k => .int .i64 ((k : Nat) : Int)), (5, fun k => .sl [.int .u8] (S.contAt d2 i (S.blk d1 i) k))], keys := [], ren := [], inv := fun k => S.minv d2 k, meas := fun k => S.meas (S.len d2) k }
    | _ => none)
def s_rubrickref22_Read : Sig := sigOf p_rubrickref22_Read F_rubrickref22_Read
def E_rubrickref22_Read : Env := Env.cons 17 s_rubrickref22_Read E_rubrickref22_Good
def vc_rubrickref22_Read (d1 : List (List UInt8)) (d2 : List (Int × List UInt8)) (i : Int) : Prop := vcFn E_rubrickref22_Good (L_rubrickref22_Read (d1, d2, i)) (body Go.Proofs.Try.f17) 34 Go.Proofs.Try.f17.results.toList (backD p_rubrickref22_Read (d1, d2, i)) (F_rubrickref22_Read (d1, d2, i)).2.1 (F_rubrickref22_Read (d1, d2, i)).2.2
/-! rubrickref22.New -/
abbrev p_rubrickref22_New : List PS := [.one (.int .i64)]
def F_rubrickref22_New : Int → Prop × AV × List AB := fun x => match x with
  | n => (S.lePre n 5000, .agg [.sl [.slice [.int .u8]] (S.blankAll n), .nil], [])
def L_rubrickref22_New : Int → Nat → Option LoopAnn := fun x => match x with
  | n => fun id => (match id with
    | 0 => some { τ := Nat, slots := [(4, fun k => .int .i64 ((k : Nat) : Int))], keys := [(3, fun k => .cells [.own 200, .nil]), (200, fun k => .row 28 [.slice [.int .u8]] (S.zs64 k) false)], ren := [(Vg.Loc.cell 3 0, 200)], inv := fun k => S.leN k n.toNat, meas := fun k => S.meas n.toNat k }
    | _ => none)
def s_rubrickref22_New : Sig := sigOf p_rubrickref22_New F_rubrickref22_New
def E_rubrickref22_New : Env := Env.cons 20 s_rubrickref22_New E_rubrickref22_Read
def vc_rubrickref22_New (n : Int) : Prop := vcFn E_rubrickref22_Read (L_rubrickref22_New n) (body Go.Proofs.Try.f20) 17 Go.Proofs.Try.f20.results.toList (backD p_rubrickref22_New n) (F_rubrickref22_New n).2.1 (F_rubrickref22_New n).2.2
/-! rubrickref22.Same -/
abbrev p_rubrickref22_Same : List PS := [.agg [.slice [.slice [.int .u8]], .slice [.int .i64, .slice [.int .u8]]], .agg [.slice [.slice [.int .u8]], .slice [.int .i64, .slice [.int .u8]]]]
def F_rubrickref22_Same : List (List UInt8) × List (Int × List UInt8) × List (List UInt8) × List (Int × List UInt8) → Prop × AV × List AB := fun x => match x with
  | (a1, a2, b1, b2) => (True, .bool (S.same a1 a2 b1 b2), [])
def L_rubrickref22_Same : List (List UInt8) × List (Int × List UInt8) × List (List UInt8) × List (Int × List UInt8) → Nat → Option LoopAnn := fun x => match x with
  | (a1, a2, b1, b2) => fun id => (match id with
    | 0 => some { τ := Nat, slots := [(5, fun k => .int .i64 ((k : Nat) : Int))], keys := [], ren := [], inv := fun k => S.sInv1 a1 b1 k, meas := fun k => S.meas (S.len a1) k }
    | 2 => some { τ := Nat, slots := [(6, fun k => .int .i64 ((k : Nat) : Int))], keys := [], ren := [], inv := fun k => S.sInv2 a1 b1 a2 b2 k, meas := fun k => S.meas (S.len a2) k }
    | _ => none)
def s_rubrickref22_Same : Sig := sigOf p_rubrickref22_Same F_rubrickref22_Same
def E_rubrickref22_Same : Env := Env.cons 19 s_rubrickref22_Same E_rubrickref22_New
def vc_rubrickref22_Same (a1 : List (List UInt8)) (a2 : List (Int × List UInt8)) (b1 : List (List UInt8)) (b2 : List (Int × List UInt8)) : Prop := vcFn E_rubrickref22_New (L_rubrickref22_Same (a1, a2, b1, b2)) (body Go.Proofs.Try.f19) 80 Go.Proofs.Try.f19.results.toList (backD p_rubrickref22_Same (a1, a2, b1, b2)) (F_rubrickref22_Same (a1, a2, b1, b2)).2.1 (F_rubrickref22_Same (a1, a2, b1, b2)).2.2
/-! rubricklaw22.ones -/
abbrev p_rubricklaw22_ones : List PS := [.one (.int .u8)]
def F_rubricklaw22_ones : UInt8 → Prop × AV × List AB := fun x => match x with
  | x => (True, .sl [.int .u8] (S.ones x), [])
def L_rubricklaw22_ones : UInt8 → Nat → Option LoopAnn := fun x => match x with
  | x => fun id => (match id with
    | 0 => some { τ := Nat, slots := [(4, fun k => .int .i64 ((k : Nat) : Int))], keys := [(5, fun k => .row 5 [.int .u8] (S.onesAt x k) false)], ren := [], inv := fun k => S.leN k 64, meas := fun k => S.meas 64 k }
    | _ => none)
def s_rubricklaw22_ones : Sig := sigOf p_rubricklaw22_ones F_rubricklaw22_ones
def E_rubricklaw22_ones : Env := Env.cons 24 s_rubricklaw22_ones E_rubrickref22_Same
def vc_rubricklaw22_ones (x : UInt8) : Prop := vcFn E_rubrickref22_Same (L_rubricklaw22_ones x) (body Go.Proofs.Try.f24) 15 Go.Proofs.Try.f24.results.toList (backD p_rubricklaw22_ones x) (F_rubricklaw22_ones x).2.1 (F_rubricklaw22_ones x).2.2
/-! rubricklaw22.As -/
abbrev p_rubricklaw22_As : List PS := [.agg [.slice [.slice [.int .u8]], .slice [.int .i64, .slice [.int .u8]]]]
def F_rubricklaw22_As : List (List UInt8) × List (Int × List UInt8) → Prop × AV × List AB := fun x => match x with
  | (d1, d2) => (S.leN (S.len d2) 1000, .agg [.sl [.slice [.int .u8]] (((d1, d2)).1), .sl [.int .i64, .slice [.int .u8]] (((d1, d2)).2)], [])
def L_rubricklaw22_As : List (List UInt8) × List (Int × List UInt8) → Nat → Option LoopAnn := fun x => match x with
  | (d1, d2) => fun id => (match id with
    | 0 => some { τ := Nat, slots := [(4, fun k => .int .i64 ((k : Nat) : Int))], keys := [(3, fun k => .cells [.sl [.slice [.int .u8]] d1, .own 200]), (200, fun k => .row 60 [.int .i64, .slice [.int .u8]] (d2.take k) false)], ren := [(Vg.Loc.cell 3 1, 200)], inv := fun k => S.minv d2 k, meas := fun k => S.meas (S.len d2) k }
    | _ => none)
def s_rubricklaw22_As : Sig := sigOf p_rubricklaw22_As F_rubricklaw22_As
def E_rubricklaw22_As : Env := Env.cons 12 s_rubricklaw22_As E_rubricklaw22_ones
def vc_rubricklaw22_As (d1 : List (List UInt8)) (d2 : List (Int × List UInt8)) : Prop := vcFn E_rubricklaw22_ones (L_rubricklaw22_As (d1, d2)) (body Go.Proofs.Try.f12) 34 Go.Proofs.Try.f12.results.toList (backD p_rubricklaw22_As (d1, d2)) (F_rubricklaw22_As (d1, d2)).2.1 (F_rubricklaw22_As (d1, d2)).2.2
/-! rubricklaw22.Great -/
abbrev p_rubricklaw22_Great : List PS := [.agg [.slice [.slice [.int .u8]], .slice [.int .i64, .slice [.int .u8]]]]
def F_rubricklaw22_Great : List (List UInt8) × List (Int × List UInt8) → Prop × AV × List AB := fun x => match x with
  | (d1, d2) => (True, .bool (S.great d1 d2), [])
def L_rubricklaw22_Great : List (List UInt8) × List (Int × List UInt8) → Nat → Option LoopAnn := fun x => match x with
  | (d1, d2) => fun id => (match id with
    | 0 => some { τ := Nat, slots := [(3, fun k => .int .i64 ((k : Nat) : Int))], keys := [], ren := [], inv := fun k => S.gInv1 d1 k, meas := fun k => S.meas (S.len d1) k }
    | 2 => some { τ := Nat, slots := [(4, fun k => .int .i64 ((k : Nat) : Int))], keys := [], ren := [], inv := fun k => S.gInv2 d1 d2 k, meas := fun k => S.meas (S.len d2) k }
    | _ => none)
def s_rubricklaw22_Great : Sig := sigOf p_rubricklaw22_Great F_rubricklaw22_Great
def E_rubricklaw22_Great : Env := Env.cons 9 s_rubricklaw22_Great E_rubricklaw22_As
def vc_rubricklaw22_Great (d1 : List (List UInt8)) (d2 : List (Int × List UInt8)) : Prop := vcFn E_rubricklaw22_As (L_rubricklaw22_Great (d1, d2)) (body Go.Proofs.Try.f9) 44 Go.Proofs.Try.f9.results.toList (backD p_rubricklaw22_Great (d1, d2)) (F_rubricklaw22_Great (d1, d2)).2.1 (F_rubricklaw22_Great (d1, d2)).2.2
/-! rubricklaw22.knows -/
abbrev p_rubricklaw22_knows : List PS := []
def F_rubricklaw22_knows : Unit → Prop × AV × List AB := fun x => match x with
  | () => (True, .bool true, [])
def L_rubricklaw22_knows : Unit → Nat → Option LoopAnn := fun _ _ => none
def s_rubricklaw22_knows : Sig := sigOf p_rubricklaw22_knows F_rubricklaw22_knows
def E_rubricklaw22_knows : Env := Env.cons 10 s_rubricklaw22_knows E_rubricklaw22_Great
def vc_rubricklaw22_knows  : Prop := vcFn E_rubricklaw22_Great (L_rubricklaw22_knows ()) (body Go.Proofs.Try.f10) 85 Go.Proofs.Try.f10.results.toList (backD p_rubricklaw22_knows ()) (F_rubricklaw22_knows ()).2.1 (F_rubricklaw22_knows ()).2.2
/-! rubricklaw22.BlockReads -/
abbrev p_rubricklaw22_BlockReads : List PS := [.agg [.slice [.slice [.int .u8]], .slice [.int .i64, .slice [.int .u8]]], .one (.int .i64)]
def F_rubricklaw22_BlockReads : List (List UInt8) × List (Int × List UInt8) × Int → Prop × AV × List AB := fun x => match x with
  | (d1, d2, i) => (True, .bool true, [])
def L_rubricklaw22_BlockReads : List (List UInt8) × List (Int × List UInt8) × Int → Nat → Option LoopAnn := fun _ _ => none
def s_rubricklaw22_BlockReads : Sig := sigOf p_rubricklaw22_BlockReads F_rubricklaw22_BlockReads
def E_rubricklaw22_BlockReads : Env := Env.cons 3 s_rubricklaw22_BlockReads E_rubricklaw22_knows
def vc_rubricklaw22_BlockReads (d1 : List (List UInt8)) (d2 : List (Int × List UInt8)) (i : Int) : Prop := vcFn E_rubricklaw22_knows (L_rubricklaw22_BlockReads (d1, d2, i)) (body Go.Proofs.Try.f3) 67 Go.Proofs.Try.f3.results.toList (backD p_rubricklaw22_BlockReads (d1, d2, i)) (F_rubricklaw22_BlockReads (d1, d2, i)).2.1 (F_rubricklaw22_BlockReads (d1, d2, i)).2.2
/-! rubricklaw22.BlockNews -/
abbrev p_rubricklaw22_BlockNews : List PS := [.one (.int .i64)]
def F_rubricklaw22_BlockNews : Int → Prop × AV × List AB := fun x => match x with
  | n => (True, .bool true, [])
def L_rubricklaw22_BlockNews : Int → Nat → Option LoopAnn := fun _ _ => none
def s_rubricklaw22_BlockNews : Sig := sigOf p_rubricklaw22_BlockNews F_rubricklaw22_BlockNews
def E_rubricklaw22_BlockNews : Env := Env.cons 4 s_rubricklaw22_BlockNews E_rubricklaw22_BlockReads
def vc_rubricklaw22_BlockNews (n : Int) : Prop := vcFn E_rubricklaw22_BlockReads (L_rubricklaw22_BlockNews n) (body Go.Proofs.Try.f4) 46 Go.Proofs.Try.f4.results.toList (backD p_rubricklaw22_BlockNews n) (F_rubricklaw22_BlockNews n).2.1 (F_rubricklaw22_BlockNews n).2.2
/-! rubricklaw22.BlockLike -/
abbrev p_rubricklaw22_BlockLike : List PS := [.agg [.slice [.slice [.int .u8]], .slice [.int .i64, .slice [.int .u8]]], .one (.int .i64)]
def F_rubricklaw22_BlockLike : List (List UInt8) × List (Int × List UInt8) × Int → Prop × AV × List AB := fun x => match x with
  | (d1, d2, i) => (True, .bool true, [])
def L_rubricklaw22_BlockLike : List (List UInt8) × List (Int × List UInt8) × Int → Nat → Option LoopAnn := fun _ _ => none
def s_rubricklaw22_BlockLike : Sig := sigOf p_rubricklaw22_BlockLike F_rubricklaw22_BlockLike
def E_rubricklaw22_BlockLike : Env := Env.cons 7 s_rubricklaw22_BlockLike E_rubricklaw22_BlockNews
def vc_rubricklaw22_BlockLike (d1 : List (List UInt8)) (d2 : List (Int × List UInt8)) (i : Int) : Prop := vcFn E_rubricklaw22_BlockNews (L_rubricklaw22_BlockLike (d1, d2, i)) (body Go.Proofs.Try.f7) 45 Go.Proofs.Try.f7.results.toList (backD p_rubricklaw22_BlockLike (d1, d2, i)) (F_rubricklaw22_BlockLike (d1, d2, i)).2.1 (F_rubricklaw22_BlockLike (d1, d2, i)).2.2
/-! rubricklaw22.BlockTwice -/
abbrev p_rubricklaw22_BlockTwice : List PS := [.agg [.slice [.slice [.int .u8]], .slice [.int .i64, .slice [.int .u8]]], .one (.slice [.int .i64])]
def F_rubricklaw22_BlockTwice : List (List UInt8) × List (Int × List UInt8) × List Int → Prop × AV × List AB := fun x => match x with
  | (d1, d2, keep) => (True, .bool true, [])
def L_rubricklaw22_BlockTwice : List (List UInt8) × List (Int × List UInt8) × List Int → Nat → Option LoopAnn := fun _ _ => none
def s_rubricklaw22_BlockTwice : Sig := sigOf p_rubricklaw22_BlockTwice F_rubricklaw22_BlockTwice
def E_rubricklaw22_BlockTwice : Env := Env.cons 8 s_rubricklaw22_BlockTwice E_rubricklaw22_BlockLike
def vc_rubricklaw22_BlockTwice (d1 : List (List UInt8)) (d2 : List (Int × List UInt8)) (keep : List Int) : Prop := vcFn E_rubricklaw22_BlockLike (L_rubricklaw22_BlockTwice (d1, d2, keep)) (body Go.Proofs.Try.f8) 57 Go.Proofs.Try.f8.results.toList (backD p_rubricklaw22_BlockTwice (d1, d2, keep)) (F_rubricklaw22_BlockTwice (d1, d2, keep)).2.1 (F_rubricklaw22_BlockTwice (d1, d2, keep)).2.2
/-! rubricklaw22.BlockLasts -/
abbrev p_rubricklaw22_BlockLasts : List PS := [.agg [.slice [.slice [.int .u8]], .slice [.int .i64, .slice [.int .u8]]], .one (.slice [.int .i64, .int .i64, .slice [.int .u8], .slice [.int .i64]]), .one (.int .i64), .one (.slice [.int .i64])]
def F_rubricklaw22_BlockLasts : List (List UInt8) × List (Int × List UInt8) × List (Int × Int × List UInt8 × List Int) × Int × List Int → Prop × AV × List AB := fun x => match x with
  | (d1, d2, l, i, keep) => (True, .bool true, [])
def L_rubricklaw22_BlockLasts : List (List UInt8) × List (Int × List UInt8) × List (Int × Int × List UInt8 × List Int) × Int × List Int → Nat → Option LoopAnn := fun x => match x with
  | (d1, d2, l, i, keep) => fun id => (match id with
    | 0 => some { τ := Nat × S.Ws, slots := [(11, fun k => .int .i64 (k.1 : Int))], keys := [(4, fun k => .cells [.sl [.slice [.int .u8]] (S.sync d1 d2), .sl [.int .i64, .slice [.int .u8]] k.2])], ren := [], inv := fun k => S.lastsInv (S.sync d1 d2) i k.1 k.2, meas := fun k => S.meas 60 k.1 }
    | _ => none)
def s_rubricklaw22_BlockLasts : Sig := sigOf p_rubricklaw22_BlockLasts F_rubricklaw22_BlockLasts
def E_rubricklaw22_BlockLasts : Env := Env.cons 5 s_rubricklaw22_BlockLasts E_rubricklaw22_BlockTwice
def vc_rubricklaw22_BlockLasts (d1 : List (List UInt8)) (d2 : List (Int × List UInt8)) (l : List (Int × Int × List UInt8 × List Int)) (i : Int) (keep : List Int) : Prop := vcFn E_rubricklaw22_BlockTwice (L_rubricklaw22_BlockLasts (d1, d2, l, i, keep)) (body Go.Proofs.Try.f5) 92 Go.Proofs.Try.f5.results.toList (backD p_rubricklaw22_BlockLasts (d1, d2, l, i, keep)) (F_rubricklaw22_BlockLasts (d1, d2, l, i, keep)).2.1 (F_rubricklaw22_BlockLasts (d1, d2, l, i, keep)).2.2
/-! rubricklaw22.BlockTears -/
abbrev p_rubricklaw22_BlockTears : List PS := [.agg [.slice [.slice [.int .u8]], .slice [.int .i64, .slice [.int .u8]]], .one (.slice [.int .i64, .int .i64, .slice [.int .u8], .slice [.int .i64]]), .one (.int .i64), .one (.slice [.int .u8]), .one (.slice [.int .i64])]
def F_rubricklaw22_BlockTears : List (List UInt8) × List (Int × List UInt8) × List (Int × Int × List UInt8 × List Int) × Int × List UInt8 × List Int → Prop × AV × List AB := fun x => match x with
  | (d1, d2, l, i, b, keep) => (True, .bool true, [])
def L_rubricklaw22_BlockTears : List (List UInt8) × List (Int × List UInt8) × List (Int × Int × List UInt8 × List Int) × Int × List UInt8 × List Int → Nat → Option LoopAnn := fun x => match x with
  | (d1, d2, l, i, b, keep) => fun id => (match id with
    | 0 => some { τ := Nat × S.Ws, slots := [(13, fun k => .int .i64 (k.1 : Int))], keys := [(5, fun k => .cells [.sl [.slice [.int .u8]] (S.sync d1 d2), .sl [.int .i64, .slice [.int .u8]] k.2])], ren := [], inv := fun k => S.tearsInv (S.sync d1 d2) i b k.1 k.2, meas := fun k => S.meas 60 k.1 }
    | 2 => some { τ := Nat, slots := [(16, fun k => .int .i64 ((k : Nat) : Int))], keys := [], ren := [], inv := fun k => S.leN k (S.kept keep 0), meas := fun k => S.meas 100 k }
    | _ => none)
def s_rubricklaw22_BlockTears : Sig := sigOf p_rubricklaw22_BlockTears F_rubricklaw22_BlockTears
def E_rubricklaw22_BlockTears : Env := Env.cons 6 s_rubricklaw22_BlockTears E_rubricklaw22_BlockLasts
def vc_rubricklaw22_BlockTears (d1 : List (List UInt8)) (d2 : List (Int × List UInt8)) (l : List (Int × Int × List UInt8 × List Int)) (i : Int) (b : List UInt8) (keep : List Int) : Prop := vcFn E_rubricklaw22_BlockLasts (L_rubricklaw22_BlockTears (d1, d2, l, i, b, keep)) (body Go.Proofs.Try.f6) 131 Go.Proofs.Try.f6.results.toList (backD p_rubricklaw22_BlockTears (d1, d2, l, i, b, keep)) (F_rubricklaw22_BlockTears (d1, d2, l, i, b, keep)).2.1 (F_rubricklaw22_BlockTears (d1, d2, l, i, b, keep)).2.2
end Go.J
