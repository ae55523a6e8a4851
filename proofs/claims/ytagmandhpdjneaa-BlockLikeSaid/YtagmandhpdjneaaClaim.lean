import Derived.Test.YtagmandhpdjneaaRows
import Derived.Test.YtagmandhpdjneaaJoined
set_option linter.unusedVariables false
/- The statements named below hold for every input: the given Go function returns true and leaves its arguments as they were. Conditions: none. -/
namespace Go.Proofs.Ytagmandhpdjneaa
open Go Go.Vg Go.ChangeShapes Go.WideShapes Go.ChangeAt Go.RowKit
theorem own : ownKnob Try.prog.godebug = none := by kernel_rfl
theorem laidOut : laidOutB Try.prog = true := by kernel_rfl

theorem blockReads_valid : Valid Try.prog 3 (sigOf Go.J.p_rubricklaw22_BlockReads fun _ => (True, .bool true, [])) := Go.J.v_rubricklaw22_BlockReads
set_option maxRecDepth 100000 in
theorem blockReads_lifted (os : Os) (started : os.Started) (H : Type) (enc : TypeId × Value → H) :
    ReturnsInHanded {} Try.checked os 3 .any (Rows.blockReadsSpec.pre6 enc Try.prog Try.f3 Rows.blockReadsRow.domain false) (Rows.blockReadsSpec.post enc Try.prog Try.f3 false true false false) := by
  refine returnsInHanded_of_change (C := Try.checked) own started (by kernel_rfl) Try.func3
    (ChangeSpec.witness6 (enc := enc) (C := Try.checked) false ⟨#[], #[.agg #[.slice none 0 0, .slice none 0 0], .int .i64 0], []⟩ 8 (by kernel_rfl) (by kernel_rfl) (by kernel_rfl) (by kernel_rfl)) ?_
  intro W base args ds gs before hval hW _ _
  refine law_contract (TabOk.of tab_ok) laidOut blockReads_valid (show PS.ofs tab Try.f3.params.toList = _ by kernel_rfl) (by kernel_rfl) (show Try.f3.resultTypes = #[4] by kernel_rfl) Try.underlying4 rfl ?_ hval hW
  intro H ds hds
  have hn : Try.f3.params.toList.length = 2 := by kernel_rfl
  rw [hn] at hds
  match ds, hds with
  | [d0, d1], _ => rfl

theorem blockReads_holds : Rows.BlockReadsSaid :=
  OpenClaim.holds_of_wide 3 Try.f3 rfl rfl rfl rfl rfl rfl rfl ⟨rfl, rfl, rfl, rfl, rfl⟩ rfl rfl rfl rfl rfl (by kernel_rfl) Try.func3 (by kernel_rfl)
    (of_decide_eq_true (by kernel_rfl)) (by unfold Func.isWrapper; first | (rw [if_pos (by decide +kernel)]; kernel_rfl) | (rw [if_neg (by decide +kernel)]; exact ⟨rfl, rfl⟩))
    (fun os started H enc _ => blockReads_lifted os started H enc)

#print axioms blockReads_holds

theorem blockNews_valid : Valid Try.prog 4 (sigOf Go.J.p_rubricklaw22_BlockNews fun _ => (True, .bool true, [])) := Go.J.v_rubricklaw22_BlockNews
set_option maxRecDepth 100000 in
theorem blockNews_lifted (os : Os) (started : os.Started) (H : Type) (enc : TypeId × Value → H) :
    ReturnsInHanded {} Try.checked os 4 .any (Rows.blockNewsSpec.pre6 enc Try.prog Try.f4 Rows.blockNewsRow.domain false) (Rows.blockNewsSpec.post enc Try.prog Try.f4 false true false false) := by
  refine returnsInHanded_of_change (C := Try.checked) own started (by kernel_rfl) Try.func4
    (ChangeSpec.witness6 (enc := enc) (C := Try.checked) false ⟨#[], #[.int .i64 0], []⟩ 8 (by kernel_rfl) (by kernel_rfl) (by kernel_rfl) (by kernel_rfl)) ?_
  intro W base args ds gs before hval hW _ _
  refine law_contract (TabOk.of tab_ok) laidOut blockNews_valid (show PS.ofs tab Try.f4.params.toList = _ by kernel_rfl) (by kernel_rfl) (show Try.f4.resultTypes = #[4] by kernel_rfl) Try.underlying4 rfl ?_ hval hW
  intro H ds hds
  have hn : Try.f4.params.toList.length = 1 := by kernel_rfl
  rw [hn] at hds
  match ds, hds with
  | [d0], _ => rfl

theorem blockNews_holds : Rows.BlockNewsSaid :=
  OpenClaim.holds_of_wide 4 Try.f4 rfl rfl rfl rfl rfl rfl rfl ⟨rfl, rfl, rfl, rfl, rfl⟩ rfl rfl rfl rfl rfl (by kernel_rfl) Try.func4 (by kernel_rfl)
    (of_decide_eq_true (by kernel_rfl)) (by unfold Func.isWrapper; first | (rw [if_pos (by decide +kernel)]; kernel_rfl) | (rw [if_neg (by decide +kernel)]; exact ⟨rfl, rfl⟩))
    (fun os started H enc _ => blockNews_lifted os started H enc)

#print axioms blockNews_holds

theorem blockLike_valid : Valid Try.prog 7 (sigOf Go.J.p_rubricklaw22_BlockLike fun _ => (True, .bool true, [])) := Go.J.v_rubricklaw22_BlockLike
set_option maxRecDepth 100000 in
theorem blockLike_lifted (os : Os) (started : os.Started) (H : Type) (enc : TypeId × Value → H) :
    ReturnsInHanded {} Try.checked os 7 .any (Rows.blockLikeSpec.pre6 enc Try.prog Try.f7 Rows.blockLikeRow.domain false) (Rows.blockLikeSpec.post enc Try.prog Try.f7 false true false false) := by
  refine returnsInHanded_of_change (C := Try.checked) own started (by kernel_rfl) Try.func7
    (ChangeSpec.witness6 (enc := enc) (C := Try.checked) false ⟨#[], #[.agg #[.slice none 0 0, .slice none 0 0], .int .i64 0], []⟩ 8 (by kernel_rfl) (by kernel_rfl) (by kernel_rfl) (by kernel_rfl)) ?_
  intro W base args ds gs before hval hW _ _
  refine law_contract (TabOk.of tab_ok) laidOut blockLike_valid (show PS.ofs tab Try.f7.params.toList = _ by kernel_rfl) (by kernel_rfl) (show Try.f7.resultTypes = #[4] by kernel_rfl) Try.underlying4 rfl ?_ hval hW
  intro H ds hds
  have hn : Try.f7.params.toList.length = 2 := by kernel_rfl
  rw [hn] at hds
  match ds, hds with
  | [d0, d1], _ => rfl

theorem blockLike_holds : Rows.BlockLikeSaid :=
  OpenClaim.holds_of_wide 7 Try.f7 rfl rfl rfl rfl rfl rfl rfl ⟨rfl, rfl, rfl, rfl, rfl⟩ rfl rfl rfl rfl rfl (by kernel_rfl) Try.func7 (by kernel_rfl)
    (of_decide_eq_true (by kernel_rfl)) (by unfold Func.isWrapper; first | (rw [if_pos (by decide +kernel)]; kernel_rfl) | (rw [if_neg (by decide +kernel)]; exact ⟨rfl, rfl⟩))
    (fun os started H enc _ => blockLike_lifted os started H enc)

#print axioms blockLike_holds

theorem blockTwice_valid : Valid Try.prog 8 (sigOf Go.J.p_rubricklaw22_BlockTwice fun _ => (True, .bool true, [])) := Go.J.v_rubricklaw22_BlockTwice
set_option maxRecDepth 100000 in
theorem blockTwice_lifted (os : Os) (started : os.Started) (H : Type) (enc : TypeId × Value → H) :
    ReturnsInHanded {} Try.checked os 8 .any (Rows.blockTwiceSpec.pre6 enc Try.prog Try.f8 Rows.blockTwiceRow.domain false) (Rows.blockTwiceSpec.post enc Try.prog Try.f8 false true false false) := by
  refine returnsInHanded_of_change (C := Try.checked) own started (by kernel_rfl) Try.func8
    (ChangeSpec.witness6 (enc := enc) (C := Try.checked) false ⟨#[], #[.agg #[.slice none 0 0, .slice none 0 0], .slice none 0 0], []⟩ 8 (by kernel_rfl) (by kernel_rfl) (by kernel_rfl) (by kernel_rfl)) ?_
  intro W base args ds gs before hval hW _ _
  refine law_contract (TabOk.of tab_ok) laidOut blockTwice_valid (show PS.ofs tab Try.f8.params.toList = _ by kernel_rfl) (by kernel_rfl) (show Try.f8.resultTypes = #[4] by kernel_rfl) Try.underlying4 rfl ?_ hval hW
  intro H ds hds
  have hn : Try.f8.params.toList.length = 2 := by kernel_rfl
  rw [hn] at hds
  match ds, hds with
  | [d0, d1], _ => rfl

theorem blockTwice_holds : Rows.BlockTwiceSaid :=
  OpenClaim.holds_of_wide 8 Try.f8 rfl rfl rfl rfl rfl rfl rfl ⟨rfl, rfl, rfl, rfl, rfl⟩ rfl rfl rfl rfl rfl (by kernel_rfl) Try.func8 (by kernel_rfl)
    (of_decide_eq_true (by kernel_rfl)) (by unfold Func.isWrapper; first | (rw [if_pos (by decide +kernel)]; kernel_rfl) | (rw [if_neg (by decide +kernel)]; exact ⟨rfl, rfl⟩))
    (fun os started H enc _ => blockTwice_lifted os started H enc)

#print axioms blockTwice_holds

theorem blockLasts_valid : Valid Try.prog 5 (sigOf Go.J.p_rubricklaw22_BlockLasts fun _ => (True, .bool true, [])) := Go.J.v_rubricklaw22_BlockLasts
set_option maxRecDepth 100000 in
theorem blockLasts_lifted (os : Os) (started : os.Started) (H : Type) (enc : TypeId × Value → H) :
    ReturnsInHanded {} Try.checked os 5 .any (Rows.blockLastsSpec.pre6 enc Try.prog Try.f5 Rows.blockLastsRow.domain false) (Rows.blockLastsSpec.post enc Try.prog Try.f5 false true false false) := by
  refine returnsInHanded_of_change (C := Try.checked) own started (by kernel_rfl) Try.func5
    (ChangeSpec.witness6 (enc := enc) (C := Try.checked) false ⟨#[], #[.agg #[.slice none 0 0, .slice none 0 0], .slice none 0 0, .int .i64 0, .slice none 0 0], []⟩ 8 (by kernel_rfl) (by kernel_rfl) (by kernel_rfl) (by kernel_rfl)) ?_
  intro W base args ds gs before hval hW _ _
  refine law_contract (TabOk.of tab_ok) laidOut blockLasts_valid (show PS.ofs tab Try.f5.params.toList = _ by kernel_rfl) (by kernel_rfl) (show Try.f5.resultTypes = #[4] by kernel_rfl) Try.underlying4 rfl ?_ hval hW
  intro H ds hds
  have hn : Try.f5.params.toList.length = 4 := by kernel_rfl
  rw [hn] at hds
  match ds, hds with
  | [d0, d1, d2, d3], _ => rfl

theorem blockLasts_holds : Rows.BlockLastsSaid :=
  OpenClaim.holds_of_wide 5 Try.f5 rfl rfl rfl rfl rfl rfl rfl ⟨rfl, rfl, rfl, rfl, rfl⟩ rfl rfl rfl rfl rfl (by kernel_rfl) Try.func5 (by kernel_rfl)
    (of_decide_eq_true (by kernel_rfl)) (by unfold Func.isWrapper; first | (rw [if_pos (by decide +kernel)]; kernel_rfl) | (rw [if_neg (by decide +kernel)]; exact ⟨rfl, rfl⟩))
    (fun os started H enc _ => blockLasts_lifted os started H enc)

#print axioms blockLasts_holds

theorem blockTears_valid : Valid Try.prog 6 (sigOf Go.J.p_rubricklaw22_BlockTears fun _ => (True, .bool true, [])) := Go.J.v_rubricklaw22_BlockTears
set_option maxRecDepth 100000 in
theorem blockTears_lifted (os : Os) (started : os.Started) (H : Type) (enc : TypeId × Value → H) :
    ReturnsInHanded {} Try.checked os 6 .any (Rows.blockTearsSpec.pre6 enc Try.prog Try.f6 Rows.blockTearsRow.domain false) (Rows.blockTearsSpec.post enc Try.prog Try.f6 false true false false) := by
  refine returnsInHanded_of_change (C := Try.checked) own started (by kernel_rfl) Try.func6
    (ChangeSpec.witness6 (enc := enc) (C := Try.checked) false ⟨#[], #[.agg #[.slice none 0 0, .slice none 0 0], .slice none 0 0, .int .i64 0, .slice none 0 0, .slice none 0 0], []⟩ 8 (by kernel_rfl) (by kernel_rfl) (by kernel_rfl) (by kernel_rfl)) ?_
  intro W base args ds gs before hval hW _ _
  refine law_contract (TabOk.of tab_ok) laidOut blockTears_valid (show PS.ofs tab Try.f6.params.toList = _ by kernel_rfl) (by kernel_rfl) (show Try.f6.resultTypes = #[4] by kernel_rfl) Try.underlying4 rfl ?_ hval hW
  intro H ds hds
  have hn : Try.f6.params.toList.length = 5 := by kernel_rfl
  rw [hn] at hds
  match ds, hds with
  | [d0, d1, d2, d3, d4], _ => rfl

theorem blockTears_holds : Rows.BlockTearsSaid :=
  OpenClaim.holds_of_wide 6 Try.f6 rfl rfl rfl rfl rfl rfl rfl ⟨rfl, rfl, rfl, rfl, rfl⟩ rfl rfl rfl rfl rfl (by kernel_rfl) Try.func6 (by kernel_rfl)
    (of_decide_eq_true (by kernel_rfl)) (by unfold Func.isWrapper; first | (rw [if_pos (by decide +kernel)]; kernel_rfl) | (rw [if_neg (by decide +kernel)]; exact ⟨rfl, rfl⟩))
    (fun os started H enc _ => blockTears_lifted os started H enc)

#print axioms blockTears_holds
end Go.Proofs.Ytagmandhpdjneaa
