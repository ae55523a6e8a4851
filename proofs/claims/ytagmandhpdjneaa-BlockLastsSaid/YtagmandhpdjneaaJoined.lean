import Derived.Test.YtagmandhpdjneaaSigs
import Derived.Test.YtagmandhpdjneaaShown
set_option linter.unusedVariables false
namespace Go.J
open Go Vg
theorem mixed : Go.Proofs.Try.prog.follows .mixedOrders = true := by kernel_rfl
theorem ok_E0 : EnvOk Go.Proofs.Try.prog E0 := EnvOk.none (TabOk.of tab_ok)
theorem v_block_copied : Valid Go.Proofs.Try.prog 26 s_block_copied := valid_sigOf ok_E0 mixed p_block_copied L_block_copied Go.Proofs.Try.func26 (c := body Go.Proofs.Try.f26) (by kernel_rfl) (by
  rintro b hp hf
  exact Eq.mp (show V_block_copied b = _ by kernel_rfl) (H_block_copied b hp hf))
theorem ok_E_block_copied : EnvOk Go.Proofs.Try.prog E_block_copied := EnvOk.cons ok_E0 v_block_copied (FnOk.of Go.Proofs.Try.func26 (c := body Go.Proofs.Try.f26) (by kernel_rfl) (by kernel_rfl))
theorem v_block_blank : Valid Go.Proofs.Try.prog 27 s_block_blank := valid_sigOf ok_E_block_copied mixed p_block_blank L_block_blank Go.Proofs.Try.func27 (c := body Go.Proofs.Try.f27) (by kernel_rfl) (by
  rintro n hp hf
  exact Eq.mp (show V_block_blank n = _ by kernel_rfl) (H_block_blank n hp hf))
theorem ok_E_block_blank : EnvOk Go.Proofs.Try.prog E_block_blank := EnvOk.cons ok_E_block_copied v_block_blank (FnOk.of Go.Proofs.Try.func27 (c := body Go.Proofs.Try.f27) (by kernel_rfl) (by kernel_rfl))
theorem v_block_stored : Valid Go.Proofs.Try.prog 28 s_block_stored := valid_sigOf ok_E_block_blank mixed p_block_stored L_block_stored Go.Proofs.Try.func28 (c := body Go.Proofs.Try.f28) (by kernel_rfl) (by
  rintro ⟨d1, d2⟩ hp hf
  exact Eq.mp (show V_block_stored d1 d2 = _ by kernel_rfl) (H_block_stored d1 d2 hp hf))
theorem ok_E_block_stored : EnvOk Go.Proofs.Try.prog E_block_stored := EnvOk.cons ok_E_block_blank v_block_stored (FnOk.of Go.Proofs.Try.func28 (c := body Go.Proofs.Try.f28) (by kernel_rfl) (by kernel_rfl))
theorem v_block_Right : Valid Go.Proofs.Try.prog 13 s_block_Right := valid_sigOf ok_E_block_stored mixed p_block_Right L_block_Right Go.Proofs.Try.func13 (c := body Go.Proofs.Try.f13) (by kernel_rfl) (by
  rintro ⟨d1, d2⟩ hp hf
  exact Eq.mp (show V_block_Right d1 d2 = _ by kernel_rfl) (H_block_Right d1 d2 hp hf))
theorem ok_E_block_Right : EnvOk Go.Proofs.Try.prog E_block_Right := EnvOk.cons ok_E_block_stored v_block_Right (FnOk.of Go.Proofs.Try.func13 (c := body Go.Proofs.Try.f13) (by kernel_rfl) (by kernel_rfl))
theorem v_block_valid : Valid Go.Proofs.Try.prog 25 s_block_valid := valid_sigOf ok_E_block_Right mixed p_block_valid L_block_valid Go.Proofs.Try.func25 (c := body Go.Proofs.Try.f25) (by kernel_rfl) (by
  rintro ⟨d1, d2⟩ hp hf
  exact Eq.mp (show V_block_valid d1 d2 = _ by kernel_rfl) (H_block_valid d1 d2 hp hf))
theorem ok_E_block_valid : EnvOk Go.Proofs.Try.prog E_block_valid := EnvOk.cons ok_E_block_Right v_block_valid (FnOk.of Go.Proofs.Try.func25 (c := body Go.Proofs.Try.f25) (by kernel_rfl) (by kernel_rfl))
theorem v_block_Len : Valid Go.Proofs.Try.prog 15 s_block_Len := valid_sigOf ok_E_block_valid mixed p_block_Len L_block_Len Go.Proofs.Try.func15 (c := body Go.Proofs.Try.f15) (by kernel_rfl) (by
  rintro ⟨d1, d2⟩ hp hf
  exact Eq.mp (show V_block_Len d1 d2 = _ by kernel_rfl) (H_block_Len d1 d2 hp hf))
theorem ok_E_block_Len : EnvOk Go.Proofs.Try.prog E_block_Len := EnvOk.cons ok_E_block_valid v_block_Len (FnOk.of Go.Proofs.Try.func15 (c := body Go.Proofs.Try.f15) (by kernel_rfl) (by kernel_rfl))
theorem v_block_New : Valid Go.Proofs.Try.prog 18 s_block_New := valid_sigOf ok_E_block_Len mixed p_block_New L_block_New Go.Proofs.Try.func18 (c := body Go.Proofs.Try.f18) (by kernel_rfl) (by
  rintro n hp hf
  exact Eq.mp (show V_block_New n = _ by kernel_rfl) (H_block_New n hp hf))
theorem ok_E_block_New : EnvOk Go.Proofs.Try.prog E_block_New := EnvOk.cons ok_E_block_Len v_block_New (FnOk.of Go.Proofs.Try.func18 (c := body Go.Proofs.Try.f18) (by kernel_rfl) (by kernel_rfl))
theorem v_block_Read : Valid Go.Proofs.Try.prog 11 s_block_Read := valid_sigOf ok_E_block_New mixed p_block_Read L_block_Read Go.Proofs.Try.func11 (c := body Go.Proofs.Try.f11) (by kernel_rfl) (by
  rintro ⟨d1, d2, i⟩ hp hf
  exact Eq.mp (show V_block_Read d1 d2 i = _ by kernel_rfl) (H_block_Read d1 d2 i hp hf))
theorem ok_E_block_Read : EnvOk Go.Proofs.Try.prog E_block_Read := EnvOk.cons ok_E_block_New v_block_Read (FnOk.of Go.Proofs.Try.func11 (c := body Go.Proofs.Try.f11) (by kernel_rfl) (by kernel_rfl))
theorem v_block_Write : Valid Go.Proofs.Try.prog 22 s_block_Write := valid_sigOf ok_E_block_Read mixed p_block_Write L_block_Write Go.Proofs.Try.func22 (c := body Go.Proofs.Try.f22) (by kernel_rfl) (by
  rintro ⟨d1, d2, i, b⟩ hp hf
  exact Eq.mp (show V_block_Write d1 d2 i b = _ by kernel_rfl) (H_block_Write d1 d2 i b hp hf))
theorem ok_E_block_Write : EnvOk Go.Proofs.Try.prog E_block_Write := EnvOk.cons ok_E_block_Read v_block_Write (FnOk.of Go.Proofs.Try.func22 (c := body Go.Proofs.Try.f22) (by kernel_rfl) (by kernel_rfl))
theorem v_block_Sync : Valid Go.Proofs.Try.prog 21 s_block_Sync := valid_sigOf ok_E_block_Write mixed p_block_Sync L_block_Sync Go.Proofs.Try.func21 (c := body Go.Proofs.Try.f21) (by kernel_rfl) (by
  rintro ⟨d1, d2⟩ hp hf
  exact Eq.mp (show V_block_Sync d1 d2 = _ by kernel_rfl) (H_block_Sync d1 d2 hp hf))
theorem ok_E_block_Sync : EnvOk Go.Proofs.Try.prog E_block_Sync := EnvOk.cons ok_E_block_Write v_block_Sync (FnOk.of Go.Proofs.Try.func21 (c := body Go.Proofs.Try.f21) (by kernel_rfl) (by kernel_rfl))
theorem v_block_Crash : Valid Go.Proofs.Try.prog 23 s_block_Crash := valid_sigOf ok_E_block_Sync mixed p_block_Crash L_block_Crash Go.Proofs.Try.func23 (c := body Go.Proofs.Try.f23) (by kernel_rfl) (by
  rintro ⟨d1, d2, keep⟩ hp hf
  exact Eq.mp (show V_block_Crash d1 d2 keep = _ by kernel_rfl) (H_block_Crash d1 d2 keep hp hf))
theorem ok_E_block_Crash : EnvOk Go.Proofs.Try.prog E_block_Crash := EnvOk.cons ok_E_block_Sync v_block_Crash (FnOk.of Go.Proofs.Try.func23 (c := body Go.Proofs.Try.f23) (by kernel_rfl) (by kernel_rfl))
theorem v_rubrickref22_Right : Valid Go.Proofs.Try.prog 14 s_rubrickref22_Right := valid_sigOf ok_E_block_Crash mixed p_rubrickref22_Right L_rubrickref22_Right Go.Proofs.Try.func14 (c := body Go.Proofs.Try.f14) (by kernel_rfl) (by
  rintro ⟨d1, d2⟩ hp hf
  exact Eq.mp (show V_rubrickref22_Right d1 d2 = _ by kernel_rfl) (H_rubrickref22_Right d1 d2 hp hf))
theorem ok_E_rubrickref22_Right : EnvOk Go.Proofs.Try.prog E_rubrickref22_Right := EnvOk.cons ok_E_block_Crash v_rubrickref22_Right (FnOk.of Go.Proofs.Try.func14 (c := body Go.Proofs.Try.f14) (by kernel_rfl) (by kernel_rfl))
theorem v_rubrickref22_Good : Valid Go.Proofs.Try.prog 16 s_rubrickref22_Good := valid_sigOf ok_E_rubrickref22_Right mixed p_rubrickref22_Good L_rubrickref22_Good Go.Proofs.Try.func16 (c := body Go.Proofs.Try.f16) (by kernel_rfl) (by
  rintro ⟨d1, d2⟩ hp hf
  exact Eq.mp (show V_rubrickref22_Good d1 d2 = _ by kernel_rfl) (H_rubrickref22_Good d1 d2 hp hf))
theorem ok_E_rubrickref22_Good : EnvOk Go.Proofs.Try.prog E_rubrickref22_Good := EnvOk.cons ok_E_rubrickref22_Right v_rubrickref22_Good (FnOk.of Go.Proofs.Try.func16 (c := body Go.Proofs.Try.f16) (by kernel_rfl) (by kernel_rfl))
theorem v_rubrickref22_Read : Valid Go.Proofs.Try.prog 17 s_rubrickref22_Read := valid_sigOf ok_E_rubrickref22_Good mixed p_rubrickref22_Read L_rubrickref22_Read Go.Proofs.Try.func17 (c := body Go.Proofs.Try.f17) (by kernel_rfl) (by
  rintro ⟨d1, d2, i⟩ hp hf
  exact Eq.mp (show V_rubrickref22_Read d1 d2 i = _ by kernel_rfl) (H_rubrickref22_Read d1 d2 i hp hf))
theorem ok_E_rubrickref22_Read : EnvOk Go.Proofs.Try.prog E_rubrickref22_Read := EnvOk.cons ok_E_rubrickref22_Good v_rubrickref22_Read (FnOk.of Go.Proofs.Try.func17 (c := body Go.Proofs.Try.f17) (by kernel_rfl) (by kernel_rfl))
theorem v_rubrickref22_New : Valid Go.Proofs.Try.prog 20 s_rubrickref22_New := valid_sigOf ok_E_rubrickref22_Read mixed p_rubrickref22_New L_rubrickref22_New Go.Proofs.Try.func20 (c := body Go.Proofs.Try.f20) (by kernel_rfl) (by
  rintro n hp hf
  exact Eq.mp (show V_rubrickref22_New n = _ by kernel_rfl) (H_rubrickref22_New n hp hf))
theorem ok_E_rubrickref22_New : EnvOk Go.Proofs.Try.prog E_rubrickref22_New := EnvOk.cons ok_E_rubrickref22_Read v_rubrickref22_New (FnOk.of Go.Proofs.Try.func20 (c := body Go.Proofs.Try.f20) (by kernel_rfl) (by kernel_rfl))
theorem v_rubrickref22_Same : Valid Go.Proofs.Try.prog 19 s_rubrickref22_Same := valid_sigOf ok_E_rubrickref22_New mixed p_rubrickref22_Same L_rubrickref22_Same Go.Proofs.Try.func19 (c := body Go.Proofs.Try.f19) (by kernel_rfl) (by
  rintro ⟨a1, a2, b1, b2⟩ hp hf
  exact Eq.mp (show V_rubrickref22_Same a1 a2 b1 b2 = _ by kernel_rfl) (H_rubrickref22_Same a1 a2 b1 b2 hp hf))
theorem ok_E_rubrickref22_Same : EnvOk Go.Proofs.Try.prog E_rubrickref22_Same := EnvOk.cons ok_E_rubrickref22_New v_rubrickref22_Same (FnOk.of Go.Proofs.Try.func19 (c := body Go.Proofs.Try.f19) (by kernel_rfl) (by kernel_rfl))
theorem v_rubricklaw22_ones : Valid Go.Proofs.Try.prog 24 s_rubricklaw22_ones := valid_sigOf ok_E_rubrickref22_Same mixed p_rubricklaw22_ones L_rubricklaw22_ones Go.Proofs.Try.func24 (c := body Go.Proofs.Try.f24) (by kernel_rfl) (by
  rintro x hp hf
  exact Eq.mp (show V_rubricklaw22_ones x = _ by kernel_rfl) (H_rubricklaw22_ones x hp hf))
theorem ok_E_rubricklaw22_ones : EnvOk Go.Proofs.Try.prog E_rubricklaw22_ones := EnvOk.cons ok_E_rubrickref22_Same v_rubricklaw22_ones (FnOk.of Go.Proofs.Try.func24 (c := body Go.Proofs.Try.f24) (by kernel_rfl) (by kernel_rfl))
theorem v_rubricklaw22_As : Valid Go.Proofs.Try.prog 12 s_rubricklaw22_As := valid_sigOf ok_E_rubricklaw22_ones mixed p_rubricklaw22_As L_rubricklaw22_As Go.Proofs.Try.func12 (c := body Go.Proofs.Try.f12) (by kernel_rfl) (by
  rintro ⟨d1, d2⟩ hp hf
  exact Eq.mp (show V_rubricklaw22_As d1 d2 = _ by kernel_rfl) (H_rubricklaw22_As d1 d2 hp hf))
theorem ok_E_rubricklaw22_As : EnvOk Go.Proofs.Try.prog E_rubricklaw22_As := EnvOk.cons ok_E_rubricklaw22_ones v_rubricklaw22_As (FnOk.of Go.Proofs.Try.func12 (c := body Go.Proofs.Try.f12) (by kernel_rfl) (by kernel_rfl))
theorem v_rubricklaw22_Great : Valid Go.Proofs.Try.prog 9 s_rubricklaw22_Great := valid_sigOf ok_E_rubricklaw22_As mixed p_rubricklaw22_Great L_rubricklaw22_Great Go.Proofs.Try.func9 (c := body Go.Proofs.Try.f9) (by kernel_rfl) (by
  rintro ⟨d1, d2⟩ hp hf
  exact Eq.mp (show V_rubricklaw22_Great d1 d2 = _ by kernel_rfl) (H_rubricklaw22_Great d1 d2 hp hf))
theorem ok_E_rubricklaw22_Great : EnvOk Go.Proofs.Try.prog E_rubricklaw22_Great := EnvOk.cons ok_E_rubricklaw22_As v_rubricklaw22_Great (FnOk.of Go.Proofs.Try.func9 (c := body Go.Proofs.Try.f9) (by kernel_rfl) (by kernel_rfl))
theorem v_rubricklaw22_knows : Valid Go.Proofs.Try.prog 10 s_rubricklaw22_knows := valid_sigOf ok_E_rubricklaw22_Great mixed p_rubricklaw22_knows L_rubricklaw22_knows Go.Proofs.Try.func10 (c := body Go.Proofs.Try.f10) (by kernel_rfl) (by
  rintro ⟨⟩ hp hf
  exact Eq.mp (show V_rubricklaw22_knows  = _ by kernel_rfl) (H_rubricklaw22_knows  hp hf))
theorem ok_E_rubricklaw22_knows : EnvOk Go.Proofs.Try.prog E_rubricklaw22_knows := EnvOk.cons ok_E_rubricklaw22_Great v_rubricklaw22_knows (FnOk.of Go.Proofs.Try.func10 (c := body Go.Proofs.Try.f10) (by kernel_rfl) (by kernel_rfl))
theorem v_rubricklaw22_BlockReads : Valid Go.Proofs.Try.prog 3 s_rubricklaw22_BlockReads := valid_sigOf ok_E_rubricklaw22_knows mixed p_rubricklaw22_BlockReads L_rubricklaw22_BlockReads Go.Proofs.Try.func3 (c := body Go.Proofs.Try.f3) (by kernel_rfl) (by
  rintro ⟨d1, d2, i⟩ hp hf
  exact Eq.mp (show V_rubricklaw22_BlockReads d1 d2 i = _ by kernel_rfl) (H_rubricklaw22_BlockReads d1 d2 i hp hf))
theorem ok_E_rubricklaw22_BlockReads : EnvOk Go.Proofs.Try.prog E_rubricklaw22_BlockReads := EnvOk.cons ok_E_rubricklaw22_knows v_rubricklaw22_BlockReads (FnOk.of Go.Proofs.Try.func3 (c := body Go.Proofs.Try.f3) (by kernel_rfl) (by kernel_rfl))
theorem v_rubricklaw22_BlockNews : Valid Go.Proofs.Try.prog 4 s_rubricklaw22_BlockNews := valid_sigOf ok_E_rubricklaw22_BlockReads mixed p_rubricklaw22_BlockNews L_rubricklaw22_BlockNews Go.Proofs.Try.func4 (c := body Go.Proofs.Try.f4) (by kernel_rfl) (by
  rintro n hp hf
  exact Eq.mp (show V_rubricklaw22_BlockNews n = _ by kernel_rfl) (H_rubricklaw22_BlockNews n hp hf))
theorem ok_E_rubricklaw22_BlockNews : EnvOk Go.Proofs.Try.prog E_rubricklaw22_BlockNews := EnvOk.cons ok_E_rubricklaw22_BlockReads v_rubricklaw22_BlockNews (FnOk.of Go.Proofs.Try.func4 (c := body Go.Proofs.Try.f4) (by kernel_rfl) (by kernel_rfl))
theorem v_rubricklaw22_BlockLike : Valid Go.Proofs.Try.prog 7 s_rubricklaw22_BlockLike := valid_sigOf ok_E_rubricklaw22_BlockNews mixed p_rubricklaw22_BlockLike L_rubricklaw22_BlockLike Go.Proofs.Try.func7 (c := body Go.Proofs.Try.f7) (by kernel_rfl) (by
  rintro ⟨d1, d2, i⟩ hp hf
  exact Eq.mp (show V_rubricklaw22_BlockLike d1 d2 i = _ by kernel_rfl) (H_rubricklaw22_BlockLike d1 d2 i hp hf))
theorem ok_E_rubricklaw22_BlockLike : EnvOk Go.Proofs.Try.prog E_rubricklaw22_BlockLike := EnvOk.cons ok_E_rubricklaw22_BlockNews v_rubricklaw22_BlockLike (FnOk.of Go.Proofs.Try.func7 (c := body Go.Proofs.Try.f7) (by kernel_rfl) (by kernel_rfl))
theorem v_rubricklaw22_BlockTwice : Valid Go.Proofs.Try.prog 8 s_rubricklaw22_BlockTwice := valid_sigOf ok_E_rubricklaw22_BlockLike mixed p_rubricklaw22_BlockTwice L_rubricklaw22_BlockTwice Go.Proofs.Try.func8 (c := body Go.Proofs.Try.f8) (by kernel_rfl) (by
  rintro ⟨d1, d2, keep⟩ hp hf
  exact Eq.mp (show V_rubricklaw22_BlockTwice d1 d2 keep = _ by kernel_rfl) (H_rubricklaw22_BlockTwice d1 d2 keep hp hf))
theorem ok_E_rubricklaw22_BlockTwice : EnvOk Go.Proofs.Try.prog E_rubricklaw22_BlockTwice := EnvOk.cons ok_E_rubricklaw22_BlockLike v_rubricklaw22_BlockTwice (FnOk.of Go.Proofs.Try.func8 (c := body Go.Proofs.Try.f8) (by kernel_rfl) (by kernel_rfl))
theorem v_rubricklaw22_BlockLasts : Valid Go.Proofs.Try.prog 5 s_rubricklaw22_BlockLasts := valid_sigOf ok_E_rubricklaw22_BlockTwice mixed p_rubricklaw22_BlockLasts L_rubricklaw22_BlockLasts Go.Proofs.Try.func5 (c := body Go.Proofs.Try.f5) (by kernel_rfl) (by
  rintro ⟨d1, d2, l, i, keep⟩ hp hf
  exact Eq.mp (show V_rubricklaw22_BlockLasts d1 d2 l i keep = _ by kernel_rfl) (H_rubricklaw22_BlockLasts d1 d2 l i keep hp hf))
theorem ok_E_rubricklaw22_BlockLasts : EnvOk Go.Proofs.Try.prog E_rubricklaw22_BlockLasts := EnvOk.cons ok_E_rubricklaw22_BlockTwice v_rubricklaw22_BlockLasts (FnOk.of Go.Proofs.Try.func5 (c := body Go.Proofs.Try.f5) (by kernel_rfl) (by kernel_rfl))
theorem v_rubricklaw22_BlockTears : Valid Go.Proofs.Try.prog 6 s_rubricklaw22_BlockTears := valid_sigOf ok_E_rubricklaw22_BlockLasts mixed p_rubricklaw22_BlockTears L_rubricklaw22_BlockTears Go.Proofs.Try.func6 (c := body Go.Proofs.Try.f6) (by kernel_rfl) (by
  rintro ⟨d1, d2, l, i, b, keep⟩ hp hf
  exact Eq.mp (show V_rubricklaw22_BlockTears d1 d2 l i b keep = _ by kernel_rfl) (H_rubricklaw22_BlockTears d1 d2 l i b keep hp hf))
theorem ok_E_rubricklaw22_BlockTears : EnvOk Go.Proofs.Try.prog E_rubricklaw22_BlockTears := EnvOk.cons ok_E_rubricklaw22_BlockLasts v_rubricklaw22_BlockTears (FnOk.of Go.Proofs.Try.func6 (c := body Go.Proofs.Try.f6) (by kernel_rfl) (by kernel_rfl))
end Go.J
