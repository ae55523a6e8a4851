/- SegmBuilds: for every input the given Go function returns true and leaves its arguments as they were. Conditions: none. -/
import Derived.Test.YtepaodgmfpbapaaGreatDoorPartE
import Derived.Test.YtepaodgmfpbapaaGreatDoorCards
import Derived.Test.YtepaodgmfpbapaaGreatDoorTie
import Derived.Deep.DeepHandedRow
import Derived.ProofKit
import Derived.OpenShut
set_option linter.unusedVariables false
set_option linter.unusedSimpArgs false
section
set_option linter.unusedVariables false
set_option maxHeartbeats 0
set_option maxRecDepth 100000
namespace Go.J
open Go.Proofs
open Go Vg
theorem mixed : Tryz.prog.follows .mixedOrders = true := by kernel_rfl
theorem ok_E0 : EnvOk Tryz.prog E0 := EnvOk.none G0 (TabOk.of tab_ok)
theorem v_a6 : Valid Tryz.prog G0 187 s_a6 := valid_sigOf ok_E0 mixed p_a6 L_a6 Tryz.func187 (c := body Tryz.f187) (by kernel_rfl) (by
  rintro ⟨x, k⟩ hp hf
  have h := H_a6 x k hp hf
  with_reducible refine Eq.mp ?_ h
  kernel_rfl)
theorem ok_E_a6 : EnvOk Tryz.prog E_a6 := EnvOk.cons ok_E0 v_a6 (FnOk.of Tryz.func187 (c := body Tryz.f187) (by kernel_rfl) (by kernel_rfl))
theorem v_a7 : Valid Tryz.prog G0 155 s_a7 := valid_sigOf ok_E_a6 mixed p_a7 L_a7 Tryz.func155 (c := body Tryz.f155) (by kernel_rfl) (by
  rintro ⟨⟩ hp hf
  have h := H_a7  hp hf
  with_reducible refine Eq.mp ?_ h
  kernel_rfl)
theorem ok_E_a7 : EnvOk Tryz.prog E_a7 := EnvOk.cons ok_E_a6 v_a7 (FnOk.of Tryz.func155 (c := body Tryz.f155) (by kernel_rfl) (by kernel_rfl))
theorem v_a8 : Valid Tryz.prog G0 177 s_a8 := valid_sigOf ok_E_a7 mixed p_a8 L_a8 Tryz.func177 (c := body Tryz.f177) (by kernel_rfl) (by
  rintro ⟨s1, s2, s3, s4, s5, s6, s7, s8, s9, s10⟩ hp hf
  have h := H_a8 s1 s2 s3 s4 s5 s6 s7 s8 s9 s10 hp hf
  with_reducible refine Eq.mp ?_ h
  kernel_rfl)
theorem ok_E_a8 : EnvOk Tryz.prog E_a8 := EnvOk.cons ok_E_a7 v_a8 (FnOk.of Tryz.func177 (c := body Tryz.f177) (by kernel_rfl) (by kernel_rfl))
theorem v_a9 : Valid Tryz.prog G0 184 s_a9 := valid_sigOf ok_E_a8 mixed p_a9 L_a9 Tryz.func184 (c := body Tryz.f184) (by kernel_rfl) (by
  rintro ⟨u1, u2, u3, u4, u5, u6, u7, u8, p⟩ hp hf
  have h := H_a9 u1 u2 u3 u4 u5 u6 u7 u8 p hp hf
  with_reducible refine Eq.mp ?_ h
  kernel_rfl)
theorem ok_E_a9 : EnvOk Tryz.prog E_a9 := EnvOk.cons ok_E_a8 v_a9 (FnOk.of Tryz.func184 (c := body Tryz.f184) (by kernel_rfl) (by kernel_rfl))
theorem v_a10 : Valid Tryz.prog G0 178 s_a10 := valid_sigOf ok_E_a9 mixed p_a10 L_a10 Tryz.func178 (c := body Tryz.f178) (by kernel_rfl) (by
  rintro ⟨u1, u2, u3, u4, u5, u6, u7, u8, b⟩ hp hf
  have h := H_a10 u1 u2 u3 u4 u5 u6 u7 u8 b hp hf
  with_reducible refine Eq.mp ?_ h
  kernel_rfl)
theorem ok_E_a10 : EnvOk Tryz.prog E_a10 := EnvOk.cons ok_E_a9 v_a10 (FnOk.of Tryz.func178 (c := body Tryz.f178) (by kernel_rfl) (by kernel_rfl))
theorem v_a11 : Valid Tryz.prog G0 154 s_a11 := valid_sigOf ok_E_a10 mixed p_a11 L_a11 Tryz.func154 (c := body Tryz.f154) (by kernel_rfl) (by
  rintro ⟨s1, s2, s3, s4, s5, s6, s7, s8, s9, s10, b⟩ hp hf
  have h := H_a11 s1 s2 s3 s4 s5 s6 s7 s8 s9 s10 b hp hf
  with_reducible refine Eq.mp ?_ h
  kernel_rfl)
theorem ok_E_a11 : EnvOk Tryz.prog E_a11 := EnvOk.cons ok_E_a10 v_a11 (FnOk.of Tryz.func154 (c := body Tryz.f154) (by kernel_rfl) (by kernel_rfl))
theorem v_a12 : Valid Tryz.prog G0 153 s_a12 := valid_sigOf ok_E_a11 mixed p_a12 L_a12 Tryz.func153 (c := body Tryz.f153) (by kernel_rfl) (by
  rintro ⟨s1, s2, s3, s4, s5, s6, s7, s8, s9, s10⟩ hp hf
  have h := H_a12 s1 s2 s3 s4 s5 s6 s7 s8 s9 s10 hp hf
  with_reducible refine Eq.mp ?_ h
  kernel_rfl)
theorem ok_E_a12 : EnvOk Tryz.prog E_a12 := EnvOk.cons ok_E_a11 v_a12 (FnOk.of Tryz.func153 (c := body Tryz.f153) (by kernel_rfl) (by kernel_rfl))
theorem v_a13 : Valid Tryz.prog G0 130 s_a13 := valid_sigOf ok_E_a12 mixed p_a13 L_a13 Tryz.func130 (c := body Tryz.f130) (by kernel_rfl) (by
  rintro b hp hf
  have h := H_a13 b hp hf
  with_reducible refine Eq.mp ?_ h
  kernel_rfl)
theorem ok_E_a13 : EnvOk Tryz.prog E_a13 := EnvOk.cons ok_E_a12 v_a13 (FnOk.of Tryz.func130 (c := body Tryz.f130) (by kernel_rfl) (by kernel_rfl))
theorem v_a18 : Valid Tryz.prog G0 77 s_a18 := valid_sigOf ok_E_a13 mixed p_a18 L_a18 Tryz.func77 (c := body Tryz.f77) (by kernel_rfl) (by
  rintro b hp hf
  have h := H_a18 b hp hf
  with_reducible refine Eq.mp ?_ h
  kernel_rfl)
theorem ok_E_a18 : EnvOk Tryz.prog E_a18 := EnvOk.cons ok_E_a13 v_a18 (FnOk.of Tryz.func77 (c := body Tryz.f77) (by kernel_rfl) (by kernel_rfl))
theorem v_a19 : ValidH Tryz.prog G0 109 s_a19 := valid_hsigOf ok_E_a18 mixed p_a19 q_a19 L_a19 Tryz.func109 (c := body Tryz.f109) (by kernel_rfl) (by
  rintro v ⟨l, ⟨⟩⟩ hp hf hg
  have h := H_a19 v l hp hf hg
  with_reducible refine Eq.mp ?_ h
  kernel_rfl)
theorem cv_a19 : ValidH Tryz.prog G0 109 c_a19 := v_a19
theorem ok_E_a19 : EnvOk Tryz.prog E_a19 := EnvOk.consH ok_E_a18 cv_a19 (FnOk.of Tryz.func109 (c := body Tryz.f109) (by kernel_rfl) (by kernel_rfl))
theorem v_a20 : ValidH Tryz.prog G0 76 s_a20 := valid_hsigOf ok_E_a19 mixed p_a20 q_a20 L_a20 Tryz.func76 (c := body Tryz.f76) (by kernel_rfl) (by
  rintro s ⟨l, ⟨⟩⟩ hp hf hg
  have h := H_a20 s l hp hf hg
  with_reducible refine Eq.mp ?_ h
  kernel_rfl)
theorem cv_a20 : ValidH Tryz.prog G0 76 c_a20 := v_a20
theorem ok_E_a20 : EnvOk Tryz.prog E_a20 := EnvOk.consH ok_E_a19 cv_a20 (FnOk.of Tryz.func76 (c := body Tryz.f76) (by kernel_rfl) (by kernel_rfl))
theorem v_a21 : Valid Tryz.prog G0 129 s_a21 := valid_sigOf ok_E_a20 mixed p_a21 L_a21 Tryz.func129 (c := body Tryz.f129) (by kernel_rfl) (by
  rintro ⟨b, v⟩ hp hf
  have h := H_a21 b v hp hf
  with_reducible refine Eq.mp ?_ h
  kernel_rfl)
theorem ok_E_a21 : EnvOk Tryz.prog E_a21 := EnvOk.cons ok_E_a20 v_a21 (FnOk.of Tryz.func129 (c := body Tryz.f129) (by kernel_rfl) (by kernel_rfl))
theorem v_a22 : Valid Tryz.prog G0 51 s_a22 := valid_sigOf ok_E_a21 mixed p_a22 L_a22 Tryz.func51 (c := body Tryz.f51) (by kernel_rfl) (by
  rintro ⟨b, s⟩ hp hf
  have h := H_a22 b s hp hf
  with_reducible refine Eq.mp ?_ h
  kernel_rfl)
theorem ok_E_a22 : EnvOk Tryz.prog E_a22 := EnvOk.cons ok_E_a21 v_a22 (FnOk.of Tryz.func51 (c := body Tryz.f51) (by kernel_rfl) (by kernel_rfl))
theorem v_a34 : Valid Tryz.prog G0 156 s_a34 := valid_sigOf ok_E_a22 mixed p_a34 L_a34 Tryz.func156 (c := body Tryz.f156) (by kernel_rfl) (by
  rintro ⟨kind, parts⟩ hp hf
  have h := H_a34 kind parts hp hf
  with_reducible refine Eq.mp ?_ h
  kernel_rfl)
theorem ok_E_a34 : EnvOk Tryz.prog E_a34 := EnvOk.cons ok_E_a22 v_a34 (FnOk.of Tryz.func156 (c := body Tryz.f156) (by kernel_rfl) (by kernel_rfl))
theorem v_a35 : Valid Tryz.prog G0 133 s_a35 := valid_sigOf ok_E_a34 mixed p_a35 L_a35 Tryz.func133 (c := body Tryz.f133) (by kernel_rfl) (by
  rintro b hp hf
  have h := H_a35 b hp hf
  with_reducible refine Eq.mp ?_ h
  kernel_rfl)
theorem ok_E_a35 : EnvOk Tryz.prog E_a35 := EnvOk.cons ok_E_a34 v_a35 (FnOk.of Tryz.func133 (c := body Tryz.f133) (by kernel_rfl) (by kernel_rfl))
theorem v_a36 : Valid Tryz.prog G0 185 s_a36 := valid_sigOf ok_E_a35 mixed p_a36 L_a36 Tryz.func185 (c := body Tryz.f185) (by kernel_rfl) (by
  rintro ⟨l, r⟩ hp hf
  have h := H_a36 l r hp hf
  with_reducible refine Eq.mp ?_ h
  kernel_rfl)
theorem ok_E_a36 : EnvOk Tryz.prog E_a36 := EnvOk.cons ok_E_a35 v_a36 (FnOk.of Tryz.func185 (c := body Tryz.f185) (by kernel_rfl) (by kernel_rfl))
theorem v_a37 : Valid Tryz.prog G0 131 s_a37 := valid_sigOf ok_E_a36 mixed p_a37 L_a37 Tryz.func131 (c := body Tryz.f131) (by kernel_rfl) (by
  rintro b hp hf
  have h := H_a37 b hp hf
  with_reducible refine Eq.mp ?_ h
  kernel_rfl)
theorem ok_E_a37 : EnvOk Tryz.prog E_a37 := EnvOk.cons ok_E_a36 v_a37 (FnOk.of Tryz.func131 (c := body Tryz.f131) (by kernel_rfl) (by kernel_rfl))
theorem v_a38 : Valid Tryz.prog G0 101 s_a38 := valid_sigOf ok_E_a37 mixed p_a38 L_a38 Tryz.func101 (c := body Tryz.f101) (by kernel_rfl) (by
  rintro b hp hf
  have h := H_a38 b hp hf
  with_reducible refine Eq.mp ?_ h
  kernel_rfl)
theorem ok_E_a38 : EnvOk Tryz.prog E_a38 := EnvOk.cons ok_E_a37 v_a38 (FnOk.of Tryz.func101 (c := body Tryz.f101) (by kernel_rfl) (by kernel_rfl))
theorem v_a39 : Valid Tryz.prog G0 179 s_a39 := valid_sigOf ok_E_a38 mixed p_a39 L_a39 Tryz.func179 (c := body Tryz.f179) (by kernel_rfl) (by
  rintro ⟨l, r⟩ hp hf
  have h := H_a39 l r hp hf
  with_reducible refine Eq.mp ?_ h
  kernel_rfl)
theorem ok_E_a39 : EnvOk Tryz.prog E_a39 := EnvOk.cons ok_E_a38 v_a39 (FnOk.of Tryz.func179 (c := body Tryz.f179) (by kernel_rfl) (by kernel_rfl))
theorem v_a40 : Valid Tryz.prog G0 98 s_a40 := valid_sigOf ok_E_a39 mixed p_a40 L_a40 Tryz.func98 (c := body Tryz.f98) (by kernel_rfl) (by
  rintro b hp hf
  have h := H_a40 b hp hf
  with_reducible refine Eq.mp ?_ h
  kernel_rfl)
theorem ok_E_a40 : EnvOk Tryz.prog E_a40 := EnvOk.cons ok_E_a39 v_a40 (FnOk.of Tryz.func98 (c := body Tryz.f98) (by kernel_rfl) (by kernel_rfl))
theorem v_a41 : Valid Tryz.prog G0 169 s_a41 := valid_sigOf ok_E_a40 mixed p_a41 L_a41 Tryz.func169 (c := body Tryz.f169) (by kernel_rfl) (by
  rintro c hp hf
  have h := H_a41 c hp hf
  with_reducible refine Eq.mp ?_ h
  kernel_rfl)
theorem ok_E_a41 : EnvOk Tryz.prog E_a41 := EnvOk.cons ok_E_a40 v_a41 (FnOk.of Tryz.func169 (c := body Tryz.f169) (by kernel_rfl) (by kernel_rfl))
theorem v_a42 : Valid Tryz.prog G0 170 s_a42 := valid_sigOf ok_E_a41 mixed p_a42 L_a42 Tryz.func170 (c := body Tryz.f170) (by kernel_rfl) (by
  rintro c hp hf
  have h := H_a42 c hp hf
  with_reducible refine Eq.mp ?_ h
  kernel_rfl)
theorem ok_E_a42 : EnvOk Tryz.prog E_a42 := EnvOk.cons ok_E_a41 v_a42 (FnOk.of Tryz.func170 (c := body Tryz.f170) (by kernel_rfl) (by kernel_rfl))
theorem v_a43 : Valid Tryz.prog G0 171 s_a43 := valid_sigOf ok_E_a42 mixed p_a43 L_a43 Tryz.func171 (c := body Tryz.f171) (by kernel_rfl) (by
  rintro c hp hf
  have h := H_a43 c hp hf
  with_reducible refine Eq.mp ?_ h
  kernel_rfl)
theorem ok_E_a43 : EnvOk Tryz.prog E_a43 := EnvOk.cons ok_E_a42 v_a43 (FnOk.of Tryz.func171 (c := body Tryz.f171) (by kernel_rfl) (by kernel_rfl))
theorem v_a44 : Valid Tryz.prog G0 140 s_a44 := valid_sigOf ok_E_a43 mixed p_a44 L_a44 Tryz.func140 (c := body Tryz.f140) (by kernel_rfl) (by
  rintro c hp hf
  have h := H_a44 c hp hf
  with_reducible refine Eq.mp ?_ h
  kernel_rfl)
theorem ok_E_a44 : EnvOk Tryz.prog E_a44 := EnvOk.cons ok_E_a43 v_a44 (FnOk.of Tryz.func140 (c := body Tryz.f140) (by kernel_rfl) (by kernel_rfl))
theorem v_a45 : Valid Tryz.prog G0 139 s_a45 := valid_sigOf ok_E_a44 mixed p_a45 L_a45 Tryz.func139 (c := body Tryz.f139) (by kernel_rfl) (by
  rintro b hp hf
  have h := H_a45 b hp hf
  with_reducible refine Eq.mp ?_ h
  kernel_rfl)
theorem ok_E_a45 : EnvOk Tryz.prog E_a45 := EnvOk.cons ok_E_a44 v_a45 (FnOk.of Tryz.func139 (c := body Tryz.f139) (by kernel_rfl) (by kernel_rfl))
theorem v_a46 : Valid Tryz.prog G0 115 s_a46 := valid_sigOf ok_E_a45 mixed p_a46 L_a46 Tryz.func115 (c := body Tryz.f115) (by kernel_rfl) (by
  rintro b hp hf
  have h := H_a46 b hp hf
  with_reducible refine Eq.mp ?_ h
  kernel_rfl)
theorem ok_E_a46 : EnvOk Tryz.prog E_a46 := EnvOk.cons ok_E_a45 v_a46 (FnOk.of Tryz.func115 (c := body Tryz.f115) (by kernel_rfl) (by kernel_rfl))
theorem v_a47 : Valid Tryz.prog G0 116 s_a47 := valid_sigOf ok_E_a46 mixed p_a47 L_a47 Tryz.func116 (c := body Tryz.f116) (by kernel_rfl) (by
  rintro c hp hf
  have h := H_a47 c hp hf
  with_reducible refine Eq.mp ?_ h
  kernel_rfl)
theorem ok_E_a47 : EnvOk Tryz.prog E_a47 := EnvOk.cons ok_E_a46 v_a47 (FnOk.of Tryz.func116 (c := body Tryz.f116) (by kernel_rfl) (by kernel_rfl))
theorem v_a48 : Valid Tryz.prog G0 117 s_a48 := valid_sigOf ok_E_a47 mixed p_a48 L_a48 Tryz.func117 (c := body Tryz.f117) (by kernel_rfl) (by
  rintro c hp hf
  have h := H_a48 c hp hf
  with_reducible refine Eq.mp ?_ h
  kernel_rfl)
theorem ok_E_a48 : EnvOk Tryz.prog E_a48 := EnvOk.cons ok_E_a47 v_a48 (FnOk.of Tryz.func117 (c := body Tryz.f117) (by kernel_rfl) (by kernel_rfl))
theorem v_a49 : Valid Tryz.prog G0 141 s_a49 := valid_sigOf ok_E_a48 mixed p_a49 L_a49 Tryz.func141 (c := body Tryz.f141) (by kernel_rfl) (by
  rintro c hp hf
  have h := H_a49 c hp hf
  with_reducible refine Eq.mp ?_ h
  kernel_rfl)
theorem ok_E_a49 : EnvOk Tryz.prog E_a49 := EnvOk.cons ok_E_a48 v_a49 (FnOk.of Tryz.func141 (c := body Tryz.f141) (by kernel_rfl) (by kernel_rfl))
theorem v_a50 : Valid Tryz.prog G0 134 s_a50 := valid_sigOf ok_E_a49 mixed p_a50 L_a50 Tryz.func134 (c := body Tryz.f134) (by kernel_rfl) (by
  rintro ⟨c, a, b⟩ hp hf
  have h := H_a50 c a b hp hf
  with_reducible refine Eq.mp ?_ h
  kernel_rfl)
theorem ok_E_a50 : EnvOk Tryz.prog E_a50 := EnvOk.cons ok_E_a49 v_a50 (FnOk.of Tryz.func134 (c := body Tryz.f134) (by kernel_rfl) (by kernel_rfl))
theorem v_a51 : Valid Tryz.prog G0 124 s_a51 := valid_sigOf ok_E_a50 mixed p_a51 L_a51 Tryz.func124 (c := body Tryz.f124) (by kernel_rfl) (by
  rintro c hp hf
  have h := H_a51 c hp hf
  with_reducible refine Eq.mp ?_ h
  kernel_rfl)
theorem ok_E_a51 : EnvOk Tryz.prog E_a51 := EnvOk.cons ok_E_a50 v_a51 (FnOk.of Tryz.func124 (c := body Tryz.f124) (by kernel_rfl) (by kernel_rfl))
theorem v_a52 : Valid Tryz.prog G0 125 s_a52 := valid_sigOf ok_E_a51 mixed p_a52 L_a52 Tryz.func125 (c := body Tryz.f125) (by kernel_rfl) (by
  rintro c hp hf
  have h := H_a52 c hp hf
  with_reducible refine Eq.mp ?_ h
  kernel_rfl)
theorem ok_E_a52 : EnvOk Tryz.prog E_a52 := EnvOk.cons ok_E_a51 v_a52 (FnOk.of Tryz.func125 (c := body Tryz.f125) (by kernel_rfl) (by kernel_rfl))
theorem v_a53 : Valid Tryz.prog G0 126 s_a53 := valid_sigOf ok_E_a52 mixed p_a53 L_a53 Tryz.func126 (c := body Tryz.f126) (by kernel_rfl) (by
  rintro ⟨a, b⟩ hp hf
  have h := H_a53 a b hp hf
  with_reducible refine Eq.mp ?_ h
  kernel_rfl)
theorem ok_E_a53 : EnvOk Tryz.prog E_a53 := EnvOk.cons ok_E_a52 v_a53 (FnOk.of Tryz.func126 (c := body Tryz.f126) (by kernel_rfl) (by kernel_rfl))
theorem v_a54 : Valid Tryz.prog G0 127 s_a54 := valid_sigOf ok_E_a53 mixed p_a54 L_a54 Tryz.func127 (c := body Tryz.f127) (by kernel_rfl) (by
  rintro c hp hf
  have h := H_a54 c hp hf
  with_reducible refine Eq.mp ?_ h
  kernel_rfl)
theorem ok_E_a54 : EnvOk Tryz.prog E_a54 := EnvOk.cons ok_E_a53 v_a54 (FnOk.of Tryz.func127 (c := body Tryz.f127) (by kernel_rfl) (by kernel_rfl))
theorem v_a55 : Valid Tryz.prog G0 102 s_a55 := valid_sigOf ok_E_a54 mixed p_a55 L_a55 Tryz.func102 (c := body Tryz.f102) (by kernel_rfl) (by
  rintro c hp hf
  have h := H_a55 c hp hf
  with_reducible refine Eq.mp ?_ h
  kernel_rfl)
theorem ok_E_a55 : EnvOk Tryz.prog E_a55 := EnvOk.cons ok_E_a54 v_a55 (FnOk.of Tryz.func102 (c := body Tryz.f102) (by kernel_rfl) (by kernel_rfl))
theorem v_a56 : Valid Tryz.prog G0 123 s_a56 := valid_sigOf ok_E_a55 mixed p_a56 L_a56 Tryz.func123 (c := body Tryz.f123) (by kernel_rfl) (by
  rintro ⟨b, n⟩ hp hf
  have h := H_a56 b n hp hf
  with_reducible refine Eq.mp ?_ h
  kernel_rfl)
theorem ok_E_a56 : EnvOk Tryz.prog E_a56 := EnvOk.cons ok_E_a55 v_a56 (FnOk.of Tryz.func123 (c := body Tryz.f123) (by kernel_rfl) (by kernel_rfl))
theorem v_a57 : Valid Tryz.prog G0 89 s_a57 := valid_sigOf ok_E_a56 mixed p_a57 L_a57 Tryz.func89 (c := body Tryz.f89) (by kernel_rfl) (by
  rintro b hp hf
  have h := H_a57 b hp hf
  with_reducible refine Eq.mp ?_ h
  kernel_rfl)
theorem ok_E_a57 : EnvOk Tryz.prog E_a57 := EnvOk.cons ok_E_a56 v_a57 (FnOk.of Tryz.func89 (c := body Tryz.f89) (by kernel_rfl) (by kernel_rfl))
theorem v_a58 : Valid Tryz.prog G0 118 s_a58 := valid_sigOf ok_E_a57 mixed p_a58 L_a58 Tryz.func118 (c := body Tryz.f118) (by kernel_rfl) (by
  rintro u hp hf
  have h := H_a58 u hp hf
  with_reducible refine Eq.mp ?_ h
  kernel_rfl)
theorem ok_E_a58 : EnvOk Tryz.prog E_a58 := EnvOk.cons ok_E_a57 v_a58 (FnOk.of Tryz.func118 (c := body Tryz.f118) (by kernel_rfl) (by kernel_rfl))
theorem v_a59 : Valid Tryz.prog G0 84 s_a59 := valid_sigOf ok_E_a58 mixed p_a59 L_a59 Tryz.func84 (c := body Tryz.f84) (by kernel_rfl) (by
  rintro b hp hf
  have h := H_a59 b hp hf
  with_reducible refine Eq.mp ?_ h
  kernel_rfl)
theorem ok_E_a59 : EnvOk Tryz.prog E_a59 := EnvOk.cons ok_E_a58 v_a59 (FnOk.of Tryz.func84 (c := body Tryz.f84) (by kernel_rfl) (by kernel_rfl))
theorem v_a60 : Valid Tryz.prog G0 72 s_a60 := valid_sigOf ok_E_a59 mixed p_a60 L_a60 Tryz.func72 (c := body Tryz.f72) (by kernel_rfl) (by
  rintro s hp hf
  have h := H_a60 s hp hf
  with_reducible refine Eq.mp ?_ h
  kernel_rfl)
theorem ok_E_a60 : EnvOk Tryz.prog E_a60 := EnvOk.cons ok_E_a59 v_a60 (FnOk.of Tryz.func72 (c := body Tryz.f72) (by kernel_rfl) (by kernel_rfl))
theorem v_a61 : Valid Tryz.prog G0 90 s_a61 := valid_sigOf ok_E_a60 mixed p_a61 L_a61 Tryz.func90 (c := body Tryz.f90) (by kernel_rfl) (by
  rintro c hp hf
  have h := H_a61 c hp hf
  with_reducible refine Eq.mp ?_ h
  kernel_rfl)
theorem ok_E_a61 : EnvOk Tryz.prog E_a61 := EnvOk.cons ok_E_a60 v_a61 (FnOk.of Tryz.func90 (c := body Tryz.f90) (by kernel_rfl) (by kernel_rfl))
theorem v_a62 : Valid Tryz.prog G0 91 s_a62 := valid_sigOf ok_E_a61 mixed p_a62 L_a62 Tryz.func91 (c := body Tryz.f91) (by kernel_rfl) (by
  rintro u hp hf
  have h := H_a62 u hp hf
  with_reducible refine Eq.mp ?_ h
  kernel_rfl)
theorem ok_E_a62 : EnvOk Tryz.prog E_a62 := EnvOk.cons ok_E_a61 v_a62 (FnOk.of Tryz.func91 (c := body Tryz.f91) (by kernel_rfl) (by kernel_rfl))
theorem v_a63 : Valid Tryz.prog G0 60 s_a63 := valid_sigOf ok_E_a62 mixed p_a63 L_a63 Tryz.func60 (c := body Tryz.f60) (by kernel_rfl) (by
  rintro b hp hf
  have h := H_a63 b hp hf
  with_reducible refine Eq.mp ?_ h
  kernel_rfl)
theorem ok_E_a63 : EnvOk Tryz.prog E_a63 := EnvOk.cons ok_E_a62 v_a63 (FnOk.of Tryz.func60 (c := body Tryz.f60) (by kernel_rfl) (by kernel_rfl))
theorem v_a64 : Valid Tryz.prog G0 128 s_a64 := valid_sigOf ok_E_a63 mixed p_a64 L_a64 Tryz.func128 (c := body Tryz.f128) (by kernel_rfl) (by
  rintro l hp hf
  have h := H_a64 l hp hf
  with_reducible refine Eq.mp ?_ h
  kernel_rfl)
theorem ok_E_a64 : EnvOk Tryz.prog E_a64 := EnvOk.cons ok_E_a63 v_a64 (FnOk.of Tryz.func128 (c := body Tryz.f128) (by kernel_rfl) (by kernel_rfl))
theorem v_a65 : ValidH Tryz.prog G0 93 s_a65 := valid_hsigOf ok_E_a64 mixed p_a65 q_a65 L_a65 Tryz.func93 (c := body Tryz.f93) (by kernel_rfl) (by
  rintro ⟨⟩ ⟨l, ⟨⟩⟩ hp hf hg
  have h := H_a65 l hp hf hg
  with_reducible refine Eq.mp ?_ h
  kernel_rfl)
theorem cv_a65 : ValidH Tryz.prog G0 93 c_a65 := v_a65
theorem ok_E_a65 : EnvOk Tryz.prog E_a65 := EnvOk.consH ok_E_a64 cv_a65 (FnOk.of Tryz.func93 (c := body Tryz.f93) (by kernel_rfl) (by kernel_rfl))
theorem v_a66 : Valid Tryz.prog G0 92 s_a66 := valid_sigOf ok_E_a65 mixed p_a66 L_a66 Tryz.func92 (c := body Tryz.f92) (by kernel_rfl) (by
  rintro b hp hf
  have h := H_a66 b hp hf
  with_reducible refine Eq.mp ?_ h
  kernel_rfl)
theorem ok_E_a66 : EnvOk Tryz.prog E_a66 := EnvOk.cons ok_E_a65 v_a66 (FnOk.of Tryz.func92 (c := body Tryz.f92) (by kernel_rfl) (by kernel_rfl))
theorem v_a67 : Valid Tryz.prog G0 25 s_a67 := valid_sigOf ok_E_a66 mixed p_a67 L_a67 Tryz.func25 (c := body Tryz.f25) (by kernel_rfl) (by
  rintro ⟨b, t⟩ hp hf
  have h := H_a67 b t hp hf
  with_reducible refine Eq.mp ?_ h
  kernel_rfl)
theorem ok_E_a67 : EnvOk Tryz.prog E_a67 := EnvOk.cons ok_E_a66 v_a67 (FnOk.of Tryz.func25 (c := body Tryz.f25) (by kernel_rfl) (by kernel_rfl))
theorem v_a69 : Valid Tryz.prog G0 119 s_a69 := valid_sigOf ok_E_a67 mixed p_a69 L_a69 Tryz.func119 (c := body Tryz.f119) (by kernel_rfl) (by
  rintro s hp hf
  have h := H_a69 s hp hf
  with_reducible refine Eq.mp ?_ h
  kernel_rfl)
theorem ok_E_a69 : EnvOk Tryz.prog E_a69 := EnvOk.cons ok_E_a67 v_a69 (FnOk.of Tryz.func119 (c := body Tryz.f119) (by kernel_rfl) (by kernel_rfl))
theorem v_a70 : Valid Tryz.prog G0 85 s_a70 := valid_sigOf ok_E_a69 mixed p_a70 L_a70 Tryz.func85 (c := body Tryz.f85) (by kernel_rfl) (by
  rintro ⟨a, b⟩ hp hf
  have h := H_a70 a b hp hf
  with_reducible refine Eq.mp ?_ h
  kernel_rfl)
theorem ok_E_a70 : EnvOk Tryz.prog E_a70 := EnvOk.cons ok_E_a69 v_a70 (FnOk.of Tryz.func85 (c := body Tryz.f85) (by kernel_rfl) (by kernel_rfl))
theorem v_a71 : ValidH Tryz.prog G0 114 s_a71 := valid_hsigOf ok_E_a70 mixed p_a71 q_a71 L_a71 Tryz.func114 (c := body Tryz.f114) (by kernel_rfl) (by
  rintro ⟨a, b⟩ ⟨⟨⟩, ⟨⟩⟩ hp hf hg
  have h := H_a71 a b hp hf hg
  with_reducible refine Eq.mp ?_ h
  kernel_rfl)
theorem cv_a71 : ValidH Tryz.prog G0 114 c_a71 := v_a71
theorem ok_E_a71 : EnvOk Tryz.prog E_a71 := EnvOk.consH ok_E_a70 cv_a71 (FnOk.of Tryz.func114 (c := body Tryz.f114) (by kernel_rfl) (by kernel_rfl))
theorem v_a72 : ValidH Tryz.prog G0 113 s_a72 := valid_hsigOf ok_E_a71 mixed p_a72 q_a72 L_a72 Tryz.func113 (c := body Tryz.f113) (by kernel_rfl) (by
  rintro ⟨⟩ ⟨l, ⟨⟨⟩, ⟨⟩⟩⟩ hp hf hg
  have h := H_a72 l hp hf hg
  with_reducible refine Eq.mp ?_ h
  kernel_rfl)
theorem cv_a72 : ValidH Tryz.prog G0 113 c_a72 := v_a72
theorem ok_E_a72 : EnvOk Tryz.prog E_a72 := EnvOk.consH ok_E_a71 cv_a72 (FnOk.of Tryz.func113 (c := body Tryz.f113) (by kernel_rfl) (by kernel_rfl))
theorem v_a73 : Valid Tryz.prog G0 111 s_a73 := Vg.valid_clone_str Tryz.clone_str (fun _ => rfl)
theorem ok_E_a73 : EnvOk Tryz.prog E_a73 := EnvOk.cons ok_E_a72 v_a73 (FnOk.of Tryz.func111 (c := body Tryz.f111) (by kernel_rfl) (by kernel_rfl))
theorem v_a74 : Valid Tryz.prog G0 50 s_a74 := Vg.valid_clone_int Tryz.clone_int (fun _ => rfl)
theorem ok_E_a74 : EnvOk Tryz.prog E_a74 := EnvOk.cons ok_E_a73 v_a74 (FnOk.of Tryz.func50 (c := body Tryz.f50) (by kernel_rfl) (by kernel_rfl))
theorem v_a75 : ValidH Tryz.prog G0 112 s_a75 := Tryz.v_sort (fun _ => rfl)
theorem cv_a75 : ValidH Tryz.prog G0 112 c_a75 := v_a75
theorem ok_E_a75 : EnvOk Tryz.prog E_a75 := EnvOk.consH ok_E_a74 cv_a75 (FnOk.of Tryz.func112 (c := body Tryz.f112) (by kernel_rfl) (by kernel_rfl))
theorem v_a76 : ValidH Tryz.prog G0 83 s_a76 := valid_hsigOf ok_E_a75 mixed p_a76 q_a76 L_a76 Tryz.func83 (c := body Tryz.f83) (by kernel_rfl) (by
  rintro l ⟨⟩ hp hf hg
  have h := H_a76 l hp hf hg
  with_reducible refine Eq.mp ?_ h
  kernel_rfl)
theorem cv_a76 : ValidH Tryz.prog G0 83 c_a76 := v_a76
theorem ok_E_a76 : EnvOk Tryz.prog E_a76 := EnvOk.consH ok_E_a75 cv_a76 (FnOk.of Tryz.func83 (c := body Tryz.f83) (by kernel_rfl) (by kernel_rfl))
theorem v_a77 : Valid Tryz.prog G0 57 s_a77 := valid_sigOf ok_E_a76 mixed p_a77 L_a77 Tryz.func57 (c := body Tryz.f57) (by kernel_rfl) (by
  rintro b hp hf
  have h := H_a77 b hp hf
  with_reducible refine Eq.mp ?_ h
  kernel_rfl)
theorem ok_E_a77 : EnvOk Tryz.prog E_a77 := EnvOk.cons ok_E_a76 v_a77 (FnOk.of Tryz.func57 (c := body Tryz.f57) (by kernel_rfl) (by kernel_rfl))
theorem v_a78 : Valid Tryz.prog G0 99 s_a78 := valid_sigOf ok_E_a77 mixed p_a78 L_a78 Tryz.func99 (c := body Tryz.f99) (by kernel_rfl) (by
  rintro l hp hf
  have h := H_a78 l hp hf
  with_reducible refine Eq.mp ?_ h
  kernel_rfl)
theorem ok_E_a78 : EnvOk Tryz.prog E_a78 := EnvOk.cons ok_E_a77 v_a78 (FnOk.of Tryz.func99 (c := body Tryz.f99) (by kernel_rfl) (by kernel_rfl))
theorem v_a79 : Valid Tryz.prog G0 157 s_a79 := valid_sigOf ok_E_a78 mixed p_a79 L_a79 Tryz.func157 (c := body Tryz.f157) (by kernel_rfl) (by
  rintro ⟨a, b⟩ hp hf
  have h := H_a79 a b hp hf
  with_reducible refine Eq.mp ?_ h
  kernel_rfl)
theorem ok_E_a79 : EnvOk Tryz.prog E_a79 := EnvOk.cons ok_E_a78 v_a79 (FnOk.of Tryz.func157 (c := body Tryz.f157) (by kernel_rfl) (by kernel_rfl))
theorem v_a80 : ValidH Tryz.prog G0 132 s_a80 := valid_hsigOf ok_E_a79 mixed p_a80 q_a80 L_a80 Tryz.func132 (c := body Tryz.f132) (by kernel_rfl) (by
  rintro ⟨⟩ ⟨s, ⟨⟩⟩ hp hf hg
  have h := H_a80 s hp hf hg
  with_reducible refine Eq.mp ?_ h
  kernel_rfl)
theorem cv_a80 : ValidH Tryz.prog G0 132 c_a80 := v_a80
theorem ok_E_a80 : EnvOk Tryz.prog E_a80 := EnvOk.consH ok_E_a79 cv_a80 (FnOk.of Tryz.func132 (c := body Tryz.f132) (by kernel_rfl) (by kernel_rfl))
theorem v_a81 : Valid Tryz.prog G0 68 s_a81 := valid_sigOf ok_E_a80 mixed p_a81 L_a81 Tryz.func68 (c := body Tryz.f68) (by kernel_rfl) (by
  rintro l hp hf
  have h := H_a81 l hp hf
  with_reducible refine Eq.mp ?_ h
  kernel_rfl)
theorem ok_E_a81 : EnvOk Tryz.prog E_a81 := EnvOk.cons ok_E_a80 v_a81 (FnOk.of Tryz.func68 (c := body Tryz.f68) (by kernel_rfl) (by kernel_rfl))
theorem v_a82 : Valid Tryz.prog G0 100 s_a82 := valid_sigOf ok_E_a81 mixed p_a82 L_a82 Tryz.func100 (c := body Tryz.f100) (by kernel_rfl) (by
  rintro l hp hf
  have h := H_a82 l hp hf
  with_reducible refine Eq.mp ?_ h
  kernel_rfl)
theorem ok_E_a82 : EnvOk Tryz.prog E_a82 := EnvOk.cons ok_E_a81 v_a82 (FnOk.of Tryz.func100 (c := body Tryz.f100) (by kernel_rfl) (by kernel_rfl))
theorem v_a83 : Valid Tryz.prog G0 67 s_a83 := valid_sigOf ok_E_a82 mixed p_a83 L_a83 Tryz.func67 (c := body Tryz.f67) (by kernel_rfl) (by
  rintro l hp hf
  have h := H_a83 l hp hf
  with_reducible refine Eq.mp ?_ h
  kernel_rfl)
theorem ok_E_a83 : EnvOk Tryz.prog E_a83 := EnvOk.cons ok_E_a82 v_a83 (FnOk.of Tryz.func67 (c := body Tryz.f67) (by kernel_rfl) (by kernel_rfl))
theorem v_a87 : Valid Tryz.prog G0 71 s_a87 := valid_sigOf ok_E_a83 mixed p_a87 L_a87 Tryz.func71 (c := body Tryz.f71) (by kernel_rfl) (by
  rintro l hp hf
  have h := H_a87 l hp hf
  with_reducible refine Eq.mp ?_ h
  kernel_rfl)
theorem ok_E_a87 : EnvOk Tryz.prog E_a87 := EnvOk.cons ok_E_a83 v_a87 (FnOk.of Tryz.func71 (c := body Tryz.f71) (by kernel_rfl) (by kernel_rfl))
theorem v_a88 : Valid Tryz.prog G0 97 s_a88 := valid_sigOf ok_E_a87 mixed p_a88 L_a88 Tryz.func97 (c := body Tryz.f97) (by kernel_rfl) (by
  rintro l hp hf
  have h := H_a88 l hp hf
  with_reducible refine Eq.mp ?_ h
  kernel_rfl)
theorem ok_E_a88 : EnvOk Tryz.prog E_a88 := EnvOk.cons ok_E_a87 v_a88 (FnOk.of Tryz.func97 (c := body Tryz.f97) (by kernel_rfl) (by kernel_rfl))
theorem v_a89 : Valid Tryz.prog G0 66 s_a89 := valid_sigOf ok_E_a88 mixed p_a89 L_a89 Tryz.func66 (c := body Tryz.f66) (by kernel_rfl) (by
  rintro l hp hf
  have h := H_a89 l hp hf
  with_reducible refine Eq.mp ?_ h
  kernel_rfl)
theorem ok_E_a89 : EnvOk Tryz.prog E_a89 := EnvOk.cons ok_E_a88 v_a89 (FnOk.of Tryz.func66 (c := body Tryz.f66) (by kernel_rfl) (by kernel_rfl))
theorem v_a90 : ValidH Tryz.prog G0 96 s_a90 := valid_hsigOf ok_E_a89 mixed p_a90 q_a90 L_a90 Tryz.func96 (c := body Tryz.f96) (by kernel_rfl) (by
  rintro ⟨n, p, q⟩ ⟨⟨s1, s2⟩, ⟨⟩⟩ hp hf hg
  have h := H_a90 n p q s1 s2 hp hf hg
  with_reducible refine Eq.mp ?_ h
  kernel_rfl)
theorem cv_a90 : ValidH Tryz.prog G0 96 c_a90 := v_a90
theorem ok_E_a90 : EnvOk Tryz.prog E_a90 := EnvOk.consH ok_E_a89 cv_a90 (FnOk.of Tryz.func96 (c := body Tryz.f96) (by kernel_rfl) (by kernel_rfl))
theorem v_a91 : ValidH Tryz.prog G0 95 s_a91 := valid_hsigOf ok_E_a90 mixed p_a91 q_a91 L_a91 Tryz.func95 (c := body Tryz.f95) (by kernel_rfl) (by
  rintro ⟨a, b⟩ ⟨⟨s1, s2⟩, ⟨⟩⟩ hp hf hg
  have h := H_a91 a b s1 s2 hp hf hg
  with_reducible refine Eq.mp ?_ h
  kernel_rfl)
theorem cv_a91 : ValidH Tryz.prog G0 95 c_a91 := v_a91
theorem ok_E_a91 : EnvOk Tryz.prog E_a91 := EnvOk.consH ok_E_a90 cv_a91 (FnOk.of Tryz.func95 (c := body Tryz.f95) (by kernel_rfl) (by kernel_rfl))
theorem v_a92 : Valid Tryz.prog G0 65 s_a92 := valid_sigOf ok_E_a91 mixed p_a92 L_a92 Tryz.func65 (c := body Tryz.f65) (by kernel_rfl) (by
  rintro ⟨l, s1, s2⟩ hp hf
  have h := H_a92 l s1 s2 hp hf
  with_reducible refine Eq.mp ?_ h
  kernel_rfl)
theorem ok_E_a92 : EnvOk Tryz.prog E_a92 := EnvOk.cons ok_E_a91 v_a92 (FnOk.of Tryz.func65 (c := body Tryz.f65) (by kernel_rfl) (by kernel_rfl))
theorem v_a96 : Valid Tryz.prog G0 15 s_a96 := valid_sigOf ok_E_a92 mixed p_a96 L_a96 Tryz.func15 (c := body Tryz.f15) (by kernel_rfl) (by
  rintro ⟨a, b⟩ hp hf
  have h := H_a96 a b hp hf
  with_reducible refine Eq.mp ?_ h
  kernel_rfl)
theorem ok_E_a96 : EnvOk Tryz.prog E_a96 := EnvOk.cons ok_E_a92 v_a96 (FnOk.of Tryz.func15 (c := body Tryz.f15) (by kernel_rfl) (by kernel_rfl))
theorem v_a98 : Valid Tryz.prog G0 46 s_a98 := valid_sigOf ok_E_a96 mixed p_a98 L_a98 Tryz.func46 (c := body Tryz.f46) (by kernel_rfl) (by
  rintro d hp hf
  have h := H_a98 d hp hf
  with_reducible refine Eq.mp ?_ h
  kernel_rfl)
theorem ok_E_a98 : EnvOk Tryz.prog E_a98 := EnvOk.cons ok_E_a96 v_a98 (FnOk.of Tryz.func46 (c := body Tryz.f46) (by kernel_rfl) (by kernel_rfl))
theorem v_a99 : Valid Tryz.prog G0 18 s_a99 := valid_sigOf ok_E_a98 mixed p_a99 L_a99 Tryz.func18 (c := body Tryz.f18) (by kernel_rfl) (by
  rintro ⟨l1, l2, l3⟩ hp hf
  have h := H_a99 l1 l2 l3 hp hf
  with_reducible refine Eq.mp ?_ h
  kernel_rfl)
theorem ok_E_a99 : EnvOk Tryz.prog E_a99 := EnvOk.cons ok_E_a98 v_a99 (FnOk.of Tryz.func18 (c := body Tryz.f18) (by kernel_rfl) (by kernel_rfl))
theorem v_a101 : Valid Tryz.prog G0 43 s_a101 := valid_sigOf ok_E_a99 mixed p_a101 L_a101 Tryz.func43 (c := body Tryz.f43) (by kernel_rfl) (by
  rintro d hp hf
  have h := H_a101 d hp hf
  with_reducible refine Eq.mp ?_ h
  kernel_rfl)
theorem ok_E_a101 : EnvOk Tryz.prog E_a101 := EnvOk.cons ok_E_a99 v_a101 (FnOk.of Tryz.func43 (c := body Tryz.f43) (by kernel_rfl) (by kernel_rfl))
theorem v_a102 : Valid Tryz.prog G0 44 s_a102 := valid_sigOf ok_E_a101 mixed p_a102 L_a102 Tryz.func44 (c := body Tryz.f44) (by kernel_rfl) (by
  rintro d hp hf
  have h := H_a102 d hp hf
  with_reducible refine Eq.mp ?_ h
  kernel_rfl)
theorem ok_E_a102 : EnvOk Tryz.prog E_a102 := EnvOk.cons ok_E_a101 v_a102 (FnOk.of Tryz.func44 (c := body Tryz.f44) (by kernel_rfl) (by kernel_rfl))
theorem v_a103 : Valid Tryz.prog G0 13 s_a103 := valid_sigOf ok_E_a102 mixed p_a103 L_a103 Tryz.func13 (c := body Tryz.f13) (by kernel_rfl) (by
  rintro ⟨d, t⟩ hp hf
  have h := H_a103 d t hp hf
  with_reducible refine Eq.mp ?_ h
  kernel_rfl)
theorem ok_E_a103 : EnvOk Tryz.prog E_a103 := EnvOk.cons ok_E_a102 v_a103 (FnOk.of Tryz.func13 (c := body Tryz.f13) (by kernel_rfl) (by kernel_rfl))
theorem v_a104 : Valid Tryz.prog G0 16 s_a104 := valid_sigOf ok_E_a103 mixed p_a104 L_a104 Tryz.func16 (c := body Tryz.f16) (by kernel_rfl) (by
  rintro ⟨d, t⟩ hp hf
  have h := H_a104 d t hp hf
  with_reducible refine Eq.mp ?_ h
  kernel_rfl)
theorem ok_E_a104 : EnvOk Tryz.prog E_a104 := EnvOk.cons ok_E_a103 v_a104 (FnOk.of Tryz.func16 (c := body Tryz.f16) (by kernel_rfl) (by kernel_rfl))
theorem v_a105 : Valid Tryz.prog G0 24 s_a105 := Go.DM.make_valid v_a77 (fun _ => rfl) (fun _ _ _ => rfl)
theorem ok_E_a105 : EnvOk Tryz.prog E_a105 := EnvOk.cons ok_E_a104 v_a105 (FnOk.of Tryz.func24 (c := body Tryz.f24) (by kernel_rfl) (by kernel_rfl))
theorem v_a107 : Valid Tryz.prog G0 42 s_a107 := valid_sigOf ok_E_a105 mixed p_a107 L_a107 Tryz.func42 (c := body Tryz.f42) (by kernel_rfl) (by
  rintro ⟨docs, s1, s2⟩ hp hf
  have h := H_a107 docs s1 s2 hp hf
  with_reducible refine Eq.mp ?_ h
  kernel_rfl)
theorem ok_E_a107 : EnvOk Tryz.prog E_a107 := EnvOk.cons ok_E_a105 v_a107 (FnOk.of Tryz.func42 (c := body Tryz.f42) (by kernel_rfl) (by kernel_rfl))
theorem v_a108 : Valid Tryz.prog G0 94 s_a108 := valid_sigOf ok_E_a107 mixed p_a108 L_a108 Tryz.func94 (c := body Tryz.f94) (by kernel_rfl) (by
  rintro ⟨b, t⟩ hp hf
  have h := H_a108 b t hp hf
  with_reducible refine Eq.mp ?_ h
  kernel_rfl)
theorem ok_E_a108 : EnvOk Tryz.prog E_a108 := EnvOk.cons ok_E_a107 v_a108 (FnOk.of Tryz.func94 (c := body Tryz.f94) (by kernel_rfl) (by kernel_rfl))
theorem v_a116 : Valid Tryz.prog G0 61 s_a116 := valid_sigOf ok_E_a108 mixed p_a116 L_a116 Tryz.func61 (c := body Tryz.f61) (by kernel_rfl) (by
  rintro ⟨a, b⟩ hp hf
  have h := H_a116 a b hp hf
  with_reducible refine Eq.mp ?_ h
  kernel_rfl)
theorem ok_E_a116 : EnvOk Tryz.prog E_a116 := EnvOk.cons ok_E_a108 v_a116 (FnOk.of Tryz.func61 (c := body Tryz.f61) (by kernel_rfl) (by kernel_rfl))
theorem v_a118 : Valid Tryz.prog G0 62 s_a118 := valid_sigOf ok_E_a116 mixed p_a118 L_a118 Tryz.func62 (c := body Tryz.f62) (by kernel_rfl) (by
  rintro ⟨docs, s1, s2⟩ hp hf
  have h := H_a118 docs s1 s2 hp hf
  with_reducible refine Eq.mp ?_ h
  kernel_rfl)
theorem ok_E_a118 : EnvOk Tryz.prog E_a118 := EnvOk.cons ok_E_a116 v_a118 (FnOk.of Tryz.func62 (c := body Tryz.f62) (by kernel_rfl) (by kernel_rfl))
theorem v_a119 : Valid Tryz.prog G0 64 s_a119 := valid_sigOf ok_E_a118 mixed p_a119 L_a119 Tryz.func64 (c := body Tryz.f64) (by kernel_rfl) (by
  rintro ⟨s1, s2⟩ hp hf
  have h := H_a119 s1 s2 hp hf
  with_reducible refine Eq.mp ?_ h
  kernel_rfl)
theorem ok_E_a119 : EnvOk Tryz.prog E_a119 := EnvOk.cons ok_E_a118 v_a119 (FnOk.of Tryz.func64 (c := body Tryz.f64) (by kernel_rfl) (by kernel_rfl))
theorem v_a120 : Valid Tryz.prog G0 35 s_a120 := valid_sigOf ok_E_a119 mixed p_a120 L_a120 Tryz.func35 (c := body Tryz.f35) (by kernel_rfl) (by
  rintro ⟨s1, s2, s3⟩ hp hf
  have h := H_a120 s1 s2 s3 hp hf
  with_reducible refine Eq.mp ?_ h
  kernel_rfl)
theorem ok_E_a120 : EnvOk Tryz.prog E_a120 := EnvOk.cons ok_E_a119 v_a120 (FnOk.of Tryz.func35 (c := body Tryz.f35) (by kernel_rfl) (by kernel_rfl))
theorem v_a121 : Valid Tryz.prog G0 33 s_a121 := valid_sigOf ok_E_a120 mixed p_a121 L_a121 Tryz.func33 (c := body Tryz.f33) (by kernel_rfl) (by
  rintro ⟨s1, s2, s3⟩ hp hf
  have h := H_a121 s1 s2 s3 hp hf
  with_reducible refine Eq.mp ?_ h
  kernel_rfl)
theorem ok_E_a121 : EnvOk Tryz.prog E_a121 := EnvOk.cons ok_E_a120 v_a121 (FnOk.of Tryz.func33 (c := body Tryz.f33) (by kernel_rfl) (by kernel_rfl))
theorem v_a122 : Valid Tryz.prog G0 38 s_a122 := valid_sigOf ok_E_a121 mixed p_a122 L_a122 Tryz.func38 (c := body Tryz.f38) (by kernel_rfl) (by
  rintro ⟨s1, s2, s3, s4⟩ hp hf
  have h := H_a122 s1 s2 s3 s4 hp hf
  with_reducible refine Eq.mp ?_ h
  kernel_rfl)
theorem ok_E_a122 : EnvOk Tryz.prog E_a122 := EnvOk.cons ok_E_a121 v_a122 (FnOk.of Tryz.func38 (c := body Tryz.f38) (by kernel_rfl) (by kernel_rfl))
theorem v_a123 : Valid Tryz.prog G0 28 s_a123 := valid_sigOf ok_E_a122 mixed p_a123 L_a123 Tryz.func28 (c := body Tryz.f28) (by kernel_rfl) (by
  rintro ⟨docs, s1, s2⟩ hp hf
  have h := H_a123 docs s1 s2 hp hf
  with_reducible refine Eq.mp ?_ h
  kernel_rfl)
theorem ok_E_a123 : EnvOk Tryz.prog E_a123 := EnvOk.cons ok_E_a122 v_a123 (FnOk.of Tryz.func28 (c := body Tryz.f28) (by kernel_rfl) (by kernel_rfl))
theorem v_a124 : Valid Tryz.prog G0 40 s_a124 := valid_sigOf ok_E_a123 mixed p_a124 L_a124 Tryz.func40 (c := body Tryz.f40) (by kernel_rfl) (by
  rintro ⟨l, n⟩ hp hf
  have h := H_a124 l n hp hf
  with_reducible refine Eq.mp ?_ h
  kernel_rfl)
theorem ok_E_a124 : EnvOk Tryz.prog E_a124 := EnvOk.cons ok_E_a123 v_a124 (FnOk.of Tryz.func40 (c := body Tryz.f40) (by kernel_rfl) (by kernel_rfl))
theorem v_a127 : Valid Tryz.prog G0 29 s_a127 := valid_sigOf ok_E_a124 mixed p_a127 L_a127 Tryz.func29 (c := body Tryz.f29) (by kernel_rfl) (by
  rintro ⟨docs, s1, s2⟩ hp hf
  have h := H_a127 docs s1 s2 hp hf
  with_reducible refine Eq.mp ?_ h
  kernel_rfl)
theorem ok_E_a127 : EnvOk Tryz.prog E_a127 := EnvOk.cons ok_E_a124 v_a127 (FnOk.of Tryz.func29 (c := body Tryz.f29) (by kernel_rfl) (by kernel_rfl))
theorem v_a128 : Valid Tryz.prog G0 32 s_a128 := valid_sigOf ok_E_a127 mixed p_a128 L_a128 Tryz.func32 (c := body Tryz.f32) (by kernel_rfl) (by
  rintro ⟨docs, s1, s2⟩ hp hf
  have h := H_a128 docs s1 s2 hp hf
  with_reducible refine Eq.mp ?_ h
  kernel_rfl)
theorem ok_E_a128 : EnvOk Tryz.prog E_a128 := EnvOk.cons ok_E_a127 v_a128 (FnOk.of Tryz.func32 (c := body Tryz.f32) (by kernel_rfl) (by kernel_rfl))
theorem v_a132 : Valid Tryz.prog G0 30 s_a132 := valid_sigOf ok_E_a128 mixed p_a132 L_a132 Tryz.func30 (c := body Tryz.f30) (by kernel_rfl) (by
  rintro ⟨a1, a2, a3, b1, b2, b3⟩ hp hf
  have h := H_a132 a1 a2 a3 b1 b2 b3 hp hf
  with_reducible refine Eq.mp ?_ h
  kernel_rfl)
theorem ok_E_a132 : EnvOk Tryz.prog E_a132 := EnvOk.cons ok_E_a128 v_a132 (FnOk.of Tryz.func30 (c := body Tryz.f30) (by kernel_rfl) (by kernel_rfl))
theorem v_a134 : Valid Tryz.prog G0 23 s_a134 := valid_sigOf ok_E_a132 mixed p_a134 L_a134 Tryz.func23 (c := body Tryz.f23) (by kernel_rfl) (by
  rintro docs hp hf
  have h := H_a134 docs hp hf
  with_reducible refine Eq.mp ?_ h
  kernel_rfl)
theorem ok_E_a134 : EnvOk Tryz.prog E_a134 := EnvOk.cons ok_E_a132 v_a134 (FnOk.of Tryz.func23 (c := body Tryz.f23) (by kernel_rfl) (by kernel_rfl))
theorem v_a139 : Valid Tryz.prog G0 27 s_a139 := valid_sigOf ok_E_a134 mixed p_a139 L_a139 Tryz.func27 (c := body Tryz.f27) (by kernel_rfl) (by
  rintro ⟨⟩ hp hf
  have h := H_a139  hp hf
  with_reducible refine Eq.mp ?_ h
  kernel_rfl)
theorem ok_E_a139 : EnvOk Tryz.prog E_a139 := EnvOk.cons ok_E_a134 v_a139 (FnOk.of Tryz.func27 (c := body Tryz.f27) (by kernel_rfl) (by kernel_rfl))
theorem v_a140 : Valid Tryz.prog G0 31 s_a140 := valid_sigOf ok_E_a139 mixed p_a140 L_a140 Tryz.func31 (c := body Tryz.f31) (by kernel_rfl) (by
  rintro ⟨s1, s2, s3⟩ hp hf
  have h := H_a140 s1 s2 s3 hp hf
  with_reducible refine Eq.mp ?_ h
  kernel_rfl)
theorem ok_E_a140 : EnvOk Tryz.prog E_a140 := EnvOk.cons ok_E_a139 v_a140 (FnOk.of Tryz.func31 (c := body Tryz.f31) (by kernel_rfl) (by kernel_rfl))
theorem v_a142 : Valid Tryz.prog G0 6 s_a142 := valid_sigOf ok_E_a140 mixed p_a142 L_a142 Tryz.func6 (c := body Tryz.f6) (by kernel_rfl) (by
  rintro ⟨docs, s1, s2⟩ hp hf
  have h := H_a142 docs s1 s2 hp hf
  with_reducible refine Eq.mp ?_ h
  kernel_rfl)
end Go.J
end
section
set_option linter.unusedVariables false
namespace Go.Proofs.YtepaodgmfpbapaaGreatDoor
open Go Go.Vg Go.ChangeShapes Go.WideShapes Go.ChangeAt Go.RowKit
theorem own : ownKnob Tryz.prog.godebug = none := by kernel_rfl
theorem laidOut : laidOutB Tryz.prog = true := by kernel_rfl
set_option maxRecDepth 100000 in
theorem laidG {W : World} (h : laidMet Tryz.prog [("rubrick/sha.begin", Rows.laid_rubrick_sha_begin), ("rubrick/sha.rounds", Rows.laid_rubrick_sha_rounds), ("rubrick/utf.letters", Rows.laid_rubrick_utf_letters), ("rubrick/utf.shifts", Rows.laid_rubrick_utf_shifts)] W) : ∀ i d, Go.J.G0 i = some d → LaidG W (fun b => b < W.heap.size) i d := by
  intro i d hd
  match i, hd with
  | 0, hd =>
    cases hd
    exact laid_rows (k := .i64) (zss := [[65, 90], [97, 122], [192, 214], [216, 246], [248, 255], [913, 929], [931, 937], [945, 969], [1024, 1119]]) h (.tail _ (.tail _ (.head _))) (by kernel_rfl) (by kernel_rfl) Tryz.underlying165 Tryz.underlying164 (by kernel_rfl) (by kernel_rfl) rfl (fun i f hf => by
      match i, hf with
      | 0, hf => cases hf; exact ⟨rfl, Tryz.underlying3, by kernel_rfl⟩
      | 1, hf => cases hf; exact ⟨rfl, Tryz.underlying3, by kernel_rfl⟩
      | i + 2, hf => simp at hf) (by decide) (by decide) (by simp [allOk, intsOk, lo, hi, Row.hd, Row.tl, DI.toInt])
  | 1, hd =>
    cases hd
    exact laid_rows (k := .i64) (zss := [[65, 90, 32], [192, 214, 32], [216, 222, 32], [913, 929, 32], [931, 937, 32], [1024, 1039, 80], [1040, 1071, 32]]) h (.tail _ (.tail _ (.tail _ (.head _)))) (by kernel_rfl) (by kernel_rfl) Tryz.underlying195 Tryz.underlying194 (by kernel_rfl) (by kernel_rfl) rfl (fun i f hf => by
      match i, hf with
      | 0, hf => cases hf; exact ⟨rfl, Tryz.underlying3, by kernel_rfl⟩
      | 1, hf => cases hf; exact ⟨rfl, Tryz.underlying3, by kernel_rfl⟩
      | 2, hf => cases hf; exact ⟨rfl, Tryz.underlying3, by kernel_rfl⟩
      | i + 3, hf => simp at hf) (by decide) (by decide) (by simp [allOk, intsOk, lo, hi, Row.hd, Row.tl, DI.toInt])
  | 2, hd =>
    cases hd
    exact laid_ints (k := .u32) (zs := [1779033703, 3144134277, 1013904242, 2773480762, 1359893119, 2600822924, 528734635, 1541459225]) h (.head _) (by kernel_rfl) (by kernel_rfl) Tryz.underlying178 Tryz.underlying157 (by kernel_rfl) (by kernel_rfl) (by decide) (by simp [allOk, intsOk, lo, hi, Row.hd, Row.tl, DI.toInt])
  | 3, hd =>
    cases hd
    exact laid_ints (k := .u32) (zs := [1116352408, 1899447441, 3049323471, 3921009573, 961987163, 1508970993, 2453635748, 2870763221, 3624381080, 310598401, 607225278, 1426881987, 1925078388, 2162078206, 2614888103, 3248222580, 3835390401, 4022224774, 264347078, 604807628, 770255983, 1249150122, 1555081692, 1996064986, 2554220882, 2821834349, 2952996808, 3210313671, 3336571891, 3584528711, 113926993, 338241895, 666307205, 773529912, 1294757372, 1396182291, 1695183700, 1986661051, 2177026350, 2456956037, 2730485921, 2820302411, 3259730800, 3345764771, 3516065817, 3600352804, 4094571909, 275423344, 430227734, 506948616, 659060556, 883997877, 958139571, 1322822218, 1537002063, 1747873779, 1955562222, 2024104815, 2227730452, 2361852424, 2428436474, 2756734187, 3204031479, 3329325298]) h (.tail _ (.head _)) (by kernel_rfl) (by kernel_rfl) Tryz.underlying213 Tryz.underlying157 (by kernel_rfl) (by kernel_rfl) (by decide) (by simp [allOk, intsOk, lo, hi, Row.hd, Row.tl, DI.toInt, S.K256])
  | _ + 4, hd => cases hd
def tab0 (w : World) (cs : Array Value) : World := { w with heap := w.heap.modify 0 fun
    | .cells _ t frozen => .cells cs t frozen
    | o => o }
def tab1 (w : World) (cs : Array Value) : World := { w with heap := w.heap.modify 1 fun
    | .cells _ t frozen => .cells cs t frozen
    | o => o }
def tab2 (w : World) (cs : Array Value) : World := { w with heap := w.heap.modify 2 fun
    | .cells _ t frozen => .cells cs t frozen
    | o => o }
def tab3 (w : World) (cs : Array Value) : World := { w with heap := w.heap.modify 3 fun
    | .cells _ t frozen => .cells cs t frozen
    | o => o }
noncomputable def laidWorld (os : Os) : World := tab3 (tab2 (tab1 (tab0 (World.holding Tryz.prog os ⟨#[], #[], []⟩) #[.int .i64 65, .int .i64 90, .int .i64 97, .int .i64 122, .int .i64 192, .int .i64 214, .int .i64 216, .int .i64 246, .int .i64 248, .int .i64 255, .int .i64 913, .int .i64 929, .int .i64 931, .int .i64 937, .int .i64 945, .int .i64 969, .int .i64 1024, .int .i64 1119]) #[.int .i64 65, .int .i64 90, .int .i64 32, .int .i64 192, .int .i64 214, .int .i64 32, .int .i64 216, .int .i64 222, .int .i64 32, .int .i64 913, .int .i64 929, .int .i64 32, .int .i64 931, .int .i64 937, .int .i64 32, .int .i64 1024, .int .i64 1039, .int .i64 80, .int .i64 1040, .int .i64 1071, .int .i64 32]) #[.int .u32 1779033703, .int .u32 3144134277, .int .u32 1013904242, .int .u32 2773480762, .int .u32 1359893119, .int .u32 2600822924, .int .u32 528734635, .int .u32 1541459225]) #[.int .u32 1116352408, .int .u32 1899447441, .int .u32 3049323471, .int .u32 3921009573, .int .u32 961987163, .int .u32 1508970993, .int .u32 2453635748, .int .u32 2870763221, .int .u32 3624381080, .int .u32 310598401, .int .u32 607225278, .int .u32 1426881987, .int .u32 1925078388, .int .u32 2162078206, .int .u32 2614888103, .int .u32 3248222580, .int .u32 3835390401, .int .u32 4022224774, .int .u32 264347078, .int .u32 604807628, .int .u32 770255983, .int .u32 1249150122, .int .u32 1555081692, .int .u32 1996064986, .int .u32 2554220882, .int .u32 2821834349, .int .u32 2952996808, .int .u32 3210313671, .int .u32 3336571891, .int .u32 3584528711, .int .u32 113926993, .int .u32 338241895, .int .u32 666307205, .int .u32 773529912, .int .u32 1294757372, .int .u32 1396182291, .int .u32 1695183700, .int .u32 1986661051, .int .u32 2177026350, .int .u32 2456956037, .int .u32 2730485921, .int .u32 2820302411, .int .u32 3259730800, .int .u32 3345764771, .int .u32 3516065817, .int .u32 3600352804, .int .u32 4094571909, .int .u32 275423344, .int .u32 430227734, .int .u32 506948616, .int .u32 659060556, .int .u32 883997877, .int .u32 958139571, .int .u32 1322822218, .int .u32 1537002063, .int .u32 1747873779, .int .u32 1955562222, .int .u32 2024104815, .int .u32 2227730452, .int .u32 2361852424, .int .u32 2428436474, .int .u32 2756734187, .int .u32 3204031479, .int .u32 3329325298]
theorem segmBuilds_valid : Valid Tryz.prog Go.J.G0 6 (sigOf Go.J.p_a142 fun _ => (True, .bool true, [])) := Go.J.v_a142
theorem segmBuilds_laid_met (os : Os) : laidMet Tryz.prog Rows.segmBuildsRow.laid ((laidWorld os).forCall (fun _ _ => 0) ⟨#[], #[.slice none 0 0, .agg #[.int .i64 0, .int .i64 0]], []⟩).memory :=
  laidMet_of_run' 8 (by kernel_rfl) (by kernel_rfl)
theorem segmBuilds_reads (os : Os) {H : Type} (enc : TypeId × Value → H) : ∃ places, DataW.whole enc Tryz.prog ((laidWorld os).forCall (fun _ _ => 0) ⟨#[], #[.slice none 0 0, .agg #[.int .i64 0, .int .i64 0]], []⟩).memory Tryz.f6.params.toList Rows.segmBuildsSpec.vars false (#[.slice none 0 0, .agg #[.int .i64 0, .int .i64 0]] : Array Value).toList 8 = some ([.nil, .agg [.lit (.int .i64 0), .lit (.int .i64 0)]], [], places) :=
  ⟨[], by kernel_rfl⟩
set_option maxRecDepth 100000 in
theorem segmBuilds_lifted (os : Os) (started : os.Started) (H : Type) (enc : TypeId × Value → H) (F : Stop.Interp) :
    ReturnsInHanded {} Tryz.checked os 6 .any ((OpenSpec.ofChange Rows.segmBuildsSpec).preRow enc Tryz.prog Tryz.f6 Rows.segmBuildsRow.domain false Rows.segmBuildsRow.laid) (((OpenSpec.ofChange Rows.segmBuildsSpec).at F).post enc Tryz.prog Tryz.f6 false true false false) := by
  obtain ⟨places, hx⟩ := segmBuilds_reads os enc
  refine returnsInHanded_of_row (C := Tryz.checked) (s := OpenSpec.ofChange Rows.segmBuildsSpec) own started (by kernel_rfl) Tryz.func6
    (witness_row_at (enc := enc) (C := Tryz.checked) false (laidWorld os) #[.slice none 0 0, .agg #[.int .i64 0, .int .i64 0]] rfl (by kernel_rfl) (by kernel_rfl) (by kernel_rfl)
      (OpenSpec.preRow_of_cond 8 hx (by kernel_rfl) (fun k hk => by cases hk) (by kernel_rfl) (segmBuilds_laid_met os))) ?_
  intro W base args ds gs before hval hW _ _ _ hL _ _
  refine law_contract (s := Rows.segmBuildsSpec) (TabOk.of tab_ok) laidOut segmBuilds_valid (show PS.ofs tab Tryz.f6.params.toList = _ by kernel_rfl) (by kernel_rfl) (show Tryz.f6.resultTypes = #[4] by kernel_rfl) Tryz.underlying4 rfl ?_ (laidG hL) hval hW
  intro H ds hds
  have hn : Tryz.f6.params.toList.length = 2 := by kernel_rfl
  rw [hn] at hds
  match ds, hds with
  | [d0, d1], _ => rfl
theorem segmBuilds_said : Rows.SegmBuildsSaid :=
  OpenClaim.holds_of_cond 6 Tryz.f6 rfl rfl rfl rfl rfl rfl rfl ⟨rfl, rfl, rfl, rfl, rfl⟩ rfl rfl rfl rfl rfl (by kernel_rfl) Tryz.func6 (by kernel_rfl)
    (of_decide_eq_true (by kernel_rfl)) (by unfold Func.isWrapper; first | (rw [if_pos (by decide +kernel)]; kernel_rfl) | (rw [if_neg (by decide +kernel)]; exact ⟨rfl, rfl⟩))
    (fun os started H enc _ F => by rw [OpenClaim.pre_eq_preRow]; exact segmBuilds_lifted os started H enc F)
theorem segmBuilds_plain (f : FuncId) (fn : Func) (hf : Tryz.pinned.checked.prog.funcNamed "rubrick/rubricklaw12.SegmBuilds" = some f) (hfn : Tryz.pinned.checked.prog.funcs[f]? = some fn) :
    false = Tryz.pinned.checked.prog.looks [] ∧ ∀ (j : Nat) t, fn.params[j]? = some t → Tryz.pinned.checked.prog.wantsStandIn t = false := by
  obtain rfl : f = 6 := Option.some.inj ((show Tryz.prog.funcNamed "rubrick/rubricklaw12.SegmBuilds" = some 6 by kernel_rfl).symm.trans hf) |>.symm
  obtain rfl : fn = Tryz.f6 := (Option.some.inj (Tryz.func6.symm.trans hfn)).symm
  refine ⟨by kernel_rfl, fun j t ht => ?_⟩
  have h1 : (Tryz.f6.params.toList.all fun t => !Tryz.prog.wantsStandIn t) = true := by kernel_rfl
  have h2 := List.all_eq_true.1 h1 t (by simpa using Array.mem_of_getElem? ht)
  have h3 : Tryz.prog.wantsStandIn t = false := by simpa using h2
  exact h3
theorem segmBuilds_card : Rows.SegmBuildsCardSaid :=
  Claim7.holds_tied_plain_at .later [] _ _ _ _ segmBuilds_said (fun _ h => by cases h) (by kernel_rfl) (fun _ h => by cases h) segmBuilds_row_tie rfl ⟨rfl, rfl⟩ (by kernel_rfl) rfl segmBuilds_plain (by kernel_rfl)
#print axioms segmBuilds_card
end Go.Proofs.YtepaodgmfpbapaaGreatDoor
end
