import Derived.Test.YtfaedenbhlgnpaaGreatDoorPhF
set_option linter.unusedVariables false
set_option linter.unusedSimpArgs false
section
set_option linter.unusedVariables false
set_option maxHeartbeats 0
set_option maxRecDepth 100000
namespace Go.J
open Go.Proofs
open Go Vg
theorem mixed:Tryz.prog.follows .mixedOrders=true :=by kernel_rfl
theorem acw:ai Tryz.prog E0:=ai.none G0 (bx.of Q9)
theorem auf:Valid Tryz.prog G0 48 aix:=xL R5 aiw fun m ih=>ag (E:=atw m) (ai.cons acw ih (aD.of Tryz.func48 (c:=body Tryz.f48) (by kernel_rfl) (by kernel_rfl))) mixed R5 atv Tryz.func48 (c:=body Tryz.f48) (by kernel_rfl) (by
 rintro v hp hf;have h:=atg m v hp.1 hp.2 hf;with_reducible refine Eq.mp ?_ h
 kernel_rfl)
theorem NA:ai Tryz.prog aiy:=ai.cons acw auf (aD.of Tryz.func48 (c:=body Tryz.f48) (by kernel_rfl) (by kernel_rfl))
theorem aug:Valid Tryz.prog G0 49 aiA:=ag NA mixed aiz aty Tryz.func49 (c:=body Tryz.f49) (by kernel_rfl) (by
 rintro s hp hf;have h:=ath s hp hf;with_reducible refine Eq.mp ?_ h
 kernel_rfl)
theorem NB:ai Tryz.prog aiB:=ai.cons NA aug (aD.of Tryz.func49 (c:=body Tryz.f49) (by kernel_rfl) (by kernel_rfl))
theorem auh:Valid Tryz.prog G0 83 aiD:=ag NB mixed aiC atA Tryz.func83 (c:=body Tryz.f83) (by kernel_rfl) (by
 rintro b hp hf;have h:=ati b hp hf;with_reducible refine Eq.mp ?_ h
 kernel_rfl)
theorem NC:ai Tryz.prog aiE:=ai.cons NB auh (aD.of Tryz.func83 (c:=body Tryz.f83) (by kernel_rfl) (by kernel_rfl))
theorem aui:cH Tryz.prog G0 82 aiH:=fa NC mixed aiF aiG atC Tryz.func82 (c:=body Tryz.f82) (by kernel_rfl) (by
 rintro v ⟨l,⟨⟩⟩ hp hf hg;have h:=atj v l hp hf hg;with_reducible refine Eq.mp ?_ h
 kernel_rfl)
theorem apW:cH Tryz.prog G0 82 aiI:=aui
theorem ND:ai Tryz.prog aiJ:=ai.gm NC apW (aD.of Tryz.func82 (c:=body Tryz.f82) (by kernel_rfl) (by kernel_rfl))
theorem auj:cH Tryz.prog G0 84 aiM:=fa ND mixed aiK aiL atE Tryz.func84 (c:=body Tryz.f84) (by kernel_rfl) (by
 rintro s ⟨l,⟨⟩⟩ hp hf hg;have h:=atk s l hp hf hg;with_reducible refine Eq.mp ?_ h
 kernel_rfl)
theorem apX:cH Tryz.prog G0 84 aiN:=auj
theorem NF:ai Tryz.prog aiO:=ai.gm ND apX (aD.of Tryz.func84 (c:=body Tryz.f84) (by kernel_rfl) (by kernel_rfl))
theorem auk:Valid Tryz.prog G0 44 aiQ:=ag NF mixed aiP atG Tryz.func44 (c:=body Tryz.f44) (by kernel_rfl) (by
 rintro⟨b,v⟩ hp hf;have h:=atl b v hp hf;with_reducible refine Eq.mp ?_ h
 kernel_rfl)
theorem NG:ai Tryz.prog aiR:=ai.cons NF auk (aD.of Tryz.func44 (c:=body Tryz.f44) (by kernel_rfl) (by kernel_rfl))
theorem aul:Valid Tryz.prog G0 45 aiT:=ag NG mixed aiS atI Tryz.func45 (c:=body Tryz.f45) (by kernel_rfl) (by
 rintro⟨b,s⟩ hp hf;have h:=atm b s hp hf;with_reducible refine Eq.mp ?_ h
 kernel_rfl)
theorem NH:ai Tryz.prog aiU:=ai.cons NG aul (aD.of Tryz.func45 (c:=body Tryz.f45) (by kernel_rfl) (by kernel_rfl))
theorem aum:Valid Tryz.prog G0 131 aiW:=ag NH mixed aiV atK Tryz.func131 (c:=body Tryz.f131) (by kernel_rfl) (by
 rintro⟨r1,r2,r3⟩ hp hf;have h:=atn r1 r2 r3 hp hf;with_reducible refine Eq.mp ?_ h
 kernel_rfl)
theorem NI:ai Tryz.prog aiX:=ai.cons NH aum (aD.of Tryz.func131 (c:=body Tryz.f131) (by kernel_rfl) (by kernel_rfl))
theorem aun:Valid Tryz.prog G0 118 aiZ:=ag NI mixed aiY atM Tryz.func118 (c:=body Tryz.f118) (by kernel_rfl) (by
 rintro⟨r1,r2,r3⟩ hp hf;have h:=ato r1 r2 r3 hp hf;with_reducible refine Eq.mp ?_ h
 kernel_rfl)
theorem NJ:ai Tryz.prog ai0:=ai.cons NI aun (aD.of Tryz.func118 (c:=body Tryz.f118) (by kernel_rfl) (by kernel_rfl))
theorem auo:Valid Tryz.prog G0 119 ai2:=ag NJ mixed ai1 atO Tryz.func119 (c:=body Tryz.f119) (by kernel_rfl) (by
 rintro⟨b,p⟩ hp hf;have h:=atp b p hp hf;with_reducible refine Eq.mp ?_ h
 kernel_rfl)
theorem NK:ai Tryz.prog ai3:=ai.cons NJ auo (aD.of Tryz.func119 (c:=body Tryz.f119) (by kernel_rfl) (by kernel_rfl))
theorem apY:Valid Tryz.prog G0 120 á:=ag NK mixed à amK Tryz.func120 (c:=body Tryz.f120) (by kernel_rfl) (by
 rintro⟨b,p,cb⟩ hp hf;have h:=ald b p cb hp hf;with_reducible refine Eq.mp ?_ h
 kernel_rfl)
theorem Ic:ai Tryz.prog â:=ai.cons NK apY (aD.of Tryz.func120 (c:=body Tryz.f120) (by kernel_rfl) (by kernel_rfl))
theorem apZ:Valid Tryz.prog G0 89 ä:=ag Ic mixed ã amM Tryz.func89 (c:=body Tryz.f89) (by kernel_rfl) (by
 rintro⟨r1,r2,r3,cb⟩ hp hf;have h:=ale r1 r2 r3 cb hp hf;with_reducible refine Eq.mp ?_ h
 kernel_rfl)
theorem Ie:ai Tryz.prog å:=ai.cons Ic apZ (aD.of Tryz.func89 (c:=body Tryz.f89) (by kernel_rfl) (by kernel_rfl))
theorem ap0:Valid Tryz.prog G0 88 ç:=ag Ie mixed æ amO Tryz.func88 (c:=body Tryz.f88) (by kernel_rfl) (by
 rintro⟨r1,r2,r3⟩ hp hf;have h:=alf r1 r2 r3 hp hf;with_reducible refine Eq.mp ?_ h
 kernel_rfl)
theorem Ig:ai Tryz.prog è:=ai.cons Ie ap0 (aD.of Tryz.func88 (c:=body Tryz.f88) (by kernel_rfl) (by kernel_rfl))
theorem ap1:Valid Tryz.prog G0 190 ê:=ag Ig mixed é amQ Tryz.func190 (c:=body Tryz.f190) (by kernel_rfl) (by
 rintro c hp hf;have h:=alg c hp hf;with_reducible refine Eq.mp ?_ h
 kernel_rfl)
theorem Ih:ai Tryz.prog ë:=ai.cons Ig ap1 (aD.of Tryz.func190 (c:=body Tryz.f190) (by kernel_rfl) (by kernel_rfl))
theorem ap2:Valid Tryz.prog G0 191 í:=ag Ih mixed ì amS Tryz.func191 (c:=body Tryz.f191) (by kernel_rfl) (by
 rintro c hp hf;have h:=alh c hp hf;with_reducible refine Eq.mp ?_ h
 kernel_rfl)
theorem Ii:ai Tryz.prog î:=ai.cons Ih ap2 (aD.of Tryz.func191 (c:=body Tryz.f191) (by kernel_rfl) (by kernel_rfl))
theorem ap3:Valid Tryz.prog G0 192 ð:=ag Ii mixed ï amU Tryz.func192 (c:=body Tryz.f192) (by kernel_rfl) (by
 rintro c hp hf;have h:=ali c hp hf;with_reducible refine Eq.mp ?_ h
 kernel_rfl)
theorem Ij:ai Tryz.prog ñ:=ai.cons Ii ap3 (aD.of Tryz.func192 (c:=body Tryz.f192) (by kernel_rfl) (by kernel_rfl))
theorem ap4:Valid Tryz.prog G0 166 ó:=ag Ij mixed ò amW Tryz.func166 (c:=body Tryz.f166) (by kernel_rfl) (by
 rintro c hp hf;have h:=alj c hp hf;with_reducible refine Eq.mp ?_ h
 kernel_rfl)
theorem Ik:ai Tryz.prog ô:=ai.cons Ij ap4 (aD.of Tryz.func166 (c:=body Tryz.f166) (by kernel_rfl) (by kernel_rfl))
theorem ap5:Valid Tryz.prog G0 165 ö:=ag Ik mixed õ amY Tryz.func165 (c:=body Tryz.f165) (by kernel_rfl) (by
 rintro b hp hf;have h:=alk b hp hf;with_reducible refine Eq.mp ?_ h
 kernel_rfl)
theorem Il:ai Tryz.prog ø:=ai.cons Ik ap5 (aD.of Tryz.func165 (c:=body Tryz.f165) (by kernel_rfl) (by kernel_rfl))
theorem ap6:Valid Tryz.prog G0 153 ú:=ag Il mixed ù am0 Tryz.func153 (c:=body Tryz.f153) (by kernel_rfl) (by
 rintro b hp hf;have h:=als b hp hf;with_reducible refine Eq.mp ?_ h
 kernel_rfl)
theorem Im:ai Tryz.prog û:=ai.cons Il ap6 (aD.of Tryz.func153 (c:=body Tryz.f153) (by kernel_rfl) (by kernel_rfl))
theorem ap7:Valid Tryz.prog G0 154 ý:=ag Im mixed ü am2 Tryz.func154 (c:=body Tryz.f154) (by kernel_rfl) (by
 rintro c hp hf;have h:=alu c hp hf;with_reducible refine Eq.mp ?_ h
 kernel_rfl)
theorem Io:ai Tryz.prog þ:=ai.cons Im ap7 (aD.of Tryz.func154 (c:=body Tryz.f154) (by kernel_rfl) (by kernel_rfl))
theorem ap8:Valid Tryz.prog G0 155 Ā:=ag Io mixed ÿ am4 Tryz.func155 (c:=body Tryz.f155) (by kernel_rfl) (by
 rintro c hp hf;have h:=alv c hp hf;with_reducible refine Eq.mp ?_ h
 kernel_rfl)
theorem Ip:ai Tryz.prog ā:=ai.cons Io ap8 (aD.of Tryz.func155 (c:=body Tryz.f155) (by kernel_rfl) (by kernel_rfl))
theorem ap9:Valid Tryz.prog G0 167 ă:=ag Ip mixed Ă am6 Tryz.func167 (c:=body Tryz.f167) (by kernel_rfl) (by
 rintro c hp hf;have h:=alw c hp hf;with_reducible refine Eq.mp ?_ h
 kernel_rfl)
theorem Iq:ai Tryz.prog Ą:=ai.cons Ip ap9 (aD.of Tryz.func167 (c:=body Tryz.f167) (by kernel_rfl) (by kernel_rfl))
theorem aqa:Valid Tryz.prog G0 208 Ć:=ag Iq mixed ą am8 Tryz.func208 (c:=body Tryz.f208) (by kernel_rfl) (by
 rintro⟨c,a,b⟩ hp hf;have h:=alx c a b hp hf;with_reducible refine Eq.mp ?_ h
 kernel_rfl)
theorem Ir:ai Tryz.prog ć:=ai.cons Iq aqa (aD.of Tryz.func208 (c:=body Tryz.f208) (by kernel_rfl) (by kernel_rfl))
theorem aqb:Valid Tryz.prog G0 199 ĉ:=ag Ir mixed Ĉ ana Tryz.func199 (c:=body Tryz.f199) (by kernel_rfl) (by
 rintro c hp hf;have h:=aly c hp hf;with_reducible refine Eq.mp ?_ h
 kernel_rfl)
theorem Is:ai Tryz.prog Ċ:=ai.cons Ir aqb (aD.of Tryz.func199 (c:=body Tryz.f199) (by kernel_rfl) (by kernel_rfl))
theorem aqc:Valid Tryz.prog G0 200 Č:=ag Is mixed ċ anc Tryz.func200 (c:=body Tryz.f200) (by kernel_rfl) (by
 rintro c hp hf;have h:=alz c hp hf;with_reducible refine Eq.mp ?_ h
 kernel_rfl)
theorem It:ai Tryz.prog č:=ai.cons Is aqc (aD.of Tryz.func200 (c:=body Tryz.f200) (by kernel_rfl) (by kernel_rfl))
theorem aqd:Valid Tryz.prog G0 201 ď:=ag It mixed Ď anf Tryz.func201 (c:=body Tryz.f201) (by kernel_rfl) (by
 rintro⟨a,b⟩ hp hf;have h:=alA a b hp hf;with_reducible refine Eq.mp ?_ h
 kernel_rfl)
theorem Iu:ai Tryz.prog Đ:=ai.cons It aqd (aD.of Tryz.func201 (c:=body Tryz.f201) (by kernel_rfl) (by kernel_rfl))
theorem aqe:Valid Tryz.prog G0 202 Ē:=ag Iu mixed đ anh Tryz.func202 (c:=body Tryz.f202) (by kernel_rfl) (by
 rintro c hp hf;have h:=alB c hp hf;with_reducible refine Eq.mp ?_ h
 kernel_rfl)
theorem Iv:ai Tryz.prog ē:=ai.cons Iu aqe (aD.of Tryz.func202 (c:=body Tryz.f202) (by kernel_rfl) (by kernel_rfl))
theorem aqf:Valid Tryz.prog G0 203 ĕ:=ag Iv mixed Ĕ anj Tryz.func203 (c:=body Tryz.f203) (by kernel_rfl) (by
 rintro c hp hf;have h:=alC c hp hf;with_reducible refine Eq.mp ?_ h
 kernel_rfl)
theorem Iw:ai Tryz.prog Ė:=ai.cons Iv aqf (aD.of Tryz.func203 (c:=body Tryz.f203) (by kernel_rfl) (by kernel_rfl))
theorem aqg:Valid Tryz.prog G0 198 Ę:=ag Iw mixed ė anl Tryz.func198 (c:=body Tryz.f198) (by kernel_rfl) (by
 rintro⟨b,n⟩ hp hf;have h:=alD b n hp hf;with_reducible refine Eq.mp ?_ h
 kernel_rfl)
theorem Ix:ai Tryz.prog ę:=ai.cons Iw aqg (aD.of Tryz.func198 (c:=body Tryz.f198) (by kernel_rfl) (by kernel_rfl))
theorem aqh:Valid Tryz.prog G0 179 ě:=ag Ix mixed Ě ann Tryz.func179 (c:=body Tryz.f179) (by kernel_rfl) (by
 rintro b hp hf;have h:=alE b hp hf;with_reducible refine Eq.mp ?_ h
 kernel_rfl)
theorem Iy:ai Tryz.prog Ĝ:=ai.cons Ix aqh (aD.of Tryz.func179 (c:=body Tryz.f179) (by kernel_rfl) (by kernel_rfl))
theorem aqi:Valid Tryz.prog G0 156 Ğ:=ag Iy mixed ĝ anp Tryz.func156 (c:=body Tryz.f156) (by kernel_rfl) (by
 rintro u hp hf;have h:=alF u hp hf;with_reducible refine Eq.mp ?_ h
 kernel_rfl)
theorem Iz:ai Tryz.prog ğ:=ai.cons Iy aqi (aD.of Tryz.func156 (c:=body Tryz.f156) (by kernel_rfl) (by kernel_rfl))
theorem aqj:Valid Tryz.prog G0 136 ġ:=ag Iz mixed Ġ anr Tryz.func136 (c:=body Tryz.f136) (by kernel_rfl) (by
 rintro b hp hf;have h:=alG b hp hf;with_reducible refine Eq.mp ?_ h
 kernel_rfl)
theorem IA:ai Tryz.prog Ģ:=ai.cons Iz aqj (aD.of Tryz.func136 (c:=body Tryz.f136) (by kernel_rfl) (by kernel_rfl))
theorem aqk:Valid Tryz.prog G0 146 Ĥ:=ag IA mixed ģ ant Tryz.func146 (c:=body Tryz.f146) (by kernel_rfl) (by
 rintro s hp hf;have h:=alH s hp hf;with_reducible refine Eq.mp ?_ h
 kernel_rfl)
theorem IB:ai Tryz.prog ĥ:=ai.cons IA aqk (aD.of Tryz.func146 (c:=body Tryz.f146) (by kernel_rfl) (by kernel_rfl))
theorem aql:Valid Tryz.prog G0 180 ħ:=ag IB mixed Ħ anv Tryz.func180 (c:=body Tryz.f180) (by kernel_rfl) (by
 rintro c hp hf;have h:=alI c hp hf;with_reducible refine Eq.mp ?_ h
 kernel_rfl)
theorem IC:ai Tryz.prog Ĩ:=ai.cons IB aql (aD.of Tryz.func180 (c:=body Tryz.f180) (by kernel_rfl) (by kernel_rfl))
theorem aqm:Valid Tryz.prog G0 181 Ī:=ag IC mixed ĩ anx Tryz.func181 (c:=body Tryz.f181) (by kernel_rfl) (by
 rintro u hp hf;have h:=alJ u hp hf;with_reducible refine Eq.mp ?_ h
 kernel_rfl)
theorem ID:ai Tryz.prog ī:=ai.cons IC aqm (aD.of Tryz.func181 (c:=body Tryz.f181) (by kernel_rfl) (by kernel_rfl))
theorem aqn:Valid Tryz.prog G0 161 ĭ:=ag ID mixed Ĭ anA Tryz.func161 (c:=body Tryz.f161) (by kernel_rfl) (by
 rintro b hp hf;have h:=alK b hp hf;with_reducible refine Eq.mp ?_ h
 kernel_rfl)
theorem IE:ai Tryz.prog Į:=ai.cons ID aqn (aD.of Tryz.func161 (c:=body Tryz.f161) (by kernel_rfl) (by kernel_rfl))
theorem aqo:Valid Tryz.prog G0 162 İ:=ag IE mixed į anC Tryz.func162 (c:=body Tryz.f162) (by kernel_rfl) (by
 rintro l hp hf;have h:=alL l hp hf;with_reducible refine Eq.mp ?_ h
 kernel_rfl)
theorem IF:ai Tryz.prog ı:=ai.cons IE aqo (aD.of Tryz.func162 (c:=body Tryz.f162) (by kernel_rfl) (by kernel_rfl))
theorem aqp:cH Tryz.prog G0 142 Ĵ:=fa IF mixed Ĳ ĳ anE Tryz.func142 (c:=body Tryz.f142) (by kernel_rfl) (by
 rintro⟨⟩ ⟨l,⟨⟩⟩ hp hf hg;have h:=alM l hp hf hg;with_reducible refine Eq.mp ?_ h
 kernel_rfl)
theorem agV:cH Tryz.prog G0 142 ĵ:=aqp
theorem IG:ai Tryz.prog Ķ:=ai.gm IF agV (aD.of Tryz.func142 (c:=body Tryz.f142) (by kernel_rfl) (by kernel_rfl))
theorem aqq:Valid Tryz.prog G0 141 ĸ:=ag IG mixed ķ anG Tryz.func141 (c:=body Tryz.f141) (by kernel_rfl) (by
 rintro b hp hf;have h:=alN b hp hf;with_reducible refine Eq.mp ?_ h
 kernel_rfl)
theorem IH:ai Tryz.prog Ĺ:=ai.cons IG aqq (aD.of Tryz.func141 (c:=body Tryz.f141) (by kernel_rfl) (by kernel_rfl))
theorem aqr:Valid Tryz.prog G0 163 Ļ:=ag IH mixed ĺ anI Tryz.func163 (c:=body Tryz.f163) (by kernel_rfl) (by
 rintro⟨b,t⟩ hp hf;have h:=alO b t hp hf;with_reducible refine Eq.mp ?_ h
 kernel_rfl)
theorem II:ai Tryz.prog ļ:=ai.cons IH aqr (aD.of Tryz.func163 (c:=body Tryz.f163) (by kernel_rfl) (by kernel_rfl))
theorem aqs:Valid Tryz.prog G0 157 ľ:=ag II mixed Ľ anK Tryz.func157 (c:=body Tryz.f157) (by kernel_rfl) (by
 rintro s hp hf;have h:=alP s hp hf;with_reducible refine Eq.mp ?_ h
 kernel_rfl)
theorem IJ:ai Tryz.prog Ŀ:=ai.cons II aqs (aD.of Tryz.func157 (c:=body Tryz.f157) (by kernel_rfl) (by kernel_rfl))
theorem aqt:Valid Tryz.prog G0 137 Ł:=ag IJ mixed ŀ anM Tryz.func137 (c:=body Tryz.f137) (by kernel_rfl) (by
 rintro⟨a,b⟩ hp hf;have h:=alQ a b hp hf;with_reducible refine Eq.mp ?_ h
 kernel_rfl)
theorem IK:ai Tryz.prog ł:=ai.cons IJ aqt (aD.of Tryz.func137 (c:=body Tryz.f137) (by kernel_rfl) (by kernel_rfl))
theorem aqu:cH Tryz.prog G0 152 Ņ:=fa IK mixed Ń ń anO Tryz.func152 (c:=body Tryz.f152) (by kernel_rfl) (by
 rintro⟨a,b⟩ ⟨⟨⟩,⟨⟩⟩ hp hf hg;have h:=alR a b hp hf hg;with_reducible refine Eq.mp ?_ h
 kernel_rfl)
theorem agW:cH Tryz.prog G0 152 ņ:=aqu
theorem IL:ai Tryz.prog Ň:=ai.gm IK agW (aD.of Tryz.func152 (c:=body Tryz.f152) (by kernel_rfl) (by kernel_rfl))
theorem aqv:cH Tryz.prog G0 151 Ŋ:=fa IL mixed ň ŉ anQ Tryz.func151 (c:=body Tryz.f151) (by kernel_rfl) (by
 rintro⟨⟩ ⟨l,⟨⟨⟩,⟨⟩⟩⟩ hp hf hg;have h:=alS l hp hf hg;with_reducible refine Eq.mp ?_ h
 kernel_rfl)
theorem agX:cH Tryz.prog G0 151 ŋ:=aqv
theorem V8:ai Tryz.prog Ō:=ai.gm IL agX (aD.of Tryz.func151 (c:=body Tryz.f151) (by kernel_rfl) (by kernel_rfl))
theorem aqw:Valid Tryz.prog G0 149 ō:=Vg.A5 Tryz.P6 (fun _=>rfl)
theorem V9:ai Tryz.prog Ŏ:=ai.cons V8 aqw (aD.of Tryz.func149 (c:=body Tryz.f149) (by kernel_rfl) (by kernel_rfl))
theorem aqx:Valid Tryz.prog G0 99 ŏ:=Vg.A6 Tryz.P7 (fun _=>rfl)
theorem Wa:ai Tryz.prog Ő:=ai.cons V9 aqx (aD.of Tryz.func99 (c:=body Tryz.f99) (by kernel_rfl) (by kernel_rfl))
theorem aqy:cH Tryz.prog G0 150 ő:=Tryz.agM (fun _=>rfl)
theorem agY:cH Tryz.prog G0 150 Œ:=aqy
theorem IM:ai Tryz.prog œ:=ai.gm Wa agY (aD.of Tryz.func150 (c:=body Tryz.f150) (by kernel_rfl) (by kernel_rfl))
theorem aqz:cH Tryz.prog G0 135 Ŗ:=fa IM mixed Ŕ ŕ anZ Tryz.func135 (c:=body Tryz.f135) (by kernel_rfl) (by
 rintro l ⟨⟩ hp hf hg;have h:=alT l hp hf hg;with_reducible refine Eq.mp ?_ h
 kernel_rfl)
theorem agZ:cH Tryz.prog G0 135 ŗ:=aqz
theorem IN:ai Tryz.prog Ř:=ai.gm IM agZ (aD.of Tryz.func135 (c:=body Tryz.f135) (by kernel_rfl) (by kernel_rfl))
theorem acx:Valid Tryz.prog G0 126 Ś:=ag IN mixed ř an1 Tryz.func126 (c:=body Tryz.f126) (by kernel_rfl) (by
 rintro b hp hf;have h:=alU b hp hf;with_reducible refine Eq.mp ?_ h
 kernel_rfl)
theorem IP:ai Tryz.prog ś:=ai.cons IN acx (aD.of Tryz.func126 (c:=body Tryz.f126) (by kernel_rfl) (by kernel_rfl))
theorem aqA:Valid Tryz.prog G0 145 ŝ:=ag IP mixed Ŝ an3 Tryz.func145 (c:=body Tryz.f145) (by kernel_rfl) (by
 rintro l hp hf;have h:=alV l hp hf;with_reducible refine Eq.mp ?_ h
 kernel_rfl)
end Go.J

end
