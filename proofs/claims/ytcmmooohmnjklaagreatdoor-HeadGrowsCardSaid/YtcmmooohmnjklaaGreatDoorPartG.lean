import Derived.Test.YtcmmooohmnjklaaGreatDoorPartF
set_option linter.unusedVariables false
set_option linter.unusedSimpArgs false
section
set_option linter.unusedVariables false
set_option maxHeartbeats 0
set_option maxRecDepth 100000
namespace Go.J
open Go.Proofs
open Go Vg
theorem mixed:Tryz.prog.follows .mixedOrders=true :=by kernel_rfl
theorem ċ:ak Tryz.prog E0:=ak.none G0 (bw.of Nt)
theorem apl:Valid Tryz.prog G0 191 aeS:=ah ċ mixed aeR aoM Tryz.func191 (c:=body Tryz.f191) (by kernel_rfl) (by
 rintro⟨x,k⟩ hp hf
 have h:=aor x k hp hf
 with_reducible refine Eq.mp ?_ h
 kernel_rfl)
theorem KQ:ak Tryz.prog aeT:=ak.cons ċ apl (aB.of Tryz.func191 (c:=body Tryz.f191) (by kernel_rfl) (by kernel_rfl))
theorem apm:Valid Tryz.prog G0 107 aeV:=ah KQ mixed aeU aoO Tryz.func107 (c:=body Tryz.f107) (by kernel_rfl) (by
 rintro⟨⟩ hp hf
 have h:=aos hp hf
 with_reducible refine Eq.mp ?_ h
 kernel_rfl)
theorem KR:ak Tryz.prog aeW:=ak.cons KQ apm (aB.of Tryz.func107 (c:=body Tryz.f107) (by kernel_rfl) (by kernel_rfl))
theorem apn:Valid Tryz.prog G0 138 aeY:=ah KR mixed aeX aoQ Tryz.func138 (c:=body Tryz.f138) (by kernel_rfl) (by
 rintro⟨s1,s2,s3,s4,s5,s6,s7,s8,s9,aI⟩ hp hf
 have h:=aot s1 s2 s3 s4 s5 s6 s7 s8 s9 aI hp hf
 with_reducible refine Eq.mp ?_ h
 kernel_rfl)
theorem KT:ak Tryz.prog aeZ:=ak.cons KR apn (aB.of Tryz.func138 (c:=body Tryz.f138) (by kernel_rfl) (by kernel_rfl))
theorem apo:Valid Tryz.prog G0 167 ae1:=ah KT mixed ae0 aoS Tryz.func167 (c:=body Tryz.f167) (by kernel_rfl) (by
 rintro⟨u1,u2,u3,u4,u5,u6,u7,u8,p⟩ hp hf
 have h:=aou u1 u2 u3 u4 u5 u6 u7 u8 p hp hf
 with_reducible refine Eq.mp ?_ h
 kernel_rfl)
theorem KU:ak Tryz.prog ae2:=ak.cons KT apo (aB.of Tryz.func167 (c:=body Tryz.f167) (by kernel_rfl) (by kernel_rfl))
theorem aly:Valid Tryz.prog G0 139 WQ:=ah KU mixed WO aiG Tryz.func139 (c:=body Tryz.f139) (by kernel_rfl) (by
 rintro⟨u1,u2,u3,u4,u5,u6,u7,u8,b⟩ hp hf
 have h:=ahd u1 u2 u3 u4 u5 u6 u7 u8 b hp hf
 with_reducible refine Eq.mp ?_ h
 kernel_rfl)
theorem FK:ak Tryz.prog WR:=ak.cons KU aly (aB.of Tryz.func139 (c:=body Tryz.f139) (by kernel_rfl) (by kernel_rfl))
theorem alz:Valid Tryz.prog G0 106 WT:=ah FK mixed WS aiI Tryz.func106 (c:=body Tryz.f106) (by kernel_rfl) (by
 rintro⟨s1,s2,s3,s4,s5,s6,s7,s8,s9,aI,b⟩ hp hf
 have h:=ahe s1 s2 s3 s4 s5 s6 s7 s8 s9 aI b hp hf
 with_reducible refine Eq.mp ?_ h
 kernel_rfl)
theorem FL:ak Tryz.prog WU:=ak.cons FK alz (aB.of Tryz.func106 (c:=body Tryz.f106) (by kernel_rfl) (by kernel_rfl))
theorem alA:Valid Tryz.prog G0 105 WW:=ah FL mixed WV aiK Tryz.func105 (c:=body Tryz.f105) (by kernel_rfl) (by
 rintro⟨s1,s2,s3,s4,s5,s6,s7,s8,s9,aI⟩ hp hf
 have h:=ahf s1 s2 s3 s4 s5 s6 s7 s8 s9 aI hp hf
 with_reducible refine Eq.mp ?_ h
 kernel_rfl)
theorem FM:ak Tryz.prog WX:=ak.cons FL alA (aB.of Tryz.func105 (c:=body Tryz.f105) (by kernel_rfl) (by kernel_rfl))
theorem alB:Valid Tryz.prog G0 67 WZ:=ah FM mixed WY aiM Tryz.func67 (c:=body Tryz.f67) (by kernel_rfl) (by
 rintro b hp hf
 have h:=ahg b hp hf
 with_reducible refine Eq.mp ?_ h
 kernel_rfl)
theorem FN:ak Tryz.prog MB:=ak.cons FM alB (aB.of Tryz.func67 (c:=body Tryz.f67) (by kernel_rfl) (by kernel_rfl))
theorem alE:Valid Tryz.prog G0 113 W9:=ah FN mixed W8 aiS Tryz.func113 (c:=body Tryz.f113) (by kernel_rfl) (by
 rintro b hp hf
 have h:=ahj b hp hf
 with_reducible refine Eq.mp ?_ h
 kernel_rfl)
theorem FQ:ak Tryz.prog Xa:=ak.cons FN alE (aB.of Tryz.func113 (c:=body Tryz.f113) (by kernel_rfl) (by kernel_rfl))
theorem alF:ca Tryz.prog G0 112 Xd:=dF FQ mixed Xb Xc aiU Tryz.func112 (c:=body Tryz.f112) (by kernel_rfl) (by
 rintro v ⟨l,⟨⟩⟩ hp hf hg
 have h:=ahk v l hp hf hg
 with_reducible refine Eq.mp ?_ h
 kernel_rfl)
theorem acS:ca Tryz.prog G0 112 Xe:=alF
theorem FR:ak Tryz.prog Xf:=ak.eP FQ acS (aB.of Tryz.func112 (c:=body Tryz.f112) (by kernel_rfl) (by kernel_rfl))
theorem alG:ca Tryz.prog G0 194 Xi:=dF FR mixed Xg Xh aiW Tryz.func194 (c:=body Tryz.f194) (by kernel_rfl) (by
 rintro s ⟨l,⟨⟩⟩ hp hf hg
 have h:=ahl s l hp hf hg
 with_reducible refine Eq.mp ?_ h
 kernel_rfl)
theorem acT:ca Tryz.prog G0 194 Xj:=alG
theorem FT:ak Tryz.prog Xk:=ak.eP FR acT (aB.of Tryz.func194 (c:=body Tryz.f194) (by kernel_rfl) (by kernel_rfl))
theorem alH:Valid Tryz.prog G0 71 Xm:=ah FT mixed Xl aiY Tryz.func71 (c:=body Tryz.f71) (by kernel_rfl) (by
 rintro⟨b,v⟩ hp hf
 have h:=ahm b v hp hf
 with_reducible refine Eq.mp ?_ h
 kernel_rfl)
theorem FU:ak Tryz.prog Xn:=ak.cons FT alH (aB.of Tryz.func71 (c:=body Tryz.f71) (by kernel_rfl) (by kernel_rfl))
theorem alI:Valid Tryz.prog G0 176 Xp:=ah FU mixed Xo ai0 Tryz.func176 (c:=body Tryz.f176) (by kernel_rfl) (by
 rintro⟨b,s⟩ hp hf
 have h:=ahn b s hp hf
 with_reducible refine Eq.mp ?_ h
 kernel_rfl)
theorem FV:ak Tryz.prog Xq:=ak.cons FU alI (aB.of Tryz.func176 (c:=body Tryz.f176) (by kernel_rfl) (by kernel_rfl))
theorem aBC:Valid Tryz.prog G0 116 ax4:=ah FV mixed axY aBq Tryz.func116 (c:=body Tryz.f116) (by kernel_rfl) (by
 rintro⟨r1,r2,r3⟩ hp hf
 have h:=aBf r1 r2 r3 hp hf
 with_reducible refine Eq.mp ?_ h
 kernel_rfl)
theorem avx:ak Tryz.prog ax5:=ak.cons FV aBC (aB.of Tryz.func116 (c:=body Tryz.f116) (by kernel_rfl) (by kernel_rfl))
theorem aBD:Valid Tryz.prog G0 114 ax8:=ah avx mixed ax7 aBs Tryz.func114 (c:=body Tryz.f114) (by kernel_rfl) (by
 rintro⟨r1,r2,r3⟩ hp hf
 have h:=aBg r1 r2 r3 hp hf
 with_reducible refine Eq.mp ?_ h
 kernel_rfl)
theorem avy:ak Tryz.prog ax9:=ak.cons avx aBD (aB.of Tryz.func114 (c:=body Tryz.f114) (by kernel_rfl) (by kernel_rfl))
theorem aBE:Valid Tryz.prog G0 115 ayb:=ah avy mixed aya aBu Tryz.func115 (c:=body Tryz.f115) (by kernel_rfl) (by
 rintro⟨b,p⟩ hp hf
 have h:=aBh b p hp hf
 with_reducible refine Eq.mp ?_ h
 kernel_rfl)
theorem avz:ak Tryz.prog ayc:=ak.cons avy aBE (aB.of Tryz.func115 (c:=body Tryz.f115) (by kernel_rfl) (by kernel_rfl))
theorem aBF:Valid Tryz.prog G0 74 aye:=ah avz mixed ayd aBw Tryz.func74 (c:=body Tryz.f74) (by kernel_rfl) (by
 rintro⟨r1,r2,r3⟩ hp hf
 have h:=aBi r1 r2 r3 hp hf
 with_reducible refine Eq.mp ?_ h
 kernel_rfl)
theorem avA:ak Tryz.prog ayf:=ak.cons avz aBF (aB.of Tryz.func74 (c:=body Tryz.f74) (by kernel_rfl) (by kernel_rfl))
theorem aBG:Valid Tryz.prog G0 76 ayh:=ah avA mixed ayg aBy Tryz.func76 (c:=body Tryz.f76) (by kernel_rfl) (by
 rintro⟨r1,r2,r3⟩ hp hf
 have h:=aBj r1 r2 r3 hp hf
 with_reducible refine Eq.mp ?_ h
 kernel_rfl)
theorem avB:ak Tryz.prog ayi:=ak.cons avA aBG (aB.of Tryz.func76 (c:=body Tryz.f76) (by kernel_rfl) (by kernel_rfl))
theorem aBH:Valid Tryz.prog G0 78 ayk:=ah avB mixed ayj aBA Tryz.func78 (c:=body Tryz.f78) (by kernel_rfl) (by
 rintro⟨r1,r2,r3⟩ hp hf
 have h:=aBk r1 r2 r3 hp hf
 with_reducible refine Eq.mp ?_ h
 kernel_rfl)
theorem avG:ak Tryz.prog ayl:=ak.cons avB aBH (aB.of Tryz.func78 (c:=body Tryz.f78) (by kernel_rfl) (by kernel_rfl))
theorem alN:Valid Tryz.prog G0 168 XE:=ah avG mixed XD aja Tryz.func168 (c:=body Tryz.f168) (by kernel_rfl) (by
 rintro⟨kind,parts⟩ hp hf
 have h:=ahs kind parts hp hf
 with_reducible refine Eq.mp ?_ h
 kernel_rfl)
theorem F0:ak Tryz.prog XF:=ak.cons avG alN (aB.of Tryz.func168 (c:=body Tryz.f168) (by kernel_rfl) (by kernel_rfl))
theorem alO:Valid Tryz.prog G0 140 XH:=ah F0 mixed XG ajc Tryz.func140 (c:=body Tryz.f140) (by kernel_rfl) (by
 rintro b hp hf
 have h:=aht b hp hf
 with_reducible refine Eq.mp ?_ h
 kernel_rfl)
theorem F1:ak Tryz.prog XI:=ak.cons F0 alO (aB.of Tryz.func140 (c:=body Tryz.f140) (by kernel_rfl) (by kernel_rfl))
theorem alP:Valid Tryz.prog G0 192 XK:=ah F1 mixed XJ aje Tryz.func192 (c:=body Tryz.f192) (by kernel_rfl) (by
 rintro⟨l,r⟩ hp hf
 have h:=ahu l r hp hf
 with_reducible refine Eq.mp ?_ h
 kernel_rfl)
theorem F2:ak Tryz.prog XL:=ak.cons F1 alP (aB.of Tryz.func192 (c:=body Tryz.f192) (by kernel_rfl) (by kernel_rfl))
theorem alQ:Valid Tryz.prog G0 193 XN:=ah F2 mixed XM ajg Tryz.func193 (c:=body Tryz.f193) (by kernel_rfl) (by
 rintro b hp hf
 have h:=ahv b hp hf
 with_reducible refine Eq.mp ?_ h
 kernel_rfl)
theorem F3:ak Tryz.prog XO:=ak.cons F2 alQ (aB.of Tryz.func193 (c:=body Tryz.f193) (by kernel_rfl) (by kernel_rfl))
theorem alR:Valid Tryz.prog G0 108 XQ:=ah F3 mixed XP aji Tryz.func108 (c:=body Tryz.f108) (by kernel_rfl) (by
 rintro b hp hf
 have h:=ahw b hp hf
 with_reducible refine Eq.mp ?_ h
 kernel_rfl)
theorem F4:ak Tryz.prog XR:=ak.cons F3 alR (aB.of Tryz.func108 (c:=body Tryz.f108) (by kernel_rfl) (by kernel_rfl))
theorem alS:Valid Tryz.prog G0 173 XT:=ah F4 mixed XS ajk Tryz.func173 (c:=body Tryz.f173) (by kernel_rfl) (by
 rintro⟨l,r⟩ hp hf
 have h:=ahx l r hp hf
 with_reducible refine Eq.mp ?_ h
 kernel_rfl)
theorem F5:ak Tryz.prog XU:=ak.cons F4 alS (aB.of Tryz.func173 (c:=body Tryz.f173) (by kernel_rfl) (by kernel_rfl))
theorem alT:Valid Tryz.prog G0 175 XW:=ah F5 mixed XV ajm Tryz.func175 (c:=body Tryz.f175) (by kernel_rfl) (by
 rintro b hp hf
 have h:=ahy b hp hf
 with_reducible refine Eq.mp ?_ h
 kernel_rfl)
theorem F6:ak Tryz.prog XX:=ak.cons F5 alT (aB.of Tryz.func175 (c:=body Tryz.f175) (by kernel_rfl) (by kernel_rfl))
theorem alU:Valid Tryz.prog G0 218 XZ:=ah F6 mixed XY ajo Tryz.func218 (c:=body Tryz.f218) (by kernel_rfl) (by
 rintro c hp hf
 have h:=ahz c hp hf
 with_reducible refine Eq.mp ?_ h
 kernel_rfl)
theorem F7:ak Tryz.prog X0:=ak.cons F6 alU (aB.of Tryz.func218 (c:=body Tryz.f218) (by kernel_rfl) (by kernel_rfl))
theorem alV:Valid Tryz.prog G0 219 X2:=ah F7 mixed X1 ajq Tryz.func219 (c:=body Tryz.f219) (by kernel_rfl) (by
 rintro c hp hf
 have h:=ahA c hp hf
 with_reducible refine Eq.mp ?_ h
 kernel_rfl)
theorem F8:ak Tryz.prog X3:=ak.cons F7 alV (aB.of Tryz.func219 (c:=body Tryz.f219) (by kernel_rfl) (by kernel_rfl))
theorem alW:Valid Tryz.prog G0 220 X5:=ah F8 mixed X4 ajs Tryz.func220 (c:=body Tryz.f220) (by kernel_rfl) (by
 rintro c hp hf
 have h:=ahB c hp hf
 with_reducible refine Eq.mp ?_ h
 kernel_rfl)
theorem F9:ak Tryz.prog X6:=ak.cons F8 alW (aB.of Tryz.func220 (c:=body Tryz.f220) (by kernel_rfl) (by kernel_rfl))
theorem alX:Valid Tryz.prog G0 197 X8:=ah F9 mixed X7 aju Tryz.func197 (c:=body Tryz.f197) (by kernel_rfl) (by
 rintro c hp hf
 have h:=ahC c hp hf
 with_reducible refine Eq.mp ?_ h
 kernel_rfl)
theorem Ga:ak Tryz.prog X9:=ak.cons F9 alX (aB.of Tryz.func197 (c:=body Tryz.f197) (by kernel_rfl) (by kernel_rfl))
theorem alY:Valid Tryz.prog G0 196 Yb:=ah Ga mixed Ya ajw Tryz.func196 (c:=body Tryz.f196) (by kernel_rfl) (by
 rintro b hp hf
 have h:=ahD b hp hf
 with_reducible refine Eq.mp ?_ h
 kernel_rfl)
theorem Gb:ak Tryz.prog Yc:=ak.cons Ga alY (aB.of Tryz.func196 (c:=body Tryz.f196) (by kernel_rfl) (by kernel_rfl))
theorem alZ:Valid Tryz.prog G0 182 Ye:=ah Gb mixed Yd ajy Tryz.func182 (c:=body Tryz.f182) (by kernel_rfl) (by
 rintro b hp hf
 have h:=ahI b hp hf
 with_reducible refine Eq.mp ?_ h
 kernel_rfl)
theorem Gc:ak Tryz.prog Yf:=ak.cons Gb alZ (aB.of Tryz.func182 (c:=body Tryz.f182) (by kernel_rfl) (by kernel_rfl))
theorem al0:Valid Tryz.prog G0 183 Yh:=ah Gc mixed Yg ajA Tryz.func183 (c:=body Tryz.f183) (by kernel_rfl) (by
 rintro c hp hf
 have h:=ahJ c hp hf
 with_reducible refine Eq.mp ?_ h
 kernel_rfl)
theorem Gd:ak Tryz.prog Yi:=ak.cons Gc al0 (aB.of Tryz.func183 (c:=body Tryz.f183) (by kernel_rfl) (by kernel_rfl))
theorem al1:Valid Tryz.prog G0 184 Yk:=ah Gd mixed Yj ajC Tryz.func184 (c:=body Tryz.f184) (by kernel_rfl) (by
 rintro c hp hf
 have h:=ahK c hp hf
 with_reducible refine Eq.mp ?_ h
 kernel_rfl)
theorem Ge:ak Tryz.prog Yl:=ak.cons Gd al1 (aB.of Tryz.func184 (c:=body Tryz.f184) (by kernel_rfl) (by kernel_rfl))
theorem al2:Valid Tryz.prog G0 198 Yn:=ah Ge mixed Ym ajE Tryz.func198 (c:=body Tryz.f198) (by kernel_rfl) (by
 rintro c hp hf
 have h:=ahL c hp hf
 with_reducible refine Eq.mp ?_ h
 kernel_rfl)
end Go.J

end
