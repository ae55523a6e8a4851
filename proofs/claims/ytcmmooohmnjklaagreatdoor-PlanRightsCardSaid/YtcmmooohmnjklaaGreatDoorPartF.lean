/- PlanRights: for every input the given Go function returns true and leaves its arguments as they were. Conditions: none. -/
import Derived.Test.YtcmmooohmnjklaaGreatDoorPartE
import Derived.Test.YtcmmooohmnjklaaGreatDoorCards
import Derived.Test.YtcmmooohmnjklaaGreatDoorTie
import Derived.Deep.DeepHandedRow
import Derived.ProofKit
import Derived.OpenShut
set_option linter.unusedVariables false
set_option linter.unusedSimpArgs false
section
set_option linter.unusedVariables false
set_option maxHeartbeats 0
set_option maxRecDepth 100000
namespace Go.J
open Go.Proofs
open Go Vg
theorem mixed:Tryz.prog.follows .mixedOrders=true :=by kernel_rfl
theorem ē:ak Tryz.prog E0:=ak.none G0 (bw.of Nt)
theorem apm:Valid Tryz.prog G0 170 aeI:=ah ē mixed aeH aoH Tryz.func170 (c:=body Tryz.f170) (by kernel_rfl) (by
 rintro⟨⟩ hp hf
 have h:=aoq hp hf
 with_reducible refine Eq.mp ?_ h
 kernel_rfl)
theorem KK:ak Tryz.prog aeJ:=ak.cons ē apm (aB.of Tryz.func170 (c:=body Tryz.f170) (by kernel_rfl) (by kernel_rfl))
theorem apn:Valid Tryz.prog G0 171 aeL:=ah KK mixed aeK aoJ Tryz.func171 (c:=body Tryz.f171) (by kernel_rfl) (by
 rintro⟨x,n⟩ hp hf
 have h:=aor x n hp hf
 with_reducible refine Eq.mp ?_ h
 kernel_rfl)
theorem KL:ak Tryz.prog aeM:=ak.cons KK apn (aB.of Tryz.func171 (c:=body Tryz.f171) (by kernel_rfl) (by kernel_rfl))
theorem apo:Valid Tryz.prog G0 169 aeO:=ah KL mixed aeN aoL Tryz.func169 (c:=body Tryz.f169) (by kernel_rfl) (by
 rintro b hp hf
 have h:=aot b hp hf
 with_reducible refine Eq.mp ?_ h
 kernel_rfl)
theorem KM:ak Tryz.prog aeP:=ak.cons KL apo (aB.of Tryz.func169 (c:=body Tryz.f169) (by kernel_rfl) (by kernel_rfl))
theorem apq:Valid Tryz.prog G0 142 aeR:=ah KM mixed aeQ aoN Tryz.func142 (c:=body Tryz.f142) (by kernel_rfl) (by
 rintro⟨l,p⟩ hp hf
 have h:=aou l p hp hf
 with_reducible refine Eq.mp ?_ h
 kernel_rfl)
theorem KN:ak Tryz.prog aeS:=ak.cons KM apq (aB.of Tryz.func142 (c:=body Tryz.f142) (by kernel_rfl) (by kernel_rfl))
theorem apr:Valid Tryz.prog G0 141 aeU:=ah KN mixed aeT aoP Tryz.func141 (c:=body Tryz.f141) (by kernel_rfl) (by
 rintro b hp hf
 have h:=aow b hp hf
 with_reducible refine Eq.mp ?_ h
 kernel_rfl)
theorem KO:ak Tryz.prog aeV:=ak.cons KN apr (aB.of Tryz.func141 (c:=body Tryz.f141) (by kernel_rfl) (by kernel_rfl))
theorem aps:Valid Tryz.prog G0 109 aeX:=ah KO mixed aeW aoR Tryz.func109 (c:=body Tryz.f109) (by kernel_rfl) (by
 rintro b hp hf
 have h:=aox b hp hf
 with_reducible refine Eq.mp ?_ h
 kernel_rfl)
theorem KP:ak Tryz.prog aeY:=ak.cons KO aps (aB.of Tryz.func109 (c:=body Tryz.f109) (by kernel_rfl) (by kernel_rfl))
theorem apt:Valid Tryz.prog G0 191 ae0:=ah KP mixed aeZ aoT Tryz.func191 (c:=body Tryz.f191) (by kernel_rfl) (by
 rintro⟨x,k⟩ hp hf
 have h:=aoy x k hp hf
 with_reducible refine Eq.mp ?_ h
 kernel_rfl)
theorem KQ:ak Tryz.prog ae1:=ak.cons KP apt (aB.of Tryz.func191 (c:=body Tryz.f191) (by kernel_rfl) (by kernel_rfl))
theorem apu:Valid Tryz.prog G0 107 ae3:=ah KQ mixed ae2 aoV Tryz.func107 (c:=body Tryz.f107) (by kernel_rfl) (by
 rintro⟨⟩ hp hf
 have h:=aoz hp hf
 with_reducible refine Eq.mp ?_ h
 kernel_rfl)
theorem KR:ak Tryz.prog ae4:=ak.cons KQ apu (aB.of Tryz.func107 (c:=body Tryz.f107) (by kernel_rfl) (by kernel_rfl))
theorem apv:Valid Tryz.prog G0 138 ae6:=ah KR mixed ae5 aoX Tryz.func138 (c:=body Tryz.f138) (by kernel_rfl) (by
 rintro⟨s1,s2,s3,s4,s5,s6,s7,s8,s9,aI⟩ hp hf
 have h:=aoA s1 s2 s3 s4 s5 s6 s7 s8 s9 aI hp hf
 with_reducible refine Eq.mp ?_ h
 kernel_rfl)
theorem KT:ak Tryz.prog ae7:=ak.cons KR apv (aB.of Tryz.func138 (c:=body Tryz.f138) (by kernel_rfl) (by kernel_rfl))
theorem apw:Valid Tryz.prog G0 167 ae9:=ah KT mixed ae8 aoZ Tryz.func167 (c:=body Tryz.f167) (by kernel_rfl) (by
 rintro⟨u1,u2,u3,u4,u5,u6,u7,u8,p⟩ hp hf
 have h:=aoB u1 u2 u3 u4 u5 u6 u7 u8 p hp hf
 with_reducible refine Eq.mp ?_ h
 kernel_rfl)
theorem KU:ak Tryz.prog afa:=ak.cons KT apw (aB.of Tryz.func167 (c:=body Tryz.f167) (by kernel_rfl) (by kernel_rfl))
theorem alF:Valid Tryz.prog G0 139 WY:=ah KU mixed WX aiN Tryz.func139 (c:=body Tryz.f139) (by kernel_rfl) (by
 rintro⟨u1,u2,u3,u4,u5,u6,u7,u8,b⟩ hp hf
 have h:=ahk u1 u2 u3 u4 u5 u6 u7 u8 b hp hf
 with_reducible refine Eq.mp ?_ h
 kernel_rfl)
theorem FL:ak Tryz.prog WZ:=ak.cons KU alF (aB.of Tryz.func139 (c:=body Tryz.f139) (by kernel_rfl) (by kernel_rfl))
theorem alG:Valid Tryz.prog G0 106 W2:=ah FL mixed W0 aiP Tryz.func106 (c:=body Tryz.f106) (by kernel_rfl) (by
 rintro⟨s1,s2,s3,s4,s5,s6,s7,s8,s9,aI,b⟩ hp hf
 have h:=ahl s1 s2 s3 s4 s5 s6 s7 s8 s9 aI b hp hf
 with_reducible refine Eq.mp ?_ h
 kernel_rfl)
theorem FM:ak Tryz.prog W3:=ak.cons FL alG (aB.of Tryz.func106 (c:=body Tryz.f106) (by kernel_rfl) (by kernel_rfl))
theorem alH:Valid Tryz.prog G0 105 W5:=ah FM mixed W4 aiR Tryz.func105 (c:=body Tryz.f105) (by kernel_rfl) (by
 rintro⟨s1,s2,s3,s4,s5,s6,s7,s8,s9,aI⟩ hp hf
 have h:=ahm s1 s2 s3 s4 s5 s6 s7 s8 s9 aI hp hf
 with_reducible refine Eq.mp ?_ h
 kernel_rfl)
theorem FN:ak Tryz.prog W6:=ak.cons FM alH (aB.of Tryz.func105 (c:=body Tryz.f105) (by kernel_rfl) (by kernel_rfl))
theorem alI:Valid Tryz.prog G0 67 W8:=ah FN mixed W7 aiT Tryz.func67 (c:=body Tryz.f67) (by kernel_rfl) (by
 rintro b hp hf
 have h:=ahn b hp hf
 with_reducible refine Eq.mp ?_ h
 kernel_rfl)
theorem FO:ak Tryz.prog MB:=ak.cons FN alI (aB.of Tryz.func67 (c:=body Tryz.f67) (by kernel_rfl) (by kernel_rfl))
theorem alJ:Valid Tryz.prog G0 177 Xb:=BX It Xa fun m ih=>ah (E:=aiV m) (ak.cons FO ih (aB.of Tryz.func177 (c:=body Tryz.f177) (by kernel_rfl) (by kernel_rfl))) mixed It aiU Tryz.func177 (c:=body Tryz.f177) (by kernel_rfl) (by
 rintro v hp hf
 have h:=aho m v hp.1 hp.2 hf
 with_reducible refine Eq.mp ?_ h
 kernel_rfl)
theorem FP:ak Tryz.prog Xc:=ak.cons FO alJ (aB.of Tryz.func177 (c:=body Tryz.f177) (by kernel_rfl) (by kernel_rfl))
theorem alK:Valid Tryz.prog G0 158 Xe:=ah FP mixed Xd aiX Tryz.func158 (c:=body Tryz.f158) (by kernel_rfl) (by
 rintro s hp hf
 have h:=ahp s hp hf
 with_reducible refine Eq.mp ?_ h
 kernel_rfl)
theorem FQ:ak Tryz.prog Xf:=ak.cons FP alK (aB.of Tryz.func158 (c:=body Tryz.f158) (by kernel_rfl) (by kernel_rfl))
theorem alL:Valid Tryz.prog G0 113 Xh:=ah FQ mixed Xg aiZ Tryz.func113 (c:=body Tryz.f113) (by kernel_rfl) (by
 rintro b hp hf
 have h:=ahq b hp hf
 with_reducible refine Eq.mp ?_ h
 kernel_rfl)
theorem FR:ak Tryz.prog Xi:=ak.cons FQ alL (aB.of Tryz.func113 (c:=body Tryz.f113) (by kernel_rfl) (by kernel_rfl))
theorem alM:ca Tryz.prog G0 112 Xl:=dF FR mixed Xj Xk ai1 Tryz.func112 (c:=body Tryz.f112) (by kernel_rfl) (by
 rintro v ⟨l,⟨⟩⟩ hp hf hg
 have h:=ahr v l hp hf hg
 with_reducible refine Eq.mp ?_ h
 kernel_rfl)
theorem ac0:ca Tryz.prog G0 112 Xm:=alM
theorem FT:ak Tryz.prog Xn:=ak.eP FR ac0 (aB.of Tryz.func112 (c:=body Tryz.f112) (by kernel_rfl) (by kernel_rfl))
theorem alN:ca Tryz.prog G0 194 Xq:=dF FT mixed Xo Xp ai3 Tryz.func194 (c:=body Tryz.f194) (by kernel_rfl) (by
 rintro s ⟨l,⟨⟩⟩ hp hf hg
 have h:=ahs s l hp hf hg
 with_reducible refine Eq.mp ?_ h
 kernel_rfl)
theorem ac1:ca Tryz.prog G0 194 Xr:=alN
theorem FU:ak Tryz.prog Xs:=ak.eP FT ac1 (aB.of Tryz.func194 (c:=body Tryz.f194) (by kernel_rfl) (by kernel_rfl))
theorem alO:Valid Tryz.prog G0 71 Xu:=ah FU mixed Xt ai5 Tryz.func71 (c:=body Tryz.f71) (by kernel_rfl) (by
 rintro⟨b,v⟩ hp hf
 have h:=aht b v hp hf
 with_reducible refine Eq.mp ?_ h
 kernel_rfl)
theorem FV:ak Tryz.prog Xv:=ak.cons FU alO (aB.of Tryz.func71 (c:=body Tryz.f71) (by kernel_rfl) (by kernel_rfl))
theorem alP:Valid Tryz.prog G0 176 Xx:=ah FV mixed Xw ai7 Tryz.func176 (c:=body Tryz.f176) (by kernel_rfl) (by
 rintro⟨b,s⟩ hp hf
 have h:=ahu b s hp hf
 with_reducible refine Eq.mp ?_ h
 kernel_rfl)
theorem FW:ak Tryz.prog Xy:=ak.cons FV alP (aB.of Tryz.func176 (c:=body Tryz.f176) (by kernel_rfl) (by kernel_rfl))
theorem alQ:Valid Tryz.prog G0 152 XA:=ah FW mixed Xz ai9 Tryz.func152 (c:=body Tryz.f152) (by kernel_rfl) (by
 rintro⟨kind,b⟩ hp hf
 have h:=ahv kind b hp hf
 with_reducible refine Eq.mp ?_ h
 kernel_rfl)
theorem FX:ak Tryz.prog XB:=ak.cons FW alQ (aB.of Tryz.func152 (c:=body Tryz.f152) (by kernel_rfl) (by kernel_rfl))
theorem alR:Valid Tryz.prog G0 124 XD:=ah FX mixed XC ajb Tryz.func124 (c:=body Tryz.f124) (by kernel_rfl) (by
 rintro⟨kind,b⟩ hp hf
 have h:=ahw kind b hp hf
 with_reducible refine Eq.mp ?_ h
 kernel_rfl)
theorem FY:ak Tryz.prog XE:=ak.cons FX alR (aB.of Tryz.func124 (c:=body Tryz.f124) (by kernel_rfl) (by kernel_rfl))
theorem alS:Valid Tryz.prog G0 87 XG:=ah FY mixed XF ajd Tryz.func87 (c:=body Tryz.f87) (by kernel_rfl) (by
 rintro b hp hf
 have h:=ahx b hp hf
 with_reducible refine Eq.mp ?_ h
 kernel_rfl)
theorem FZ:ak Tryz.prog XH:=ak.cons FY alS (aB.of Tryz.func87 (c:=body Tryz.f87) (by kernel_rfl) (by kernel_rfl))
theorem alT:Valid Tryz.prog G0 111 XJ:=ah FZ mixed XI ajf Tryz.func111 (c:=body Tryz.f111) (by kernel_rfl) (by
 rintro⟨l,r⟩ hp hf
 have h:=ahy l r hp hf
 with_reducible refine Eq.mp ?_ h
 kernel_rfl)
theorem F0:ak Tryz.prog XK:=ak.cons FZ alT (aB.of Tryz.func111 (c:=body Tryz.f111) (by kernel_rfl) (by kernel_rfl))
theorem alU:Valid Tryz.prog G0 168 XM:=ah F0 mixed XL ajh Tryz.func168 (c:=body Tryz.f168) (by kernel_rfl) (by
 rintro⟨kind,parts⟩ hp hf
 have h:=ahz kind parts hp hf
 with_reducible refine Eq.mp ?_ h
 kernel_rfl)
theorem F1:ak Tryz.prog XN:=ak.cons F0 alU (aB.of Tryz.func168 (c:=body Tryz.f168) (by kernel_rfl) (by kernel_rfl))
theorem alV:Valid Tryz.prog G0 140 XP:=ah F1 mixed XO ajj Tryz.func140 (c:=body Tryz.f140) (by kernel_rfl) (by
 rintro b hp hf
 have h:=ahA b hp hf
 with_reducible refine Eq.mp ?_ h
 kernel_rfl)
theorem F2:ak Tryz.prog XQ:=ak.cons F1 alV (aB.of Tryz.func140 (c:=body Tryz.f140) (by kernel_rfl) (by kernel_rfl))
theorem alW:Valid Tryz.prog G0 192 XS:=ah F2 mixed XR ajl Tryz.func192 (c:=body Tryz.f192) (by kernel_rfl) (by
 rintro⟨l,r⟩ hp hf
 have h:=ahB l r hp hf
 with_reducible refine Eq.mp ?_ h
 kernel_rfl)
theorem F3:ak Tryz.prog XT:=ak.cons F2 alW (aB.of Tryz.func192 (c:=body Tryz.f192) (by kernel_rfl) (by kernel_rfl))
theorem alX:Valid Tryz.prog G0 193 XV:=ah F3 mixed XU ajn Tryz.func193 (c:=body Tryz.f193) (by kernel_rfl) (by
 rintro b hp hf
 have h:=ahC b hp hf
 with_reducible refine Eq.mp ?_ h
 kernel_rfl)
theorem F4:ak Tryz.prog XW:=ak.cons F3 alX (aB.of Tryz.func193 (c:=body Tryz.f193) (by kernel_rfl) (by kernel_rfl))
theorem alY:Valid Tryz.prog G0 108 XY:=ah F4 mixed XX ajp Tryz.func108 (c:=body Tryz.f108) (by kernel_rfl) (by
 rintro b hp hf
 have h:=ahD b hp hf
 with_reducible refine Eq.mp ?_ h
 kernel_rfl)
theorem F5:ak Tryz.prog XZ:=ak.cons F4 alY (aB.of Tryz.func108 (c:=body Tryz.f108) (by kernel_rfl) (by kernel_rfl))
theorem alZ:Valid Tryz.prog G0 173 X1:=ah F5 mixed X0 ajr Tryz.func173 (c:=body Tryz.f173) (by kernel_rfl) (by
 rintro⟨l,r⟩ hp hf
 have h:=ahE l r hp hf
 with_reducible refine Eq.mp ?_ h
 kernel_rfl)
theorem F6:ak Tryz.prog X2:=ak.cons F5 alZ (aB.of Tryz.func173 (c:=body Tryz.f173) (by kernel_rfl) (by kernel_rfl))
theorem al0:Valid Tryz.prog G0 175 X4:=ah F6 mixed X3 ajt Tryz.func175 (c:=body Tryz.f175) (by kernel_rfl) (by
 rintro b hp hf
 have h:=ahF b hp hf
 with_reducible refine Eq.mp ?_ h
 kernel_rfl)
theorem F7:ak Tryz.prog X5:=ak.cons F6 al0 (aB.of Tryz.func175 (c:=body Tryz.f175) (by kernel_rfl) (by kernel_rfl))
theorem al1:Valid Tryz.prog G0 218 X7:=ah F7 mixed X6 ajv Tryz.func218 (c:=body Tryz.f218) (by kernel_rfl) (by
 rintro c hp hf
 have h:=ahG c hp hf
 with_reducible refine Eq.mp ?_ h
 kernel_rfl)
theorem F8:ak Tryz.prog X8:=ak.cons F7 al1 (aB.of Tryz.func218 (c:=body Tryz.f218) (by kernel_rfl) (by kernel_rfl))
theorem al2:Valid Tryz.prog G0 219 Ya:=ah F8 mixed X9 ajx Tryz.func219 (c:=body Tryz.f219) (by kernel_rfl) (by
 rintro c hp hf
 have h:=ahH c hp hf
 with_reducible refine Eq.mp ?_ h
 kernel_rfl)
theorem F9:ak Tryz.prog Yb:=ak.cons F8 al2 (aB.of Tryz.func219 (c:=body Tryz.f219) (by kernel_rfl) (by kernel_rfl))
theorem al3:Valid Tryz.prog G0 220 Yd:=ah F9 mixed Yc ajz Tryz.func220 (c:=body Tryz.f220) (by kernel_rfl) (by
 rintro c hp hf
 have h:=ahI c hp hf
 with_reducible refine Eq.mp ?_ h
 kernel_rfl)
theorem Ga:ak Tryz.prog Ye:=ak.cons F9 al3 (aB.of Tryz.func220 (c:=body Tryz.f220) (by kernel_rfl) (by kernel_rfl))
theorem al4:Valid Tryz.prog G0 197 Yg:=ah Ga mixed Yf ajB Tryz.func197 (c:=body Tryz.f197) (by kernel_rfl) (by
 rintro c hp hf
 have h:=ahJ c hp hf
 with_reducible refine Eq.mp ?_ h
 kernel_rfl)
theorem Gb:ak Tryz.prog Yh:=ak.cons Ga al4 (aB.of Tryz.func197 (c:=body Tryz.f197) (by kernel_rfl) (by kernel_rfl))
theorem al5:Valid Tryz.prog G0 196 Yj:=ah Gb mixed Yi ajD Tryz.func196 (c:=body Tryz.f196) (by kernel_rfl) (by
 rintro b hp hf
 have h:=ahK b hp hf
 with_reducible refine Eq.mp ?_ h
 kernel_rfl)
theorem Gc:ak Tryz.prog Yk:=ak.cons Gb al5 (aB.of Tryz.func196 (c:=body Tryz.f196) (by kernel_rfl) (by kernel_rfl))
theorem al6:Valid Tryz.prog G0 182 Ym:=ah Gc mixed Yl ajF Tryz.func182 (c:=body Tryz.f182) (by kernel_rfl) (by
 rintro b hp hf
 have h:=ahP b hp hf
 with_reducible refine Eq.mp ?_ h
 kernel_rfl)
theorem Gd:ak Tryz.prog Yn:=ak.cons Gc al6 (aB.of Tryz.func182 (c:=body Tryz.f182) (by kernel_rfl) (by kernel_rfl))
theorem al7:Valid Tryz.prog G0 183 Yp:=ah Gd mixed Yo ajH Tryz.func183 (c:=body Tryz.f183) (by kernel_rfl) (by
 rintro c hp hf
 have h:=ahQ c hp hf
 with_reducible refine Eq.mp ?_ h
 kernel_rfl)
theorem Ge:ak Tryz.prog Yq:=ak.cons Gd al7 (aB.of Tryz.func183 (c:=body Tryz.f183) (by kernel_rfl) (by kernel_rfl))
theorem al8:Valid Tryz.prog G0 184 Ys:=ah Ge mixed Yr ajJ Tryz.func184 (c:=body Tryz.f184) (by kernel_rfl) (by
 rintro c hp hf
 have h:=ahR c hp hf
 with_reducible refine Eq.mp ?_ h
 kernel_rfl)
theorem Gf:ak Tryz.prog Yt:=ak.cons Ge al8 (aB.of Tryz.func184 (c:=body Tryz.f184) (by kernel_rfl) (by kernel_rfl))
theorem al9:Valid Tryz.prog G0 198 Yv:=ah Gf mixed Yu ajL Tryz.func198 (c:=body Tryz.f198) (by kernel_rfl) (by
 rintro c hp hf
 have h:=ahS c hp hf
 with_reducible refine Eq.mp ?_ h
 kernel_rfl)
theorem Gg:ak Tryz.prog Yw:=ak.cons Gf al9 (aB.of Tryz.func198 (c:=body Tryz.f198) (by kernel_rfl) (by kernel_rfl))
theorem ama:Valid Tryz.prog G0 172 Yy:=ah Gg mixed Yx ajN Tryz.func172 (c:=body Tryz.f172) (by kernel_rfl) (by
 rintro⟨c,a,b⟩ hp hf
 have h:=ahT c a b hp hf
 with_reducible refine Eq.mp ?_ h
 kernel_rfl)
theorem Gh:ak Tryz.prog Yz:=ak.cons Gg ama (aB.of Tryz.func172 (c:=body Tryz.f172) (by kernel_rfl) (by kernel_rfl))
theorem amb:Valid Tryz.prog G0 146 YB:=ah Gh mixed YA ajP Tryz.func146 (c:=body Tryz.f146) (by kernel_rfl) (by
 rintro c hp hf
 have h:=ahU c hp hf
 with_reducible refine Eq.mp ?_ h
 kernel_rfl)
theorem Gi:ak Tryz.prog YC:=ak.cons Gh amb (aB.of Tryz.func146 (c:=body Tryz.f146) (by kernel_rfl) (by kernel_rfl))
theorem amc:Valid Tryz.prog G0 147 YE:=ah Gi mixed YD ajR Tryz.func147 (c:=body Tryz.f147) (by kernel_rfl) (by
 rintro c hp hf
 have h:=ahV c hp hf
 with_reducible refine Eq.mp ?_ h
 kernel_rfl)
theorem Gj:ak Tryz.prog YF:=ak.cons Gi amc (aB.of Tryz.func147 (c:=body Tryz.f147) (by kernel_rfl) (by kernel_rfl))
theorem amd:Valid Tryz.prog G0 148 YH:=ah Gj mixed YG ajT Tryz.func148 (c:=body Tryz.f148) (by kernel_rfl) (by
 rintro⟨a,b⟩ hp hf
 have h:=ahW a b hp hf
 with_reducible refine Eq.mp ?_ h
 kernel_rfl)
theorem Gk:ak Tryz.prog YI:=ak.cons Gj amd (aB.of Tryz.func148 (c:=body Tryz.f148) (by kernel_rfl) (by kernel_rfl))
theorem ame:Valid Tryz.prog G0 149 YK:=ah Gk mixed YJ ajV Tryz.func149 (c:=body Tryz.f149) (by kernel_rfl) (by
 rintro c hp hf
 have h:=ahX c hp hf
 with_reducible refine Eq.mp ?_ h
 kernel_rfl)
theorem Gl:ak Tryz.prog YL:=ak.cons Gk ame (aB.of Tryz.func149 (c:=body Tryz.f149) (by kernel_rfl) (by kernel_rfl))
theorem amf:Valid Tryz.prog G0 150 YN:=ah Gl mixed YM ajX Tryz.func150 (c:=body Tryz.f150) (by kernel_rfl) (by
 rintro c hp hf
 have h:=ahY c hp hf
 with_reducible refine Eq.mp ?_ h
 kernel_rfl)
theorem Gm:ak Tryz.prog YO:=ak.cons Gl amf (aB.of Tryz.func150 (c:=body Tryz.f150) (by kernel_rfl) (by kernel_rfl))
theorem amg:Valid Tryz.prog G0 145 YQ:=ah Gm mixed YP ajZ Tryz.func145 (c:=body Tryz.f145) (by kernel_rfl) (by
 rintro⟨b,n⟩ hp hf
 have h:=ahZ b n hp hf
 with_reducible refine Eq.mp ?_ h
 kernel_rfl)
theorem Gn:ak Tryz.prog YR:=ak.cons Gm amg (aB.of Tryz.func145 (c:=body Tryz.f145) (by kernel_rfl) (by kernel_rfl))
theorem amh:Valid Tryz.prog G0 119 YT:=ah Gn mixed YS aj1 Tryz.func119 (c:=body Tryz.f119) (by kernel_rfl) (by
 rintro b hp hf
 have h:=ah0 b hp hf
 with_reducible refine Eq.mp ?_ h
 kernel_rfl)
theorem Gp:ak Tryz.prog YU:=ak.cons Gn amh (aB.of Tryz.func119 (c:=body Tryz.f119) (by kernel_rfl) (by kernel_rfl))
theorem ami:Valid Tryz.prog G0 185 YW:=ah Gp mixed YV aj3 Tryz.func185 (c:=body Tryz.f185) (by kernel_rfl) (by
 rintro u hp hf
 have h:=ah1 u hp hf
 with_reducible refine Eq.mp ?_ h
 kernel_rfl)
theorem Gq:ak Tryz.prog YX:=ak.cons Gp ami (aB.of Tryz.func185 (c:=body Tryz.f185) (by kernel_rfl) (by kernel_rfl))
theorem amj:Valid Tryz.prog G0 160 YZ:=ah Gq mixed YY aj5 Tryz.func160 (c:=body Tryz.f160) (by kernel_rfl) (by
 rintro b hp hf
 have h:=ah2 b hp hf
 with_reducible refine Eq.mp ?_ h
 kernel_rfl)
theorem Gr:ak Tryz.prog Y0:=ak.cons Gq amj (aB.of Tryz.func160 (c:=body Tryz.f160) (by kernel_rfl) (by kernel_rfl))
theorem amk:Valid Tryz.prog G0 144 Y2:=ah Gr mixed Y1 aj7 Tryz.func144 (c:=body Tryz.f144) (by kernel_rfl) (by
 rintro s hp hf
 have h:=ah3 s hp hf
 with_reducible refine Eq.mp ?_ h
 kernel_rfl)
theorem Gs:ak Tryz.prog Y3:=ak.cons Gr amk (aB.of Tryz.func144 (c:=body Tryz.f144) (by kernel_rfl) (by kernel_rfl))
theorem aml:Valid Tryz.prog G0 120 Y5:=ah Gs mixed Y4 aj9 Tryz.func120 (c:=body Tryz.f120) (by kernel_rfl) (by
 rintro c hp hf
 have h:=ah4 c hp hf
 with_reducible refine Eq.mp ?_ h
 kernel_rfl)
theorem Gt:ak Tryz.prog Y6:=ak.cons Gs aml (aB.of Tryz.func120 (c:=body Tryz.f120) (by kernel_rfl) (by kernel_rfl))
theorem amm:Valid Tryz.prog G0 121 Y8:=ah Gt mixed Y7 akb Tryz.func121 (c:=body Tryz.f121) (by kernel_rfl) (by
 rintro u hp hf
 have h:=ah5 u hp hf
 with_reducible refine Eq.mp ?_ h
 kernel_rfl)
theorem Gu:ak Tryz.prog Y9:=ak.cons Gt amm (aB.of Tryz.func121 (c:=body Tryz.f121) (by kernel_rfl) (by kernel_rfl))
theorem amn:Valid Tryz.prog G0 82 Zb:=ah Gu mixed Za akd Tryz.func82 (c:=body Tryz.f82) (by kernel_rfl) (by
 rintro b hp hf
 have h:=ah6 b hp hf
 with_reducible refine Eq.mp ?_ h
 kernel_rfl)
theorem Gv:ak Tryz.prog Zc:=ak.cons Gu amn (aB.of Tryz.func82 (c:=body Tryz.f82) (by kernel_rfl) (by kernel_rfl))
theorem amo:Valid Tryz.prog G0 165 Ze:=ah Gv mixed Zd akf Tryz.func165 (c:=body Tryz.f165) (by kernel_rfl) (by
 rintro l hp hf
 have h:=ah7 l hp hf
 with_reducible refine Eq.mp ?_ h
 kernel_rfl)
theorem Gw:ak Tryz.prog Zf:=ak.cons Gv amo (aB.of Tryz.func165 (c:=body Tryz.f165) (by kernel_rfl) (by kernel_rfl))
theorem amp:ca Tryz.prog G0 135 Zi:=dF Gw mixed Zg Zh akh Tryz.func135 (c:=body Tryz.f135) (by kernel_rfl) (by
 rintro⟨⟩ ⟨l,⟨⟩⟩ hp hf hg
 have h:=ah8 l hp hf hg
 with_reducible refine Eq.mp ?_ h
 kernel_rfl)
theorem ac2:ca Tryz.prog G0 135 Zj:=amp
theorem Gx:ak Tryz.prog Zk:=ak.eP Gw ac2 (aB.of Tryz.func135 (c:=body Tryz.f135) (by kernel_rfl) (by kernel_rfl))
theorem amq:Valid Tryz.prog G0 134 Zm:=ah Gx mixed Zl akj Tryz.func134 (c:=body Tryz.f134) (by kernel_rfl) (by
 rintro b hp hf
 have h:=ah9 b hp hf
 with_reducible refine Eq.mp ?_ h
 kernel_rfl)
theorem Gy:ak Tryz.prog Zn:=ak.cons Gx amq (aB.of Tryz.func134 (c:=body Tryz.f134) (by kernel_rfl) (by kernel_rfl))
theorem amr:Valid Tryz.prog G0 41 Zp:=ah Gy mixed Zo akl Tryz.func41 (c:=body Tryz.f41) (by kernel_rfl) (by
 rintro⟨b,t⟩ hp hf
 have h:=aia b t hp hf
 with_reducible refine Eq.mp ?_ h
 kernel_rfl)
theorem Gz:ak Tryz.prog Zq:=ak.cons Gy amr (aB.of Tryz.func41 (c:=body Tryz.f41) (by kernel_rfl) (by kernel_rfl))
theorem ams:Valid Tryz.prog G0 186 Zs:=ah Gz mixed Zr akn Tryz.func186 (c:=body Tryz.f186) (by kernel_rfl) (by
 rintro s hp hf
 have h:=aib s hp hf
 with_reducible refine Eq.mp ?_ h
 kernel_rfl)
theorem GA:ak Tryz.prog Zt:=ak.cons Gz ams (aB.of Tryz.func186 (c:=body Tryz.f186) (by kernel_rfl) (by kernel_rfl))
theorem amt:Valid Tryz.prog G0 161 Zv:=ah GA mixed Zu akp Tryz.func161 (c:=body Tryz.f161) (by kernel_rfl) (by
 rintro⟨a,b⟩ hp hf
 have h:=aic a b hp hf
 with_reducible refine Eq.mp ?_ h
 kernel_rfl)
theorem GB:ak Tryz.prog Zw:=ak.cons GA amt (aB.of Tryz.func161 (c:=body Tryz.f161) (by kernel_rfl) (by kernel_rfl))
theorem amu:ca Tryz.prog G0 181 Zz:=dF GB mixed Zx Zy akr Tryz.func181 (c:=body Tryz.f181) (by kernel_rfl) (by
 rintro⟨a,b⟩ ⟨⟨⟩,⟨⟩⟩ hp hf hg
 have h:=aid a b hp hf hg
 with_reducible refine Eq.mp ?_ h
 kernel_rfl)
theorem ac3:ca Tryz.prog G0 181 ZA:=amu
theorem GC:ak Tryz.prog ZB:=ak.eP GB ac3 (aB.of Tryz.func181 (c:=body Tryz.f181) (by kernel_rfl) (by kernel_rfl))
theorem amv:ca Tryz.prog G0 180 ZE:=dF GC mixed ZC ZD akt Tryz.func180 (c:=body Tryz.f180) (by kernel_rfl) (by
 rintro⟨⟩ ⟨l,⟨⟨⟩,⟨⟩⟩⟩ hp hf hg
 have h:=aie l hp hf hg
 with_reducible refine Eq.mp ?_ h
 kernel_rfl)
theorem ac4:ca Tryz.prog G0 180 ZF:=amv
theorem Sy:ak Tryz.prog ZG:=ak.eP GC ac4 (aB.of Tryz.func180 (c:=body Tryz.f180) (by kernel_rfl) (by kernel_rfl))
theorem amw:Valid Tryz.prog G0 178 ZH:=Vg.zb Tryz.MD (fun _=>rfl)
theorem Sz:ak Tryz.prog ZI:=ak.cons Sy amw (aB.of Tryz.func178 (c:=body Tryz.f178) (by kernel_rfl) (by kernel_rfl))
theorem amx:Valid Tryz.prog G0 81 ZJ:=Vg.zc Tryz.ME (fun _=>rfl)
theorem SA:ak Tryz.prog ZK:=ak.cons Sz amx (aB.of Tryz.func81 (c:=body Tryz.f81) (by kernel_rfl) (by kernel_rfl))
theorem amy:ca Tryz.prog G0 179 ZL:=Tryz.acU (fun _=>rfl)
theorem ac5:ca Tryz.prog G0 179 ZM:=amy
theorem GF:ak Tryz.prog ZN:=ak.eP SA ac5 (aB.of Tryz.func179 (c:=body Tryz.f179) (by kernel_rfl) (by kernel_rfl))
theorem amz:ca Tryz.prog G0 159 ZQ:=dF GF mixed ZO ZP akC Tryz.func159 (c:=body Tryz.f159) (by kernel_rfl) (by
 rintro l ⟨⟩ hp hf hg
 have h:=aif l hp hf hg
 with_reducible refine Eq.mp ?_ h
 kernel_rfl)
theorem ac6:ca Tryz.prog G0 159 ZR:=amz
theorem GG:ak Tryz.prog ZS:=ak.eP GF ac6 (aB.of Tryz.func159 (c:=body Tryz.f159) (by kernel_rfl) (by kernel_rfl))
theorem Ĕ:Valid Tryz.prog G0 131 ZU:=ah GG mixed ZT akE Tryz.func131 (c:=body Tryz.f131) (by kernel_rfl) (by
 rintro b hp hf
 have h:=aih b hp hf
 with_reducible refine Eq.mp ?_ h
 kernel_rfl)
theorem GH:ak Tryz.prog ZV:=ak.cons GG Ĕ (aB.of Tryz.func131 (c:=body Tryz.f131) (by kernel_rfl) (by kernel_rfl))
theorem amA:Valid Tryz.prog G0 85 ZX:=ah GH mixed ZW akG Tryz.func85 (c:=body Tryz.f85) (by kernel_rfl) (by
 rintro l hp hf
 have h:=aii l hp hf
 with_reducible refine Eq.mp ?_ h
 kernel_rfl)
theorem GI:ak Tryz.prog ZY:=ak.cons GH amA (aB.of Tryz.func85 (c:=body Tryz.f85) (by kernel_rfl) (by kernel_rfl))
theorem amB:Valid Tryz.prog G0 151 Z0:=ah GI mixed ZZ akI Tryz.func151 (c:=body Tryz.f151) (by kernel_rfl) (by
 rintro⟨a,b⟩ hp hf
 have h:=aij a b hp hf
 with_reducible refine Eq.mp ?_ h
 kernel_rfl)
theorem GJ:ak Tryz.prog Z1:=ak.cons GI amB (aB.of Tryz.func151 (c:=body Tryz.f151) (by kernel_rfl) (by kernel_rfl))
theorem amC:ca Tryz.prog G0 123 Z4:=dF GJ mixed Z2 Z3 akK Tryz.func123 (c:=body Tryz.f123) (by kernel_rfl) (by
 rintro⟨⟩ ⟨s,⟨⟩⟩ hp hf hg
 have h:=aik s hp hf hg
 with_reducible refine Eq.mp ?_ h
 kernel_rfl)
theorem ac7:ca Tryz.prog G0 123 Z5:=amC
theorem GK:ak Tryz.prog Z6:=ak.eP GJ ac7 (aB.of Tryz.func123 (c:=body Tryz.f123) (by kernel_rfl) (by kernel_rfl))
theorem amD:Valid Tryz.prog G0 68 Z8:=ah GK mixed Z7 akM Tryz.func68 (c:=body Tryz.f68) (by kernel_rfl) (by
 rintro l hp hf
 have h:=ail l hp hf
 with_reducible refine Eq.mp ?_ h
 kernel_rfl)
theorem GL:ak Tryz.prog Z9:=ak.cons GK amD (aB.of Tryz.func68 (c:=body Tryz.f68) (by kernel_rfl) (by kernel_rfl))
theorem amE:Valid Tryz.prog G0 86 Á:=ah GL mixed À akO Tryz.func86 (c:=body Tryz.f86) (by kernel_rfl) (by
 rintro l hp hf
 have h:=aim l hp hf
 with_reducible refine Eq.mp ?_ h
 kernel_rfl)
theorem GM:ak Tryz.prog Â:=ak.cons GL amE (aB.of Tryz.func86 (c:=body Tryz.f86) (by kernel_rfl) (by kernel_rfl))
theorem amF:Valid Tryz.prog G0 45 Ä:=ah GM mixed Ã akQ Tryz.func45 (c:=body Tryz.f45) (by kernel_rfl) (by
 rintro l hp hf
 have h:=ain l hp hf
 with_reducible refine Eq.mp ?_ h
 kernel_rfl)
theorem GN:ak Tryz.prog Å:=ak.cons GM amF (aB.of Tryz.func45 (c:=body Tryz.f45) (by kernel_rfl) (by kernel_rfl))
theorem amG:Valid Tryz.prog G0 110 Ç:=ah GN mixed Æ akS Tryz.func110 (c:=body Tryz.f110) (by kernel_rfl) (by
 rintro n hp hf
 have h:=aio n hp hf
 with_reducible refine Eq.mp ?_ h
 kernel_rfl)
theorem GO:ak Tryz.prog MC:=ak.cons GN amG (aB.of Tryz.func110 (c:=body Tryz.f110) (by kernel_rfl) (by kernel_rfl))
theorem amH:Valid Tryz.prog G0 69 Ê:=BX Iu É fun m ih=>ah (E:=akU m) (ak.cons GO ih (aB.of Tryz.func69 (c:=body Tryz.f69) (by kernel_rfl) (by kernel_rfl))) mixed Iu akT Tryz.func69 (c:=body Tryz.f69) (by kernel_rfl) (by
 rintro l hp hf
 have h:=aip m l hp.1 hp.2 hf
 with_reducible refine Eq.mp ?_ h
 kernel_rfl)
theorem GP:ak Tryz.prog Ë:=ak.cons GO amH (aB.of Tryz.func69 (c:=body Tryz.f69) (by kernel_rfl) (by kernel_rfl))
theorem amI:Valid Tryz.prog G0 46 Í:=ah GP mixed Ì akW Tryz.func46 (c:=body Tryz.f46) (by kernel_rfl) (by
 rintro l hp hf
 have h:=aiq l hp hf
 with_reducible refine Eq.mp ?_ h
 kernel_rfl)
theorem GQ:ak Tryz.prog Î:=ak.cons GP amI (aB.of Tryz.func46 (c:=body Tryz.f46) (by kernel_rfl) (by kernel_rfl))
theorem amJ:Valid Tryz.prog G0 143 Ð:=ah GQ mixed Ï akY Tryz.func143 (c:=body Tryz.f143) (by kernel_rfl) (by
 rintro l hp hf
 have h:=air l hp hf
 with_reducible refine Eq.mp ?_ h
 kernel_rfl)
theorem GR:ak Tryz.prog Ñ:=ak.cons GQ amJ (aB.of Tryz.func143 (c:=body Tryz.f143) (by kernel_rfl) (by kernel_rfl))
theorem amK:Valid Tryz.prog G0 174 Ó:=ah GR mixed Ò ak0 Tryz.func174 (c:=body Tryz.f174) (by kernel_rfl) (by
 rintro l hp hf
 have h:=ais l hp hf
 with_reducible refine Eq.mp ?_ h
 kernel_rfl)
theorem GS:ak Tryz.prog Ô:=ak.cons GR amK (aB.of Tryz.func174 (c:=body Tryz.f174) (by kernel_rfl) (by kernel_rfl))
theorem amL:Valid Tryz.prog G0 155 Ö:=ah GS mixed Õ ak2 Tryz.func155 (c:=body Tryz.f155) (by kernel_rfl) (by
 rintro l hp hf
 have h:=ait l hp hf
 with_reducible refine Eq.mp ?_ h
 kernel_rfl)
theorem GU:ak Tryz.prog Ø:=ak.cons GS amL (aB.of Tryz.func155 (c:=body Tryz.f155) (by kernel_rfl) (by kernel_rfl))
theorem amM:ca Tryz.prog G0 154 Û:=dF GU mixed Ù Ú ak4 Tryz.func154 (c:=body Tryz.f154) (by kernel_rfl) (by
 rintro⟨n,p,q⟩ ⟨⟨s1,s2⟩,⟨⟩⟩ hp hf hg
 have h:=aiu n p q s1 s2 hp hf hg
 with_reducible refine Eq.mp ?_ h
 kernel_rfl)
theorem ac8:ca Tryz.prog G0 154 Ü:=amM
theorem GV:ak Tryz.prog Ý:=ak.eP GU ac8 (aB.of Tryz.func154 (c:=body Tryz.f154) (by kernel_rfl) (by kernel_rfl))
theorem amN:ca Tryz.prog G0 153 à:=dF GV mixed Þ ß ak6 Tryz.func153 (c:=body Tryz.f153) (by kernel_rfl) (by
 rintro⟨a,b⟩ ⟨⟨s1,s2⟩,⟨⟩⟩ hp hf hg
 have h:=aiv a b s1 s2 hp hf hg
 with_reducible refine Eq.mp ?_ h
 kernel_rfl)
theorem ac9:ca Tryz.prog G0 153 á:=amN
theorem GW:ak Tryz.prog â:=ak.eP GV ac9 (aB.of Tryz.func153 (c:=body Tryz.f153) (by kernel_rfl) (by kernel_rfl))
theorem amO:Valid Tryz.prog G0 127 ä:=ah GW mixed ã ak8 Tryz.func127 (c:=body Tryz.f127) (by kernel_rfl) (by
 rintro⟨l,s1,s2⟩ hp hf
 have h:=aiw l s1 s2 hp hf
 with_reducible refine Eq.mp ?_ h
 kernel_rfl)
theorem GX:ak Tryz.prog å:=ak.cons GW amO (aB.of Tryz.func127 (c:=body Tryz.f127) (by kernel_rfl) (by kernel_rfl))
theorem amP:Valid Tryz.prog G0 157 ç:=ah GX mixed æ ala Tryz.func157 (c:=body Tryz.f157) (by kernel_rfl) (by
 rintro l hp hf
 have h:=aix l hp hf
 with_reducible refine Eq.mp ?_ h
 kernel_rfl)
theorem GY:ak Tryz.prog è:=ak.cons GX amP (aB.of Tryz.func157 (c:=body Tryz.f157) (by kernel_rfl) (by kernel_rfl))
theorem amQ:Valid Tryz.prog G0 129 ê:=ah GY mixed é alc Tryz.func129 (c:=body Tryz.f129) (by kernel_rfl) (by
 rintro l hp hf
 have h:=aiy l hp hf
 with_reducible refine Eq.mp ?_ h
 kernel_rfl)
theorem GZ:ak Tryz.prog ë:=ak.cons GY amQ (aB.of Tryz.func129 (c:=body Tryz.f129) (by kernel_rfl) (by kernel_rfl))
theorem amR:Valid Tryz.prog G0 42 í:=ah GZ mixed ì ale Tryz.func42 (c:=body Tryz.f42) (by kernel_rfl) (by
 rintro⟨a,b⟩ hp hf
 have h:=aiz a b hp hf
 with_reducible refine Eq.mp ?_ h
 kernel_rfl)
theorem G1:ak Tryz.prog î:=ak.cons GZ amR (aB.of Tryz.func42 (c:=body Tryz.f42) (by kernel_rfl) (by kernel_rfl))
theorem amS:Valid Tryz.prog G0 118 ð:=ah G1 mixed ï alg Tryz.func118 (c:=body Tryz.f118) (by kernel_rfl) (by
 rintro d hp hf
 have h:=aiA d hp hf
 with_reducible refine Eq.mp ?_ h
 kernel_rfl)
theorem G2:ak Tryz.prog ñ:=ak.cons G1 amS (aB.of Tryz.func118 (c:=body Tryz.f118) (by kernel_rfl) (by kernel_rfl))
theorem amT:Valid Tryz.prog G0 156 ó:=ah G2 mixed ò ali Tryz.func156 (c:=body Tryz.f156) (by kernel_rfl) (by
 rintro⟨l1,l2,l3⟩ hp hf
 have h:=aiB l1 l2 l3 hp hf
 with_reducible refine Eq.mp ?_ h
 kernel_rfl)
theorem G3:ak Tryz.prog ô:=ak.cons G2 amT (aB.of Tryz.func156 (c:=body Tryz.f156) (by kernel_rfl) (by kernel_rfl))
theorem amU:Valid Tryz.prog G0 128 ö:=ah G3 mixed õ alk Tryz.func128 (c:=body Tryz.f128) (by kernel_rfl) (by
 rintro d hp hf
 have h:=aiF d hp hf
 with_reducible refine Eq.mp ?_ h
 kernel_rfl)
theorem G4:ak Tryz.prog ø:=ak.cons G3 amU (aB.of Tryz.func128 (c:=body Tryz.f128) (by kernel_rfl) (by kernel_rfl))
theorem amV:Valid Tryz.prog G0 93 ú:=ah G4 mixed ù aln Tryz.func93 (c:=body Tryz.f93) (by kernel_rfl) (by
 rintro d hp hf
 have h:=aiG d hp hf
 with_reducible refine Eq.mp ?_ h
 kernel_rfl)
theorem SB:ak Tryz.prog û:=ak.cons G4 amV (aB.of Tryz.func93 (c:=body Tryz.f93) (by kernel_rfl) (by kernel_rfl))
theorem amW:Valid Tryz.prog G0 96 ü:=Go.DM.KJ Ĕ (fun _=>rfl) (fun _ _ _=>rfl)
theorem G5:ak Tryz.prog ý:=ak.cons SB amW (aB.of Tryz.func96 (c:=body Tryz.f96) (by kernel_rfl) (by kernel_rfl))
theorem amX:Valid Tryz.prog G0 57 ÿ:=ah G5 mixed þ alr Tryz.func57 (c:=body Tryz.f57) (by kernel_rfl) (by
 rintro⟨docs,s1,s2⟩ hp hf
 have h:=aiH docs s1 s2 hp hf
 with_reducible refine Eq.mp ?_ h
 kernel_rfl)
theorem G6:ak Tryz.prog Ā:=ak.cons G5 amX (aB.of Tryz.func57 (c:=body Tryz.f57) (by kernel_rfl) (by kernel_rfl))
theorem ada:Valid Tryz.prog G0 136 Ou:=ah G6 mixed Ot abb Tryz.func136 (c:=body Tryz.f136) (by kernel_rfl) (by
 rintro⟨b,t⟩ hp hf
 have h:=aap b t hp hf
 with_reducible refine Eq.mp ?_ h
 kernel_rfl)
theorem Dn:ak Tryz.prog Ov:=ak.cons G6 ada (aB.of Tryz.func136 (c:=body Tryz.f136) (by kernel_rfl) (by kernel_rfl))
theorem adb:Valid Tryz.prog G0 130 Ox:=ah Dn mixed Ow abd Tryz.func130 (c:=body Tryz.f130) (by kernel_rfl) (by
 rintro⟨l1,l2,l3⟩ hp hf
 have h:=aaq l1 l2 l3 hp hf
 with_reducible refine Eq.mp ?_ h
 kernel_rfl)
theorem Dp:ak Tryz.prog Oy:=ak.cons Dn adb (aB.of Tryz.func130 (c:=body Tryz.f130) (by kernel_rfl) (by kernel_rfl))
theorem ade:Valid Tryz.prog G0 94 OA:=ah Dp mixed Oz abf Tryz.func94 (c:=body Tryz.f94) (by kernel_rfl) (by
 rintro d hp hf
 have h:=aar d hp hf
 with_reducible refine Eq.mp ?_ h
 kernel_rfl)
theorem Dq:ak Tryz.prog OB:=ak.cons Dp ade (aB.of Tryz.func94 (c:=body Tryz.f94) (by kernel_rfl) (by kernel_rfl))
theorem adf:Valid Tryz.prog G0 95 OD:=ah Dq mixed OC abh Tryz.func95 (c:=body Tryz.f95) (by kernel_rfl) (by
 rintro d hp hf
 have h:=aas d hp hf
 with_reducible refine Eq.mp ?_ h
 kernel_rfl)
theorem Dr:ak Tryz.prog OE:=ak.cons Dq adf (aB.of Tryz.func95 (c:=body Tryz.f95) (by kernel_rfl) (by kernel_rfl))
theorem adg:Valid Tryz.prog G0 100 OG:=ah Dr mixed OF abj Tryz.func100 (c:=body Tryz.f100) (by kernel_rfl) (by
 rintro⟨a,b⟩ hp hf
 have h:=aat a b hp hf
 with_reducible refine Eq.mp ?_ h
 kernel_rfl)
theorem Ds:ak Tryz.prog OH:=ak.cons Dr adg (aB.of Tryz.func100 (c:=body Tryz.f100) (by kernel_rfl) (by kernel_rfl))
theorem adh:Valid Tryz.prog G0 101 OJ:=ah Ds mixed OI abl Tryz.func101 (c:=body Tryz.f101) (by kernel_rfl) (by
 rintro⟨docs,s1,s2⟩ hp hf
 have h:=aau docs s1 s2 hp hf
 with_reducible refine Eq.mp ?_ h
 kernel_rfl)
theorem Dt:ak Tryz.prog OK:=ak.cons Ds adh (aB.of Tryz.func101 (c:=body Tryz.f101) (by kernel_rfl) (by kernel_rfl))
theorem adi:Valid Tryz.prog G0 117 OM:=ah Dt mixed OL abo Tryz.func117 (c:=body Tryz.f117) (by kernel_rfl) (by
 rintro⟨s1,s2⟩ hp hf
 have h:=aav s1 s2 hp hf
 with_reducible refine Eq.mp ?_ h
 kernel_rfl)
theorem Du:ak Tryz.prog ON:=ak.cons Dt adi (aB.of Tryz.func117 (c:=body Tryz.f117) (by kernel_rfl) (by kernel_rfl))
theorem adj:Valid Tryz.prog G0 92 OP:=ah Du mixed OO abq Tryz.func92 (c:=body Tryz.f92) (by kernel_rfl) (by
 rintro⟨s1,s2,s3⟩ hp hf
 have h:=aaw s1 s2 s3 hp hf
 with_reducible refine Eq.mp ?_ h
 kernel_rfl)
theorem Dv:ak Tryz.prog OQ:=ak.cons Du adj (aB.of Tryz.func92 (c:=body Tryz.f92) (by kernel_rfl) (by kernel_rfl))
theorem adk:Valid Tryz.prog G0 51 OS:=ah Dv mixed OR abt Tryz.func51 (c:=body Tryz.f51) (by kernel_rfl) (by
 rintro⟨s1,s2,s3⟩ hp hf
 have h:=aax s1 s2 s3 hp hf
 with_reducible refine Eq.mp ?_ h
 kernel_rfl)
theorem Dw:ak Tryz.prog OT:=ak.cons Dv adk (aB.of Tryz.func51 (c:=body Tryz.f51) (by kernel_rfl) (by kernel_rfl))
theorem adl:Valid Tryz.prog G0 55 OV:=ah Dw mixed OU abv Tryz.func55 (c:=body Tryz.f55) (by kernel_rfl) (by
 rintro⟨docs,s1,s2⟩ hp hf
 have h:=aay docs s1 s2 hp hf
 with_reducible refine Eq.mp ?_ h
 kernel_rfl)
theorem Dx:ak Tryz.prog OW:=ak.cons Dw adl (aB.of Tryz.func55 (c:=body Tryz.f55) (by kernel_rfl) (by kernel_rfl))
theorem adm:Valid Tryz.prog G0 58 OY:=ah Dx mixed OX abx Tryz.func58 (c:=body Tryz.f58) (by kernel_rfl) (by
 rintro⟨docs,s1,s2⟩ hp hf
 have h:=aaz docs s1 s2 hp hf
 with_reducible refine Eq.mp ?_ h
 kernel_rfl)
theorem Dy:ak Tryz.prog OZ:=ak.cons Dx adm (aB.of Tryz.func58 (c:=body Tryz.f58) (by kernel_rfl) (by kernel_rfl))
theorem adn:Valid Tryz.prog G0 60 O1:=ah Dy mixed O0 abz Tryz.func60 (c:=body Tryz.f60) (by kernel_rfl) (by
 rintro⟨docs,s1,s2⟩ hp hf
 have h:=aaA docs s1 s2 hp hf
 with_reducible refine Eq.mp ?_ h
 kernel_rfl)
theorem Dz:ak Tryz.prog O2:=ak.cons Dy adn (aB.of Tryz.func60 (c:=body Tryz.f60) (by kernel_rfl) (by kernel_rfl))
theorem ado:Valid Tryz.prog G0 53 O4:=ah Dz mixed O3 abB Tryz.func53 (c:=body Tryz.f53) (by kernel_rfl) (by
 rintro⟨s1,s2,s3⟩ hp hf
 have h:=aaB s1 s2 s3 hp hf
 with_reducible refine Eq.mp ?_ h
 kernel_rfl)
theorem DA:ak Tryz.prog O5:=ak.cons Dz ado (aB.of Tryz.func53 (c:=body Tryz.f53) (by kernel_rfl) (by kernel_rfl))
theorem adp:Valid Tryz.prog G0 59 O7:=ah DA mixed O6 abD Tryz.func59 (c:=body Tryz.f59) (by kernel_rfl) (by
 rintro⟨a1,a2,a3,b1,b2,b3⟩ hp hf
 have h:=aaC a1 a2 a3 b1 b2 b3 hp hf
 with_reducible refine Eq.mp ?_ h
 kernel_rfl)
theorem DB:ak Tryz.prog O8:=ak.cons DA adp (aB.of Tryz.func59 (c:=body Tryz.f59) (by kernel_rfl) (by kernel_rfl))
theorem adq:Valid Tryz.prog G0 47 Pa:=ah DB mixed O9 abF Tryz.func47 (c:=body Tryz.f47) (by kernel_rfl) (by
 rintro d hp hf
 have h:=aaD d hp hf
 with_reducible refine Eq.mp ?_ h
 kernel_rfl)
theorem DC:ak Tryz.prog Pb:=ak.cons DB adq (aB.of Tryz.func47 (c:=body Tryz.f47) (by kernel_rfl) (by kernel_rfl))
theorem adr:Valid Tryz.prog G0 48 Pd:=ah DC mixed Pc abH Tryz.func48 (c:=body Tryz.f48) (by kernel_rfl) (by
 rintro docs hp hf
 have h:=aaE docs hp hf
 with_reducible refine Eq.mp ?_ h
 kernel_rfl)
theorem DD:ak Tryz.prog Pe:=ak.cons DC adr (aB.of Tryz.func48 (c:=body Tryz.f48) (by kernel_rfl) (by kernel_rfl))
theorem ads:Valid Tryz.prog G0 54 Pg:=ah DD mixed Pf abJ Tryz.func54 (c:=body Tryz.f54) (by kernel_rfl) (by
 rintro⟨s1,s2,s3⟩ hp hf
 have h:=aaF s1 s2 s3 hp hf
 with_reducible refine Eq.mp ?_ h
 kernel_rfl)
theorem DE:ak Tryz.prog Ph:=ak.cons DD ads (aB.of Tryz.func54 (c:=body Tryz.f54) (by kernel_rfl) (by kernel_rfl))
theorem adt:Valid Tryz.prog G0 23 Pk:=ah DE mixed Pj abL Tryz.func23 (c:=body Tryz.f23) (by kernel_rfl) (by
 rintro⟨s1,s2,s3,s4⟩ hp hf
 have h:=aaG s1 s2 s3 s4 hp hf
 with_reducible refine Eq.mp ?_ h
 kernel_rfl)
theorem DF:ak Tryz.prog Pl:=ak.cons DE adt (aB.of Tryz.func23 (c:=body Tryz.f23) (by kernel_rfl) (by kernel_rfl))
theorem adu:Valid Tryz.prog G0 126 Pn:=ah DF mixed Pm abN Tryz.func126 (c:=body Tryz.f126) (by kernel_rfl) (by
 rintro l hp hf
 have h:=aaH l hp hf
 with_reducible refine Eq.mp ?_ h
 kernel_rfl)
theorem DG:ak Tryz.prog Po:=ak.cons DF adu (aB.of Tryz.func126 (c:=body Tryz.f126) (by kernel_rfl) (by kernel_rfl))
theorem adv:Valid Tryz.prog G0 90 Pr:=ah DG mixed Pq abP Tryz.func90 (c:=body Tryz.f90) (by kernel_rfl) (by
 rintro l hp hf
 have h:=aaI l hp hf
 with_reducible refine Eq.mp ?_ h
 kernel_rfl)
theorem DH:ak Tryz.prog Ps:=ak.cons DG adv (aB.of Tryz.func90 (c:=body Tryz.f90) (by kernel_rfl) (by kernel_rfl))
theorem adw:Valid Tryz.prog G0 125 Pu:=ah DH mixed Pt abR Tryz.func125 (c:=body Tryz.f125) (by kernel_rfl) (by
 rintro⟨s1,s2⟩ hp hf
 have h:=aaJ s1 s2 hp hf
 with_reducible refine Eq.mp ?_ h
 kernel_rfl)
theorem DJ:ak Tryz.prog Pv:=ak.cons DH adw (aB.of Tryz.func125 (c:=body Tryz.f125) (by kernel_rfl) (by kernel_rfl))
theorem adx:Valid Tryz.prog G0 88 Px:=ah DJ mixed Pw abT Tryz.func88 (c:=body Tryz.f88) (by kernel_rfl) (by
 rintro l hp hf
 have h:=aaK l hp hf
 with_reducible refine Eq.mp ?_ h
 kernel_rfl)
theorem DK:ak Tryz.prog Py:=ak.cons DJ adx (aB.of Tryz.func88 (c:=body Tryz.f88) (by kernel_rfl) (by kernel_rfl))
theorem ady:Valid Tryz.prog G0 89 PA:=ah DK mixed Pz abV Tryz.func89 (c:=body Tryz.f89) (by kernel_rfl) (by
 rintro l hp hf
 have h:=aaL l hp hf
 with_reducible refine Eq.mp ?_ h
 kernel_rfl)
theorem DL:ak Tryz.prog PB:=ak.cons DK ady (aB.of Tryz.func89 (c:=body Tryz.f89) (by kernel_rfl) (by kernel_rfl))
theorem adz:Valid Tryz.prog G0 84 PD:=ah DL mixed PC abX Tryz.func84 (c:=body Tryz.f84) (by kernel_rfl) (by
 rintro l hp hf
 have h:=aaM l hp hf
 with_reducible refine Eq.mp ?_ h
 kernel_rfl)
theorem DN:ak Tryz.prog PE:=ak.cons DL adz (aB.of Tryz.func84 (c:=body Tryz.f84) (by kernel_rfl) (by kernel_rfl))
theorem adA:Valid Tryz.prog G0 122 PG:=ah DN mixed PF abZ Tryz.func122 (c:=body Tryz.f122) (by kernel_rfl) (by
 rintro l hp hf
 have h:=aaN l hp hf
 with_reducible refine Eq.mp ?_ h
 kernel_rfl)
theorem DO:ak Tryz.prog PH:=ak.cons DN adA (aB.of Tryz.func122 (c:=body Tryz.f122) (by kernel_rfl) (by kernel_rfl))
theorem adB:Valid Tryz.prog G0 99 PJ:=ah DO mixed PI ab2 Tryz.func99 (c:=body Tryz.f99) (by kernel_rfl) (by
 rintro⟨a,b⟩ hp hf
 have h:=aaO a b hp hf
 with_reducible refine Eq.mp ?_ h
 kernel_rfl)
theorem DP:ak Tryz.prog PK:=ak.cons DO adB (aB.of Tryz.func99 (c:=body Tryz.f99) (by kernel_rfl) (by kernel_rfl))
theorem adC:Valid Tryz.prog G0 98 PM:=ah DP mixed PL ab4 Tryz.func98 (c:=body Tryz.f98) (by kernel_rfl) (by
 rintro⟨a1,a2,b1,b2⟩ hp hf
 have h:=aaP a1 a2 b1 b2 hp hf
 with_reducible refine Eq.mp ?_ h
 kernel_rfl)
theorem DQ:ak Tryz.prog PN:=ak.cons DP adC (aB.of Tryz.func98 (c:=body Tryz.f98) (by kernel_rfl) (by kernel_rfl))
theorem adD:ca Tryz.prog G0 97 PR:=dF DQ mixed PO PQ ab6 Tryz.func97 (c:=body Tryz.f97) (by kernel_rfl) (by
 rintro⟨a,b⟩ ⟨⟩ hp hf hg
 have h:=aaQ a b hp hf hg
 with_reducible refine Eq.mp ?_ h
 kernel_rfl)
theorem ĕ:ca Tryz.prog G0 97 PT:=adD
theorem DR:ak Tryz.prog PU:=ak.eP DQ ĕ (aB.of Tryz.func97 (c:=body Tryz.f97) (by kernel_rfl) (by kernel_rfl))
theorem adE:Valid Tryz.prog G0 56 PW:=ah DR mixed PV ab8 Tryz.func56 (c:=body Tryz.f56) (by kernel_rfl) (by
 rintro⟨a,b⟩ hp hf
 have h:=aaR a b hp hf
 with_reducible refine Eq.mp ?_ h
 kernel_rfl)
theorem DS:ak Tryz.prog PX:=ak.cons DR adE (aB.of Tryz.func56 (c:=body Tryz.f56) (by kernel_rfl) (by kernel_rfl))
theorem adF:Valid Tryz.prog G0 19 PZ:=ah DS mixed PY aca Tryz.func19 (c:=body Tryz.f19) (by kernel_rfl) (by
 rintro⟨y1,y2⟩ hp hf
 have h:=aaS y1 y2 hp hf
 with_reducible refine Eq.mp ?_ h
 kernel_rfl)
theorem DT:ak Tryz.prog P0:=ak.cons DS adF (aB.of Tryz.func19 (c:=body Tryz.f19) (by kernel_rfl) (by kernel_rfl))
theorem adG:Valid Tryz.prog G0 50 P2:=ah DT mixed P1 acd Tryz.func50 (c:=body Tryz.f50) (by kernel_rfl) (by
 rintro⟨y1,y2⟩ hp hf
 have h:=aaT y1 y2 hp hf
 with_reducible refine Eq.mp ?_ h
 kernel_rfl)
theorem DU:ak Tryz.prog P3:=ak.cons DT adG (aB.of Tryz.func50 (c:=body Tryz.f50) (by kernel_rfl) (by kernel_rfl))
theorem adH:Valid Tryz.prog G0 61 P5:=ah DU mixed P4 acf Tryz.func61 (c:=body Tryz.f61) (by kernel_rfl) (by
 rintro⟨y1,y2⟩ hp hf
 have h:=aaU y1 y2 hp hf
 with_reducible refine Eq.mp ?_ h
 kernel_rfl)
theorem rJ:ak Tryz.prog Iv:=ak.cons DU adH (aB.of Tryz.func61 (c:=body Tryz.f61) (by kernel_rfl) (by kernel_rfl))
theorem adI:Valid Tryz.prog G0 83 P7:=ah (E:=aci) {fU:=rJ.fU,sig:=rJ.sig,pW:=rJ.pW} mixed P6 ach Tryz.func83 (c:=body Tryz.f83) (by kernel_rfl) (by
 rintro⟨y1,y2⟩ hp hf
 have h:=aaV y1 y2 hp hf
 with_reducible refine Eq.mp ?_ h
 kernel_rfl)
theorem DV:ak Tryz.prog P8:=ak.cons rJ adI (aB.of Tryz.func83 (c:=body Tryz.f83) (by kernel_rfl) (by kernel_rfl))
theorem adJ:Valid Tryz.prog G0 91 Qa:=ah DV mixed P9 ack Tryz.func91 (c:=body Tryz.f91) (by kernel_rfl) (by
 rintro⟨l,i,m,s1,s2,s3⟩ hp hf
 have h:=aaW l i m s1 s2 s3 hp hf
 with_reducible refine Eq.mp ?_ h
 kernel_rfl)
theorem DW:ak Tryz.prog Qb:=ak.cons DV adJ (aB.of Tryz.func91 (c:=body Tryz.f91) (by kernel_rfl) (by kernel_rfl))
theorem adK:Valid Tryz.prog G0 21 Qd:=ah DW mixed Qc acn Tryz.func21 (c:=body Tryz.f21) (by kernel_rfl) (by
 rintro⟨y1,y2⟩ hp hf
 have h:=aaX y1 y2 hp hf
 with_reducible refine Eq.mp ?_ h
 kernel_rfl)
theorem DX:ak Tryz.prog Qe:=ak.cons DW adK (aB.of Tryz.func21 (c:=body Tryz.f21) (by kernel_rfl) (by kernel_rfl))
theorem adL:Valid Tryz.prog G0 44 Qg:=ah DX mixed Qf acp Tryz.func44 (c:=body Tryz.f44) (by kernel_rfl) (by
 rintro⟨y1,y2,d⟩ hp hf
 have h:=aaY y1 y2 d hp hf
 with_reducible refine Eq.mp ?_ h
 kernel_rfl)
theorem DY:ak Tryz.prog Qh:=ak.cons DX adL (aB.of Tryz.func44 (c:=body Tryz.f44) (by kernel_rfl) (by kernel_rfl))
theorem adM:Valid Tryz.prog G0 43 Qj:=ah DY mixed Qi acr Tryz.func43 (c:=body Tryz.f43) (by kernel_rfl) (by
 rintro⟨y1,y2⟩ hp hf
 have h:=aaZ y1 y2 hp hf
 with_reducible refine Eq.mp ?_ h
 kernel_rfl)
theorem DZ:ak Tryz.prog Qk:=ak.cons DY adM (aB.of Tryz.func43 (c:=body Tryz.f43) (by kernel_rfl) (by kernel_rfl))
theorem adN:Valid Tryz.prog G0 49 Qm:=ah DZ mixed Ql acu Tryz.func49 (c:=body Tryz.f49) (by kernel_rfl) (by
 rintro⟨y1,y2⟩ hp hf
 have h:=aa0 y1 y2 hp hf
 with_reducible refine Eq.mp ?_ h
 kernel_rfl)
theorem D1:ak Tryz.prog Qn:=ak.cons DZ adN (aB.of Tryz.func49 (c:=body Tryz.f49) (by kernel_rfl) (by kernel_rfl))
theorem adO:Valid Tryz.prog G0 16 Qp:=ah D1 mixed Qo acw Tryz.func16 (c:=body Tryz.f16) (by kernel_rfl) (by
 rintro⟨y1,y2⟩ hp hf
 have h:=aa1 y1 y2 hp hf
 with_reducible refine Eq.mp ?_ h
 kernel_rfl)
theorem D3:ak Tryz.prog Qq:=ak.cons D1 adO (aB.of Tryz.func16 (c:=body Tryz.f16) (by kernel_rfl) (by kernel_rfl))
theorem adP:Valid Tryz.prog G0 20 Qs:=ah D3 mixed Qr acy Tryz.func20 (c:=body Tryz.f20) (by kernel_rfl) (by
 rintro⟨y1,y2⟩ hp hf
 have h:=aa2 y1 y2 hp hf
 with_reducible refine Eq.mp ?_ h
 kernel_rfl)
theorem D4:ak Tryz.prog Qt:=ak.cons D3 adP (aB.of Tryz.func20 (c:=body Tryz.f20) (by kernel_rfl) (by kernel_rfl))
theorem adQ:Valid Tryz.prog G0 52 Qv:=ah D4 mixed Qu acA Tryz.func52 (c:=body Tryz.f52) (by kernel_rfl) (by
 rintro⟨y1,y2⟩ hp hf
 have h:=aa3 y1 y2 hp hf
 with_reducible refine Eq.mp ?_ h
 kernel_rfl)
theorem D5:ak Tryz.prog Qw:=ak.cons D4 adQ (aB.of Tryz.func52 (c:=body Tryz.f52) (by kernel_rfl) (by kernel_rfl))
theorem adR:Valid Tryz.prog G0 22 Qy:=ah D5 mixed Qx acC Tryz.func22 (c:=body Tryz.f22) (by kernel_rfl) (by
 rintro⟨y1,y2⟩ hp hf
 have h:=aa4 y1 y2 hp hf
 with_reducible refine Eq.mp ?_ h
 kernel_rfl)
theorem D6:ak Tryz.prog Qz:=ak.cons D5 adR (aB.of Tryz.func22 (c:=body Tryz.f22) (by kernel_rfl) (by kernel_rfl))
theorem adS:Valid Tryz.prog G0 17 QB:=ah D6 mixed QA acE Tryz.func17 (c:=body Tryz.f17) (by kernel_rfl) (by
 rintro⟨y1,y2⟩ hp hf
 have h:=aa5 y1 y2 hp hf
 with_reducible refine Eq.mp ?_ h
 kernel_rfl)
theorem D7:ak Tryz.prog QC:=ak.cons D6 adS (aB.of Tryz.func17 (c:=body Tryz.f17) (by kernel_rfl) (by kernel_rfl))
theorem adT:Valid Tryz.prog G0 15 QE:=ah D7 mixed QD acG Tryz.func15 (c:=body Tryz.f15) (by kernel_rfl) (by
 rintro⟨⟩ hp hf
 have h:=aa6 hp hf
 with_reducible refine Eq.mp ?_ h
 kernel_rfl)
theorem D8:ak Tryz.prog QF:=ak.cons D7 adT (aB.of Tryz.func15 (c:=body Tryz.f15) (by kernel_rfl) (by kernel_rfl))
theorem adU:Valid Tryz.prog G0 18 QH:=ah D8 mixed QG acI Tryz.func18 (c:=body Tryz.f18) (by kernel_rfl) (by
 rintro⟨y1,y2⟩ hp hf
 have h:=aa7 y1 y2 hp hf
 with_reducible refine Eq.mp ?_ h
 kernel_rfl)
theorem D9:ak Tryz.prog QI:=ak.cons D8 adU (aB.of Tryz.func18 (c:=body Tryz.f18) (by kernel_rfl) (by kernel_rfl))
theorem adV:Valid Tryz.prog G0 14 QK:=ah D9 mixed QJ acK Tryz.func14 (c:=body Tryz.f14) (by kernel_rfl) (by
 rintro⟨y1,y2⟩ hp hf
 have h:=aa8 y1 y2 hp hf
 with_reducible refine Eq.mp ?_ h
 kernel_rfl)
theorem MS:ak Tryz.prog acL:=ak.cons D9 adV (aB.of Tryz.func14 (c:=body Tryz.f14) (by kernel_rfl) (by kernel_rfl))
theorem adW:Valid Tryz.prog G0 3 acO:=ah MS mixed Iw acN Tryz.func3 (c:=body Tryz.f3) (by kernel_rfl) (by
 rintro⟨y1,y2⟩ hp hf
 have h:=aa9 y1 y2 hp hf
 with_reducible refine Eq.mp ?_ h
 kernel_rfl)
end Go.J

end
section
set_option linter.unusedVariables false
namespace Go.Proofs.YtcmmooohmnjklaaGreatDoor
open Go Go.Vg Go.ChangeShapes Go.WideShapes Go.ChangeAt Go.RowKit
theorem own:ownKnob Tryz.prog.godebug=none:=by kernel_rfl
theorem laidOut:laidOutB Tryz.prog=true :=by kernel_rfl
set_option maxRecDepth 100000 in
theorem amY {W:World}(h:laidMet Tryz.prog [("rubrick/sha.begin",Rows.laid_rubrick_sha_begin),("rubrick/sha.rounds",Rows.laid_rubrick_sha_rounds),("rubrick/utf.letters",Rows.laid_rubrick_utf_letters),("rubrick/utf.shifts",Rows.laid_rubrick_utf_shifts)] W):∀i d,Go.J.G0 i=some d→mH W (fun b=>b<W.heap.size) i d:=by
 intro i d hd
 match i,hd with
 |0,hd=>
  cases hd
  exact Da (k:= .u32) (zs:= [1779033703,3144134277,1013904242,2773480762,1359893119,2600822924,528734635,1541459225]) h (.head _) (by kernel_rfl) (by kernel_rfl) Tryz.underlying155 Tryz.underlying154 (by kernel_rfl) (by kernel_rfl) (by decide) (by simp [oH,ju,lo,hi,Row.hd,Row.tl,DI.toInt])
 |1,hd=>
  cases hd
  exact Da (k:= .u32) (zs:= [1116352408,1899447441,3049323471,3921009573,961987163,1508970993,2453635748,2870763221,3624381080,310598401,607225278,1426881987,1925078388,2162078206,2614888103,3248222580,3835390401,4022224774,264347078,604807628,770255983,1249150122,1555081692,1996064986,2554220882,2821834349,2952996808,3210313671,3336571891,3584528711,113926993,338241895,666307205,773529912,1294757372,1396182291,1695183700,1986661051,2177026350,2456956037,2730485921,2820302411,3259730800,3345764771,3516065817,3600352804,4094571909,275423344,430227734,506948616,659060556,883997877,958139571,1322822218,1537002063,1747873779,1955562222,2024104815,2227730452,2361852424,2428436474,2756734187,3204031479,3329325298]) h (.tail _ (.head _)) (by kernel_rfl) (by kernel_rfl) Tryz.underlying227 Tryz.underlying154 (by kernel_rfl) (by kernel_rfl) (by decide) (by simp [oH,ju,lo,hi,Row.hd,Row.tl,DI.toInt,S.rO])
 |2,hd=>
  cases hd
  exact C9 (k:= .i64) (zss:= [[65,90],[97,122],[192,214],[216,246],[248,255],[913,929],[931,937],[945,969],[1024,1119]]) h (.tail _ (.tail _ (.head _))) (by kernel_rfl) (by kernel_rfl) Tryz.underlying234 Tryz.underlying233 (by kernel_rfl) (by kernel_rfl) rfl (fun i f hf=>by
   match i,hf with
   |0,hf=>cases hf;exact⟨rfl,Tryz.underlying3,by kernel_rfl⟩
   |1,hf=>cases hf;exact⟨rfl,Tryz.underlying3,by kernel_rfl⟩
   |i+2,hf=>simp at hf) (by decide) (by decide) (by simp [oH,ju,lo,hi,Row.hd,Row.tl,DI.toInt])
 |3,hd=>
  cases hd
  exact C9 (k:= .i64) (zss:= [[65,90,32],[192,214,32],[216,222,32],[913,929,32],[931,937,32],[1024,1039,80],[1040,1071,32]]) h (.tail _ (.tail _ (.tail _ (.head _)))) (by kernel_rfl) (by kernel_rfl) Tryz.underlying253 Tryz.underlying252 (by kernel_rfl) (by kernel_rfl) rfl (fun i f hf=>by
   match i,hf with
   |0,hf=>cases hf;exact⟨rfl,Tryz.underlying3,by kernel_rfl⟩
   |1,hf=>cases hf;exact⟨rfl,Tryz.underlying3,by kernel_rfl⟩
   |2,hf=>cases hf;exact⟨rfl,Tryz.underlying3,by kernel_rfl⟩
   |i+3,hf=>simp at hf) (by decide) (by decide) (by simp [oH,ju,lo,hi,Row.hd,Row.tl,DI.toInt])
 |_+4,hd=>cases hd
def apx(w:World)(cs:Array Value):World:= {w with heap:=w.heap.modify 0 fun
    | .cells _ t frozen=> .cells cs t frozen
    |o=>o}
def apy(w:World)(cs:Array Value):World:= {w with heap:=w.heap.modify 1 fun
    | .cells _ t frozen=> .cells cs t frozen
    |o=>o}
def apz(w:World)(cs:Array Value):World:= {w with heap:=w.heap.modify 2 fun
    | .cells _ t frozen=> .cells cs t frozen
    |o=>o}
def apA(w:World)(cs:Array Value):World:= {w with heap:=w.heap.modify 3 fun
    | .cells _ t frozen=> .cells cs t frozen
    |o=>o}
noncomputable def wC (os:Os):World:=apA (apz (apy (apx (World.holding Tryz.prog os ⟨#[], #[],[]⟩) #[.int .u32 1779033703, .int .u32 3144134277, .int .u32 1013904242, .int .u32 2773480762, .int .u32 1359893119, .int .u32 2600822924, .int .u32 528734635, .int .u32 1541459225]) #[.int .u32 1116352408, .int .u32 1899447441, .int .u32 3049323471, .int .u32 3921009573, .int .u32 961987163, .int .u32 1508970993, .int .u32 2453635748, .int .u32 2870763221, .int .u32 3624381080, .int .u32 310598401, .int .u32 607225278, .int .u32 1426881987, .int .u32 1925078388, .int .u32 2162078206, .int .u32 2614888103, .int .u32 3248222580, .int .u32 3835390401, .int .u32 4022224774, .int .u32 264347078, .int .u32 604807628, .int .u32 770255983, .int .u32 1249150122, .int .u32 1555081692, .int .u32 1996064986, .int .u32 2554220882, .int .u32 2821834349, .int .u32 2952996808, .int .u32 3210313671, .int .u32 3336571891, .int .u32 3584528711, .int .u32 113926993, .int .u32 338241895, .int .u32 666307205, .int .u32 773529912, .int .u32 1294757372, .int .u32 1396182291, .int .u32 1695183700, .int .u32 1986661051, .int .u32 2177026350, .int .u32 2456956037, .int .u32 2730485921, .int .u32 2820302411, .int .u32 3259730800, .int .u32 3345764771, .int .u32 3516065817, .int .u32 3600352804, .int .u32 4094571909, .int .u32 275423344, .int .u32 430227734, .int .u32 506948616, .int .u32 659060556, .int .u32 883997877, .int .u32 958139571, .int .u32 1322822218, .int .u32 1537002063, .int .u32 1747873779, .int .u32 1955562222, .int .u32 2024104815, .int .u32 2227730452, .int .u32 2361852424, .int .u32 2428436474, .int .u32 2756734187, .int .u32 3204031479, .int .u32 3329325298]) #[.int .i64 65, .int .i64 90, .int .i64 97, .int .i64 122, .int .i64 192, .int .i64 214, .int .i64 216, .int .i64 246, .int .i64 248, .int .i64 255, .int .i64 913, .int .i64 929, .int .i64 931, .int .i64 937, .int .i64 945, .int .i64 969, .int .i64 1024, .int .i64 1119]) #[.int .i64 65, .int .i64 90, .int .i64 32, .int .i64 192, .int .i64 214, .int .i64 32, .int .i64 216, .int .i64 222, .int .i64 32, .int .i64 913, .int .i64 929, .int .i64 32, .int .i64 931, .int .i64 937, .int .i64 32, .int .i64 1024, .int .i64 1039, .int .i64 80, .int .i64 1040, .int .i64 1071, .int .i64 32]
theorem yf:Valid Tryz.prog Go.J.G0 3 (au Go.J.Iw fun _=>(True, .bool true,[])):=Go.J.adW
theorem tT(os:Os):laidMet Tryz.prog Rows.planRightsRow.laid ((wC os).forCall (fun _ _=>0) ⟨#[], #[.agg #[.slice none 0 0, .slice none 0 0]],[]⟩).memory:=
 laidMet_of_run' 8 (by kernel_rfl) (by kernel_rfl)
theorem yg(os:Os) {H:Type}(enc:TypeId×Value→H):∃places,DataW.whole enc Tryz.prog ((wC os).forCall (fun _ _=>0) ⟨#[], #[.agg #[.slice none 0 0, .slice none 0 0]],[]⟩).memory Tryz.f3.params.toList Rows.planRightsSpec.vars false (#[.agg #[.slice none 0 0, .slice none 0 0]]:Array Value).toList 8=some ([.agg [.nil, .nil]],[],places):=
 ⟨[],by kernel_rfl⟩
set_option maxRecDepth 100000 in
theorem wD(os:Os)(started:os.Started)(H:Type)(enc:TypeId×Value→H)(F:Stop.Interp):
  ReturnsInHanded {} Tryz.checked os 3 .any ((OpenSpec.ofChange Rows.planRightsSpec).preRow enc Tryz.prog Tryz.f3 Rows.planRightsRow.domain false Rows.planRightsRow.laid) (((OpenSpec.ofChange Rows.planRightsSpec).at F).post enc Tryz.prog Tryz.f3 false true false false):=by
 obtain⟨places,hx⟩:=yg os enc
 refine returnsInHanded_of_row (C:=Tryz.checked) (s:=OpenSpec.ofChange Rows.planRightsSpec) own started (by kernel_rfl) Tryz.func3
  (witness_row_at (enc:=enc) (C:=Tryz.checked) false (wC os) #[.agg #[.slice none 0 0, .slice none 0 0]] rfl (by kernel_rfl) (by kernel_rfl) (by kernel_rfl)
    (OpenSpec.preRow_of_cond 8 hx (by kernel_rfl) (fun k hk=>by cases hk) (by kernel_rfl) (tT os))) ?_
 intro W base args ds gs before Bk hW _ _ _ hL _ _
 refine Es (s:=Rows.planRightsSpec) (bw.of Nt) laidOut yf (show PS.Q9 fU Tryz.f3.params.toList=_ by kernel_rfl) (by kernel_rfl) (show Tryz.f3.resultTypes= #[4] by kernel_rfl) Tryz.underlying4 rfl ?_ (amY hL) Bk hW
 intro H ds z8
 have hn:Tryz.f3.params.toList.length=1:=by kernel_rfl
 rw [hn] at z8
 match ds,z8 with
 | [d0],_=>rfl
theorem zf:Rows.PlanRightsSaid:=
 OpenClaim.holds_of_cond 3 Tryz.f3 rfl rfl rfl rfl rfl rfl rfl ⟨rfl,rfl,rfl,rfl,rfl⟩ rfl rfl rfl rfl rfl (by kernel_rfl) Tryz.func3 (by kernel_rfl)
  (of_decide_eq_true (by kernel_rfl)) (by unfold Func.isWrapper;first|(rw [if_pos (by decide+kernel)];kernel_rfl)|(rw [if_neg (by decide+kernel)];exact⟨rfl,rfl⟩))
  (fun os started H enc _ F=>by rw [OpenClaim.pre_eq_preRow];exact wD os started H enc F)
theorem yh(f:FuncId)(fn:Func)(hf:Tryz.pinned.checked.prog.funcNamed "rubrick/rubricklaw14.PlanRights"=some f)(Lk:Tryz.pinned.checked.prog.funcs[f]? =some fn):
  false=Tryz.pinned.checked.prog.looks []∧∀(j:Nat) t,fn.params[j]? =some t→Tryz.pinned.checked.prog.wantsStandIn t=false :=by
 obtain rfl :f=3:=Option.some.inj ((show Tryz.prog.funcNamed "rubrick/rubricklaw14.PlanRights"=some 3 by kernel_rfl).symm.trans hf) |>.symm
 obtain rfl :fn=Tryz.f3:=(Option.some.inj (Tryz.func3.symm.trans Lk)).symm
 refine⟨by kernel_rfl,fun j t ht=> ?_⟩
 have h1:(Tryz.f3.params.toList.all fun t=> !Tryz.prog.wantsStandIn t)=true :=by kernel_rfl
 have h2:=List.all_eq_true.1 h1 t (by simpa using Array.mem_of_getElem? ht)
 have h3:Tryz.prog.wantsStandIn t=false :=by simpa using h2
 exact h3
theorem planRights_card:Rows.PlanRightsCardSaid:=
 Claim7.holds_tied_plain_at .later [] _ _ _ _ zf (fun _ h=>by cases h) (by kernel_rfl) (fun _ h=>by cases h) planRights_row_tie rfl ⟨rfl,rfl⟩ (by kernel_rfl) rfl yh (by kernel_rfl)
#print axioms planRights_card
end Go.Proofs.YtcmmooohmnjklaaGreatDoor

end
