import Derived.Test.YtfaedenbhlgnpaaGreatDoorPartG
set_option linter.unusedVariables false
set_option linter.unusedSimpArgs false
section
set_option linter.unusedVariables false
set_option maxHeartbeats 0
set_option maxRecDepth 100000
namespace Go.J
open Go.Proofs
open Go Vg
theorem Vd:ak Tryz.prog ã:=ak.cons Im alJ (aN.of Tryz.func133 (c:=body Tryz.f133) (by kernel_rfl) (by kernel_rfl))
theorem alK:Valid Tryz.prog G0 107 ä:=Go.DM.MO ń (fun _=>rfl) (fun _ _ _=>rfl)
theorem Io:ak Tryz.prog å:=ak.cons Vd alK (aN.of Tryz.func107 (c:=body Tryz.f107) (by kernel_rfl) (by kernel_rfl))
theorem alL:Valid Tryz.prog G0 32 ç:=ai Io mixed æ ake Tryz.func32 (c:=body Tryz.f32) (by kernel_rfl) (by
 rintro⟨a,b⟩ hp hf
 have h:=aiI a b hp hf
 with_reducible refine Eq.mp ?_ h
 kernel_rfl)
theorem Ip:ak Tryz.prog è:=ak.cons Io alL (aN.of Tryz.func32 (c:=body Tryz.f32) (by kernel_rfl) (by kernel_rfl))
theorem alM:Valid Tryz.prog G0 132 ê:=ai Ip mixed é akg Tryz.func132 (c:=body Tryz.f132) (by kernel_rfl) (by
 rintro⟨s1,s2⟩ hp hf
 have h:=aiJ s1 s2 hp hf
 with_reducible refine Eq.mp ?_ h
 kernel_rfl)
theorem Iq:ak Tryz.prog ë:=ak.cons Ip alM (aN.of Tryz.func132 (c:=body Tryz.f132) (by kernel_rfl) (by kernel_rfl))
theorem alN:Valid Tryz.prog G0 123 í:=ai Iq mixed ì aki Tryz.func123 (c:=body Tryz.f123) (by kernel_rfl) (by
 rintro⟨s1,s2,s3⟩ hp hf
 have h:=aiK s1 s2 s3 hp hf
 with_reducible refine Eq.mp ?_ h
 kernel_rfl)
theorem Ir:ak Tryz.prog î:=ak.cons Iq alN (aN.of Tryz.func123 (c:=body Tryz.f123) (by kernel_rfl) (by kernel_rfl))
theorem alO:Valid Tryz.prog G0 75 ð:=ai Ir mixed ï akk Tryz.func75 (c:=body Tryz.f75) (by kernel_rfl) (by
 rintro⟨docs,s1,s2⟩ hp hf
 have h:=aiL docs s1 s2 hp hf
 with_reducible refine Eq.mp ?_ h
 kernel_rfl)
theorem Is:ak Tryz.prog ñ:=ak.cons Ir alO (aN.of Tryz.func75 (c:=body Tryz.f75) (by kernel_rfl) (by kernel_rfl))
theorem alP:Valid Tryz.prog G0 124 ó:=ai Is mixed ò akm Tryz.func124 (c:=body Tryz.f124) (by kernel_rfl) (by
 rintro l hp hf
 have h:=aiM l hp hf
 with_reducible refine Eq.mp ?_ h
 kernel_rfl)
theorem It:ak Tryz.prog ô:=ak.cons Is alP (aN.of Tryz.func124 (c:=body Tryz.f124) (by kernel_rfl) (by kernel_rfl))
theorem alQ:Valid Tryz.prog G0 103 ö:=ai It mixed õ ako Tryz.func103 (c:=body Tryz.f103) (by kernel_rfl) (by
 rintro l hp hf
 have h:=aiN l hp hf
 with_reducible refine Eq.mp ?_ h
 kernel_rfl)
theorem Iu:ak Tryz.prog ø:=ak.cons It alQ (aN.of Tryz.func103 (c:=body Tryz.f103) (by kernel_rfl) (by kernel_rfl))
theorem alR:Valid Tryz.prog G0 125 ú:=ai Iu mixed ù akq Tryz.func125 (c:=body Tryz.f125) (by kernel_rfl) (by
 rintro⟨s1,s2⟩ hp hf
 have h:=aiO s1 s2 hp hf
 with_reducible refine Eq.mp ?_ h
 kernel_rfl)
theorem Iv:ak Tryz.prog û:=ak.cons Iu alR (aN.of Tryz.func125 (c:=body Tryz.f125) (by kernel_rfl) (by kernel_rfl))
theorem alS:Valid Tryz.prog G0 105 ý:=ai Iv mixed ü aks Tryz.func105 (c:=body Tryz.f105) (by kernel_rfl) (by
 rintro l hp hf
 have h:=aiP l hp hf
 with_reducible refine Eq.mp ?_ h
 kernel_rfl)
theorem Iw:ak Tryz.prog þ:=ak.cons Iv alS (aN.of Tryz.func105 (c:=body Tryz.f105) (by kernel_rfl) (by kernel_rfl))
theorem alT:Valid Tryz.prog G0 106 Ā:=ai Iw mixed ÿ aku Tryz.func106 (c:=body Tryz.f106) (by kernel_rfl) (by
 rintro l hp hf
 have h:=aiQ l hp hf
 with_reducible refine Eq.mp ?_ h
 kernel_rfl)
theorem Ix:ak Tryz.prog ā:=ak.cons Iw alT (aN.of Tryz.func106 (c:=body Tryz.f106) (by kernel_rfl) (by kernel_rfl))
theorem alU:Valid Tryz.prog G0 95 ă:=ai Ix mixed Ă akw Tryz.func95 (c:=body Tryz.f95) (by kernel_rfl) (by
 rintro l hp hf
 have h:=aiR l hp hf
 with_reducible refine Eq.mp ?_ h
 kernel_rfl)
theorem Iy:ak Tryz.prog Ą:=ak.cons Ix alU (aN.of Tryz.func95 (c:=body Tryz.f95) (by kernel_rfl) (by kernel_rfl))
theorem alV:Valid Tryz.prog G0 98 Ć:=ai Iy mixed ą aky Tryz.func98 (c:=body Tryz.f98) (by kernel_rfl) (by
 rintro l hp hf
 have h:=aiS l hp hf
 with_reducible refine Eq.mp ?_ h
 kernel_rfl)
theorem Iz:ak Tryz.prog ć:=ak.cons Iy alV (aN.of Tryz.func98 (c:=body Tryz.f98) (by kernel_rfl) (by kernel_rfl))
theorem alW:Valid Tryz.prog G0 110 ĉ:=ai Iz mixed Ĉ akA Tryz.func110 (c:=body Tryz.f110) (by kernel_rfl) (by
 rintro⟨a,b⟩ hp hf
 have h:=aiT a b hp hf
 with_reducible refine Eq.mp ?_ h
 kernel_rfl)
theorem IA:ak Tryz.prog Ċ:=ak.cons Iz alW (aN.of Tryz.func110 (c:=body Tryz.f110) (by kernel_rfl) (by kernel_rfl))
theorem alX:Valid Tryz.prog G0 109 Č:=ai IA mixed ċ akC Tryz.func109 (c:=body Tryz.f109) (by kernel_rfl) (by
 rintro⟨a1,a2,b1,b2⟩ hp hf
 have h:=aiU a1 a2 b1 b2 hp hf
 with_reducible refine Eq.mp ?_ h
 kernel_rfl)
theorem IB:ak Tryz.prog č:=ak.cons IA alX (aN.of Tryz.func109 (c:=body Tryz.f109) (by kernel_rfl) (by kernel_rfl))
theorem alY:bZ Tryz.prog G0 108 Đ:=dN IB mixed Ď ď akE Tryz.func108 (c:=body Tryz.f108) (by kernel_rfl) (by
 rintro⟨a,b⟩ ⟨⟩ hp hf hg
 have h:=aiV a b hp hf hg
 with_reducible refine Eq.mp ?_ h
 kernel_rfl)
theorem adI:bZ Tryz.prog G0 108 đ:=alY
theorem IC:ak Tryz.prog Ē:=ak.eQ IB adI (aN.of Tryz.func108 (c:=body Tryz.f108) (by kernel_rfl) (by kernel_rfl))
theorem alZ:Valid Tryz.prog G0 76 Ĕ:=ai IC mixed ē akG Tryz.func76 (c:=body Tryz.f76) (by kernel_rfl) (by
 rintro⟨a,b⟩ hp hf
 have h:=aiW a b hp hf
 with_reducible refine Eq.mp ?_ h
 kernel_rfl)
theorem ID:ak Tryz.prog ĕ:=ak.cons IC alZ (aN.of Tryz.func76 (c:=body Tryz.f76) (by kernel_rfl) (by kernel_rfl))
theorem al0:Valid Tryz.prog G0 37 ė:=ai ID mixed Ė akI Tryz.func37 (c:=body Tryz.f37) (by kernel_rfl) (by
 rintro⟨y1,y2⟩ hp hf
 have h:=aiX y1 y2 hp hf
 with_reducible refine Eq.mp ?_ h
 kernel_rfl)
theorem IE:ak Tryz.prog Ę:=ak.cons ID al0 (aN.of Tryz.func37 (c:=body Tryz.f37) (by kernel_rfl) (by kernel_rfl))
theorem al1:Valid Tryz.prog G0 100 Ě:=ai IE mixed ę akK Tryz.func100 (c:=body Tryz.f100) (by kernel_rfl) (by
 rintro⟨y1,y2⟩ hp hf
 have h:=aiY y1 y2 hp hf
 with_reducible refine Eq.mp ?_ h
 kernel_rfl)
theorem IF:ak Tryz.prog ě:=ak.cons IE al1 (aN.of Tryz.func100 (c:=body Tryz.f100) (by kernel_rfl) (by kernel_rfl))
theorem al2:Valid Tryz.prog G0 102 ĝ:=ai IF mixed Ĝ akM Tryz.func102 (c:=body Tryz.f102) (by kernel_rfl) (by
 rintro⟨y1,y2⟩ hp hf
 have h:=aiZ y1 y2 hp hf
 with_reducible refine Eq.mp ?_ h
 kernel_rfl)
theorem v8:ak Tryz.prog Pn:=ak.cons IF al2 (aN.of Tryz.func102 (c:=body Tryz.f102) (by kernel_rfl) (by kernel_rfl))
theorem al3:Valid Tryz.prog G0 101 ğ:=ai (E:=akP) {fB:=v8.fB,sig:=v8.sig,nV:=v8.nV} mixed Ğ akO Tryz.func101 (c:=body Tryz.f101) (by kernel_rfl) (by
 rintro⟨y1,y2⟩ hp hf
 have h:=ai0 y1 y2 hp hf
 with_reducible refine Eq.mp ?_ h
 kernel_rfl)
theorem IG:ak Tryz.prog Ġ:=ak.cons v8 al3 (aN.of Tryz.func101 (c:=body Tryz.f101) (by kernel_rfl) (by kernel_rfl))
theorem al4:Valid Tryz.prog G0 104 Ģ:=ai IG mixed ġ akR Tryz.func104 (c:=body Tryz.f104) (by kernel_rfl) (by
 rintro⟨l,i,m,s1,s2,s3⟩ hp hf
 have h:=ai1 l i m s1 s2 s3 hp hf
 with_reducible refine Eq.mp ?_ h
 kernel_rfl)
theorem IH:ak Tryz.prog ģ:=ak.cons IG al4 (aN.of Tryz.func104 (c:=body Tryz.f104) (by kernel_rfl) (by kernel_rfl))
theorem al5:Valid Tryz.prog G0 68 ĥ:=ai IH mixed Ĥ akT Tryz.func68 (c:=body Tryz.f68) (by kernel_rfl) (by
 rintro⟨y1,y2,d⟩ hp hf
 have h:=ai2 y1 y2 d hp hf
 with_reducible refine Eq.mp ?_ h
 kernel_rfl)
theorem II:ak Tryz.prog Ħ:=ak.cons IH al5 (aN.of Tryz.func68 (c:=body Tryz.f68) (by kernel_rfl) (by kernel_rfl))
theorem al6:Valid Tryz.prog G0 70 Ĩ:=ai II mixed ħ akV Tryz.func70 (c:=body Tryz.f70) (by kernel_rfl) (by
 rintro⟨y1,y2⟩ hp hf
 have h:=ai3 y1 y2 hp hf
 with_reducible refine Eq.mp ?_ h
 kernel_rfl)
theorem IJ:ak Tryz.prog ĩ:=ak.cons II al6 (aN.of Tryz.func70 (c:=body Tryz.f70) (by kernel_rfl) (by kernel_rfl))
theorem al7:Valid Tryz.prog G0 72 ī:=ai IJ mixed Ī akX Tryz.func72 (c:=body Tryz.f72) (by kernel_rfl) (by
 rintro⟨y1,y2,i,m⟩ hp hf
 have h:=ai4 y1 y2 i m hp hf
 with_reducible refine Eq.mp ?_ h
 kernel_rfl)
theorem IK:ak Tryz.prog Ĭ:=ak.cons IJ al7 (aN.of Tryz.func72 (c:=body Tryz.f72) (by kernel_rfl) (by kernel_rfl))
theorem al8:Valid Tryz.prog G0 74 Į:=ai IK mixed ĭ akZ Tryz.func74 (c:=body Tryz.f74) (by kernel_rfl) (by
 rintro⟨y1,y2⟩ hp hf
 have h:=ai5 y1 y2 hp hf
 with_reducible refine Eq.mp ?_ h
 kernel_rfl)
theorem IL:ak Tryz.prog į:=ak.cons IK al8 (aN.of Tryz.func74 (c:=body Tryz.f74) (by kernel_rfl) (by kernel_rfl))
theorem adJ:Valid Tryz.prog G0 92 Q8:=ai IL mixed Q7 abN Tryz.func92 (c:=body Tryz.f92) (by kernel_rfl) (by
 rintro b hp hf
 have h:=aa1 b hp hf
 with_reducible refine Eq.mp ?_ h
 kernel_rfl)
theorem Fu:ak Tryz.prog Q9:=ak.cons IL adJ (aN.of Tryz.func92 (c:=body Tryz.f92) (by kernel_rfl) (by kernel_rfl))
theorem adK:Valid Tryz.prog G0 66 Rb:=ai Fu mixed Ra abP Tryz.func66 (c:=body Tryz.f66) (by kernel_rfl) (by
 rintro n hp hf
 have h:=aa2 n hp hf
 with_reducible refine Eq.mp ?_ h
 kernel_rfl)
theorem Fv:ak Tryz.prog Rc:=ak.cons Fu adK (aN.of Tryz.func66 (c:=body Tryz.f66) (by kernel_rfl) (by kernel_rfl))
theorem adL:Valid Tryz.prog G0 62 Rf:=ai Fv mixed Re abR Tryz.func62 (c:=body Tryz.f62) (by kernel_rfl) (by
 rintro⟨d1,d2⟩ hp hf
 have h:=aa3 d1 d2 hp hf
 with_reducible refine Eq.mp ?_ h
 kernel_rfl)
theorem Fw:ak Tryz.prog Rg:=ak.cons Fv adL (aN.of Tryz.func62 (c:=body Tryz.f62) (by kernel_rfl) (by kernel_rfl))
theorem adM:Valid Tryz.prog G0 50 Ri:=ai Fw mixed Rh abT Tryz.func50 (c:=body Tryz.f50) (by kernel_rfl) (by
 rintro⟨d1,d2⟩ hp hf
 have h:=aa4 d1 d2 hp hf
 with_reducible refine Eq.mp ?_ h
 kernel_rfl)
theorem Fx:ak Tryz.prog Rj:=ak.cons Fw adM (aN.of Tryz.func50 (c:=body Tryz.f50) (by kernel_rfl) (by kernel_rfl))
theorem adN:Valid Tryz.prog G0 61 Rl:=ai Fx mixed Rk abV Tryz.func61 (c:=body Tryz.f61) (by kernel_rfl) (by
 rintro⟨d1,d2⟩ hp hf
 have h:=aa5 d1 d2 hp hf
 with_reducible refine Eq.mp ?_ h
 kernel_rfl)
theorem Fy:ak Tryz.prog Rm:=ak.cons Fx adN (aN.of Tryz.func61 (c:=body Tryz.f61) (by kernel_rfl) (by kernel_rfl))
theorem adO:Valid Tryz.prog G0 51 Ro:=ai Fy mixed Rn abX Tryz.func51 (c:=body Tryz.f51) (by kernel_rfl) (by
 rintro⟨d1,d2⟩ hp hf
 have h:=aa6 d1 d2 hp hf
 with_reducible refine Eq.mp ?_ h
 kernel_rfl)
theorem Fz:ak Tryz.prog Rp:=ak.cons Fy adO (aN.of Tryz.func51 (c:=body Tryz.f51) (by kernel_rfl) (by kernel_rfl))
theorem adP:Valid Tryz.prog G0 35 Rr:=ai Fz mixed Rq abZ Tryz.func35 (c:=body Tryz.f35) (by kernel_rfl) (by
 rintro n hp hf
 have h:=aa7 n hp hf
 with_reducible refine Eq.mp ?_ h
 kernel_rfl)
theorem FA:ak Tryz.prog Rs:=ak.cons Fz adP (aN.of Tryz.func35 (c:=body Tryz.f35) (by kernel_rfl) (by kernel_rfl))
theorem adQ:Valid Tryz.prog G0 86 Ru:=ai FA mixed Rt ab2 Tryz.func86 (c:=body Tryz.f86) (by kernel_rfl) (by
 rintro⟨d1,d2,i⟩ hp hf
 have h:=aa8 d1 d2 i hp hf
 with_reducible refine Eq.mp ?_ h
 kernel_rfl)
theorem FB:ak Tryz.prog Rv:=ak.cons FA adQ (aN.of Tryz.func86 (c:=body Tryz.f86) (by kernel_rfl) (by kernel_rfl))
theorem adR:Valid Tryz.prog G0 60 Rx:=ai FB mixed Rw ab4 Tryz.func60 (c:=body Tryz.f60) (by kernel_rfl) (by
 rintro⟨d1,d2,i,b⟩ hp hf
 have h:=aa9 d1 d2 i b hp hf
 with_reducible refine Eq.mp ?_ h
 kernel_rfl)
theorem FC:ak Tryz.prog Ry:=ak.cons FB adR (aN.of Tryz.func60 (c:=body Tryz.f60) (by kernel_rfl) (by kernel_rfl))
theorem adS:Valid Tryz.prog G0 59 RA:=ai FC mixed Rz ab6 Tryz.func59 (c:=body Tryz.f59) (by kernel_rfl) (by
 rintro⟨d1,d2⟩ hp hf
 have h:=aba d1 d2 hp hf
 with_reducible refine Eq.mp ?_ h
 kernel_rfl)
theorem FD:ak Tryz.prog RB:=ak.cons FC adS (aN.of Tryz.func59 (c:=body Tryz.f59) (by kernel_rfl) (by kernel_rfl))
theorem adT:Valid Tryz.prog G0 23 RD:=ai FD mixed RC ab8 Tryz.func23 (c:=body Tryz.f23) (by kernel_rfl) (by
 rintro⟨d1,d2,keep⟩ hp hf
 have h:=abb d1 d2 keep hp hf
 with_reducible refine Eq.mp ?_ h
 kernel_rfl)
theorem FE:ak Tryz.prog RE:=ak.cons FD adT (aN.of Tryz.func23 (c:=body Tryz.f23) (by kernel_rfl) (by kernel_rfl))
theorem adU:Valid Tryz.prog G0 117 RG:=ai FE mixed RF aca Tryz.func117 (c:=body Tryz.f117) (by kernel_rfl) (by
 rintro⟨a,b⟩ hp hf
 have h:=abc a b hp hf
 with_reducible refine Eq.mp ?_ h
 kernel_rfl)
end Go.J

end
