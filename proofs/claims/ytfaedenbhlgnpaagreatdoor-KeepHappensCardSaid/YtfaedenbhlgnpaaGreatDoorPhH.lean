import Derived.Test.YtfaedenbhlgnpaaGreatDoorPhG
set_option linter.unusedVariables false
set_option linter.unusedSimpArgs false
section
set_option linter.unusedVariables false
set_option maxHeartbeats 0
set_option maxRecDepth 100000
namespace Go.J
open Go.Proofs
open Go Vg
theorem IQ:ai Tryz.prog Ş:=ai.cons IP aqA (aD.of Tryz.func145 (c:=body Tryz.f145) (by kernel_rfl) (by kernel_rfl))
theorem aqB:cH Tryz.prog G0 148 š:=fa IQ mixed ş Š an5 Tryz.func148 (c:=body Tryz.f148) (by kernel_rfl) (by
 rintro⟨n,p,q⟩ ⟨⟨s1,s2⟩,⟨⟩⟩ hp hf hg;have h:=alW n p q s1 s2 hp hf hg;with_reducible refine Eq.mp ?_ h
 kernel_rfl)
theorem ag0:cH Tryz.prog G0 148 Ţ:=aqB
theorem IS:ai Tryz.prog ţ:=ai.gm IQ ag0 (aD.of Tryz.func148 (c:=body Tryz.f148) (by kernel_rfl) (by kernel_rfl))
theorem aqC:cH Tryz.prog G0 147 Ŧ:=fa IS mixed Ť ť an7 Tryz.func147 (c:=body Tryz.f147) (by kernel_rfl) (by
 rintro⟨a,b⟩ ⟨⟨s1,s2⟩,⟨⟩⟩ hp hf hg;have h:=alX a b s1 s2 hp hf hg;with_reducible refine Eq.mp ?_ h
 kernel_rfl)
theorem ag1:cH Tryz.prog G0 147 ŧ:=aqC
theorem IT:ai Tryz.prog Ũ:=ai.gm IS ag1 (aD.of Tryz.func147 (c:=body Tryz.f147) (by kernel_rfl) (by kernel_rfl))
theorem aqD:Valid Tryz.prog G0 134 Ū:=ag IT mixed ũ an9 Tryz.func134 (c:=body Tryz.f134) (by kernel_rfl) (by
 rintro⟨l,s1,s2⟩ hp hf;have h:=alY l s1 s2 hp hf;with_reducible refine Eq.mp ?_ h
 kernel_rfl)
theorem IU:ai Tryz.prog ū:=ai.cons IT aqD (aD.of Tryz.func134 (c:=body Tryz.f134) (by kernel_rfl) (by kernel_rfl))
theorem aqE:Valid Tryz.prog G0 115 ŭ:=ag IU mixed Ŭ aob Tryz.func115 (c:=body Tryz.f115) (by kernel_rfl) (by
 rintro⟨a,b⟩ hp hf;have h:=alZ a b hp hf;with_reducible refine Eq.mp ?_ h
 kernel_rfl)
theorem IV:ai Tryz.prog Ů:=ai.cons IU aqE (aD.of Tryz.func115 (c:=body Tryz.f115) (by kernel_rfl) (by kernel_rfl))
theorem aqF:Valid Tryz.prog G0 133 Ű:=ag IV mixed ů aod Tryz.func133 (c:=body Tryz.f133) (by kernel_rfl) (by
 rintro d hp hf;have h:=al0 d hp hf;with_reducible refine Eq.mp ?_ h
 kernel_rfl)
theorem Wb:ai Tryz.prog ű:=ai.cons IV aqF (aD.of Tryz.func133 (c:=body Tryz.f133) (by kernel_rfl) (by kernel_rfl))
theorem aqG:Valid Tryz.prog G0 107 Ų:=Go.DM.Nz acx (fun _=>rfl) (fun _ _ _=>rfl)
theorem IW:ai Tryz.prog ų:=ai.cons Wb aqG (aD.of Tryz.func107 (c:=body Tryz.f107) (by kernel_rfl) (by kernel_rfl))
theorem aqH:Valid Tryz.prog G0 113 ŵ:=ag IW mixed Ŵ aoh Tryz.func113 (c:=body Tryz.f113) (by kernel_rfl) (by
 rintro⟨docs,s1,s2⟩ hp hf;have h:=al1 docs s1 s2 hp hf;with_reducible refine Eq.mp ?_ h
 kernel_rfl)
theorem IX:ai Tryz.prog Ŷ:=ai.cons IW aqH (aD.of Tryz.func113 (c:=body Tryz.f113) (by kernel_rfl) (by kernel_rfl))
theorem aqI:Valid Tryz.prog G0 143 Ÿ:=ag IX mixed ŷ aoj Tryz.func143 (c:=body Tryz.f143) (by kernel_rfl) (by
 rintro⟨b,t⟩ hp hf;have h:=al2 b t hp hf;with_reducible refine Eq.mp ?_ h
 kernel_rfl)
theorem IY:ai Tryz.prog Ź:=ai.cons IX aqI (aD.of Tryz.func143 (c:=body Tryz.f143) (by kernel_rfl) (by kernel_rfl))
theorem aqJ:Valid Tryz.prog G0 85 Ż:=ag IY mixed ź aol Tryz.func85 (c:=body Tryz.f85) (by kernel_rfl) (by
 rintro⟨a,b⟩ hp hf;have h:=al3 a b hp hf;with_reducible refine Eq.mp ?_ h
 kernel_rfl)
theorem IZ:ai Tryz.prog ż:=ai.cons IY aqJ (aD.of Tryz.func85 (c:=body Tryz.f85) (by kernel_rfl) (by kernel_rfl))
theorem aqK:Valid Tryz.prog G0 32 ž:=ag IZ mixed Ž aon Tryz.func32 (c:=body Tryz.f32) (by kernel_rfl) (by
 rintro⟨a,b⟩ hp hf;have h:=al4 a b hp hf;with_reducible refine Eq.mp ?_ h
 kernel_rfl)
theorem I0:ai Tryz.prog ſ:=ai.cons IZ aqK (aD.of Tryz.func32 (c:=body Tryz.f32) (by kernel_rfl) (by kernel_rfl))
theorem aqL:Valid Tryz.prog G0 129 aab:=ag I0 mixed aaa aop Tryz.func129 (c:=body Tryz.f129) (by kernel_rfl) (by
 rintro⟨docs,s1,s2⟩ hp hf;have h:=al5 docs s1 s2 hp hf;with_reducible refine Eq.mp ?_ h
 kernel_rfl)
theorem I1:ai Tryz.prog aac:=ai.cons I0 aqL (aD.of Tryz.func129 (c:=body Tryz.f129) (by kernel_rfl) (by kernel_rfl))
theorem aqM:Valid Tryz.prog G0 132 aae:=ag I1 mixed aad aor Tryz.func132 (c:=body Tryz.f132) (by kernel_rfl) (by
 rintro⟨s1,s2⟩ hp hf;have h:=al6 s1 s2 hp hf;with_reducible refine Eq.mp ?_ h
 kernel_rfl)
theorem I2:ai Tryz.prog aaf:=ai.cons I1 aqM (aD.of Tryz.func132 (c:=body Tryz.f132) (by kernel_rfl) (by kernel_rfl))
theorem aqN:Valid Tryz.prog G0 123 aah:=ag I2 mixed aag aot Tryz.func123 (c:=body Tryz.f123) (by kernel_rfl) (by
 rintro⟨s1,s2,s3⟩ hp hf;have h:=al7 s1 s2 s3 hp hf;with_reducible refine Eq.mp ?_ h
 kernel_rfl)
theorem I3:ai Tryz.prog aai:=ai.cons I2 aqN (aD.of Tryz.func123 (c:=body Tryz.f123) (by kernel_rfl) (by kernel_rfl))
theorem aqO:Valid Tryz.prog G0 75 aak:=ag I3 mixed aaj aov Tryz.func75 (c:=body Tryz.f75) (by kernel_rfl) (by
 rintro⟨docs,s1,s2⟩ hp hf;have h:=al8 docs s1 s2 hp hf;with_reducible refine Eq.mp ?_ h
 kernel_rfl)
theorem I4:ai Tryz.prog aal:=ai.cons I3 aqO (aD.of Tryz.func75 (c:=body Tryz.f75) (by kernel_rfl) (by kernel_rfl))
theorem aqP:Valid Tryz.prog G0 114 aan:=ag I4 mixed aam aox Tryz.func114 (c:=body Tryz.f114) (by kernel_rfl) (by
 rintro⟨docs,s1,s2⟩ hp hf;have h:=al9 docs s1 s2 hp hf;with_reducible refine Eq.mp ?_ h
 kernel_rfl)
theorem I5:ai Tryz.prog aao:=ai.cons I4 aqP (aD.of Tryz.func114 (c:=body Tryz.f114) (by kernel_rfl) (by kernel_rfl))
theorem aqQ:Valid Tryz.prog G0 111 aaq:=ag I5 mixed aap aoz Tryz.func111 (c:=body Tryz.f111) (by kernel_rfl) (by
 rintro⟨docs,s1,s2⟩ hp hf;have h:=ama docs s1 s2 hp hf;with_reducible refine Eq.mp ?_ h
 kernel_rfl)
theorem I6:ai Tryz.prog aar:=ai.cons I5 aqQ (aD.of Tryz.func111 (c:=body Tryz.f111) (by kernel_rfl) (by kernel_rfl))
theorem aqR:Valid Tryz.prog G0 46 aat:=ag I6 mixed aas aoB Tryz.func46 (c:=body Tryz.f46) (by kernel_rfl) (by
 rintro⟨a1,a2,a3,b1,b2,b3⟩ hp hf;have h:=amb a1 a2 a3 b1 b2 b3 hp hf;with_reducible refine Eq.mp ?_ h
 kernel_rfl)
theorem I7:ai Tryz.prog aau:=ai.cons I6 aqR (aD.of Tryz.func46 (c:=body Tryz.f46) (by kernel_rfl) (by kernel_rfl))
theorem aqS:Valid Tryz.prog G0 33 aaw:=ag I7 mixed aav aoD Tryz.func33 (c:=body Tryz.f33) (by kernel_rfl) (by
 rintro d hp hf;have h:=amc d hp hf;with_reducible refine Eq.mp ?_ h
 kernel_rfl)
theorem I8:ai Tryz.prog aax:=ai.cons I7 aqS (aD.of Tryz.func33 (c:=body Tryz.f33) (by kernel_rfl) (by kernel_rfl))
theorem aqT:Valid Tryz.prog G0 34 aaz:=ag I8 mixed aay aoF Tryz.func34 (c:=body Tryz.f34) (by kernel_rfl) (by
 rintro docs hp hf;have h:=amd docs hp hf;with_reducible refine Eq.mp ?_ h
 kernel_rfl)
theorem I9:ai Tryz.prog aaA:=ai.cons I8 aqT (aD.of Tryz.func34 (c:=body Tryz.f34) (by kernel_rfl) (by kernel_rfl))
theorem aqU:Valid Tryz.prog G0 43 aaC:=ag I9 mixed aaB aoH Tryz.func43 (c:=body Tryz.f43) (by kernel_rfl) (by
 rintro⟨s1,s2,s3⟩ hp hf;have h:=ame s1 s2 s3 hp hf;with_reducible refine Eq.mp ?_ h
 kernel_rfl)
theorem Ja:ai Tryz.prog aaD:=ai.cons I9 aqU (aD.of Tryz.func43 (c:=body Tryz.f43) (by kernel_rfl) (by kernel_rfl))
theorem aqV:Valid Tryz.prog G0 124 aaF:=ag Ja mixed aaE aoJ Tryz.func124 (c:=body Tryz.f124) (by kernel_rfl) (by
 rintro l hp hf;have h:=amf l hp hf;with_reducible refine Eq.mp ?_ h
 kernel_rfl)
theorem Jb:ai Tryz.prog aaG:=ai.cons Ja aqV (aD.of Tryz.func124 (c:=body Tryz.f124) (by kernel_rfl) (by kernel_rfl))
theorem aqW:Valid Tryz.prog G0 103 aaI:=ag Jb mixed aaH aoL Tryz.func103 (c:=body Tryz.f103) (by kernel_rfl) (by
 rintro l hp hf;have h:=amg l hp hf;with_reducible refine Eq.mp ?_ h
 kernel_rfl)
theorem Jc:ai Tryz.prog aaJ:=ai.cons Jb aqW (aD.of Tryz.func103 (c:=body Tryz.f103) (by kernel_rfl) (by kernel_rfl))
theorem aqX:Valid Tryz.prog G0 125 aaL:=ag Jc mixed aaK aoN Tryz.func125 (c:=body Tryz.f125) (by kernel_rfl) (by
 rintro⟨s1,s2⟩ hp hf;have h:=amh s1 s2 hp hf;with_reducible refine Eq.mp ?_ h
 kernel_rfl)
theorem Jd:ai Tryz.prog aaM:=ai.cons Jc aqX (aD.of Tryz.func125 (c:=body Tryz.f125) (by kernel_rfl) (by kernel_rfl))
theorem aqY:Valid Tryz.prog G0 105 aaO:=ag Jd mixed aaN aoP Tryz.func105 (c:=body Tryz.f105) (by kernel_rfl) (by
 rintro l hp hf;have h:=ami l hp hf;with_reducible refine Eq.mp ?_ h
 kernel_rfl)
theorem Je:ai Tryz.prog aaP:=ai.cons Jd aqY (aD.of Tryz.func105 (c:=body Tryz.f105) (by kernel_rfl) (by kernel_rfl))
theorem aqZ:Valid Tryz.prog G0 106 aaR:=ag Je mixed aaQ aoR Tryz.func106 (c:=body Tryz.f106) (by kernel_rfl) (by
 rintro l hp hf;have h:=amj l hp hf;with_reducible refine Eq.mp ?_ h
 kernel_rfl)
theorem Jf:ai Tryz.prog P2:=ai.cons Je aqZ (aD.of Tryz.func106 (c:=body Tryz.f106) (by kernel_rfl) (by kernel_rfl))
theorem aq0:Valid Tryz.prog G0 144 aaU:=xL KZ aaT fun m ih=>ag (E:=aoT m) (ai.cons Jf ih (aD.of Tryz.func144 (c:=body Tryz.f144) (by kernel_rfl) (by kernel_rfl))) mixed KZ aoS Tryz.func144 (c:=body Tryz.f144) (by kernel_rfl) (by
 rintro n hp hf;have h:=amk m n hp.1 hp.2 hf;with_reducible refine Eq.mp ?_ h
 kernel_rfl)
theorem Jg:ai Tryz.prog aaV:=ai.cons Jf aq0 (aD.of Tryz.func144 (c:=body Tryz.f144) (by kernel_rfl) (by kernel_rfl))
theorem aq1:Valid Tryz.prog G0 130 aaX:=ag Jg mixed aaW aoV Tryz.func130 (c:=body Tryz.f130) (by kernel_rfl) (by
 rintro⟨s1,s2⟩ hp hf;have h:=aml s1 s2 hp hf;with_reducible refine Eq.mp ?_ h
 kernel_rfl)
theorem Jh:ai Tryz.prog aaY:=ai.cons Jg aq1 (aD.of Tryz.func130 (c:=body Tryz.f130) (by kernel_rfl) (by kernel_rfl))
theorem aq2:Valid Tryz.prog G0 112 aa0:=ag Jh mixed aaZ aoX Tryz.func112 (c:=body Tryz.f112) (by kernel_rfl) (by
 rintro l hp hf;have h:=amm l hp hf;with_reducible refine Eq.mp ?_ h
 kernel_rfl)
theorem Ji:ai Tryz.prog P3:=ai.cons Jh aq2 (aD.of Tryz.func112 (c:=body Tryz.f112) (by kernel_rfl) (by kernel_rfl))
theorem aq3:Valid Tryz.prog G0 80 aa3:=xL K1 aa2 fun m ih=>ag (E:=aoZ m) (ai.cons Ji ih (aD.of Tryz.func80 (c:=body Tryz.f80) (by kernel_rfl) (by kernel_rfl))) mixed K1 aoY Tryz.func80 (c:=body Tryz.f80) (by kernel_rfl) (by
 rintro l hp hf;have h:=amn m l hp.1 hp.2 hf;with_reducible refine Eq.mp ?_ h
 kernel_rfl)
theorem Jj:ai Tryz.prog aa4:=ai.cons Ji aq3 (aD.of Tryz.func80 (c:=body Tryz.f80) (by kernel_rfl) (by kernel_rfl))
theorem aq4:Valid Tryz.prog G0 95 aa6:=ag Jj mixed aa5 ao1 Tryz.func95 (c:=body Tryz.f95) (by kernel_rfl) (by
 rintro l hp hf;have h:=amo l hp hf;with_reducible refine Eq.mp ?_ h
 kernel_rfl)
theorem Jk:ai Tryz.prog aa7:=ai.cons Jj aq4 (aD.of Tryz.func95 (c:=body Tryz.f95) (by kernel_rfl) (by kernel_rfl))
theorem aq5:Valid Tryz.prog G0 98 aa9:=ag Jk mixed aa8 ao3 Tryz.func98 (c:=body Tryz.f98) (by kernel_rfl) (by
 rintro l hp hf;have h:=amp l hp hf;with_reducible refine Eq.mp ?_ h
 kernel_rfl)
theorem Jl:ai Tryz.prog aba:=ai.cons Jk aq5 (aD.of Tryz.func98 (c:=body Tryz.f98) (by kernel_rfl) (by kernel_rfl))
theorem aq6:Valid Tryz.prog G0 110 abc:=ag Jl mixed abb ao5 Tryz.func110 (c:=body Tryz.f110) (by kernel_rfl) (by
 rintro⟨a,b⟩ hp hf;have h:=amq a b hp hf;with_reducible refine Eq.mp ?_ h
 kernel_rfl)
theorem Jm:ai Tryz.prog abd:=ai.cons Jl aq6 (aD.of Tryz.func110 (c:=body Tryz.f110) (by kernel_rfl) (by kernel_rfl))
theorem aq7:Valid Tryz.prog G0 109 abf:=ag Jm mixed abe ao7 Tryz.func109 (c:=body Tryz.f109) (by kernel_rfl) (by
 rintro⟨a1,a2,b1,b2⟩ hp hf;have h:=amr a1 a2 b1 b2 hp hf;with_reducible refine Eq.mp ?_ h
 kernel_rfl)
theorem Jn:ai Tryz.prog abg:=ai.cons Jm aq7 (aD.of Tryz.func109 (c:=body Tryz.f109) (by kernel_rfl) (by kernel_rfl))
theorem aq8:cH Tryz.prog G0 108 abj:=fa Jn mixed abh abi ao9 Tryz.func108 (c:=body Tryz.f108) (by kernel_rfl) (by
 rintro⟨a,b⟩ ⟨⟩ hp hf hg;have h:=ams a b hp hf hg;with_reducible refine Eq.mp ?_ h
 kernel_rfl)
theorem ag2:cH Tryz.prog G0 108 abk:=aq8
theorem Jo:ai Tryz.prog abl:=ai.gm Jn ag2 (aD.of Tryz.func108 (c:=body Tryz.f108) (by kernel_rfl) (by kernel_rfl))
theorem aq9:Valid Tryz.prog G0 76 abo:=ag Jo mixed abn apb Tryz.func76 (c:=body Tryz.f76) (by kernel_rfl) (by
 rintro⟨a,b⟩ hp hf;have h:=amt a b hp hf;with_reducible refine Eq.mp ?_ h
 kernel_rfl)
theorem Jp:ai Tryz.prog abp:=ai.cons Jo aq9 (aD.of Tryz.func76 (c:=body Tryz.f76) (by kernel_rfl) (by kernel_rfl))
theorem ara:Valid Tryz.prog G0 37 abr:=ag Jp mixed abq apd Tryz.func37 (c:=body Tryz.f37) (by kernel_rfl) (by
 rintro⟨y1,y2⟩ hp hf;have h:=amu y1 y2 hp hf;with_reducible refine Eq.mp ?_ h
 kernel_rfl)
theorem Jq:ai Tryz.prog abt:=ai.cons Jp ara (aD.of Tryz.func37 (c:=body Tryz.f37) (by kernel_rfl) (by kernel_rfl))
theorem arb:Valid Tryz.prog G0 100 abv:=ag Jq mixed abu apf Tryz.func100 (c:=body Tryz.f100) (by kernel_rfl) (by
 rintro⟨y1,y2⟩ hp hf;have h:=amv y1 y2 hp hf;with_reducible refine Eq.mp ?_ h
 kernel_rfl)
theorem Jr:ai Tryz.prog abw:=ai.cons Jq arb (aD.of Tryz.func100 (c:=body Tryz.f100) (by kernel_rfl) (by kernel_rfl))
theorem arc:Valid Tryz.prog G0 102 aby:=ag Jr mixed abx aph Tryz.func102 (c:=body Tryz.f102) (by kernel_rfl) (by
 rintro⟨y1,y2⟩ hp hf;have h:=amw y1 y2 hp hf;with_reducible refine Eq.mp ?_ h
 kernel_rfl)
theorem wm:ai Tryz.prog P4:=ai.cons Jr arc (aD.of Tryz.func102 (c:=body Tryz.f102) (by kernel_rfl) (by kernel_rfl))
theorem ard:Valid Tryz.prog G0 101 abA:=ag (E:=apk) {fK:=wm.fK,sig:=wm.sig,oh:=wm.oh} mixed abz apj Tryz.func101 (c:=body Tryz.f101) (by kernel_rfl) (by
 rintro⟨y1,y2⟩ hp hf;have h:=amx y1 y2 hp hf;with_reducible refine Eq.mp ?_ h
 kernel_rfl)
theorem Js:ai Tryz.prog abB:=ai.cons wm ard (aD.of Tryz.func101 (c:=body Tryz.f101) (by kernel_rfl) (by kernel_rfl))
theorem are:Valid Tryz.prog G0 104 abD:=ag Js mixed abC apm Tryz.func104 (c:=body Tryz.f104) (by kernel_rfl) (by
 rintro⟨l,i,m,s1,s2,s3⟩ hp hf;have h:=amy l i m s1 s2 s3 hp hf;with_reducible refine Eq.mp ?_ h
 kernel_rfl)
theorem Jt:ai Tryz.prog abE:=ai.cons Js are (aD.of Tryz.func104 (c:=body Tryz.f104) (by kernel_rfl) (by kernel_rfl))
theorem arf:Valid Tryz.prog G0 68 abG:=ag Jt mixed abF apo Tryz.func68 (c:=body Tryz.f68) (by kernel_rfl) (by
 rintro⟨y1,y2,d⟩ hp hf;have h:=amz y1 y2 d hp hf;with_reducible refine Eq.mp ?_ h
 kernel_rfl)
theorem Ju:ai Tryz.prog abH:=ai.cons Jt arf (aD.of Tryz.func68 (c:=body Tryz.f68) (by kernel_rfl) (by kernel_rfl))
theorem arh:Valid Tryz.prog G0 70 abJ:=ag Ju mixed abI apr Tryz.func70 (c:=body Tryz.f70) (by kernel_rfl) (by
 rintro⟨y1,y2⟩ hp hf;have h:=amA y1 y2 hp hf;with_reducible refine Eq.mp ?_ h
 kernel_rfl)
theorem Jv:ai Tryz.prog abK:=ai.cons Ju arh (aD.of Tryz.func70 (c:=body Tryz.f70) (by kernel_rfl) (by kernel_rfl))
theorem ari:Valid Tryz.prog G0 72 abM:=ag Jv mixed abL apt Tryz.func72 (c:=body Tryz.f72) (by kernel_rfl) (by
 rintro⟨y1,y2,i,m⟩ hp hf;have h:=amB y1 y2 i m hp hf;with_reducible refine Eq.mp ?_ h
 kernel_rfl)
theorem Jw:ai Tryz.prog abN:=ai.cons Jv ari (aD.of Tryz.func72 (c:=body Tryz.f72) (by kernel_rfl) (by kernel_rfl))
theorem arj:Valid Tryz.prog G0 74 abP:=ag Jw mixed abO apv Tryz.func74 (c:=body Tryz.f74) (by kernel_rfl) (by
 rintro⟨y1,y2⟩ hp hf;have h:=amC y1 y2 hp hf;with_reducible refine Eq.mp ?_ h
 kernel_rfl)
theorem Jx:ai Tryz.prog abQ:=ai.cons Jw arj (aD.of Tryz.func74 (c:=body Tryz.f74) (by kernel_rfl) (by kernel_rfl))
theorem ark:Valid Tryz.prog G0 81 abS:=ag Jx mixed abR apx Tryz.func81 (c:=body Tryz.f81) (by kernel_rfl) (by
 rintro⟨y1,y2⟩ hp hf;have h:=amD y1 y2 hp hf;with_reducible refine Eq.mp ?_ h
 kernel_rfl)
theorem Jy:ai Tryz.prog abT:=ai.cons Jx ark (aD.of Tryz.func81 (c:=body Tryz.f81) (by kernel_rfl) (by kernel_rfl))
theorem arl:Valid Tryz.prog G0 42 abV:=ag Jy mixed abU apz Tryz.func42 (c:=body Tryz.f42) (by kernel_rfl) (by
 rintro⟨y1,y2⟩ hp hf;have h:=amE y1 y2 hp hf;with_reducible refine Eq.mp ?_ h
 kernel_rfl)
theorem Jz:ai Tryz.prog abW:=ai.cons Jy arl (aD.of Tryz.func42 (c:=body Tryz.f42) (by kernel_rfl) (by kernel_rfl))
theorem arn:Valid Tryz.prog G0 77 abY:=ag Jz mixed abX apB Tryz.func77 (c:=body Tryz.f77) (by kernel_rfl) (by
 rintro⟨y1,y2⟩ hp hf;have h:=amF y1 y2 hp hf;with_reducible refine Eq.mp ?_ h
 kernel_rfl)
theorem JA:ai Tryz.prog abZ:=ai.cons Jz arn (aD.of Tryz.func77 (c:=body Tryz.f77) (by kernel_rfl) (by kernel_rfl))
end Go.J

end
