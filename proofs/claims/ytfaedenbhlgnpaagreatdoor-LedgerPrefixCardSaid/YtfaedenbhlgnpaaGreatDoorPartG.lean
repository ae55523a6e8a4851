import Derived.Test.YtfaedenbhlgnpaaGreatDoorPartF
set_option linter.unusedVariables false
set_option linter.unusedSimpArgs false
section
set_option linter.unusedVariables false
set_option maxHeartbeats 0
set_option maxRecDepth 100000
namespace Go.J
open Go.Proofs
open Go Vg
theorem mixed:Tryz.prog.follows .mixedOrders=true :=by kernel_rfl
theorem Ń:ak Tryz.prog E0:=ak.none G0 (bt.of Ql)
theorem aoG:Valid Tryz.prog G0 83 afv:=ai Ń mixed afu an4 Tryz.func83 (c:=body Tryz.f83) (by kernel_rfl) (by
 rintro b hp hf
 have h:=anN b hp hf
 with_reducible refine Eq.mp ?_ h
 kernel_rfl)
theorem MP:ak Tryz.prog afw:=ak.cons Ń aoG (aN.of Tryz.func83 (c:=body Tryz.f83) (by kernel_rfl) (by kernel_rfl))
theorem aoH:bZ Tryz.prog G0 82 afz:=dN MP mixed afx afy an6 Tryz.func82 (c:=body Tryz.f82) (by kernel_rfl) (by
 rintro v ⟨l,⟨⟩⟩ hp hf hg
 have h:=anO v l hp hf hg
 with_reducible refine Eq.mp ?_ h
 kernel_rfl)
theorem ale:bZ Tryz.prog G0 82 afA:=aoH
theorem MQ:ak Tryz.prog afB:=ak.eQ MP ale (aN.of Tryz.func82 (c:=body Tryz.f82) (by kernel_rfl) (by kernel_rfl))
theorem aoI:bZ Tryz.prog G0 84 afE:=dN MQ mixed afC afD an8 Tryz.func84 (c:=body Tryz.f84) (by kernel_rfl) (by
 rintro s ⟨l,⟨⟩⟩ hp hf hg
 have h:=anQ s l hp hf hg
 with_reducible refine Eq.mp ?_ h
 kernel_rfl)
theorem alf:bZ Tryz.prog G0 84 afF:=aoI
theorem MR:ak Tryz.prog afG:=ak.eQ MQ alf (aN.of Tryz.func84 (c:=body Tryz.f84) (by kernel_rfl) (by kernel_rfl))
theorem aoJ:Valid Tryz.prog G0 44 afI:=ai MR mixed afH aoa Tryz.func44 (c:=body Tryz.f44) (by kernel_rfl) (by
 rintro⟨b,v⟩ hp hf
 have h:=anR b v hp hf
 with_reducible refine Eq.mp ?_ h
 kernel_rfl)
theorem MS:ak Tryz.prog afJ:=ak.cons MR aoJ (aN.of Tryz.func44 (c:=body Tryz.f44) (by kernel_rfl) (by kernel_rfl))
theorem aoK:Valid Tryz.prog G0 45 afL:=ai MS mixed afK aoc Tryz.func45 (c:=body Tryz.f45) (by kernel_rfl) (by
 rintro⟨b,s⟩ hp hf
 have h:=anS b s hp hf
 with_reducible refine Eq.mp ?_ h
 kernel_rfl)
theorem MT:ak Tryz.prog afM:=ak.cons MS aoK (aN.of Tryz.func45 (c:=body Tryz.f45) (by kernel_rfl) (by kernel_rfl))
theorem aoL:Valid Tryz.prog G0 131 afO:=ai MT mixed afN aoe Tryz.func131 (c:=body Tryz.f131) (by kernel_rfl) (by
 rintro⟨r1,r2,r3⟩ hp hf
 have h:=anT r1 r2 r3 hp hf
 with_reducible refine Eq.mp ?_ h
 kernel_rfl)
theorem MU:ak Tryz.prog afP:=ak.cons MT aoL (aN.of Tryz.func131 (c:=body Tryz.f131) (by kernel_rfl) (by kernel_rfl))
theorem aoM:Valid Tryz.prog G0 118 afR:=ai MU mixed afQ aog Tryz.func118 (c:=body Tryz.f118) (by kernel_rfl) (by
 rintro⟨r1,r2,r3⟩ hp hf
 have h:=anU r1 r2 r3 hp hf
 with_reducible refine Eq.mp ?_ h
 kernel_rfl)
theorem MV:ak Tryz.prog afS:=ak.cons MU aoM (aN.of Tryz.func118 (c:=body Tryz.f118) (by kernel_rfl) (by kernel_rfl))
theorem aoN:Valid Tryz.prog G0 119 afU:=ai MV mixed afT aoi Tryz.func119 (c:=body Tryz.f119) (by kernel_rfl) (by
 rintro⟨b,p⟩ hp hf
 have h:=anV b p hp hf
 with_reducible refine Eq.mp ?_ h
 kernel_rfl)
theorem MW:ak Tryz.prog afV:=ak.cons MV aoN (aN.of Tryz.func119 (c:=body Tryz.f119) (by kernel_rfl) (by kernel_rfl))
theorem alg:Valid Tryz.prog G0 120 Zd:=ai MW mixed Zc ajf Tryz.func120 (c:=body Tryz.f120) (by kernel_rfl) (by
 rintro⟨b,p,b9⟩ hp hf
 have h:=ah7 b p b9 hp hf
 with_reducible refine Eq.mp ?_ h
 kernel_rfl)
theorem HT:ak Tryz.prog Ze:=ak.cons MW alg (aN.of Tryz.func120 (c:=body Tryz.f120) (by kernel_rfl) (by kernel_rfl))
theorem alh:Valid Tryz.prog G0 89 Zg:=ai HT mixed Zf ajh Tryz.func89 (c:=body Tryz.f89) (by kernel_rfl) (by
 rintro⟨r1,r2,r3,b9⟩ hp hf
 have h:=ah8 r1 r2 r3 b9 hp hf
 with_reducible refine Eq.mp ?_ h
 kernel_rfl)
theorem HU:ak Tryz.prog Zh:=ak.cons HT alh (aN.of Tryz.func89 (c:=body Tryz.f89) (by kernel_rfl) (by kernel_rfl))
theorem ali:Valid Tryz.prog G0 88 Zj:=ai HU mixed Zi ajj Tryz.func88 (c:=body Tryz.f88) (by kernel_rfl) (by
 rintro⟨r1,r2,r3⟩ hp hf
 have h:=ah9 r1 r2 r3 hp hf
 with_reducible refine Eq.mp ?_ h
 kernel_rfl)
theorem HV:ak Tryz.prog Zk:=ak.cons HU ali (aN.of Tryz.func88 (c:=body Tryz.f88) (by kernel_rfl) (by kernel_rfl))
theorem alj:Valid Tryz.prog G0 190 Zm:=ai HV mixed Zl ajl Tryz.func190 (c:=body Tryz.f190) (by kernel_rfl) (by
 rintro c hp hf
 have h:=aia c hp hf
 with_reducible refine Eq.mp ?_ h
 kernel_rfl)
theorem HW:ak Tryz.prog Zn:=ak.cons HV alj (aN.of Tryz.func190 (c:=body Tryz.f190) (by kernel_rfl) (by kernel_rfl))
theorem alk:Valid Tryz.prog G0 191 Zp:=ai HW mixed Zo ajn Tryz.func191 (c:=body Tryz.f191) (by kernel_rfl) (by
 rintro c hp hf
 have h:=aib c hp hf
 with_reducible refine Eq.mp ?_ h
 kernel_rfl)
theorem HX:ak Tryz.prog Zq:=ak.cons HW alk (aN.of Tryz.func191 (c:=body Tryz.f191) (by kernel_rfl) (by kernel_rfl))
theorem alm:Valid Tryz.prog G0 192 Zs:=ai HX mixed Zr ajp Tryz.func192 (c:=body Tryz.f192) (by kernel_rfl) (by
 rintro c hp hf
 have h:=aic c hp hf
 with_reducible refine Eq.mp ?_ h
 kernel_rfl)
theorem HY:ak Tryz.prog Zt:=ak.cons HX alm (aN.of Tryz.func192 (c:=body Tryz.f192) (by kernel_rfl) (by kernel_rfl))
theorem aln:Valid Tryz.prog G0 166 Zv:=ai HY mixed Zu ajr Tryz.func166 (c:=body Tryz.f166) (by kernel_rfl) (by
 rintro c hp hf
 have h:=aid c hp hf
 with_reducible refine Eq.mp ?_ h
 kernel_rfl)
theorem HZ:ak Tryz.prog Zw:=ak.cons HY aln (aN.of Tryz.func166 (c:=body Tryz.f166) (by kernel_rfl) (by kernel_rfl))
theorem alo:Valid Tryz.prog G0 165 Zy:=ai HZ mixed Zx ajt Tryz.func165 (c:=body Tryz.f165) (by kernel_rfl) (by
 rintro b hp hf
 have h:=aie b hp hf
 with_reducible refine Eq.mp ?_ h
 kernel_rfl)
theorem H2:ak Tryz.prog Zz:=ak.cons HZ alo (aN.of Tryz.func165 (c:=body Tryz.f165) (by kernel_rfl) (by kernel_rfl))
theorem alp:Valid Tryz.prog G0 153 ZB:=ai H2 mixed ZA ajv Tryz.func153 (c:=body Tryz.f153) (by kernel_rfl) (by
 rintro b hp hf
 have h:=aiq b hp hf
 with_reducible refine Eq.mp ?_ h
 kernel_rfl)
theorem H3:ak Tryz.prog ZC:=ak.cons H2 alp (aN.of Tryz.func153 (c:=body Tryz.f153) (by kernel_rfl) (by kernel_rfl))
theorem alq:Valid Tryz.prog G0 154 ZE:=ai H3 mixed ZD ajx Tryz.func154 (c:=body Tryz.f154) (by kernel_rfl) (by
 rintro c hp hf
 have h:=air c hp hf
 with_reducible refine Eq.mp ?_ h
 kernel_rfl)
theorem H4:ak Tryz.prog ZF:=ak.cons H3 alq (aN.of Tryz.func154 (c:=body Tryz.f154) (by kernel_rfl) (by kernel_rfl))
theorem alr:Valid Tryz.prog G0 155 ZH:=ai H4 mixed ZG ajz Tryz.func155 (c:=body Tryz.f155) (by kernel_rfl) (by
 rintro c hp hf
 have h:=ais c hp hf
 with_reducible refine Eq.mp ?_ h
 kernel_rfl)
theorem H5:ak Tryz.prog ZI:=ak.cons H4 alr (aN.of Tryz.func155 (c:=body Tryz.f155) (by kernel_rfl) (by kernel_rfl))
theorem als:Valid Tryz.prog G0 167 ZK:=ai H5 mixed ZJ ajB Tryz.func167 (c:=body Tryz.f167) (by kernel_rfl) (by
 rintro c hp hf
 have h:=ait c hp hf
 with_reducible refine Eq.mp ?_ h
 kernel_rfl)
theorem H6:ak Tryz.prog ZL:=ak.cons H5 als (aN.of Tryz.func167 (c:=body Tryz.f167) (by kernel_rfl) (by kernel_rfl))
theorem alu:Valid Tryz.prog G0 156 ZN:=ai H6 mixed ZM ajD Tryz.func156 (c:=body Tryz.f156) (by kernel_rfl) (by
 rintro u hp hf
 have h:=aiu u hp hf
 with_reducible refine Eq.mp ?_ h
 kernel_rfl)
theorem H7:ak Tryz.prog ZO:=ak.cons H6 alu (aN.of Tryz.func156 (c:=body Tryz.f156) (by kernel_rfl) (by kernel_rfl))
theorem alv:Valid Tryz.prog G0 136 ZQ:=ai H7 mixed ZP ajF Tryz.func136 (c:=body Tryz.f136) (by kernel_rfl) (by
 rintro b hp hf
 have h:=aiv b hp hf
 with_reducible refine Eq.mp ?_ h
 kernel_rfl)
theorem H9:ak Tryz.prog ZR:=ak.cons H7 alv (aN.of Tryz.func136 (c:=body Tryz.f136) (by kernel_rfl) (by kernel_rfl))
theorem alw:Valid Tryz.prog G0 146 ZT:=ai H9 mixed ZS ajH Tryz.func146 (c:=body Tryz.f146) (by kernel_rfl) (by
 rintro s hp hf
 have h:=aiw s hp hf
 with_reducible refine Eq.mp ?_ h
 kernel_rfl)
theorem Ia:ak Tryz.prog ZU:=ak.cons H9 alw (aN.of Tryz.func146 (c:=body Tryz.f146) (by kernel_rfl) (by kernel_rfl))
theorem alx:Valid Tryz.prog G0 157 ZW:=ai Ia mixed ZV ajJ Tryz.func157 (c:=body Tryz.f157) (by kernel_rfl) (by
 rintro s hp hf
 have h:=aix s hp hf
 with_reducible refine Eq.mp ?_ h
 kernel_rfl)
theorem Ib:ak Tryz.prog ZX:=ak.cons Ia alx (aN.of Tryz.func157 (c:=body Tryz.f157) (by kernel_rfl) (by kernel_rfl))
theorem aly:Valid Tryz.prog G0 137 ZZ:=ai Ib mixed ZY ajL Tryz.func137 (c:=body Tryz.f137) (by kernel_rfl) (by
 rintro⟨a,b⟩ hp hf
 have h:=aiy a b hp hf
 with_reducible refine Eq.mp ?_ h
 kernel_rfl)
theorem Ic:ak Tryz.prog Z0:=ak.cons Ib aly (aN.of Tryz.func137 (c:=body Tryz.f137) (by kernel_rfl) (by kernel_rfl))
theorem alz:bZ Tryz.prog G0 152 Z3:=dN Ic mixed Z1 Z2 ajN Tryz.func152 (c:=body Tryz.f152) (by kernel_rfl) (by
 rintro⟨a,b⟩ ⟨⟨⟩,⟨⟩⟩ hp hf hg
 have h:=aiz a b hp hf hg
 with_reducible refine Eq.mp ?_ h
 kernel_rfl)
theorem adC:bZ Tryz.prog G0 152 Z4:=alz
theorem Ie:ak Tryz.prog Z5:=ak.eQ Ic adC (aN.of Tryz.func152 (c:=body Tryz.f152) (by kernel_rfl) (by kernel_rfl))
theorem alA:bZ Tryz.prog G0 151 Z8:=dN Ie mixed Z6 Z7 ajP Tryz.func151 (c:=body Tryz.f151) (by kernel_rfl) (by
 rintro⟨⟩ ⟨l,⟨⟨⟩,⟨⟩⟩⟩ hp hf hg
 have h:=aiA l hp hf hg
 with_reducible refine Eq.mp ?_ h
 kernel_rfl)
theorem adD:bZ Tryz.prog G0 151 Z9:=alA
theorem Va:ak Tryz.prog À:=ak.eQ Ie adD (aN.of Tryz.func151 (c:=body Tryz.f151) (by kernel_rfl) (by kernel_rfl))
theorem alB:Valid Tryz.prog G0 149 Á:=Vg.AH Tryz.Pq (fun _=>rfl)
theorem Vb:ak Tryz.prog Â:=ak.cons Va alB (aN.of Tryz.func149 (c:=body Tryz.f149) (by kernel_rfl) (by kernel_rfl))
theorem alC:Valid Tryz.prog G0 99 Ã:=Vg.AI Tryz.Pr (fun _=>rfl)
theorem Vc:ak Tryz.prog Ä:=ak.cons Vb alC (aN.of Tryz.func99 (c:=body Tryz.f99) (by kernel_rfl) (by kernel_rfl))
theorem alD:bZ Tryz.prog G0 150 Å:=Tryz.adt (fun _=>rfl)
theorem adE:bZ Tryz.prog G0 150 Æ:=alD
theorem Ig:ak Tryz.prog Ç:=ak.eQ Vc adE (aN.of Tryz.func150 (c:=body Tryz.f150) (by kernel_rfl) (by kernel_rfl))
theorem alE:bZ Tryz.prog G0 135 Ê:=dN Ig mixed È É ajY Tryz.func135 (c:=body Tryz.f135) (by kernel_rfl) (by
 rintro l ⟨⟩ hp hf hg
 have h:=aiB l hp hf hg
 with_reducible refine Eq.mp ?_ h
 kernel_rfl)
theorem adF:bZ Tryz.prog G0 135 Ë:=alE
theorem Ih:ak Tryz.prog Ì:=ak.eQ Ig adF (aN.of Tryz.func135 (c:=body Tryz.f135) (by kernel_rfl) (by kernel_rfl))
theorem ń:Valid Tryz.prog G0 126 Î:=ai Ih mixed Í aj0 Tryz.func126 (c:=body Tryz.f126) (by kernel_rfl) (by
 rintro b hp hf
 have h:=aiC b hp hf
 with_reducible refine Eq.mp ?_ h
 kernel_rfl)
theorem Ii:ak Tryz.prog Ï:=ak.cons Ih ń (aN.of Tryz.func126 (c:=body Tryz.f126) (by kernel_rfl) (by kernel_rfl))
theorem alF:Valid Tryz.prog G0 145 Ñ:=ai Ii mixed Ð aj2 Tryz.func145 (c:=body Tryz.f145) (by kernel_rfl) (by
 rintro l hp hf
 have h:=aiD l hp hf
 with_reducible refine Eq.mp ?_ h
 kernel_rfl)
theorem Ij:ak Tryz.prog Ò:=ak.cons Ii alF (aN.of Tryz.func145 (c:=body Tryz.f145) (by kernel_rfl) (by kernel_rfl))
theorem alG:bZ Tryz.prog G0 148 Õ:=dN Ij mixed Ó Ô aj4 Tryz.func148 (c:=body Tryz.f148) (by kernel_rfl) (by
 rintro⟨n,p,q⟩ ⟨⟨s1,s2⟩,⟨⟩⟩ hp hf hg
 have h:=aiE n p q s1 s2 hp hf hg
 with_reducible refine Eq.mp ?_ h
 kernel_rfl)
theorem adG:bZ Tryz.prog G0 148 Ö:=alG
theorem Ik:ak Tryz.prog Ø:=ak.eQ Ij adG (aN.of Tryz.func148 (c:=body Tryz.f148) (by kernel_rfl) (by kernel_rfl))
theorem alH:bZ Tryz.prog G0 147 Û:=dN Ik mixed Ù Ú aj6 Tryz.func147 (c:=body Tryz.f147) (by kernel_rfl) (by
 rintro⟨a,b⟩ ⟨⟨s1,s2⟩,⟨⟩⟩ hp hf hg
 have h:=aiF a b s1 s2 hp hf hg
 with_reducible refine Eq.mp ?_ h
 kernel_rfl)
theorem adH:bZ Tryz.prog G0 147 Ü:=alH
theorem Il:ak Tryz.prog Ý:=ak.eQ Ik adH (aN.of Tryz.func147 (c:=body Tryz.f147) (by kernel_rfl) (by kernel_rfl))
theorem alI:Valid Tryz.prog G0 134 ß:=ai Il mixed Þ aj8 Tryz.func134 (c:=body Tryz.f134) (by kernel_rfl) (by
 rintro⟨l,s1,s2⟩ hp hf
 have h:=aiG l s1 s2 hp hf
 with_reducible refine Eq.mp ?_ h
 kernel_rfl)
theorem Im:ak Tryz.prog à:=ak.cons Il alI (aN.of Tryz.func134 (c:=body Tryz.f134) (by kernel_rfl) (by kernel_rfl))
theorem alJ:Valid Tryz.prog G0 133 â:=ai Im mixed á aka Tryz.func133 (c:=body Tryz.f133) (by kernel_rfl) (by
 rintro d hp hf
 have h:=aiH d hp hf
 with_reducible refine Eq.mp ?_ h
 kernel_rfl)
end Go.J

end
