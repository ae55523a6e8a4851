import Derived.Test.YtfaedenbhlgnpaaGreatDoorPartG
set_option linter.unusedVariables false
set_option linter.unusedSimpArgs false
section
set_option linter.unusedVariables false
set_option maxHeartbeats 0
set_option maxRecDepth 100000
namespace Go.J
open Go.Proofs
open Go Vg
theorem abT:cS Tryz.prog G0 147 Zc:=ajv
theorem Hz:ak Tryz.prog Zd:=ak.gE Hy abT (aP.of Tryz.func147 (c:=body Tryz.f147) (by kernel_rfl) (by kernel_rfl))
theorem ajw:Valid Tryz.prog G0 134 Zf:=ah Hz mixed Ze ahP Tryz.func134 (c:=body Tryz.f134) (by kernel_rfl) (by
 rintro⟨l,s1,s2⟩ hp hf
 have h:=agr l s1 s2 hp hf
 with_reducible refine Eq.mp ?_ h
 kernel_rfl)
theorem HA:ak Tryz.prog Zg:=ak.cons Hz ajw (aP.of Tryz.func134 (c:=body Tryz.f134) (by kernel_rfl) (by kernel_rfl))
theorem ajx:Valid Tryz.prog G0 115 Zi:=ah HA mixed Zh ahR Tryz.func115 (c:=body Tryz.f115) (by kernel_rfl) (by
 rintro⟨a,b⟩ hp hf
 have h:=ags a b hp hf
 with_reducible refine Eq.mp ?_ h
 kernel_rfl)
theorem HC:ak Tryz.prog Zj:=ak.cons HA ajx (aP.of Tryz.func115 (c:=body Tryz.f115) (by kernel_rfl) (by kernel_rfl))
theorem ajy:Valid Tryz.prog G0 133 Zl:=ah HC mixed Zk ahT Tryz.func133 (c:=body Tryz.f133) (by kernel_rfl) (by
 rintro d hp hf
 have h:=agt d hp hf
 with_reducible refine Eq.mp ?_ h
 kernel_rfl)
theorem TS:ak Tryz.prog Zm:=ak.cons HC ajy (aP.of Tryz.func133 (c:=body Tryz.f133) (by kernel_rfl) (by kernel_rfl))
theorem ajz:Valid Tryz.prog G0 107 Zn:=Go.DM.L5 ù (fun _=>rfl) (fun _ _ _=>rfl)
theorem HD:ak Tryz.prog Zo:=ak.cons TS ajz (aP.of Tryz.func107 (c:=body Tryz.f107) (by kernel_rfl) (by kernel_rfl))
theorem ajA:Valid Tryz.prog G0 85 Zq:=ah HD mixed Zp ahX Tryz.func85 (c:=body Tryz.f85) (by kernel_rfl) (by
 rintro⟨a,b⟩ hp hf
 have h:=agu a b hp hf
 with_reducible refine Eq.mp ?_ h
 kernel_rfl)
theorem HE:ak Tryz.prog Zr:=ak.cons HD ajA (aP.of Tryz.func85 (c:=body Tryz.f85) (by kernel_rfl) (by kernel_rfl))
theorem ajB:Valid Tryz.prog G0 32 Zt:=ah HE mixed Zs ahZ Tryz.func32 (c:=body Tryz.f32) (by kernel_rfl) (by
 rintro⟨a,b⟩ hp hf
 have h:=agv a b hp hf
 with_reducible refine Eq.mp ?_ h
 kernel_rfl)
theorem HF:ak Tryz.prog Zu:=ak.cons HE ajB (aP.of Tryz.func32 (c:=body Tryz.f32) (by kernel_rfl) (by kernel_rfl))
theorem ajC:Valid Tryz.prog G0 132 Zw:=ah HF mixed Zv ah1 Tryz.func132 (c:=body Tryz.f132) (by kernel_rfl) (by
 rintro⟨s1,s2⟩ hp hf
 have h:=agw s1 s2 hp hf
 with_reducible refine Eq.mp ?_ h
 kernel_rfl)
theorem HG:ak Tryz.prog Zx:=ak.cons HF ajC (aP.of Tryz.func132 (c:=body Tryz.f132) (by kernel_rfl) (by kernel_rfl))
theorem ajD:Valid Tryz.prog G0 123 Zz:=ah HG mixed Zy ah3 Tryz.func123 (c:=body Tryz.f123) (by kernel_rfl) (by
 rintro⟨s1,s2,s3⟩ hp hf
 have h:=agx s1 s2 s3 hp hf
 with_reducible refine Eq.mp ?_ h
 kernel_rfl)
theorem HH:ak Tryz.prog ZA:=ak.cons HG ajD (aP.of Tryz.func123 (c:=body Tryz.f123) (by kernel_rfl) (by kernel_rfl))
theorem ajE:Valid Tryz.prog G0 75 ZC:=ah HH mixed ZB ah5 Tryz.func75 (c:=body Tryz.f75) (by kernel_rfl) (by
 rintro⟨docs,s1,s2⟩ hp hf
 have h:=agy docs s1 s2 hp hf
 with_reducible refine Eq.mp ?_ h
 kernel_rfl)
theorem HI:ak Tryz.prog ZD:=ak.cons HH ajE (aP.of Tryz.func75 (c:=body Tryz.f75) (by kernel_rfl) (by kernel_rfl))
theorem ajF:Valid Tryz.prog G0 46 ZF:=ah HI mixed ZE ah7 Tryz.func46 (c:=body Tryz.f46) (by kernel_rfl) (by
 rintro⟨a1,a2,a3,b1,b2,b3⟩ hp hf
 have h:=agz a1 a2 a3 b1 b2 b3 hp hf
 with_reducible refine Eq.mp ?_ h
 kernel_rfl)
theorem HJ:ak Tryz.prog ZG:=ak.cons HI ajF (aP.of Tryz.func46 (c:=body Tryz.f46) (by kernel_rfl) (by kernel_rfl))
theorem ajG:Valid Tryz.prog G0 43 ZI:=ah HJ mixed ZH ah9 Tryz.func43 (c:=body Tryz.f43) (by kernel_rfl) (by
 rintro⟨s1,s2,s3⟩ hp hf
 have h:=agA s1 s2 s3 hp hf
 with_reducible refine Eq.mp ?_ h
 kernel_rfl)
theorem HK:ak Tryz.prog ZJ:=ak.cons HJ ajG (aP.of Tryz.func43 (c:=body Tryz.f43) (by kernel_rfl) (by kernel_rfl))
theorem ajH:Valid Tryz.prog G0 124 ZL:=ah HK mixed ZK aib Tryz.func124 (c:=body Tryz.f124) (by kernel_rfl) (by
 rintro l hp hf
 have h:=agB l hp hf
 with_reducible refine Eq.mp ?_ h
 kernel_rfl)
theorem HL:ak Tryz.prog ZM:=ak.cons HK ajH (aP.of Tryz.func124 (c:=body Tryz.f124) (by kernel_rfl) (by kernel_rfl))
theorem ajI:Valid Tryz.prog G0 103 ZO:=ah HL mixed ZN aid Tryz.func103 (c:=body Tryz.f103) (by kernel_rfl) (by
 rintro l hp hf
 have h:=agC l hp hf
 with_reducible refine Eq.mp ?_ h
 kernel_rfl)
theorem HN:ak Tryz.prog ZP:=ak.cons HL ajI (aP.of Tryz.func103 (c:=body Tryz.f103) (by kernel_rfl) (by kernel_rfl))
theorem ajJ:Valid Tryz.prog G0 125 ZR:=ah HN mixed ZQ aif Tryz.func125 (c:=body Tryz.f125) (by kernel_rfl) (by
 rintro⟨s1,s2⟩ hp hf
 have h:=agD s1 s2 hp hf
 with_reducible refine Eq.mp ?_ h
 kernel_rfl)
theorem HO:ak Tryz.prog ZS:=ak.cons HN ajJ (aP.of Tryz.func125 (c:=body Tryz.f125) (by kernel_rfl) (by kernel_rfl))
theorem ajK:Valid Tryz.prog G0 105 ZU:=ah HO mixed ZT aii Tryz.func105 (c:=body Tryz.f105) (by kernel_rfl) (by
 rintro l hp hf
 have h:=agE l hp hf
 with_reducible refine Eq.mp ?_ h
 kernel_rfl)
theorem HP:ak Tryz.prog ZV:=ak.cons HO ajK (aP.of Tryz.func105 (c:=body Tryz.f105) (by kernel_rfl) (by kernel_rfl))
theorem ajL:Valid Tryz.prog G0 106 ZX:=ah HP mixed ZW aik Tryz.func106 (c:=body Tryz.f106) (by kernel_rfl) (by
 rintro l hp hf
 have h:=agF l hp hf
 with_reducible refine Eq.mp ?_ h
 kernel_rfl)
theorem HQ:ak Tryz.prog ZY:=ak.cons HP ajL (aP.of Tryz.func106 (c:=body Tryz.f106) (by kernel_rfl) (by kernel_rfl))
theorem ajM:Valid Tryz.prog G0 95 Z0:=ah HQ mixed ZZ aim Tryz.func95 (c:=body Tryz.f95) (by kernel_rfl) (by
 rintro l hp hf
 have h:=agG l hp hf
 with_reducible refine Eq.mp ?_ h
 kernel_rfl)
theorem HR:ak Tryz.prog Z1:=ak.cons HQ ajM (aP.of Tryz.func95 (c:=body Tryz.f95) (by kernel_rfl) (by kernel_rfl))
theorem ajN:Valid Tryz.prog G0 98 Z3:=ah HR mixed Z2 aio Tryz.func98 (c:=body Tryz.f98) (by kernel_rfl) (by
 rintro l hp hf
 have h:=agH l hp hf
 with_reducible refine Eq.mp ?_ h
 kernel_rfl)
theorem HS:ak Tryz.prog Z4:=ak.cons HR ajN (aP.of Tryz.func98 (c:=body Tryz.f98) (by kernel_rfl) (by kernel_rfl))
theorem ajO:Valid Tryz.prog G0 110 Z6:=ah HS mixed Z5 aiq Tryz.func110 (c:=body Tryz.f110) (by kernel_rfl) (by
 rintro⟨a,b⟩ hp hf
 have h:=agI a b hp hf
 with_reducible refine Eq.mp ?_ h
 kernel_rfl)
theorem HT:ak Tryz.prog Z7:=ak.cons HS ajO (aP.of Tryz.func110 (c:=body Tryz.f110) (by kernel_rfl) (by kernel_rfl))
theorem ajP:Valid Tryz.prog G0 109 Z9:=ah HT mixed Z8 ais Tryz.func109 (c:=body Tryz.f109) (by kernel_rfl) (by
 rintro⟨a1,a2,b1,b2⟩ hp hf
 have h:=agJ a1 a2 b1 b2 hp hf
 with_reducible refine Eq.mp ?_ h
 kernel_rfl)
theorem HU:ak Tryz.prog À:=ak.cons HT ajP (aP.of Tryz.func109 (c:=body Tryz.f109) (by kernel_rfl) (by kernel_rfl))
theorem ajQ:cS Tryz.prog G0 108 Ã:=fI HU mixed Á Â aiu Tryz.func108 (c:=body Tryz.f108) (by kernel_rfl) (by
 rintro⟨a,b⟩ ⟨⟩ hp hf hg
 have h:=agK a b hp hf hg
 with_reducible refine Eq.mp ?_ h
 kernel_rfl)
theorem abU:cS Tryz.prog G0 108 Ä:=ajQ
theorem HV:ak Tryz.prog Å:=ak.gE HU abU (aP.of Tryz.func108 (c:=body Tryz.f108) (by kernel_rfl) (by kernel_rfl))
theorem ajR:Valid Tryz.prog G0 76 Ç:=ah HV mixed Æ aiw Tryz.func76 (c:=body Tryz.f76) (by kernel_rfl) (by
 rintro⟨a,b⟩ hp hf
 have h:=agL a b hp hf
 with_reducible refine Eq.mp ?_ h
 kernel_rfl)
theorem HW:ak Tryz.prog È:=ak.cons HV ajR (aP.of Tryz.func76 (c:=body Tryz.f76) (by kernel_rfl) (by kernel_rfl))
theorem ajS:Valid Tryz.prog G0 37 Ê:=ah HW mixed É aiy Tryz.func37 (c:=body Tryz.f37) (by kernel_rfl) (by
 rintro⟨y1,y2⟩ hp hf
 have h:=agM y1 y2 hp hf
 with_reducible refine Eq.mp ?_ h
 kernel_rfl)
theorem HX:ak Tryz.prog Ë:=ak.cons HW ajS (aP.of Tryz.func37 (c:=body Tryz.f37) (by kernel_rfl) (by kernel_rfl))
theorem ajT:Valid Tryz.prog G0 100 Í:=ah HX mixed Ì aiA Tryz.func100 (c:=body Tryz.f100) (by kernel_rfl) (by
 rintro⟨y1,y2⟩ hp hf
 have h:=agN y1 y2 hp hf
 with_reducible refine Eq.mp ?_ h
 kernel_rfl)
theorem HY:ak Tryz.prog Î:=ak.cons HX ajT (aP.of Tryz.func100 (c:=body Tryz.f100) (by kernel_rfl) (by kernel_rfl))
theorem ajU:Valid Tryz.prog G0 102 Ð:=ah HY mixed Ï aiC Tryz.func102 (c:=body Tryz.f102) (by kernel_rfl) (by
 rintro⟨y1,y2⟩ hp hf
 have h:=agO y1 y2 hp hf
 with_reducible refine Eq.mp ?_ h
 kernel_rfl)
theorem vH:ak Tryz.prog Oz:=ak.cons HY ajU (aP.of Tryz.func102 (c:=body Tryz.f102) (by kernel_rfl) (by kernel_rfl))
theorem ajV:Valid Tryz.prog G0 101 Ò:=ah (E:=aiF) {fu:=vH.fu,sig:=vH.sig,nJ:=vH.nJ} mixed Ñ aiE Tryz.func101 (c:=body Tryz.f101) (by kernel_rfl) (by
 rintro⟨y1,y2⟩ hp hf
 have h:=agP y1 y2 hp hf
 with_reducible refine Eq.mp ?_ h
 kernel_rfl)
theorem HZ:ak Tryz.prog Ó:=ak.cons vH ajV (aP.of Tryz.func101 (c:=body Tryz.f101) (by kernel_rfl) (by kernel_rfl))
theorem ajW:Valid Tryz.prog G0 104 Õ:=ah HZ mixed Ô aiH Tryz.func104 (c:=body Tryz.f104) (by kernel_rfl) (by
 rintro⟨l,i,m,s1,s2,s3⟩ hp hf
 have h:=agQ l i m s1 s2 s3 hp hf
 with_reducible refine Eq.mp ?_ h
 kernel_rfl)
theorem H2:ak Tryz.prog Ö:=ak.cons HZ ajW (aP.of Tryz.func104 (c:=body Tryz.f104) (by kernel_rfl) (by kernel_rfl))
theorem ajX:Valid Tryz.prog G0 68 Ù:=ah H2 mixed Ø aiJ Tryz.func68 (c:=body Tryz.f68) (by kernel_rfl) (by
 rintro⟨y1,y2,d⟩ hp hf
 have h:=agR y1 y2 d hp hf
 with_reducible refine Eq.mp ?_ h
 kernel_rfl)
theorem H3:ak Tryz.prog Ú:=ak.cons H2 ajX (aP.of Tryz.func68 (c:=body Tryz.f68) (by kernel_rfl) (by kernel_rfl))
theorem ajY:Valid Tryz.prog G0 70 Ü:=ah H3 mixed Û aiL Tryz.func70 (c:=body Tryz.f70) (by kernel_rfl) (by
 rintro⟨y1,y2⟩ hp hf
 have h:=agS y1 y2 hp hf
 with_reducible refine Eq.mp ?_ h
 kernel_rfl)
theorem H4:ak Tryz.prog Ý:=ak.cons H3 ajY (aP.of Tryz.func70 (c:=body Tryz.f70) (by kernel_rfl) (by kernel_rfl))
theorem ajZ:Valid Tryz.prog G0 72 ß:=ah H4 mixed Þ aiN Tryz.func72 (c:=body Tryz.f72) (by kernel_rfl) (by
 rintro⟨y1,y2,i,m⟩ hp hf
 have h:=agT y1 y2 i m hp hf
 with_reducible refine Eq.mp ?_ h
 kernel_rfl)
theorem H5:ak Tryz.prog à:=ak.cons H4 ajZ (aP.of Tryz.func72 (c:=body Tryz.f72) (by kernel_rfl) (by kernel_rfl))
theorem aj0:Valid Tryz.prog G0 74 â:=ah H5 mixed á aiP Tryz.func74 (c:=body Tryz.f74) (by kernel_rfl) (by
 rintro⟨y1,y2⟩ hp hf
 have h:=agU y1 y2 hp hf
 with_reducible refine Eq.mp ?_ h
 kernel_rfl)
theorem H6:ak Tryz.prog ã:=ak.cons H5 aj0 (aP.of Tryz.func74 (c:=body Tryz.f74) (by kernel_rfl) (by kernel_rfl))
theorem abV:Valid Tryz.prog G0 16 Qh:=ah H6 mixed Qg aal Tryz.func16 (c:=body Tryz.f16) (by kernel_rfl) (by
 rintro⟨a1,a2,b1,b2⟩ hp hf
 have h:=Ŧ a1 a2 b1 b2 hp hf
 with_reducible refine Eq.mp ?_ h
 kernel_rfl)
theorem EW:ak Tryz.prog Qi:=ak.cons H6 abV (aP.of Tryz.func16 (c:=body Tryz.f16) (by kernel_rfl) (by kernel_rfl))
theorem abW:Valid Tryz.prog G0 13 Qk:=ah EW mixed Qj aan Tryz.func13 (c:=body Tryz.f13) (by kernel_rfl) (by
 rintro⟨y1,y2⟩ hp hf
 have h:=ŧ y1 y2 hp hf
 with_reducible refine Eq.mp ?_ h
 kernel_rfl)
theorem EX:ak Tryz.prog Ql:=ak.cons EW abW (aP.of Tryz.func13 (c:=body Tryz.f13) (by kernel_rfl) (by kernel_rfl))
theorem abX:Valid Tryz.prog G0 92 Qn:=ah EX mixed Qm aap Tryz.func92 (c:=body Tryz.f92) (by kernel_rfl) (by
 rintro b hp hf
 have h:=Ũ b hp hf
 with_reducible refine Eq.mp ?_ h
 kernel_rfl)
theorem EY:ak Tryz.prog Qo:=ak.cons EX abX (aP.of Tryz.func92 (c:=body Tryz.f92) (by kernel_rfl) (by kernel_rfl))
end Go.J

end
