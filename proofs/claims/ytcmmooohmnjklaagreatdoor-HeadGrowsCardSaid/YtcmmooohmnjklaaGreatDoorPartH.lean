import Derived.Test.YtcmmooohmnjklaaGreatDoorPartG
set_option linter.unusedVariables false
set_option linter.unusedSimpArgs false
section
set_option linter.unusedVariables false
set_option maxHeartbeats 0
set_option maxRecDepth 100000
namespace Go.J
open Go.Proofs
open Go Vg
theorem Gf:ak Tryz.prog Yo:=ak.cons Ge al2 (aB.of Tryz.func198 (c:=body Tryz.f198) (by kernel_rfl) (by kernel_rfl))
theorem amb:Valid Tryz.prog G0 185 YO:=ah Gf mixed YN ajW Tryz.func185 (c:=body Tryz.f185) (by kernel_rfl) (by
 rintro u hp hf
 have h:=ahU u hp hf
 with_reducible refine Eq.mp ?_ h
 kernel_rfl)
theorem Gp:ak Tryz.prog YP:=ak.cons Gf amb (aB.of Tryz.func185 (c:=body Tryz.f185) (by kernel_rfl) (by kernel_rfl))
theorem amc:Valid Tryz.prog G0 160 YR:=ah Gp mixed YQ ajY Tryz.func160 (c:=body Tryz.f160) (by kernel_rfl) (by
 rintro b hp hf
 have h:=ahV b hp hf
 with_reducible refine Eq.mp ?_ h
 kernel_rfl)
theorem Gq:ak Tryz.prog YS:=ak.cons Gp amc (aB.of Tryz.func160 (c:=body Tryz.f160) (by kernel_rfl) (by kernel_rfl))
theorem amd:Valid Tryz.prog G0 144 YU:=ah Gq mixed YT aj0 Tryz.func144 (c:=body Tryz.f144) (by kernel_rfl) (by
 rintro s hp hf
 have h:=ahW s hp hf
 with_reducible refine Eq.mp ?_ h
 kernel_rfl)
theorem Gr:ak Tryz.prog YV:=ak.cons Gq amd (aB.of Tryz.func144 (c:=body Tryz.f144) (by kernel_rfl) (by kernel_rfl))
theorem aml:Valid Tryz.prog G0 186 Zk:=ah Gr mixed Zj akg Tryz.func186 (c:=body Tryz.f186) (by kernel_rfl) (by
 rintro s hp hf
 have h:=ah4 s hp hf
 with_reducible refine Eq.mp ?_ h
 kernel_rfl)
theorem Gz:ak Tryz.prog Zl:=ak.cons Gr aml (aB.of Tryz.func186 (c:=body Tryz.f186) (by kernel_rfl) (by kernel_rfl))
theorem amm:Valid Tryz.prog G0 161 Zn:=ah Gz mixed Zm aki Tryz.func161 (c:=body Tryz.f161) (by kernel_rfl) (by
 rintro⟨a,b⟩ hp hf
 have h:=ah5 a b hp hf
 with_reducible refine Eq.mp ?_ h
 kernel_rfl)
theorem GA:ak Tryz.prog Zo:=ak.cons Gz amm (aB.of Tryz.func161 (c:=body Tryz.f161) (by kernel_rfl) (by kernel_rfl))
theorem amn:ca Tryz.prog G0 181 Zr:=dF GA mixed Zp Zq akk Tryz.func181 (c:=body Tryz.f181) (by kernel_rfl) (by
 rintro⟨a,b⟩ ⟨⟨⟩,⟨⟩⟩ hp hf hg
 have h:=ah6 a b hp hf hg
 with_reducible refine Eq.mp ?_ h
 kernel_rfl)
theorem acV:ca Tryz.prog G0 181 Zs:=amn
theorem GB:ak Tryz.prog Zt:=ak.eP GA acV (aB.of Tryz.func181 (c:=body Tryz.f181) (by kernel_rfl) (by kernel_rfl))
theorem amo:ca Tryz.prog G0 180 Zw:=dF GB mixed Zu Zv akm Tryz.func180 (c:=body Tryz.f180) (by kernel_rfl) (by
 rintro⟨⟩ ⟨l,⟨⟨⟩,⟨⟩⟩⟩ hp hf hg
 have h:=ah7 l hp hf hg
 with_reducible refine Eq.mp ?_ h
 kernel_rfl)
theorem acW:ca Tryz.prog G0 180 Zx:=amo
theorem Sv:ak Tryz.prog Zy:=ak.eP GB acW (aB.of Tryz.func180 (c:=body Tryz.f180) (by kernel_rfl) (by kernel_rfl))
theorem amp:Valid Tryz.prog G0 178 Zz:=Vg.za Tryz.MD (fun _=>rfl)
theorem Sw:ak Tryz.prog ZA:=ak.cons Sv amp (aB.of Tryz.func178 (c:=body Tryz.f178) (by kernel_rfl) (by kernel_rfl))
theorem amq:Valid Tryz.prog G0 81 ZB:=Vg.zb Tryz.ME (fun _=>rfl)
theorem Sx:ak Tryz.prog ZC:=ak.cons Sw amq (aB.of Tryz.func81 (c:=body Tryz.f81) (by kernel_rfl) (by kernel_rfl))
theorem amr:ca Tryz.prog G0 179 ZD:=Tryz.acM (fun _=>rfl)
theorem acX:ca Tryz.prog G0 179 ZE:=amr
theorem GC:ak Tryz.prog ZF:=ak.eP Sx acX (aB.of Tryz.func179 (c:=body Tryz.f179) (by kernel_rfl) (by kernel_rfl))
theorem ams:ca Tryz.prog G0 159 ZI:=dF GC mixed ZG ZH akv Tryz.func159 (c:=body Tryz.f159) (by kernel_rfl) (by
 rintro l ⟨⟩ hp hf hg
 have h:=ah8 l hp hf hg
 with_reducible refine Eq.mp ?_ h
 kernel_rfl)
theorem acY:ca Tryz.prog G0 159 ZJ:=ams
theorem GF:ak Tryz.prog ZK:=ak.eP GC acY (aB.of Tryz.func159 (c:=body Tryz.f159) (by kernel_rfl) (by kernel_rfl))
theorem Č:Valid Tryz.prog G0 131 ZM:=ah GF mixed ZL akx Tryz.func131 (c:=body Tryz.f131) (by kernel_rfl) (by
 rintro b hp hf
 have h:=ah9 b hp hf
 with_reducible refine Eq.mp ?_ h
 kernel_rfl)
theorem GG:ak Tryz.prog ZN:=ak.cons GF Č (aB.of Tryz.func131 (c:=body Tryz.f131) (by kernel_rfl) (by kernel_rfl))
theorem amt:Valid Tryz.prog G0 85 ZP:=ah GG mixed ZO akz Tryz.func85 (c:=body Tryz.f85) (by kernel_rfl) (by
 rintro l hp hf
 have h:=aia l hp hf
 with_reducible refine Eq.mp ?_ h
 kernel_rfl)
theorem GH:ak Tryz.prog ZQ:=ak.cons GG amt (aB.of Tryz.func85 (c:=body Tryz.f85) (by kernel_rfl) (by kernel_rfl))
theorem amu:Valid Tryz.prog G0 151 ZS:=ah GH mixed ZR akB Tryz.func151 (c:=body Tryz.f151) (by kernel_rfl) (by
 rintro⟨a,b⟩ hp hf
 have h:=aib a b hp hf
 with_reducible refine Eq.mp ?_ h
 kernel_rfl)
theorem GI:ak Tryz.prog ZT:=ak.cons GH amu (aB.of Tryz.func151 (c:=body Tryz.f151) (by kernel_rfl) (by kernel_rfl))
theorem amv:ca Tryz.prog G0 123 ZW:=dF GI mixed ZU ZV akD Tryz.func123 (c:=body Tryz.f123) (by kernel_rfl) (by
 rintro⟨⟩ ⟨s,⟨⟩⟩ hp hf hg
 have h:=aic s hp hf hg
 with_reducible refine Eq.mp ?_ h
 kernel_rfl)
theorem acZ:ca Tryz.prog G0 123 ZX:=amv
theorem GJ:ak Tryz.prog ZY:=ak.eP GI acZ (aB.of Tryz.func123 (c:=body Tryz.f123) (by kernel_rfl) (by kernel_rfl))
theorem amw:Valid Tryz.prog G0 68 Z0:=ah GJ mixed ZZ akF Tryz.func68 (c:=body Tryz.f68) (by kernel_rfl) (by
 rintro l hp hf
 have h:=aid l hp hf
 with_reducible refine Eq.mp ?_ h
 kernel_rfl)
theorem GK:ak Tryz.prog Z1:=ak.cons GJ amw (aB.of Tryz.func68 (c:=body Tryz.f68) (by kernel_rfl) (by kernel_rfl))
theorem amx:Valid Tryz.prog G0 86 Z3:=ah GK mixed Z2 akH Tryz.func86 (c:=body Tryz.f86) (by kernel_rfl) (by
 rintro l hp hf
 have h:=aie l hp hf
 with_reducible refine Eq.mp ?_ h
 kernel_rfl)
theorem GL:ak Tryz.prog Z4:=ak.cons GK amx (aB.of Tryz.func86 (c:=body Tryz.f86) (by kernel_rfl) (by kernel_rfl))
theorem amy:Valid Tryz.prog G0 45 Z6:=ah GL mixed Z5 akJ Tryz.func45 (c:=body Tryz.f45) (by kernel_rfl) (by
 rintro l hp hf
 have h:=aif l hp hf
 with_reducible refine Eq.mp ?_ h
 kernel_rfl)
theorem GM:ak Tryz.prog Z7:=ak.cons GL amy (aB.of Tryz.func45 (c:=body Tryz.f45) (by kernel_rfl) (by kernel_rfl))
theorem amC:Valid Tryz.prog G0 143 È:=ah GM mixed Ç akR Tryz.func143 (c:=body Tryz.f143) (by kernel_rfl) (by
 rintro l hp hf
 have h:=aik l hp hf
 with_reducible refine Eq.mp ?_ h
 kernel_rfl)
theorem GQ:ak Tryz.prog É:=ak.cons GM amC (aB.of Tryz.func143 (c:=body Tryz.f143) (by kernel_rfl) (by kernel_rfl))
theorem amD:Valid Tryz.prog G0 174 Ë:=ah GQ mixed Ê akT Tryz.func174 (c:=body Tryz.f174) (by kernel_rfl) (by
 rintro l hp hf
 have h:=ail l hp hf
 with_reducible refine Eq.mp ?_ h
 kernel_rfl)
theorem GR:ak Tryz.prog Ì:=ak.cons GQ amD (aB.of Tryz.func174 (c:=body Tryz.f174) (by kernel_rfl) (by kernel_rfl))
theorem amE:Valid Tryz.prog G0 155 Î:=ah GR mixed Í akV Tryz.func155 (c:=body Tryz.f155) (by kernel_rfl) (by
 rintro l hp hf
 have h:=aim l hp hf
 with_reducible refine Eq.mp ?_ h
 kernel_rfl)
theorem GS:ak Tryz.prog Ï:=ak.cons GR amE (aB.of Tryz.func155 (c:=body Tryz.f155) (by kernel_rfl) (by kernel_rfl))
theorem amF:ca Tryz.prog G0 154 Ò:=dF GS mixed Ð Ñ akX Tryz.func154 (c:=body Tryz.f154) (by kernel_rfl) (by
 rintro⟨n,p,q⟩ ⟨⟨s1,s2⟩,⟨⟩⟩ hp hf hg
 have h:=ain n p q s1 s2 hp hf hg
 with_reducible refine Eq.mp ?_ h
 kernel_rfl)
theorem ac0:ca Tryz.prog G0 154 Ó:=amF
theorem GU:ak Tryz.prog Ô:=ak.eP GS ac0 (aB.of Tryz.func154 (c:=body Tryz.f154) (by kernel_rfl) (by kernel_rfl))
theorem amG:ca Tryz.prog G0 153 Ø:=dF GU mixed Õ Ö akZ Tryz.func153 (c:=body Tryz.f153) (by kernel_rfl) (by
 rintro⟨a,b⟩ ⟨⟨s1,s2⟩,⟨⟩⟩ hp hf hg
 have h:=aio a b s1 s2 hp hf hg
 with_reducible refine Eq.mp ?_ h
 kernel_rfl)
theorem ac1:ca Tryz.prog G0 153 Ù:=amG
theorem GV:ak Tryz.prog Ú:=ak.eP GU ac1 (aB.of Tryz.func153 (c:=body Tryz.f153) (by kernel_rfl) (by kernel_rfl))
theorem amH:Valid Tryz.prog G0 127 Ü:=ah GV mixed Û ak1 Tryz.func127 (c:=body Tryz.f127) (by kernel_rfl) (by
 rintro⟨l,s1,s2⟩ hp hf
 have h:=aip l s1 s2 hp hf
 with_reducible refine Eq.mp ?_ h
 kernel_rfl)
theorem GW:ak Tryz.prog Ý:=ak.cons GV amH (aB.of Tryz.func127 (c:=body Tryz.f127) (by kernel_rfl) (by kernel_rfl))
theorem amL:Valid Tryz.prog G0 118 è:=ah GW mixed ç ak9 Tryz.func118 (c:=body Tryz.f118) (by kernel_rfl) (by
 rintro d hp hf
 have h:=ait d hp hf
 with_reducible refine Eq.mp ?_ h
 kernel_rfl)
theorem G1:ak Tryz.prog é:=ak.cons GW amL (aB.of Tryz.func118 (c:=body Tryz.f118) (by kernel_rfl) (by kernel_rfl))
theorem amM:Valid Tryz.prog G0 156 ë:=ah G1 mixed ê alb Tryz.func156 (c:=body Tryz.f156) (by kernel_rfl) (by
 rintro⟨l1,l2,l3⟩ hp hf
 have h:=aiu l1 l2 l3 hp hf
 with_reducible refine Eq.mp ?_ h
 kernel_rfl)
theorem G2:ak Tryz.prog ì:=ak.cons G1 amM (aB.of Tryz.func156 (c:=body Tryz.f156) (by kernel_rfl) (by kernel_rfl))
theorem amN:Valid Tryz.prog G0 128 î:=ah G2 mixed í ald Tryz.func128 (c:=body Tryz.f128) (by kernel_rfl) (by
 rintro d hp hf
 have h:=aiy d hp hf
 with_reducible refine Eq.mp ?_ h
 kernel_rfl)
theorem G3:ak Tryz.prog ï:=ak.cons G2 amN (aB.of Tryz.func128 (c:=body Tryz.f128) (by kernel_rfl) (by kernel_rfl))
theorem amO:Valid Tryz.prog G0 93 ñ:=ah G3 mixed ð alf Tryz.func93 (c:=body Tryz.f93) (by kernel_rfl) (by
 rintro d hp hf
 have h:=aiz d hp hf
 with_reducible refine Eq.mp ?_ h
 kernel_rfl)
theorem Sy:ak Tryz.prog ò:=ak.cons G3 amO (aB.of Tryz.func93 (c:=body Tryz.f93) (by kernel_rfl) (by kernel_rfl))
theorem amP:Valid Tryz.prog G0 96 ó:=Go.DM.KJ Č (fun _=>rfl) (fun _ _ _=>rfl)
theorem G4:ak Tryz.prog ô:=ak.cons Sy amP (aB.of Tryz.func96 (c:=body Tryz.f96) (by kernel_rfl) (by kernel_rfl))
theorem ac8:Valid Tryz.prog G0 117 OI:=ah G4 mixed OH abf Tryz.func117 (c:=body Tryz.f117) (by kernel_rfl) (by
 rintro⟨s1,s2⟩ hp hf
 have h:=aan s1 s2 hp hf
 with_reducible refine Eq.mp ?_ h
 kernel_rfl)
theorem Du:ak Tryz.prog OJ:=ak.cons G4 ac8 (aB.of Tryz.func117 (c:=body Tryz.f117) (by kernel_rfl) (by kernel_rfl))
theorem ac9:Valid Tryz.prog G0 92 OL:=ah Du mixed OK abh Tryz.func92 (c:=body Tryz.f92) (by kernel_rfl) (by
 rintro⟨s1,s2,s3⟩ hp hf
 have h:=aao s1 s2 s3 hp hf
 with_reducible refine Eq.mp ?_ h
 kernel_rfl)
theorem Dv:ak Tryz.prog OM:=ak.cons Du ac9 (aB.of Tryz.func92 (c:=body Tryz.f92) (by kernel_rfl) (by kernel_rfl))
theorem ada:Valid Tryz.prog G0 51 OO:=ah Dv mixed ON abj Tryz.func51 (c:=body Tryz.f51) (by kernel_rfl) (by
 rintro⟨s1,s2,s3⟩ hp hf
 have h:=aap s1 s2 s3 hp hf
 with_reducible refine Eq.mp ?_ h
 kernel_rfl)
theorem Dw:ak Tryz.prog OP:=ak.cons Dv ada (aB.of Tryz.func51 (c:=body Tryz.f51) (by kernel_rfl) (by kernel_rfl))
theorem au6:Valid Tryz.prog G0 79 aud:=ah Dw mixed auc auW Tryz.func79 (c:=body Tryz.f79) (by kernel_rfl) (by
 rintro⟨s1,s2,s3,s4⟩ hp hf
 have h:=auS s1 s2 s3 s4 hp hf
 with_reducible refine Eq.mp ?_ h
 kernel_rfl)
theorem asu:ak Tryz.prog aue:=ak.cons Dw au6 (aB.of Tryz.func79 (c:=body Tryz.f79) (by kernel_rfl) (by kernel_rfl))
theorem adb:Valid Tryz.prog G0 55 OR:=ah asu mixed OQ abl Tryz.func55 (c:=body Tryz.f55) (by kernel_rfl) (by
 rintro⟨docs,s1,s2⟩ hp hf
 have h:=aaq docs s1 s2 hp hf
 with_reducible refine Eq.mp ?_ h
 kernel_rfl)
theorem Dx:ak Tryz.prog OS:=ak.cons asu adb (aB.of Tryz.func55 (c:=body Tryz.f55) (by kernel_rfl) (by kernel_rfl))
theorem au7:Valid Tryz.prog G0 39 auo:=ah Dx mixed auf auY Tryz.func39 (c:=body Tryz.f39) (by kernel_rfl) (by
 rintro⟨l,n⟩ hp hf
 have h:=auT l n hp hf
 with_reducible refine Eq.mp ?_ h
 kernel_rfl)
theorem asv:ak Tryz.prog aup:=ak.cons Dx au7 (aB.of Tryz.func39 (c:=body Tryz.f39) (by kernel_rfl) (by kernel_rfl))
theorem adm:Valid Tryz.prog G0 126 Pj:=ah asv mixed Ph abF Tryz.func126 (c:=body Tryz.f126) (by kernel_rfl) (by
 rintro l hp hf
 have h:=aaz l hp hf
 with_reducible refine Eq.mp ?_ h
 kernel_rfl)
theorem DG:ak Tryz.prog Pk:=ak.cons asv adm (aB.of Tryz.func126 (c:=body Tryz.f126) (by kernel_rfl) (by kernel_rfl))
theorem adn:Valid Tryz.prog G0 90 Pm:=ah DG mixed Pl abH Tryz.func90 (c:=body Tryz.f90) (by kernel_rfl) (by
 rintro l hp hf
 have h:=aaA l hp hf
 with_reducible refine Eq.mp ?_ h
 kernel_rfl)
end Go.J

end
