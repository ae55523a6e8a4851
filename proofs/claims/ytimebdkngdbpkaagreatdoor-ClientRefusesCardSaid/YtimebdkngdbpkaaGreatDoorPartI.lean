import Derived.Test.YtimebdkngdbpkaaGreatDoorPartH
set_option linter.unusedVariables false
set_option linter.unusedSimpArgs false
set_option linter.unusedSectionVars false
section
set_option linter.unusedVariables false
set_option maxHeartbeats 0
set_option maxRecDepth 100000
namespace Go.J
open Go.Proofs
open Go Vg
theorem akO:ay Tryz.prog G0 61 aap:=ay.or asn Wd
theorem ZX:Ok aaq:=aU.bE Nq akO (cO.k Tryz.func61 y!)
theorem ZY:Ok aar:=kH mixed ZX aq3 Tryz.func60 y! fun d ⟨er,⟨ts,⟨⟩⟩⟩ h1 h2 h3=>⟨_,aoC d er ts h1 h2 h3,y!⟩
theorem ZZ:Ok aas:=kS mixed ZY aq5 Tryz.func23 y! fun⟨y1,y2,l⟩ h1 h2=>⟨_,aoD y1 y2 l h1 h2,y!⟩
theorem Z0:Ok aat:=kS mixed ZZ aq7 Tryz.func150 y! fun⟨i,n⟩ h1 h2=>⟨_,aoE i n h1 h2,y!⟩
theorem Z1:Ok aau:=kS mixed Z0 aq9 Tryz.func68 y! fun⟨d,i,n,p⟩ h1 h2=>⟨_,aoF d i n p h1 h2,y!⟩
theorem auE:Ok awE:=kS mixed Z1 aDD Tryz.func187 y! fun b h1 h2=>⟨_,aDu b h1 h2,y!⟩
theorem Z2:Ok aav:=kS mixed auE nL Tryz.func197 y! fun⟨n,p,q⟩ h1 h2=>⟨_,aoG n p q h1 h2,y!⟩
theorem Z3:Ok aaw:=kS mixed Z2 nL Tryz.func198 y! fun⟨n,p,q⟩ h1 h2=>⟨_,aoH n p q h1 h2,y!⟩
theorem Nr:Ok aax:=kS mixed Z3 nL Tryz.func199 y! fun⟨n,p,q⟩ h1 h2=>⟨_,aoI n p q h1 h2,y!⟩
theorem aso:ay Tryz.prog G0 196 aay:=vH Nr mixed aiN ql are Tryz.func196 y! fun⟨a,b⟩ ⟨⟩ h1 h2 h3=>⟨_,aoJ a b h1 h2 h3,y!⟩
theorem We:ay Tryz.prog G0 196 SS:=ay.or aso abA
theorem Ns:Ok aaz:=aU.bE Nr We (cO.k Tryz.func196 y!)
theorem asp:ay Tryz.prog G0 196 aaA:=vH Ns mixed aiP ql arh Tryz.func196 y! fun⟨a,b⟩ ⟨⟩ h1 h2 h3=>⟨_,aoK a b h1 h2 h3,y!⟩
theorem Wf:ay Tryz.prog G0 196 SU:=ay.or asp We
theorem Nt:Ok aaB:=aU.bE Ns Wf (cO.k Tryz.func196 y!)
theorem asq:ay Tryz.prog G0 196 aaC:=vH Nt mixed aiR ql arj Tryz.func196 y! fun⟨a,b⟩ ⟨⟩ h1 h2 h3=>⟨_,aoL a b h1 h2 h3,y!⟩
theorem akP:ay Tryz.prog G0 196 aaD:=ay.or asq Wf
theorem Z4:Ok aaE:=aU.bE Nt akP (cO.k Tryz.func196 y!)
theorem Z5:Ok aaF:=kS mixed Z4 nL Tryz.func107 y! fun⟨a,b⟩ h1 h2=>⟨_,aoM a b h1 h2,y!⟩
theorem Z6:Ok aaG:=kS mixed Z5 nL Tryz.func108 y! fun⟨a,b⟩ h1 h2=>⟨_,aoN a b h1 h2,y!⟩
theorem Z7:Ok aaH:=kS mixed Z6 nL Tryz.func109 y! fun⟨a,b⟩ h1 h2=>⟨_,aoO a b h1 h2,y!⟩
theorem Z8:Ok aaI:=kS mixed Z7 nL Tryz.func192 y! fun s h1 h2=>⟨_,aoP s h1 h2,y!⟩
theorem Z9:Ok aaJ:=kS mixed Z8 nL Tryz.func191 y! fun⟨a,b⟩ h1 h2=>⟨_,aoQ a b h1 h2,y!⟩
theorem À:Ok aaK:=kS mixed Z9 ars Tryz.func104 y! fun⟨x,t⟩ h1 h2=>⟨_,aoR x t h1 h2,y!⟩
theorem Nu:Ok aaL:=kS mixed À nL Tryz.func103 y! fun⟨s,t,f⟩ h1 h2=>⟨_,aoS s t f h1 h2,y!⟩
theorem asr:ay Tryz.prog G0 194 aaM:=vH Nu mixed Aq aiU lb Tryz.func194 y! fun s ⟨⟨⟩,⟨⟨⟩,⟨l,⟨⟩⟩⟩⟩ h1 h2 h3=>⟨_,aoT s l h1 h2 h3,y!⟩
theorem Wg:ay Tryz.prog G0 194 SV:=asr
theorem Nv:Ok aaN:=aU.bE Nu Wg (cO.k Tryz.func194 y!)
theorem ass:ay Tryz.prog G0 194 aaO:=vH Nv mixed Aq aiV lb Tryz.func194 y! fun s ⟨⟨⟩,⟨⟨⟩,⟨l,⟨⟩⟩⟩⟩ h1 h2 h3=>⟨_,aoU s l h1 h2 h3,y!⟩
theorem Wh:ay Tryz.prog G0 194 SX:=ay.or ass Wg
theorem Nw:Ok aaP:=aU.bE Nv Wh (cO.k Tryz.func194 y!)
theorem ast:ay Tryz.prog G0 194 aaQ:=vH Nw mixed Aq aiW lb Tryz.func194 y! fun s ⟨⟨⟩,⟨⟨⟩,⟨l,⟨⟩⟩⟩⟩ h1 h2 h3=>⟨_,aoV s l h1 h2 h3,y!⟩
theorem akQ:ay Tryz.prog G0 194 aaR:=ay.or ast Wh
theorem Á:Ok aaS:=aU.bE Nw akQ (cO.k Tryz.func194 y!)
theorem Â:Ok aaT:=kH mixed Á lb Tryz.func195 y! fun s ⟨⟨⟩,⟨⟨t,f⟩,⟨l,⟨⟩⟩⟩⟩ h1 h2 h3=>⟨_,aoW s t f l h1 h2 h3,y!⟩
theorem Ã:Ok aaU:=kH mixed Â arz Tryz.func106 y! fun⟨l,t,f⟩ ⟨⟩ h1 h2 h3=>⟨_,aoX l t f h1 h2 h3,y!⟩
theorem Ä:Ok aaV:=kS3 mixed Ã (fun _=>false) (fun _=>none) (fun _=>false) (fun d=>bif Nat.beq d 30 then some [some 56,some 94] else none) arB Tryz.func45 y! fun⟨l,f⟩ h1 h2=>⟨_,aoY l f h1 h2,y!⟩
theorem auF:Ok axk:=kS mixed Ä nL Tryz.func188 y! fun⟨p1,p2,p3,p4,p5,p6,t,e⟩ h1 h2=>⟨_,aDv p1 p2 p3 p4 p5 p6 t e h1 h2,y!⟩
theorem auG:Ok axl:=kS mixed auF nL Tryz.func190 y! fun⟨p1,p2,p3,p4,p5,p6,t⟩ h1 h2=>⟨_,aDw p1 p2 p3 p4 p5 p6 t h1 h2,y!⟩
theorem auJ:Ok axm:=kH3 mixed auG (fun _=>false) (fun _=>none) (fun _=>false) (fun d=>bif Nat.beq d 16 then some [none] else bif Nat.beq d 13 then some [some 9,some 28] else none) lb Tryz.func101 y! fun⟨t,p1,p2,p3,p4,p5,p6⟩ ⟨⟩ h1 h2 h3=>⟨_,aDx t p1 p2 p3 p4 p5 p6 h1 h2 h3,y!⟩
theorem auK:Ok axn:=kS2 mixed auJ (fun _=>false) (fun _=>none) (fun d=>Nat.beq d 63) aDI Tryz.func42 y! fun⟨root,n,t,p1,p2,p3,p4,p5,p6⟩ h1 h2=>⟨_,aDy root n t p1 p2 p3 p4 p5 p6 h1 h2,y!⟩
theorem Å:Ok aaW:=kS mixed auK nL Tryz.func293 y! fun⟨u,v⟩ h1 h2=>⟨_,aoZ u v h1 h2,y!⟩
theorem Æ:Ok aaX:=kS mixed Å arE Tryz.func240 y! fun⟨i,j,u,v,p⟩ h1 h2=>⟨_,ao0 i j u v p h1 h2,y!⟩
theorem Ç:Ok aaY:=kS mixed Æ nL Tryz.func160 y! fun⟨m,n,u,v,p⟩ h1 h2=>⟨_,ao1 m n u v p h1 h2,y!⟩
theorem È:Ok aaZ:=kS mixed Ç arH Tryz.func75 y! fun⟨m,n,u,v,p⟩ h1 h2=>⟨_,ao2 m n u v p h1 h2,y!⟩
theorem É:Ok aa0:=kS mixed È nL Tryz.func99 y! fun⟨j1,j2,j3,root⟩ h1 h2=>⟨_,ao3 j1 j2 j3 root h1 h2,y!⟩
theorem Ê:Ok aa1:=kS3 mixed É (fun _=>false) (fun _=>none) (fun _=>false) (fun d=>bif Nat.beq d 5 then some [some 71,some 9] else none) nL Tryz.func39 y! fun⟨j1,j2,j3,root⟩ h1 h2=>⟨_,ao4 j1 j2 j3 root h1 h2,y!⟩
theorem Ë:Ok aa2:=kS mixed Ê nL Tryz.func40 y! fun⟨a1,a2,a3,a4,i,t⟩ h1 h2=>⟨_,ao5 a1 a2 a3 a4 i t h1 h2,y!⟩
theorem Ì:Ok aa3:=kS mixed Ë nL Tryz.func66 y! fun⟨p1,p2,p3,p4,p5,p6,i⟩ h1 h2=>⟨_,ao6 p1 p2 p3 p4 p5 p6 i h1 h2,y!⟩
theorem auM:Ok axo:=kS mixed Ì aDK Tryz.func43 y! fun⟨l,s1,s2⟩ h1 h2=>⟨_,aDB l s1 s2 h1 h2,y!⟩
theorem Í:Ok aa4:=kS mixed auM nL Tryz.func67 y! fun⟨p1,p2,p3,p4,p5,p6,i⟩ h1 h2=>⟨_,ao7 p1 p2 p3 p4 p5 p6 i h1 h2,y!⟩
theorem Î:Ok aa5:=aU.bE Í Tryz.YV (cO.k Tryz.func44 y!)
theorem Nx:Ok aa6:=kS3 mixed Î (fun _=>false) (fun _=>none) (fun _=>false) (fun d=>bif Nat.beq d 26 then some [none,none] else bif Nat.beq d 25 then some [some 78,some 3] else none) nL Tryz.func27 y! fun⟨root,i,b⟩ h1 h2=>⟨_,ao8 root i b h1 h2,y!⟩
theorem abB:ay Tryz.prog G0 41 SZ:=vH Nx mixed į MG lb Tryz.func41 y! fun⟨g1,g2,g3,g4,w,a1,a2,a3,a4,i,j⟩ ⟨⟨⟩,⟨⟨xs,q⟩,⟨l,⟨⟩⟩⟩⟩ h1 h2 h3=>⟨_,ao9 g1 g2 g3 g4 w a1 a2 a3 a4 i j xs q l h1 h2 h3,y!⟩
theorem Wi:ay Tryz.prog G0 41 S0:=abB
theorem Ny:Ok aa7:=aU.bE Nx Wi (cO.k Tryz.func41 y!)
theorem abC:ay Tryz.prog G0 41 S4:=vH Ny mixed į MG lb Tryz.func41 y! fun⟨g1,g2,g3,g4,w,a1,a2,a3,a4,i,j⟩ ⟨⟨⟩,⟨⟨xs,q⟩,⟨l,⟨⟩⟩⟩⟩ h1 h2 h3=>⟨_,apa g1 g2 g3 g4 w a1 a2 a3 a4 i j xs q l h1 h2 h3,y!⟩
theorem akR:ay Tryz.prog G0 41 aa8:=ay.or abC Wi
theorem Ï:Ok aa9:=aU.bE Ny akR (cO.k Tryz.func41 y!)
theorem Ð:Ok abb:=aU.jc Ï (Go.J.akG abB abC)
theorem Nz:Ok abc:=kS3 mixed Ð (fun _=>false) (fun _=>none) (fun _=>false) (fun d=>bif Nat.beq d 65 then some [none,some 9,none,none,some 3,none] else bif Nat.beq d 100014 then some [some 100] else bif Nat.beq d 54 then some [none,some 3,none] else bif Nat.beq d 40 then some [some 74] else bif Nat.beq d 38 then some [] else bif Nat.beq d 36 then some [some 56] else none) arP Tryz.func13 y! fun⟨root,l,b⟩ h1 h2=>⟨_,apb root l b h1 h2,y!⟩
theorem abD:ay Tryz.prog G0 76 S5:=vH Nz mixed aBX ai2 lb Tryz.func76 y! fun⟨s1,s2,s3,s4,s5,s6,s7⟩ ⟨t,⟨⟩⟩ h1 h2 h3=>⟨_,apc s1 s2 s3 s4 s5 s6 s7 t h1 h2 h3,y!⟩
theorem akS:ay Tryz.prog G0 76 abe:=abD
theorem Ñ:Ok abf:=aU.bE Nz akS (cO.k Tryz.func76 y!)
theorem Ò:Ok abh:=aU.jc Ñ (Go.J.akF abD)
theorem Ó:Ok abi:=kS mixed Ò nL Tryz.func74 y! fun⟨s1,s2,s3,s4,s5,s6,s7⟩ h1 h2=>⟨_,apd s1 s2 s3 s4 s5 s6 s7 h1 h2,y!⟩
theorem NA:Ok abj:=kS3 mixed Ó (fun _=>false) (fun _=>none) (fun _=>false) (fun d=>bif Nat.beq d 26 then some [none,none] else bif Nat.beq d 25 then some [none] else bif Nat.beq d 22 then some [some 82] else none) nL Tryz.func29 y! fun⟨root,b⟩ h1 h2=>⟨_,ape root b h1 h2,y!⟩
theorem aEv:ay Tryz.prog G0 142 aAa:=vH NA mixed lr tq lb Tryz.func142 y! fun⟨⟩ ⟨d,⟨l,⟨⟩⟩⟩ h1 h2 h3=>⟨_,aD7 d l h1 h2 h3,y!⟩
theorem aDf:ay Tryz.prog G0 142 aAb:=ay.or aEv Wb
theorem azK:Ok aAc:=aU.bE NA aDf (cO.k Tryz.func142 y!)
theorem azU:Ok aAd:=kS mixed azK aEg Tryz.func63 y! fun⟨a1,a2,a3,a4⟩ h1 h2=>⟨_,aD8 a1 a2 a3 a4 h1 h2,y!⟩
theorem azV:Ok aAg:=kS mixed azU aEi Tryz.func23 y! fun⟨y1,y2,l⟩ h1 h2=>⟨_,aD9 y1 y2 l h1 h2,y!⟩
theorem azW:Ok aAi:=kS mixed azV nL Tryz.func10 y! fun⟨root,b⟩ h1 h2=>⟨_,aEa root b h1 h2,y!⟩
theorem azX:Ok aAj:=kP qG0 mixed azW nL Tryz.func12 y! fun _ h1 h2=>⟨_,aEb h1 h2,y!⟩
theorem az1:Ok aEr:=kS mixed azX nL Tryz.func8 y! fun⟨root,other,l,i,b⟩ h1 h2=>⟨_,aEc root other l i b h1 h2,y!⟩
theorem aEw:Valid Tryz.prog G0 8 (eM avO aAk):=kV az1 y!
end Go.J

end
