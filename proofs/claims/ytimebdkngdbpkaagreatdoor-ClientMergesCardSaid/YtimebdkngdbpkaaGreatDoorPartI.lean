import Derived.Test.YtimebdkngdbpkaaGreatDoorPartH
set_option linter.unusedVariables false
set_option linter.unusedSimpArgs false
set_option linter.unusedSectionVars false
set_option linter.defProp false
section
set_option maxHeartbeats 0
set_option maxRecDepth 100000
namespace Go.J
open Go.Proofs
open Go Vg
def ZQ:Ok aaf:=kH mixed ZP lb Tryz.func81 y! λm ⟨⟨r1,r2,r3⟩,⟨⟩⟩ h1 h2 h3=>⟨_,aon m r1 r2 r3 h1,y!⟩
def ZS:Ok aag:=kH mixed ZQ lb Tryz.func80 y! λ⟨⟩ ⟨⟨r1,r2,r3⟩,⟨⟩⟩ h1 h2 h3=>⟨_,aoo r1 r2 r3 h1,y!⟩
def ZT:Ok aah:=kH mixed ZS lb Tryz.func165 y! λ⟨⟩ ⟨⟨r1,r2,r3⟩,⟨⟩⟩ h1 h2 h3=>⟨_,aop r1 r2 r3 h1,y!⟩
def ZU:Ok aai:=kH mixed ZT aqG Tryz.func86 y! λ⟨⟩ ⟨⟨r1,r2,r3⟩,⟨⟩⟩ h1 h2 h3=>⟨_,aoq r1 r2 r3 h1,y!⟩
def DF:Ok JO:=kH mixed ZU lb Tryz.func82 y! λ⟨⟩ ⟨⟨r1,r2,r3⟩,⟨⟩⟩ h1 h2 h3=>⟨_,aor r1 r2 r3 h1,y!⟩
def asf:Valid Tryz.prog G0 31 (eM fv aqI):=vS (E:=aqK) (aU.bE DF JT (cO.k Tryz.func79 y!)) mixed fv aqJ Tryz.func31 y! λb h1 h2=>⟨_,aos b h1,y!⟩
def asg:Valid Tryz.prog G0 31 (eM fv aqL):=vS (E:=aqM) (aU.bE DF JU (cO.k Tryz.func79 y!)) mixed fv nL Tryz.func31 y! λb h1 h2=>⟨_,aot b h1,y!⟩
def DG:Ok JP:=kX DF Tryz.func31 y! (Vg.Valid.cases asf asg (λx h=>(Classical.em (S.eZ x 1=0)).elim (λq=>.inl ⟨⟨h,q⟩,rfl⟩) (λq=>.inr ⟨q,rfl⟩)))
def ZW:Ok aak:=kS mixed DG nL Tryz.func59 y! λ⟨y1,y2,y3⟩ h1 h2=>⟨_,aoy y1 y2 y3,y!⟩
def Np:Ok aal:=kS mixed ZW nL Tryz.func22 y! λ⟨y1,y2⟩ h1 h2=>⟨_,aoz y1 y2,y!⟩
def asm:ay Tryz.prog G0 61 aam:=vH Np mixed atJ aiH lb Tryz.func61 y! λt ⟨dd,⟨er,⟨⟨⟩,⟨⟩⟩⟩⟩ h1 h2 h3=>⟨_,aoA t dd er h1,y!⟩
def Wd:ay Tryz.prog G0 61 SR:=asm
def Nq:Ok aan:=aU.bE Np Wd (cO.k Tryz.func61 y!)
def asn:ay Tryz.prog G0 61 aao:=vH Nq mixed atJ atE lb Tryz.func61 y! λt ⟨dd,⟨er,⟨⟨⟩,⟨l,⟨⟩⟩⟩⟩⟩ h1 h2 h3=>⟨_,aoB t dd er l h1,y!⟩
def akO:ay Tryz.prog G0 61 aap:=ay.or asn Wd
def ZX:Ok aaq:=aU.bE Nq akO (cO.k Tryz.func61 y!)
def ZY:Ok aar:=kH mixed ZX aq3 Tryz.func60 y! λd ⟨er,⟨ts,⟨⟩⟩⟩ h1 h2 h3=>⟨_,aoC d er ts h1 h2 h3,y!⟩
def ZZ:Ok aas:=kS mixed ZY aq5 Tryz.func23 y! λ⟨y1,y2,l⟩ h1 h2=>⟨_,aoD y1 y2 l h1 h2,y!⟩
def Z0:Ok aat:=kS mixed ZZ aq7 Tryz.func150 y! λ⟨i,n⟩ h1 h2=>⟨_,aoE i n h1,y!⟩
def Z1:Ok aau:=kS mixed Z0 aq9 Tryz.func68 y! λ⟨d,i,n,p⟩ h1 h2=>⟨_,aoF d i n p h1 h2,y!⟩
def auE:Ok awE:=kS mixed Z1 aDD Tryz.func187 y! λb h1 h2=>⟨_,aDu b h1,y!⟩
def Z2:Ok aav:=kS mixed auE nL Tryz.func197 y! λ⟨n,p,q⟩ h1 h2=>⟨_,aoG n p q,y!⟩
def Z3:Ok aaw:=kS mixed Z2 nL Tryz.func198 y! λ⟨n,p,q⟩ h1 h2=>⟨_,aoH n p q,y!⟩
def Nr:Ok aax:=kS mixed Z3 nL Tryz.func199 y! λ⟨n,p,q⟩ h1 h2=>⟨_,aoI n p q,y!⟩
def aso:ay Tryz.prog G0 196 aay:=vH Nr mixed Qi ql are Tryz.func196 y! λ⟨a,b⟩ ⟨⟩ h1 h2 h3=>⟨_,aoJ a b,y!⟩
def We:ay Tryz.prog G0 196 SS:=ay.or aso abA
def Ns:Ok aaz:=aU.bE Nr We (cO.k Tryz.func196 y!)
def asp:ay Tryz.prog G0 196 aaA:=vH Ns mixed atO ql arh Tryz.func196 y! λ⟨a,b⟩ ⟨⟩ h1 h2 h3=>⟨_,aoK a b,y!⟩
def Wf:ay Tryz.prog G0 196 SU:=ay.or asp We
def Nt:Ok aaB:=aU.bE Ns Wf (cO.k Tryz.func196 y!)
def asq:ay Tryz.prog G0 196 aaC:=vH Nt mixed atP ql arj Tryz.func196 y! λ⟨a,b⟩ ⟨⟩ h1 h2 h3=>⟨_,aoL a b,y!⟩
def akP:ay Tryz.prog G0 196 aaD:=ay.or asq Wf
def Z4:Ok aaE:=aU.bE Nt akP (cO.k Tryz.func196 y!)
def Z5:Ok aaF:=kS mixed Z4 nL Tryz.func107 y! λ⟨a,b⟩ h1 h2=>⟨_,aoM a b,y!⟩
def Z6:Ok aaG:=kS mixed Z5 nL Tryz.func108 y! λ⟨a,b⟩ h1 h2=>⟨_,aoN a b,y!⟩
def Z7:Ok aaH:=kS mixed Z6 nL Tryz.func109 y! λ⟨a,b⟩ h1 h2=>⟨_,aoO a b,y!⟩
def Z8:Ok aaI:=kS mixed Z7 nL Tryz.func192 y! λs h1 h2=>⟨_,aoP s,y!⟩
def Z9:Ok aaJ:=kS mixed Z8 nL Tryz.func191 y! λ⟨a,b⟩ h1 h2=>⟨_,aoQ a b,y!⟩
def À:Ok aaK:=kS mixed Z9 ars Tryz.func104 y! λ⟨x,t⟩ h1 h2=>⟨_,aoR x t h1,y!⟩
def Nu:Ok aaL:=kS mixed À nL Tryz.func103 y! λ⟨s,t,f⟩ h1 h2=>⟨_,aoS s t f h1,y!⟩
def asr:ay Tryz.prog G0 194 aaM:=vH Nu mixed atS aiU lb Tryz.func194 y! λs ⟨⟨⟩,⟨⟨⟩,⟨l,⟨⟩⟩⟩⟩ h1 h2 h3=>⟨_,aoT s l h1,y!⟩
def Wg:ay Tryz.prog G0 194 SV:=asr
def Nv:Ok aaN:=aU.bE Nu Wg (cO.k Tryz.func194 y!)
def ass:ay Tryz.prog G0 194 aaO:=vH Nv mixed atS aiV lb Tryz.func194 y! λs ⟨⟨⟩,⟨⟨⟩,⟨l,⟨⟩⟩⟩⟩ h1 h2 h3=>⟨_,aoU s l h1,y!⟩
def Wh:ay Tryz.prog G0 194 SX:=ay.or ass Wg
def Nw:Ok aaP:=aU.bE Nv Wh (cO.k Tryz.func194 y!)
def ast:ay Tryz.prog G0 194 aaQ:=vH Nw mixed atS aiW lb Tryz.func194 y! λs ⟨⟨⟩,⟨⟨⟩,⟨l,⟨⟩⟩⟩⟩ h1 h2 h3=>⟨_,aoV s l h1,y!⟩
def akQ:ay Tryz.prog G0 194 aaR:=ay.or ast Wh
def Á:Ok aaS:=aU.bE Nw akQ (cO.k Tryz.func194 y!)
def Â:Ok aaT:=kH mixed Á lb Tryz.func195 y! λs ⟨⟨⟩,⟨⟨t,f⟩,⟨l,⟨⟩⟩⟩⟩ h1 h2 h3=>⟨_,aoW s t f l h1,y!⟩
def Ã:Ok aaU:=kH mixed Â arz Tryz.func106 y! λ⟨l,t,f⟩ ⟨⟩ h1 h2 h3=>⟨_,aoX l t f h1 h2,y!⟩
def Ä:Ok aaV:=kS3 mixed Ã (λ_=>false) (λ_=>none) (λ_=>false) (λd=>bif Nat.beq d 30 then some [some 56,some 94] else none) arB Tryz.func45 y! λ⟨l,f⟩ h1 h2=>⟨_,aoY l f h1 h2,y!⟩
def auF:Ok axk:=kS mixed Ä nL Tryz.func188 y! λ⟨p1,p2,p3,p4,p5,p6,t,e⟩ h1 h2=>⟨_,aDv p1 p2 p3 p4 p5 p6 t e h1,y!⟩
def auG:Ok axl:=kS mixed auF nL Tryz.func190 y! λ⟨p1,p2,p3,p4,p5,p6,t⟩ h1 h2=>⟨_,aDw p1 p2 p3 p4 p5 p6 t,y!⟩
def auJ:Ok axm:=kH3 mixed auG (λ_=>false) (λ_=>none) (λ_=>false) (λd=>bif Nat.beq d 16 then some [none] else bif Nat.beq d 13 then some [some 9,some 28] else none) lb Tryz.func101 y! λ⟨t,p1,p2,p3,p4,p5,p6⟩ ⟨⟩ h1 h2 h3=>⟨_,aDx t p1 p2 p3 p4 p5 p6 h1,y!⟩
def auK:Ok axn:=kS2 mixed auJ (λ_=>false) (λ_=>none) (λd=>Nat.beq d 63) aDI Tryz.func42 y! λ⟨root,n,t,p1,p2,p3,p4,p5,p6⟩ h1 h2=>⟨_,aDy root n t p1 p2 p3 p4 p5 p6 h1,y!⟩
def É:Ok aa0:=kS mixed auK nL Tryz.func99 y! λ⟨j1,j2,j3,root⟩ h1 h2=>⟨_,ao3 j1 j2 j3 root,y!⟩
def Ê:Ok aa1:=kS3 mixed É (λ_=>false) (λ_=>none) (λ_=>false) (λd=>bif Nat.beq d 5 then some [some 71,some 9] else none) nL Tryz.func39 y! λ⟨j1,j2,j3,root⟩ h1 h2=>⟨_,ao4 j1 j2 j3 root,y!⟩
def Ë:Ok aa2:=kS mixed Ê nL Tryz.func40 y! λ⟨a1,a2,a3,a4,i,t⟩ h1 h2=>⟨_,ao5 a1 a2 a3 a4 i t h1,y!⟩
def auM:Ok axo:=kS mixed Ë aDK Tryz.func43 y! λ⟨l,s1,s2⟩ h1 h2=>⟨_,aDB l s1 s2 h2,y!⟩
def Î:Ok aa5:=aU.bE auM Tryz.YV (cO.k Tryz.func44 y!)
def abB:ay Tryz.prog G0 41 SZ:=vH Î mixed avp MG lb Tryz.func41 y! λ⟨g1,g2,g3,g4,w,a1,a2,a3,a4,i,j⟩ ⟨⟨⟩,⟨⟨xs,q⟩,⟨l,⟨⟩⟩⟩⟩ h1 h2 h3=>⟨_,ao9 g1 g2 g3 g4 w a1 a2 a3 a4 i j xs q l h1,y!⟩
def Wi:ay Tryz.prog G0 41 S0:=abB
def Ny:Ok aa7:=aU.bE Î Wi (cO.k Tryz.func41 y!)
def abC:ay Tryz.prog G0 41 S4:=vH Ny mixed avp MG lb Tryz.func41 y! λ⟨g1,g2,g3,g4,w,a1,a2,a3,a4,i,j⟩ ⟨⟨⟩,⟨⟨xs,q⟩,⟨l,⟨⟩⟩⟩⟩ h1 h2 h3=>⟨_,apa g1 g2 g3 g4 w a1 a2 a3 a4 i j xs q l h1,y!⟩
def akR:ay Tryz.prog G0 41 aa8:=ay.or abC Wi
def Ï:Ok aa9:=aU.bE Ny akR (cO.k Tryz.func41 y!)
def Ð:Ok abb:=aU.jc Ï (Go.J.akG abB abC)
def Nz:Ok abc:=kS3 mixed Ð (λ_=>false) (λ_=>none) (λ_=>false) (λd=>bif Nat.beq d 65 then some [none,some 9,none,none,some 3,none] else bif Nat.beq d 100014 then some [some 100] else bif Nat.beq d 54 then some [none,some 3,none] else bif Nat.beq d 40 then some [some 74] else bif Nat.beq d 38 then some [] else bif Nat.beq d 36 then some [some 56] else none) arP Tryz.func13 y! λ⟨root,l,b⟩ h1 h2=>⟨_,apb root l b h1,y!⟩
def aEv:ay Tryz.prog G0 142 aAa:=vH Nz mixed aiE tq lb Tryz.func142 y! λ⟨⟩ ⟨d,⟨l,⟨⟩⟩⟩ h1 h2 h3=>⟨_,aD7 d l,y!⟩
def aDf:ay Tryz.prog G0 142 aAb:=ay.or aEv Wb
def azK:Ok aAc:=aU.bE Nz aDf (cO.k Tryz.func142 y!)
def azU:Ok aAd:=kS mixed azK aEg Tryz.func63 y! λ⟨a1,a2,a3,a4⟩ h1 h2=>⟨_,aD8 a1 a2 a3 a4 h1 h2,y!⟩
def azV:Ok aAg:=kS mixed azU aEi Tryz.func23 y! λ⟨y1,y2,l⟩ h1 h2=>⟨_,aD9 y1 y2 l h1 h2,y!⟩
def azX:Ok aAj:=kP qG0 mixed azV nL Tryz.func12 y! λ_ h1 h2=>⟨_,aEb,y!⟩
def aHN:Ok aMd:=kS mixed azX aMc Tryz.func4 y! λ⟨l,m,q⟩ h1 h2=>⟨_,aLO l m q h2,y!⟩
def aMh:Valid Tryz.prog G0 4 (eM aH1 aIk):=kV aHN y!
end Go.J

end
