import Derived.Test.YtimebdkngdbpkaaGreatDoorPartG
set_option linter.unusedVariables false
set_option linter.unusedSimpArgs false
set_option linter.unusedSectionVars false
set_option linter.defProp false
set_option linter.unusedVariables false
set_option maxHeartbeats 0
set_option maxRecDepth 100000
namespace Go.J
open Go.Proofs
open Go Vg
def ı:Ok acM:=kS mixed İ nL Tryz.func136 y! λb h1 h2=>⟨_,arT b h1,y!⟩
def Ĳ:Ok acN:=kS mixed ı aur Tryz.func134 y! λd h1 h2=>⟨_,arU d h1,y!⟩
def ĳ:Ok acO:=kS mixed Ĳ nL Tryz.func287 y! λd h1 h2=>⟨_,arV d h1,y!⟩
def Ĵ:Ok acP:=kS mixed ĳ auu Tryz.func135 y! λ⟨d,t⟩ h1 h2=>⟨_,arW d t h1,y!⟩
def ĵ:Ok acQ:=kS mixed Ĵ nL Tryz.func138 y! λ⟨d,t⟩ h1 h2=>⟨_,arX d t h1,y!⟩
def Ķ:Ok acR:=kX ĵ Tryz.func123 y! (Go.DM.YV aFw (λ_=>rfl) (λ_ _ _=>rfl))
def aS7:Ok aTC:=kS mixed Ķ nL Tryz.func273 y! λ⟨l1,l2,l3⟩ h1 h2=>⟨_,aV6 l1 l2 l3,y!⟩
def aS8:Ok aTD:=kS mixed aS7 nL Tryz.func274 y! λ⟨l1,l2,l3⟩ h1 h2=>⟨_,aV7 l1 l2 l3 h1,y!⟩
def aS9:Ok aTE:=kS mixed aS8 nL Tryz.func201 y! λb h1 h2=>⟨_,aV8 b h1,y!⟩
def ķ:Ok acS:=kS mixed aS9 nL Tryz.func285 y! λ⟨s1,s2⟩ h1 h2=>⟨_,arY s1 s2,y!⟩
def ĸ:Ok acT:=kS mixed ķ auA Tryz.func219 y! λ⟨s1,s2,s3⟩ h1 h2=>⟨_,arZ s1 s2 s3 h1 h2,y!⟩
def Ĺ:Ok acU:=kS mixed ĸ nL Tryz.func222 y! λ⟨s1,s2,s3⟩ h1 h2=>⟨_,ar0 s1 s2 s3 h1,y!⟩
def ĺ:Ok acV:=kS mixed Ĺ nL Tryz.func312 y! λ⟨s1,s2,s3,s4⟩ h1 h2=>⟨_,ar1 s1 s2 s3 s4,y!⟩
def Ļ:Ok acW:=kS mixed ĺ nL Tryz.func53 y! λ⟨docs,s1,s2⟩ h1 h2=>⟨_,ar2 docs s1 s2,y!⟩
def ļ:Ok acX:=kS mixed Ļ auF Tryz.func288 y! λ⟨l,n⟩ h1 h2=>⟨_,ar3 l n,y!⟩
def Ľ:Ok acY:=kS mixed ļ nL Tryz.func318 y! λ⟨s1,s2⟩ h1 h2=>⟨_,ar4 s1 s2,y!⟩
def ľ:Ok acZ:=kS mixed Ľ nL Tryz.func315 y! λ⟨s1,s2,s3,s4⟩ h1 h2=>⟨_,ar5 s1 s2 s3 s4,y!⟩
def Ŀ:Ok ac0:=kS mixed ľ auJ Tryz.func303 y! λ⟨l,n⟩ h1 h2=>⟨_,ar6 l n h2,y!⟩
def ŀ:Ok ac1:=kS mixed Ŀ nL Tryz.func55 y! λl h1 h2=>⟨_,ar7 l h1,y!⟩
def Ł:Ok ac2:=kS mixed ŀ nL Tryz.func124 y! λl h1 h2=>⟨_,ar8 l h1,y!⟩
def ł:Ok ac3:=kS mixed Ł auN Tryz.func280 y! λ⟨a,b⟩ h1 h2=>⟨_,ar9 a b h2,y!⟩
def Ń:Ok ac4:=kS mixed ł nL Tryz.func279 y! λ⟨a1,a2,b1,b2⟩ h1 h2=>⟨_,asa a1 a2 b1 b2,y!⟩
def ń:Ok ac5:=kH mixed Ń auQ Tryz.func278 y! λ⟨a,b⟩ ⟨⟩ h1 h2 h3=>⟨_,asb a b h2,y!⟩
def Ņ:Ok ac6:=kS mixed ń nL Tryz.func215 y! λ⟨a,b⟩ h1 h2=>⟨_,asc a b,y!⟩
def ņ:Ok ac7:=kS mixed Ņ auT Tryz.func122 y! λ⟨y1,y2⟩ h1 h2=>⟨_,asd y1 y2,y!⟩
def Ň:Ok ac8:=kS mixed ņ nL Tryz.func51 y! λ⟨y1,y2⟩ h1 h2=>⟨_,ase y1 y2,y!⟩
def ň:Ok ac9:=kS mixed Ň nL Tryz.func52 y! λ⟨y1,y2⟩ h1 h2=>⟨_,asf y1 y2 h2,y!⟩
def ŉ:Ok ada:=kS2 mixed ň (λt=>Nat.beq t 128) (λd=>bif Nat.beq d 73 then some 17 else none) (λ_=>false) auX Tryz.func54 y! λ⟨y1,y2⟩ h1 h2=>⟨_,asg y1 y2 h1 h2,y!⟩
def Ŋ:Ok adb:=kS mixed ŉ nL Tryz.func129 y! λ⟨y1,y2⟩ h1 h2=>⟨_,ash y1 y2,y!⟩
def ŋ:Ok ade:=kS mixed Ŋ nL Tryz.func20 y! λ⟨y1,y2,d⟩ h1 h2=>⟨_,asi y1 y2 d,y!⟩
def Ō:Ok adf:=kS mixed ŋ nL Tryz.func19 y! λ⟨y1,y2⟩ h1 h2=>⟨_,asj y1 y2,y!⟩
def ō:Ok adg:=kS mixed Ō au2 Tryz.func131 y! λ⟨y1,y2⟩ h1 h2=>⟨_,asl y1 y2 h2,y!⟩
def Ŏ:Ok adh:=kS mixed ō nL Tryz.func223 y! λ⟨y1,y2,y3⟩ h1 h2=>⟨_,asm y1 y2 y3,y!⟩
def P0:Ok adi:=kS mixed Ŏ nL Tryz.func58 y! λ⟨y1,y2⟩ h1 h2=>⟨_,asn y1 y2,y!⟩
def axT:aF Tryz.prog G0 224 adj:=vH2 P0 (λ_=>false) (λ_=>none) (λd=>Nat.beq d 5) mixed aH6 q6q lY Tryz.func224 y! λv ⟨q,⟨⟨⟩,⟨⟩⟩⟩ h1 h2 h3=>⟨_,aso v q h1,y!⟩
def YW:aF Tryz.prog G0 224 Vk:=axT
def P1:Ok adk:=aV.bD P0 YW (cV.k Tryz.func224 y!)
def axU:aF Tryz.prog G0 224 adl:=vH2 P1 (λ_=>false) (λ_=>none) (λd=>Nat.beq d 5) mixed aH6 q7q lY Tryz.func224 y! λv ⟨q,⟨⟨⟩,⟨l,⟨⟩⟩⟩⟩ h1 h2 h3=>⟨_,asp v q l h1,y!⟩
def apc:aF Tryz.prog G0 224 adm:=aF.or axU YW
def ŏ:Ok adn:=aV.bD P1 apc (cV.k Tryz.func224 y!)
def Ő:Ok ado:=kH mixed ŏ lY Tryz.func226 y! λd ⟨⟨⟩,⟨l,⟨⟩⟩⟩ h1 h2 h3=>⟨_,asq d l h1,y!⟩
def ő:Ok adp:=kS mixed Ő au9 Tryz.func132 y! λ⟨y1,y2,y3⟩ h1 h2=>⟨_,asr y1 y2 y3 h2,y!⟩
def Œ:Ok adq:=kH mixed ő lY Tryz.func243 y! λ⟨⟩ ⟨⟨r1,r2,r3⟩,⟨⟩⟩ h1 h2 h3=>⟨_,ass r1 r2 r3 h1,y!⟩
def œ:Ok adr:=kH mixed Œ lY Tryz.func244 y! λ⟨⟩ ⟨⟨r1,r2,r3⟩,⟨⟩⟩ h1 h2 h3=>⟨_,ast r1 r2 r3 h1,y!⟩
def Ŕ:Ok ads:=kH mixed œ lY Tryz.func245 y! λ⟨⟩ ⟨a,⟨⟨⟩,⟨⟨⟩,⟨⟨r1,r2,r3⟩,⟨⟩⟩⟩⟩⟩ h1 h2 h3=>⟨_,asu a r1 r2 r3 h1,y!⟩
def ŕ:Ok adt:=kS mixed Ŕ ave Tryz.func164 y! λb h1 h2=>⟨_,asv b h1,y!⟩
def Ŗ:Ok adu:=kS2 mixed ŕ (λ_=>false) (λ_=>none) (λd=>Nat.beq d 52) nL Tryz.func62 y! λ⟨d,t⟩ h1 h2=>⟨_,asw d t h1,y!⟩
def ŗ:Ok adv:=kXH Ŗ Tryz.func97 y! (Tryz.aoK (λ_=>rfl))
def Ř:Ok adw:=kH mixed ŗ avi Tryz.func98 y! λ⟨⟩ ⟨l,⟨⟩⟩ h1 h2 h3=>⟨_,asx l h1,y!⟩
def ř:Ok adx:=kS mixed Ř avk Tryz.func37 y! λl h1 h2=>⟨_,asy l h1,y!⟩
def Ś:Ok ady:=kS mixed ř avn Tryz.func38 y! λl h1 h2=>⟨_,asz l h1,y!⟩
def ś:Ok adz:=kS mixed Ś nL Tryz.func177 y! λb h1 h2=>⟨_,asA b h1,y!⟩
def Ŝ:Ok adA:=kH2 mixed ś (λ_=>false) (λ_=>none) (λd=>Nat.beq d 5) lY Tryz.func176 y! λ⟨⟩ ⟨st,⟨⟨⟩,⟨bb,⟨at_,⟨⟩⟩⟩⟩⟩ h1 h2 h3=>⟨_,asB st bb at_ h1,y!⟩
def P2:Ok adB:=kS mixed Ŝ avr Tryz.func93 y! λb h1 h2=>⟨_,asC b h1,y!⟩
def axV:aF Tryz.prog G0 95 adC:=vH P2 mixed aH8 YC lY Tryz.func95 y! λ⟨⟩ ⟨⟨e,n,w⟩,⟨⟩⟩ h1 h2 h3=>⟨_,asD e n w h1,y!⟩
def YX:aF Tryz.prog G0 95 Vl:=axV
def P3:Ok adD:=aV.bD P2 YX (cV.k Tryz.func95 y!)
def axW:aF Tryz.prog G0 95 adE:=vH P3 mixed aH8 ay9 lY Tryz.func95 y! λ⟨⟩ ⟨⟨e,n,w⟩,⟨l,⟨⟩⟩⟩ h1 h2 h3=>⟨_,asE e n w l h1,y!⟩
def apd:aF Tryz.prog G0 95 adF:=aF.or axW YX
def ŝ:Ok adG:=aV.bD P3 apd (cV.k Tryz.func95 y!)
def Ş:Ok adH:=kH mixed ŝ lY Tryz.func255 y! λd ⟨⟨e,n,w⟩,⟨⟩⟩ h1 h2 h3=>⟨_,asF d e n w h1,y!⟩
def ş:Ok adI:=kH mixed Ş avx Tryz.func182 y! λd ⟨⟨e,n,w⟩,⟨⟩⟩ h1 h2 h3=>⟨_,asG d e n w h1,y!⟩
def Š:Ok adJ:=kH mixed ş avz Tryz.func94 y! λd ⟨⟨e,n,w⟩,⟨⟩⟩ h1 h2 h3=>⟨_,asH d e n w h1,y!⟩
def š:Ok adK:=kS mixed Š nL Tryz.func36 y! λb h1 h2=>⟨_,asI b h1,y!⟩
def aK7:Ok aLT:=kS mixed š aPH Tryz.func17 y! λl h1 h2=>⟨_,aPk l h1,y!⟩
def aK8:Ok aLU:=kS mixed aK7 aPJ Tryz.func25 y! λl h1 h2=>⟨_,aPl l h1,y!⟩
def aK9:Ok aLV:=kS mixed aK8 aPL Tryz.func15 y! λl h1 h2=>⟨_,aPm l h1 h2,y!⟩
def aLa:Ok aLW:=kS mixed aK9 aPN Tryz.func11 y! λl h1 h2=>⟨_,aPn l h2,y!⟩
def Ţ:Ok adL:=kH mixed aLa lY Tryz.func140 y! λv ⟨d,⟨l,⟨⟩⟩⟩ h1 h2 h3=>⟨_,asJ v d l h1,y!⟩
def ţ:Ok adM:=kH mixed Ţ lY Tryz.func175 y! λ⟨b,m⟩ ⟨d,⟨l,⟨⟩⟩⟩ h1 h2 h3=>⟨_,asK b m d l h1,y!⟩
def Ť:Ok adN:=kH mixed ţ lY Tryz.func139 y! λ⟨y1,y2,y3⟩ ⟨d,⟨l,⟨⟩⟩⟩ h1 h2 h3=>⟨_,asL y1 y2 y3 d l h1,y!⟩
def ť:Ok adO:=kH mixed Ť avF Tryz.func171 y! λp ⟨d,⟨l,⟨⟩⟩⟩ h1 h2 h3=>⟨_,asM p d l h1,y!⟩
def P4:Ok adP:=kH mixed ť lY Tryz.func141 y! λ⟨p1,p2,p3,p4,p5,p6⟩ ⟨d,⟨l,⟨⟩⟩⟩ h1 h2 h3=>⟨_,asN p1 p2 p3 p4 p5 p6 d l h1,y!⟩
def axX:aF Tryz.prog G0 142 adQ:=vH P4 mixed aH8 HG lY Tryz.func142 y! λ⟨⟩ ⟨d,⟨l,⟨⟩⟩⟩ h1 h2 h3=>⟨_,asO d l,y!⟩
def YY:aF Tryz.prog G0 142 Vm:=axX
def Ŧ:Ok adR:=aV.bD P4 YY (cV.k Tryz.func142 y!)
def P5:Ok adS:=kS mixed Ŧ avJ Tryz.func63 y! λ⟨a1,a2,a3,a4⟩ h1 h2=>⟨_,asP a1 a2 a3 a4 h1 h2,y!⟩
def Md:aF Tryz.prog G0 79 adT:=vH P5 mixed acC yr lY Tryz.func79 y! λ⟨b,c⟩ ⟨⟩ h1 h2 h3=>⟨_,asQ b c h1,y!⟩
def YZ:aF Tryz.prog G0 79 Vn:=Md
def P6:Ok adU:=aV.bD P5 YZ (cV.k Tryz.func79 y!)
def Me:aF Tryz.prog G0 79 adV:=vH P6 mixed acC yr lY Tryz.func79 y! λ⟨b,c⟩ ⟨⟩ h1 h2 h3=>⟨_,asR b c h1,y!⟩
def ape:aF Tryz.prog G0 79 adW:=aF.or Me YZ
def ŧ:Ok adX:=aV.bD P6 ape (cV.k Tryz.func79 y!)
def Ũ:Ok adY:=kH mixed ŧ lY Tryz.func84 y! λ⟨⟩ ⟨⟨r1,r2,r3⟩,⟨⟩⟩ h1 h2 h3=>⟨_,asS r1 r2 r3 h1,y!⟩
def ũ:Ok adZ:=kH mixed Ũ lY Tryz.func85 y! λm ⟨⟨r1,r2,r3⟩,⟨⟩⟩ h1 h2 h3=>⟨_,asT m r1 r2 r3 h1,y!⟩
def Ū:Ok ad0:=kH mixed ũ lY Tryz.func81 y! λm ⟨⟨r1,r2,r3⟩,⟨⟩⟩ h1 h2 h3=>⟨_,asU m r1 r2 r3 h1,y!⟩
def ū:Ok ad1:=kH mixed Ū lY Tryz.func80 y! λ⟨⟩ ⟨⟨r1,r2,r3⟩,⟨⟩⟩ h1 h2 h3=>⟨_,asV r1 r2 r3 h1,y!⟩
def Ŭ:Ok ad3:=kH mixed ū lY Tryz.func165 y! λ⟨⟩ ⟨⟨r1,r2,r3⟩,⟨⟩⟩ h1 h2 h3=>⟨_,asW r1 r2 r3 h1,y!⟩
def ŭ:Ok ad4:=kH mixed Ŭ avQ Tryz.func86 y! λ⟨⟩ ⟨⟨r1,r2,r3⟩,⟨⟩⟩ h1 h2 h3=>⟨_,asX r1 r2 r3 h1,y!⟩
def FG:Ok L8:=kH mixed ŭ lY Tryz.func82 y! λ⟨⟩ ⟨⟨r1,r2,r3⟩,⟨⟩⟩ h1 h2 h3=>⟨_,asY r1 r2 r3 h1,y!⟩
def axY:Valid Tryz.prog G0 31 (eD jd avS):=vS (E:=avU) (aV.bD FG Md (cV.k Tryz.func79 y!)) mixed jd avT Tryz.func31 y! λb h1 h2=>⟨_,asZ b h1,y!⟩
def axZ:Valid Tryz.prog G0 31 (eD jd avV):=vS (E:=avW) (aV.bD FG Me (cV.k Tryz.func79 y!)) mixed jd nL Tryz.func31 y! λb h1 h2=>⟨_,as1 b h1,y!⟩
def FH:Ok L9:=kX FG Tryz.func31 y! (Vg.Valid.cases axY axZ (λx h=>(Classical.em (S.dY x 1=0)).elim (λq=>.inl ⟨⟨h,q⟩,rfl⟩) (λq=>.inr ⟨q,rfl⟩)))
def ů:Ok ad6:=kS mixed FH awa Tryz.func116 y! λ⟨y1,y2,y3⟩ h1 h2=>⟨_,as6 y1 y2 y3 h1 h2,y!⟩
def Ű:Ok ad7:=kS mixed ů nL Tryz.func47 y! λ⟨y1,y2,y3⟩ h1 h2=>⟨_,as7 y1 y2 y3 h1,y!⟩
def ű:Ok ad8:=kS mixed Ű nL Tryz.func59 y! λ⟨y1,y2,y3⟩ h1 h2=>⟨_,as8 y1 y2 y3,y!⟩
def P7:Ok ad9:=kS mixed ű nL Tryz.func22 y! λ⟨y1,y2⟩ h1 h2=>⟨_,as9 y1 y2,y!⟩
def ax4:aF Tryz.prog G0 61 aea:=vH P7 mixed am5 aza lY Tryz.func61 y! λt ⟨dd,⟨er,⟨⟨⟩,⟨⟩⟩⟩⟩ h1 h2 h3=>⟨_,ata t dd er h1,y!⟩
def Y0:aF Tryz.prog G0 61 Vo:=ax4
end Go.J
