import Derived.Test.YtimebdkngdbpkaaGreatDoorPartG
set_option linter.unusedVariables false
set_option linter.unusedSimpArgs false
set_option linter.unusedSectionVars false
set_option linter.defProp false
set_option linter.unusedVariables false
set_option maxHeartbeats 0
set_option maxRecDepth 100000
namespace Go.J
open Go.Proofs
open Go Vg
def Ł:Ok ac2:=kS mixed ŀ nL Tryz.func124 y! λl h1 h2=>⟨_,ar8 l h1,y!⟩
def ł:Ok ac3:=kS mixed Ł auN Tryz.func280 y! λ⟨a,b⟩ h1 h2=>⟨_,ar9 a b h2,y!⟩
def Ń:Ok ac4:=kS mixed ł nL Tryz.func279 y! λ⟨a1,a2,b1,b2⟩ h1 h2=>⟨_,asa a1 a2 b1 b2,y!⟩
def ń:Ok ac5:=kH mixed Ń auQ Tryz.func278 y! λ⟨a,b⟩ ⟨⟩ h1 h2 h3=>⟨_,asb a b h2,y!⟩
def Ņ:Ok ac6:=kS mixed ń nL Tryz.func215 y! λ⟨a,b⟩ h1 h2=>⟨_,asc a b,y!⟩
def ņ:Ok ac7:=kS mixed Ņ auT Tryz.func122 y! λ⟨y1,y2⟩ h1 h2=>⟨_,asd y1 y2,y!⟩
def Ň:Ok ac8:=kS mixed ņ nL Tryz.func51 y! λ⟨y1,y2⟩ h1 h2=>⟨_,ase y1 y2,y!⟩
def ň:Ok ac9:=kS mixed Ň nL Tryz.func52 y! λ⟨y1,y2⟩ h1 h2=>⟨_,asf y1 y2 h2,y!⟩
def ŉ:Ok ada:=kS2 mixed ň (λt=>Nat.beq t 128) (λd=>bif Nat.beq d 73 then some 17 else none) (λ_=>false) auX Tryz.func54 y! λ⟨y1,y2⟩ h1 h2=>⟨_,asg y1 y2 h1 h2,y!⟩
def aKZ:Ok aLO:=kS mixed ŉ nL Tryz.func126 y! λ⟨l,i,m,s1,s2,s3⟩ h1 h2=>⟨_,aPf l i m s1 s2 s3 h1,y!⟩
def Ŋ:Ok adb:=kS mixed aKZ nL Tryz.func129 y! λ⟨y1,y2⟩ h1 h2=>⟨_,ash y1 y2,y!⟩
def ŋ:Ok ade:=kS mixed Ŋ nL Tryz.func20 y! λ⟨y1,y2,d⟩ h1 h2=>⟨_,asi y1 y2 d,y!⟩
def Ō:Ok adf:=kS mixed ŋ nL Tryz.func19 y! λ⟨y1,y2⟩ h1 h2=>⟨_,asj y1 y2,y!⟩
def aK0:Ok aLP:=kS mixed Ō nL Tryz.func56 y! λ⟨y1,y2,i,m⟩ h1 h2=>⟨_,aPg y1 y2 i m,y!⟩
def aK1:Ok aLQ:=kS mixed aK0 aPC Tryz.func57 y! λ⟨y1,y2⟩ h1 h2=>⟨_,aPh y1 y2,y!⟩
def ō:Ok adg:=kS mixed aK1 au2 Tryz.func131 y! λ⟨y1,y2⟩ h1 h2=>⟨_,asl y1 y2 h2,y!⟩
def aK2:Ok aLR:=kS mixed ō nL Tryz.func21 y! λ⟨y1,y2,a1,a2,a3,a4⟩ h1 h2=>⟨_,aPi y1 y2 a1 a2 a3 a4,y!⟩
def aK6:Ok aLS:=kS mixed aK2 aPF Tryz.func18 y! λl h1 h2=>⟨_,aPj l,y!⟩
def Ŏ:Ok adh:=kS mixed aK6 nL Tryz.func223 y! λ⟨y1,y2,y3⟩ h1 h2=>⟨_,asm y1 y2 y3,y!⟩
def P0:Ok adi:=kS mixed Ŏ nL Tryz.func58 y! λ⟨y1,y2⟩ h1 h2=>⟨_,asn y1 y2,y!⟩
def axT:aF Tryz.prog G0 224 adj:=vH2 P0 (λ_=>false) (λ_=>none) (λd=>Nat.beq d 5) mixed aH8 q6q lY Tryz.func224 y! λv ⟨q,⟨⟨⟩,⟨⟩⟩⟩ h1 h2 h3=>⟨_,aso v q h1,y!⟩
def YW:aF Tryz.prog G0 224 Vk:=axT
def P1:Ok adk:=aV.bD P0 YW (cV.k Tryz.func224 y!)
def axU:aF Tryz.prog G0 224 adl:=vH2 P1 (λ_=>false) (λ_=>none) (λd=>Nat.beq d 5) mixed aH8 q7q lY Tryz.func224 y! λv ⟨q,⟨⟨⟩,⟨l,⟨⟩⟩⟩⟩ h1 h2 h3=>⟨_,asp v q l h1,y!⟩
def apc:aF Tryz.prog G0 224 adm:=aF.or axU YW
def ŏ:Ok adn:=aV.bD P1 apc (cV.k Tryz.func224 y!)
def Ő:Ok ado:=kH mixed ŏ lY Tryz.func226 y! λd ⟨⟨⟩,⟨l,⟨⟩⟩⟩ h1 h2 h3=>⟨_,asq d l h1,y!⟩
def ő:Ok adp:=kS mixed Ő au9 Tryz.func132 y! λ⟨y1,y2,y3⟩ h1 h2=>⟨_,asr y1 y2 y3 h2,y!⟩
def Œ:Ok adq:=kH mixed ő lY Tryz.func243 y! λ⟨⟩ ⟨⟨r1,r2,r3⟩,⟨⟩⟩ h1 h2 h3=>⟨_,ass r1 r2 r3 h1,y!⟩
def œ:Ok adr:=kH mixed Œ lY Tryz.func244 y! λ⟨⟩ ⟨⟨r1,r2,r3⟩,⟨⟩⟩ h1 h2 h3=>⟨_,ast r1 r2 r3 h1,y!⟩
def Ŕ:Ok ads:=kH mixed œ lY Tryz.func245 y! λ⟨⟩ ⟨a,⟨⟨⟩,⟨⟨⟩,⟨⟨r1,r2,r3⟩,⟨⟩⟩⟩⟩⟩ h1 h2 h3=>⟨_,asu a r1 r2 r3 h1,y!⟩
def ŕ:Ok adt:=kS mixed Ŕ ave Tryz.func164 y! λb h1 h2=>⟨_,asv b h1,y!⟩
def Ŗ:Ok adu:=kS2 mixed ŕ (λ_=>false) (λ_=>none) (λd=>Nat.beq d 52) nL Tryz.func62 y! λ⟨d,t⟩ h1 h2=>⟨_,asw d t h1,y!⟩
def ŗ:Ok adv:=kXH Ŗ Tryz.func97 y! (Tryz.aoK (λ_=>rfl))
def Ř:Ok adw:=kH mixed ŗ avi Tryz.func98 y! λ⟨⟩ ⟨l,⟨⟩⟩ h1 h2 h3=>⟨_,asx l h1,y!⟩
def ř:Ok adx:=kS mixed Ř avk Tryz.func37 y! λl h1 h2=>⟨_,asy l h1,y!⟩
def Ś:Ok ady:=kS mixed ř avn Tryz.func38 y! λl h1 h2=>⟨_,asz l h1,y!⟩
def ś:Ok adz:=kS mixed Ś nL Tryz.func177 y! λb h1 h2=>⟨_,asA b h1,y!⟩
def Ŝ:Ok adA:=kH2 mixed ś (λ_=>false) (λ_=>none) (λd=>Nat.beq d 5) lY Tryz.func176 y! λ⟨⟩ ⟨st,⟨⟨⟩,⟨bb,⟨at_,⟨⟩⟩⟩⟩⟩ h1 h2 h3=>⟨_,asB st bb at_ h1,y!⟩
def P2:Ok adB:=kS mixed Ŝ avr Tryz.func93 y! λb h1 h2=>⟨_,asC b h1,y!⟩
def axV:aF Tryz.prog G0 95 adC:=vH P2 mixed aIa YC lY Tryz.func95 y! λ⟨⟩ ⟨⟨e,n,w⟩,⟨⟩⟩ h1 h2 h3=>⟨_,asD e n w h1,y!⟩
def YX:aF Tryz.prog G0 95 Vl:=axV
def P3:Ok adD:=aV.bD P2 YX (cV.k Tryz.func95 y!)
def axW:aF Tryz.prog G0 95 adE:=vH P3 mixed aIa ay9 lY Tryz.func95 y! λ⟨⟩ ⟨⟨e,n,w⟩,⟨l,⟨⟩⟩⟩ h1 h2 h3=>⟨_,asE e n w l h1,y!⟩
def apd:aF Tryz.prog G0 95 adF:=aF.or axW YX
def ŝ:Ok adG:=aV.bD P3 apd (cV.k Tryz.func95 y!)
def Ş:Ok adH:=kH mixed ŝ lY Tryz.func255 y! λd ⟨⟨e,n,w⟩,⟨⟩⟩ h1 h2 h3=>⟨_,asF d e n w h1,y!⟩
def ş:Ok adI:=kH mixed Ş avx Tryz.func182 y! λd ⟨⟨e,n,w⟩,⟨⟩⟩ h1 h2 h3=>⟨_,asG d e n w h1,y!⟩
def Š:Ok adJ:=kH mixed ş avz Tryz.func94 y! λd ⟨⟨e,n,w⟩,⟨⟩⟩ h1 h2 h3=>⟨_,asH d e n w h1,y!⟩
def š:Ok adK:=kS mixed Š nL Tryz.func36 y! λb h1 h2=>⟨_,asI b h1,y!⟩
def Ţ:Ok adL:=kH mixed š lY Tryz.func140 y! λv ⟨d,⟨l,⟨⟩⟩⟩ h1 h2 h3=>⟨_,asJ v d l h1,y!⟩
def ţ:Ok adM:=kH mixed Ţ lY Tryz.func175 y! λ⟨b,m⟩ ⟨d,⟨l,⟨⟩⟩⟩ h1 h2 h3=>⟨_,asK b m d l h1,y!⟩
def Ť:Ok adN:=kH mixed ţ lY Tryz.func139 y! λ⟨y1,y2,y3⟩ ⟨d,⟨l,⟨⟩⟩⟩ h1 h2 h3=>⟨_,asL y1 y2 y3 d l h1,y!⟩
def ť:Ok adO:=kH mixed Ť avF Tryz.func171 y! λp ⟨d,⟨l,⟨⟩⟩⟩ h1 h2 h3=>⟨_,asM p d l h1,y!⟩
def P4:Ok adP:=kH mixed ť lY Tryz.func141 y! λ⟨p1,p2,p3,p4,p5,p6⟩ ⟨d,⟨l,⟨⟩⟩⟩ h1 h2 h3=>⟨_,asN p1 p2 p3 p4 p5 p6 d l h1,y!⟩
def axX:aF Tryz.prog G0 142 adQ:=vH P4 mixed aIa HG lY Tryz.func142 y! λ⟨⟩ ⟨d,⟨l,⟨⟩⟩⟩ h1 h2 h3=>⟨_,asO d l,y!⟩
def YY:aF Tryz.prog G0 142 Vm:=axX
def Ŧ:Ok adR:=aV.bD P4 YY (cV.k Tryz.func142 y!)
def P5:Ok adS:=kS mixed Ŧ avJ Tryz.func63 y! λ⟨a1,a2,a3,a4⟩ h1 h2=>⟨_,asP a1 a2 a3 a4 h1 h2,y!⟩
def a1z:Ok a1T:=kS mixed P5 nL Tryz.func92 y! λ⟨p1,p2,p3,p4,p5,p6⟩ h1 h2=>⟨_,a4A p1 p2 p3 p4 p5 p6 h1,y!⟩
def a0l:Ok a1U:=kS mixed a1z nL Tryz.func90 y! λ⟨s1,s2,s3,s4,s5,s6,s7⟩ h1 h2=>⟨_,a4B s1 s2 s3 s4 s5 s6 s7,y!⟩
def Md:aF Tryz.prog G0 79 adT:=vH a0l mixed aze yr lY Tryz.func79 y! λ⟨b,c⟩ ⟨⟩ h1 h2 h3=>⟨_,asQ b c h1,y!⟩
def YZ:aF Tryz.prog G0 79 Vn:=Md
def P6:Ok adU:=aV.bD a0l YZ (cV.k Tryz.func79 y!)
def Me:aF Tryz.prog G0 79 adV:=vH P6 mixed aze yr lY Tryz.func79 y! λ⟨b,c⟩ ⟨⟩ h1 h2 h3=>⟨_,asR b c h1,y!⟩
def ape:aF Tryz.prog G0 79 adW:=aF.or Me YZ
def ŧ:Ok adX:=aV.bD P6 ape (cV.k Tryz.func79 y!)
def Ũ:Ok adY:=kH mixed ŧ lY Tryz.func84 y! λ⟨⟩ ⟨⟨r1,r2,r3⟩,⟨⟩⟩ h1 h2 h3=>⟨_,asS r1 r2 r3 h1,y!⟩
def ũ:Ok adZ:=kH mixed Ũ lY Tryz.func85 y! λm ⟨⟨r1,r2,r3⟩,⟨⟩⟩ h1 h2 h3=>⟨_,asT m r1 r2 r3 h1,y!⟩
def Ū:Ok ad0:=kH mixed ũ lY Tryz.func81 y! λm ⟨⟨r1,r2,r3⟩,⟨⟩⟩ h1 h2 h3=>⟨_,asU m r1 r2 r3 h1,y!⟩
def ū:Ok ad1:=kH mixed Ū lY Tryz.func80 y! λ⟨⟩ ⟨⟨r1,r2,r3⟩,⟨⟩⟩ h1 h2 h3=>⟨_,asV r1 r2 r3 h1,y!⟩
def Ŭ:Ok ad3:=kH mixed ū lY Tryz.func165 y! λ⟨⟩ ⟨⟨r1,r2,r3⟩,⟨⟩⟩ h1 h2 h3=>⟨_,asW r1 r2 r3 h1,y!⟩
def ŭ:Ok ad4:=kH mixed Ŭ avQ Tryz.func86 y! λ⟨⟩ ⟨⟨r1,r2,r3⟩,⟨⟩⟩ h1 h2 h3=>⟨_,asX r1 r2 r3 h1,y!⟩
def FG:Ok L8:=kH mixed ŭ lY Tryz.func82 y! λ⟨⟩ ⟨⟨r1,r2,r3⟩,⟨⟩⟩ h1 h2 h3=>⟨_,asY r1 r2 r3 h1,y!⟩
def axY:Valid Tryz.prog G0 31 (eD q5p avS):=vS (E:=avU) (aV.bD FG Md (cV.k Tryz.func79 y!)) mixed q5p avT Tryz.func31 y! λb h1 h2=>⟨_,asZ b h1,y!⟩
def axZ:Valid Tryz.prog G0 31 (eD q5p avV):=vS (E:=avW) (aV.bD FG Me (cV.k Tryz.func79 y!)) mixed q5p nL Tryz.func31 y! λb h1 h2=>⟨_,as1 b h1,y!⟩
def FH:Ok L9:=kX FG Tryz.func31 y! (Vg.Valid.cases axY axZ (λx h=>(Classical.em (S.dY x 1=0)).elim (λq=>.inl ⟨⟨h,q⟩,rfl⟩) (λq=>.inr ⟨q,rfl⟩)))
def ax0:Valid Tryz.prog G0 32 (eD q5p avY):=vS (E:=avZ) (aV.bD FH Md (cV.k Tryz.func79 y!)) mixed q5p nL Tryz.func32 y! λb h1 h2=>⟨_,as2 b h1,y!⟩
def ax1:Valid Tryz.prog G0 32 (eD q5p av0):=vS (E:=av1) (aV.bD FH Me (cV.k Tryz.func79 y!)) mixed q5p nL Tryz.func32 y! λb h1 h2=>⟨_,as3 b h1,y!⟩
def FI:Ok Ma:=kX FH Tryz.func32 y! (Vg.Valid.cases ax0 ax1 (λx h=>(Classical.em (S.dY x 2=0)).elim (λq=>.inl ⟨⟨h,q⟩,rfl⟩) (λq=>.inr ⟨q,rfl⟩)))
def ax2:Valid Tryz.prog G0 33 (eD q5p av4):=vS (E:=av5) (aV.bD FI Md (cV.k Tryz.func79 y!)) mixed q5p nL Tryz.func33 y! λb h1 h2=>⟨_,as4 b h1,y!⟩
def ax3:Valid Tryz.prog G0 33 (eD q5p av6):=vS (E:=av7) (aV.bD FI Me (cV.k Tryz.func79 y!)) mixed q5p nL Tryz.func33 y! λb h1 h2=>⟨_,as5 b h1,y!⟩
def Ů:Ok ad5:=kX FI Tryz.func33 y! (Vg.Valid.cases ax2 ax3 (λx h=>(Classical.em (S.dY x 3=0)).elim (λq=>.inl ⟨⟨h,q⟩,rfl⟩) (λq=>.inr ⟨q,rfl⟩)))
def ű:Ok ad8:=kS mixed Ů nL Tryz.func59 y! λ⟨y1,y2,y3⟩ h1 h2=>⟨_,as8 y1 y2 y3,y!⟩
def a1A:Ok a1V:=kS mixed ű nL Tryz.func87 y! λ⟨a,b⟩ h1 h2=>⟨_,a4C a b,y!⟩
def P7:Ok ad9:=kS mixed a1A nL Tryz.func22 y! λ⟨y1,y2⟩ h1 h2=>⟨_,as9 y1 y2,y!⟩
end Go.J
