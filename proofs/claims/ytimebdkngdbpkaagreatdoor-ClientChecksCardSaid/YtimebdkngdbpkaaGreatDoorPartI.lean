import Derived.Test.YtimebdkngdbpkaaGreatDoorPartH
set_option linter.unusedVariables false
set_option linter.unusedSimpArgs false
set_option linter.unusedSectionVars false
set_option linter.defProp false
set_option linter.unusedVariables false
set_option maxHeartbeats 0
set_option maxRecDepth 100000
namespace Go.J
open Go.Proofs
open Go Vg
def P8:Ok aeb:=aV.bD P7 Y0 (cV.k Tryz.func61 y!)
def ax5:aF Tryz.prog G0 61 aec:=vH P8 mixed am5 azb lY Tryz.func61 y! λt ⟨dd,⟨er,⟨⟨⟩,⟨l,⟨⟩⟩⟩⟩⟩ h1 h2 h3=>⟨_,atb t dd er l h1,y!⟩
def apf:aF Tryz.prog G0 61 aed:=aF.or ax5 Y0
def Ų:Ok aee:=aV.bD P8 apf (cV.k Tryz.func61 y!)
def ų:Ok aef:=kH mixed Ų awh Tryz.func60 y! λd ⟨er,⟨ts,⟨⟩⟩⟩ h1 h2 h3=>⟨_,atc d er ts h1 h2 h3,y!⟩
def Ŵ:Ok aeg:=kS mixed ų awj Tryz.func23 y! λ⟨y1,y2,l⟩ h1 h2=>⟨_,atd y1 y2 l h1 h2,y!⟩
def ŵ:Ok aeh:=kS mixed Ŵ awl Tryz.func150 y! λ⟨i,n⟩ h1 h2=>⟨_,ate i n h1,y!⟩
def Ŷ:Ok aei:=kS mixed ŵ awn Tryz.func68 y! λ⟨d,i,n,p⟩ h1 h2=>⟨_,atf d i n p h1 h2,y!⟩
def ŷ:Ok aej:=kR mixed Ŷ awp nL Tryz.func71 y! λm ⟨i,n⟩ h1 h2 h3=>⟨_,atg m i n h1 h2 h3,y!⟩
def Ÿ:Ok aek:=kR mixed ŷ awr nL Tryz.func72 y! λm ⟨d,i,n,p⟩ h1 h2 h3=>⟨_,ath m d i n p h1 h2 h3,y!⟩
def Ź:Ok ael:=kS mixed Ÿ awt Tryz.func187 y! λb h1 h2=>⟨_,ati b h1,y!⟩
def ź:Ok aem:=kS mixed Ź nL Tryz.func197 y! λ⟨n,p,q⟩ h1 h2=>⟨_,atj n p q,y!⟩
def Ż:Ok aen:=kS mixed ź nL Tryz.func198 y! λ⟨n,p,q⟩ h1 h2=>⟨_,atk n p q,y!⟩
def P9:Ok aeo:=kS mixed Ż nL Tryz.func199 y! λ⟨n,p,q⟩ h1 h2=>⟨_,atl n p q,y!⟩
def ax6:aF Tryz.prog G0 196 aep:=vH P9 mixed azg yr awy Tryz.func196 y! λ⟨a,b⟩ ⟨⟩ h1 h2 h3=>⟨_,atm a b,y!⟩
def Y1:aF Tryz.prog G0 196 Vp:=aF.or ax6 afL
def Qa:Ok aeq:=aV.bD P9 Y1 (cV.k Tryz.func196 y!)
def ax7:aF Tryz.prog G0 196 aer:=vH Qa mixed aIe yr awA Tryz.func196 y! λ⟨a,b⟩ ⟨⟩ h1 h2 h3=>⟨_,atn a b,y!⟩
def Y2:aF Tryz.prog G0 196 Vq:=aF.or ax7 Y1
def Qb:Ok aes:=aV.bD Qa Y2 (cV.k Tryz.func196 y!)
def ax8:aF Tryz.prog G0 196 aet:=vH Qb mixed aIf yr awC Tryz.func196 y! λ⟨a,b⟩ ⟨⟩ h1 h2 h3=>⟨_,ato a b,y!⟩
def apg:aF Tryz.prog G0 196 aeu:=aF.or ax8 Y2
def ż:Ok aev:=aV.bD Qb apg (cV.k Tryz.func196 y!)
def Ž:Ok aew:=kS mixed ż nL Tryz.func107 y! λ⟨a,b⟩ h1 h2=>⟨_,atp a b,y!⟩
def ž:Ok aex:=kS mixed Ž nL Tryz.func108 y! λ⟨a,b⟩ h1 h2=>⟨_,atq a b,y!⟩
def ſ:Ok aey:=kS mixed ž nL Tryz.func109 y! λ⟨a,b⟩ h1 h2=>⟨_,atr a b,y!⟩
def aaa:Ok aez:=kS mixed ſ nL Tryz.func192 y! λs h1 h2=>⟨_,ats s,y!⟩
def aab:Ok aeA:=kS mixed aaa nL Tryz.func191 y! λ⟨a,b⟩ h1 h2=>⟨_,att a b,y!⟩
def aac:Ok aeB:=kS mixed aab awJ Tryz.func104 y! λ⟨x,t⟩ h1 h2=>⟨_,atu x t h1,y!⟩
def Qc:Ok aeC:=kS mixed aac nL Tryz.func103 y! λ⟨s,t,f⟩ h1 h2=>⟨_,atv s t f h1,y!⟩
def ax9:aF Tryz.prog G0 194 aeD:=vH Qc mixed azl azh lY Tryz.func194 y! λs ⟨⟨⟩,⟨⟨⟩,⟨l,⟨⟩⟩⟩⟩ h1 h2 h3=>⟨_,atw s l h1,y!⟩
def Y3:aF Tryz.prog G0 194 Vr:=ax9
def Qd:Ok aeE:=aV.bD Qc Y3 (cV.k Tryz.func194 y!)
def aya:aF Tryz.prog G0 194 aeF:=vH Qd mixed azl azi lY Tryz.func194 y! λs ⟨⟨⟩,⟨⟨⟩,⟨l,⟨⟩⟩⟩⟩ h1 h2 h3=>⟨_,atx s l h1,y!⟩
def Y4:aF Tryz.prog G0 194 Vs:=aF.or aya Y3
def Qe:Ok aeG:=aV.bD Qd Y4 (cV.k Tryz.func194 y!)
def ayb:aF Tryz.prog G0 194 aeH:=vH Qe mixed azl azj lY Tryz.func194 y! λs ⟨⟨⟩,⟨⟨⟩,⟨l,⟨⟩⟩⟩⟩ h1 h2 h3=>⟨_,aty s l h1,y!⟩
def aph:aF Tryz.prog G0 194 aeI:=aF.or ayb Y4
def aad:Ok aeJ:=aV.bD Qe aph (cV.k Tryz.func194 y!)
def aae:Ok aeK:=kH mixed aad lY Tryz.func195 y! λs ⟨⟨⟩,⟨⟨t,f⟩,⟨l,⟨⟩⟩⟩⟩ h1 h2 h3=>⟨_,atz s t f l h1,y!⟩
def aaf:Ok aeL:=kH mixed aae awQ Tryz.func106 y! λ⟨l,t,f⟩ ⟨⟩ h1 h2 h3=>⟨_,atA l t f h1 h2,y!⟩
def aag:Ok aeM:=kS3 mixed aaf (λ_=>false) (λ_=>none) (λ_=>false) (λd=>bif Nat.beq d 30 then some [some 56,some 94] else none) awS Tryz.func45 y! λ⟨l,f⟩ h1 h2=>⟨_,atB l f h1 h2,y!⟩
def aah:Ok aeN:=kS mixed aag nL Tryz.func188 y! λ⟨p1,p2,p3,p4,p5,p6,t,e⟩ h1 h2=>⟨_,atC p1 p2 p3 p4 p5 p6 t e h1,y!⟩
def aai:Ok aeO:=kS mixed aah nL Tryz.func190 y! λ⟨p1,p2,p3,p4,p5,p6,t⟩ h1 h2=>⟨_,atD p1 p2 p3 p4 p5 p6 t,y!⟩
def aaj:Ok aeP:=kH3 mixed aai (λ_=>false) (λ_=>none) (λ_=>false) (λd=>bif Nat.beq d 16 then some [none] else bif Nat.beq d 13 then some [some 9,some 28] else none) lY Tryz.func101 y! λ⟨t,p1,p2,p3,p4,p5,p6⟩ ⟨⟩ h1 h2 h3=>⟨_,atE t p1 p2 p3 p4 p5 p6 h1,y!⟩
def aak:Ok aeQ:=kS2 mixed aaj (λ_=>false) (λ_=>none) (λd=>Nat.beq d 63) awX Tryz.func42 y! λ⟨root,n,t,p1,p2,p3,p4,p5,p6⟩ h1 h2=>⟨_,atF root n t p1 p2 p3 p4 p5 p6 h1,y!⟩
def aap:Ok aeV:=kS mixed aak nL Tryz.func99 y! λ⟨j1,j2,j3,root⟩ h1 h2=>⟨_,atK j1 j2 j3 root,y!⟩
def aaq:Ok aeW:=kS3 mixed aap (λ_=>false) (λ_=>none) (λ_=>false) (λd=>bif Nat.beq d 5 then some [some 71,some 9] else none) nL Tryz.func39 y! λ⟨j1,j2,j3,root⟩ h1 h2=>⟨_,atL j1 j2 j3 root,y!⟩
def aar:Ok aeX:=kS mixed aaq nL Tryz.func40 y! λ⟨a1,a2,a3,a4,i,t⟩ h1 h2=>⟨_,atM a1 a2 a3 a4 i t h1,y!⟩
def aat:Ok aeZ:=kS mixed aar aw9 Tryz.func43 y! λ⟨l,s1,s2⟩ h1 h2=>⟨_,atO l s1 s2 h2,y!⟩
def aav:Ok ae1:=aV.bD aat Tryz.į (cV.k Tryz.func44 y!)
def afM:aF Tryz.prog G0 41 Vu:=vH aav mixed Pv YE lY Tryz.func41 y! λ⟨g1,g2,g3,g4,w,a1,a2,a3,a4,i,j⟩ ⟨⟨⟩,⟨⟨xs,q⟩,⟨l,⟨⟩⟩⟩⟩ h1 h2 h3=>⟨_,atS g1 g2 g3 g4 w a1 a2 a3 a4 i j xs q l h1,y!⟩
def Y5:aF Tryz.prog G0 41 Vv:=afM
def Qg:Ok ae3:=aV.bD aav Y5 (cV.k Tryz.func41 y!)
def afN:aF Tryz.prog G0 41 Vx:=vH Qg mixed Pv YE lY Tryz.func41 y! λ⟨g1,g2,g3,g4,w,a1,a2,a3,a4,i,j⟩ ⟨⟨⟩,⟨⟨xs,q⟩,⟨l,⟨⟩⟩⟩⟩ h1 h2 h3=>⟨_,atU g1 g2 g3 g4 w a1 a2 a3 a4 i j xs q l h1,y!⟩
def api:aF Tryz.prog G0 41 ae4:=aF.or afN Y5
def aaw:Ok ae5:=aV.bD Qg api (cV.k Tryz.func41 y!)
def aax:Ok ae7:=aV.ia aaw (Go.J.ao1 afM afN)
def Qh:Ok ae8:=kS3 mixed aax (λ_=>false) (λ_=>none) (λ_=>false) (λd=>bif Nat.beq d 65 then some [none,some 9,none,none,some 3,none] else bif Nat.beq d 100014 then some [some 100] else bif Nat.beq d 54 then some [none,some 3,none] else bif Nat.beq d 40 then some [some 74] else bif Nat.beq d 38 then some [] else bif Nat.beq d 36 then some [some 56] else none) axd Tryz.func13 y! λ⟨root,l,b⟩ h1 h2=>⟨_,atV root l b h1,y!⟩
def aaC:Ok afg:=kS mixed Qh axh Tryz.func161 y! λl h1 h2=>⟨_,atZ l h2,y!⟩
def aaD:Ok afh:=kS mixed aaC nL Tryz.func272 y! λ⟨y1,y2,y3⟩ h1 h2=>⟨_,at0 y1 y2 y3,y!⟩
def aaE:Ok afi:=kS mixed aaD nL Tryz.func271 y! λ⟨b,f⟩ h1 h2=>⟨_,at1 b f h1,y!⟩
def aaF:Ok afj:=kS mixed aaE axl Tryz.func200 y! λb h1 h2=>⟨_,at2 b h1,y!⟩
def aaG:Ok afk:=kS mixed aaF nL Tryz.func155 y! λ⟨a1,a2⟩ h1 h2=>⟨_,at3 a1 a2,y!⟩
def aaH:Ok afl:=kS mixed aaG nL Tryz.func156 y! λ⟨a1,a2,m⟩ h1 h2=>⟨_,at4 a1 a2 m,y!⟩
def aaI:Ok afm:=kS mixed aaH nL Tryz.func112 y! λ⟨a1,a2,m⟩ h1 h2=>⟨_,at5 a1 a2 m,y!⟩
def aaJ:Ok afn:=kS mixed aaI axq Tryz.func157 y! λ⟨a1,a2⟩ h1 h2=>⟨_,at6 a1 a2,y!⟩
def aaK:Ok afo:=kS mixed aaJ nL Tryz.func110 y! λ⟨a1,a2⟩ h1 h2=>⟨_,at7 a1 a2,y!⟩
def aaL:Ok afp:=kS mixed aaK nL Tryz.func111 y! λ⟨b,kind⟩ h1 h2=>⟨_,aua b kind,y!⟩
def aaM:Ok afq:=kS mixed aaL nL Tryz.func114 y! λ⟨a1,a2⟩ h1 h2=>⟨_,aub a1 a2,y!⟩
def aaS:Ok afz:=kS mixed aaM nL Tryz.func113 y! λ⟨a1,a2⟩ h1 h2=>⟨_,aui a1 a2,y!⟩
def aaT:Ok afA:=kS mixed aaS axD Tryz.func46 y! λb h1 h2=>⟨_,auj b,y!⟩
def aaU:Ok afB:=kS mixed aaT nL Tryz.func276 y! λl h1 h2=>⟨_,auk l,y!⟩
def aaV:Ok afC:=kS mixed aaU aWo Tryz.func205 y! λ⟨l,s1,s2⟩ h1 h2=>⟨_,aul l s1 s2,y!⟩
def aaW:Ok afD:=kS mixed aaV aWp Tryz.func208 y! λ⟨a,b,o⟩ h1 h2=>⟨_,aum a b o,y!⟩
def aTa:Ok aTF:=kS mixed aaW aWr Tryz.func275 y! λb h1 h2=>⟨_,aV9 b h1,y!⟩
def aaX:Ok axI:=kS mixed aTa nL Tryz.func204 y! λ⟨root,n,t,p1,p2,p3,p4,p5,p6⟩ h1 h2=>⟨_,aun root n t p1 p2 p3 p4 p5 p6 h1,y!⟩
def afQ:Ok aOr:=kS mixed aaX aWs Tryz.func206 y! λ⟨s,t,f⟩ h1 h2=>⟨_,aOq s t f h1 h2,y!⟩
def aLb:Ok aPO:=kS mixed afQ aWt Tryz.func207 y! λl h1 h2=>⟨_,aPo l h1 h2,y!⟩
def aTb:Ok aTG:=kR mixed aLb aWv nL Tryz.func118 y! λm ⟨l,t,f⟩ h1 h2 h3=>⟨_,aWd m l t f h1 h2 h3,y!⟩
def aTc:Ok aTH:=kS mixed aTb nL Tryz.func49 y! λ⟨l,f⟩ h1 h2=>⟨_,aWe l f h1,y!⟩
def aTd:Ok aTI:=kS mixed aTc nL Tryz.func117 y! λ⟨s1,s2,s3,s4,t,p1,p2,p3,p4,p5,p6⟩ h1 h2=>⟨_,aWa s1 s2 s3 s4 t p1 p2 p3 p4 p5 p6 h1,y!⟩
def aTe:Ok aTJ:=kS mixed aTd aWz Tryz.func48 y! λ⟨a1,a2,a3,a4,t⟩ h1 h2=>⟨_,aWb a1 a2 a3 a4 t h1,y!⟩
def aR6:Ok aTK:=kS mixed aTe nL Tryz.func14 y! λ⟨root,l,b⟩ h1 h2=>⟨_,aWc root l b h1,y!⟩
def aWM:aF Tryz.prog G0 142 aTL:=vH aR6 mixed aH8 HG lY Tryz.func142 y! λ⟨⟩ ⟨d,⟨l,⟨⟩⟩⟩ h1 h2 h3=>⟨_,aWf d l,y!⟩
def aVn:aF Tryz.prog G0 142 aTM:=aF.or aWM YY
def aTf:Ok aTN:=aV.bD aR6 aVn (cV.k Tryz.func142 y!)
def aTg:Ok aTO:=kS mixed aTf aWD Tryz.func63 y! λ⟨a1,a2,a3,a4⟩ h1 h2=>⟨_,aWg a1 a2 a3 a4 h1 h2,y!⟩
def aTh:Ok aTP:=kS mixed aTg aWF Tryz.func23 y! λ⟨y1,y2,l⟩ h1 h2=>⟨_,aWh y1 y2 l h1 h2,y!⟩
def aTi:Ok aTQ:=kS mixed aTh nL Tryz.func10 y! λ⟨root,b⟩ h1 h2=>⟨_,aWi root b,y!⟩
def aTj:Ok aTR:=kP qG0 mixed aTi nL Tryz.func12 y! λ_ h1 h2=>⟨_,aWj,y!⟩
def aTk:Ok aWI:=kS mixed aTj nL Tryz.func3 y! λ⟨root,l,b⟩ h1 h2=>⟨_,aWk root l b,y!⟩
def aWN:Valid Tryz.prog G0 3 (eD azn aTT):=kV aTk y!
end Go.J
