import Derived.Test.YtimebdkngdbpkaaGreatDoorPartH
set_option linter.unusedVariables false
set_option linter.unusedSimpArgs false
set_option linter.unusedSectionVars false
set_option linter.defProp false
set_option linter.unusedVariables false
set_option maxHeartbeats 0
set_option maxRecDepth 100000
namespace Go.J
open Go.Proofs
open Go Vg
def ax4:aF Tryz.prog G0 61 aea:=vH P7 mixed azg aza lY Tryz.func61 y! λt ⟨dd,⟨er,⟨⟨⟩,⟨⟩⟩⟩⟩ h1 h2 h3=>⟨_,ata t dd er h1,y!⟩
def Y0:aF Tryz.prog G0 61 Vo:=ax4
def P8:Ok aeb:=aV.bD P7 Y0 (cV.k Tryz.func61 y!)
def ax5:aF Tryz.prog G0 61 aec:=vH P8 mixed azg azb lY Tryz.func61 y! λt ⟨dd,⟨er,⟨⟨⟩,⟨l,⟨⟩⟩⟩⟩⟩ h1 h2 h3=>⟨_,atb t dd er l h1,y!⟩
def apf:aF Tryz.prog G0 61 aed:=aF.or ax5 Y0
def Ų:Ok aee:=aV.bD P8 apf (cV.k Tryz.func61 y!)
def ų:Ok aef:=kH mixed Ų awh Tryz.func60 y! λd ⟨er,⟨ts,⟨⟩⟩⟩ h1 h2 h3=>⟨_,atc d er ts h1 h2 h3,y!⟩
def Ŵ:Ok aeg:=kS mixed ų awj Tryz.func23 y! λ⟨y1,y2,l⟩ h1 h2=>⟨_,atd y1 y2 l h1 h2,y!⟩
def a1H:Ok a1W:=kS mixed Ŵ nL Tryz.func35 y! λ⟨y1,y2,i⟩ h1 h2=>⟨_,a4D y1 y2 i,y!⟩
def a1I:Ok a1X:=kS mixed a1H a4L Tryz.func34 y! λ⟨y1,y2,z1,z2⟩ h1 h2=>⟨_,a4E y1 y2 z1 z2 h2,y!⟩
def ŵ:Ok aeh:=kS mixed a1I awl Tryz.func150 y! λ⟨i,n⟩ h1 h2=>⟨_,ate i n h1,y!⟩
def Ŷ:Ok aei:=kS mixed ŵ awn Tryz.func68 y! λ⟨d,i,n,p⟩ h1 h2=>⟨_,atf d i n p h1 h2,y!⟩
def Ź:Ok ael:=kS mixed Ŷ awt Tryz.func187 y! λb h1 h2=>⟨_,ati b h1,y!⟩
def ź:Ok aem:=kS mixed Ź nL Tryz.func197 y! λ⟨n,p,q⟩ h1 h2=>⟨_,atj n p q,y!⟩
def Ż:Ok aen:=kS mixed ź nL Tryz.func198 y! λ⟨n,p,q⟩ h1 h2=>⟨_,atk n p q,y!⟩
def P9:Ok aeo:=kS mixed Ż nL Tryz.func199 y! λ⟨n,p,q⟩ h1 h2=>⟨_,atl n p q,y!⟩
def ax6:aF Tryz.prog G0 196 aep:=vH P9 mixed aIj yr awy Tryz.func196 y! λ⟨a,b⟩ ⟨⟩ h1 h2 h3=>⟨_,atm a b,y!⟩
def Y1:aF Tryz.prog G0 196 Vp:=aF.or ax6 afL
def Qa:Ok aeq:=aV.bD P9 Y1 (cV.k Tryz.func196 y!)
def ax7:aF Tryz.prog G0 196 aer:=vH Qa mixed aIk yr awA Tryz.func196 y! λ⟨a,b⟩ ⟨⟩ h1 h2 h3=>⟨_,atn a b,y!⟩
def Y2:aF Tryz.prog G0 196 Vq:=aF.or ax7 Y1
def Qb:Ok aes:=aV.bD Qa Y2 (cV.k Tryz.func196 y!)
def ax8:aF Tryz.prog G0 196 aet:=vH Qb mixed KQ yr awC Tryz.func196 y! λ⟨a,b⟩ ⟨⟩ h1 h2 h3=>⟨_,ato a b,y!⟩
def apg:aF Tryz.prog G0 196 aeu:=aF.or ax8 Y2
def ż:Ok aev:=aV.bD Qb apg (cV.k Tryz.func196 y!)
def Ž:Ok aew:=kS mixed ż nL Tryz.func107 y! λ⟨a,b⟩ h1 h2=>⟨_,atp a b,y!⟩
def ž:Ok aex:=kS mixed Ž nL Tryz.func108 y! λ⟨a,b⟩ h1 h2=>⟨_,atq a b,y!⟩
def ſ:Ok aey:=kS mixed ž nL Tryz.func109 y! λ⟨a,b⟩ h1 h2=>⟨_,atr a b,y!⟩
def aaa:Ok aez:=kS mixed ſ nL Tryz.func192 y! λs h1 h2=>⟨_,ats s,y!⟩
def aab:Ok aeA:=kS mixed aaa nL Tryz.func191 y! λ⟨a,b⟩ h1 h2=>⟨_,att a b,y!⟩
def aac:Ok aeB:=kS mixed aab awJ Tryz.func104 y! λ⟨x,t⟩ h1 h2=>⟨_,atu x t h1,y!⟩
def Qc:Ok aeC:=kS mixed aac nL Tryz.func103 y! λ⟨s,t,f⟩ h1 h2=>⟨_,atv s t f h1,y!⟩
def ax9:aF Tryz.prog G0 194 aeD:=vH Qc mixed aIn azh lY Tryz.func194 y! λs ⟨⟨⟩,⟨⟨⟩,⟨l,⟨⟩⟩⟩⟩ h1 h2 h3=>⟨_,atw s l h1,y!⟩
def Y3:aF Tryz.prog G0 194 Vr:=ax9
def Qd:Ok aeE:=aV.bD Qc Y3 (cV.k Tryz.func194 y!)
def aya:aF Tryz.prog G0 194 aeF:=vH Qd mixed aIn azi lY Tryz.func194 y! λs ⟨⟨⟩,⟨⟨⟩,⟨l,⟨⟩⟩⟩⟩ h1 h2 h3=>⟨_,atx s l h1,y!⟩
def Y4:aF Tryz.prog G0 194 Vs:=aF.or aya Y3
def Qe:Ok aeG:=aV.bD Qd Y4 (cV.k Tryz.func194 y!)
def ayb:aF Tryz.prog G0 194 aeH:=vH Qe mixed aIn azj lY Tryz.func194 y! λs ⟨⟨⟩,⟨⟨⟩,⟨l,⟨⟩⟩⟩⟩ h1 h2 h3=>⟨_,aty s l h1,y!⟩
def aph:aF Tryz.prog G0 194 aeI:=aF.or ayb Y4
def aad:Ok aeJ:=aV.bD Qe aph (cV.k Tryz.func194 y!)
def aae:Ok aeK:=kH mixed aad lY Tryz.func195 y! λs ⟨⟨⟩,⟨⟨t,f⟩,⟨l,⟨⟩⟩⟩⟩ h1 h2 h3=>⟨_,atz s t f l h1,y!⟩
def aaf:Ok aeL:=kH mixed aae awQ Tryz.func106 y! λ⟨l,t,f⟩ ⟨⟩ h1 h2 h3=>⟨_,atA l t f h1 h2,y!⟩
def aag:Ok aeM:=kS3 mixed aaf (λ_=>false) (λ_=>none) (λ_=>false) (λd=>bif Nat.beq d 30 then some [some 56,some 94] else none) awS Tryz.func45 y! λ⟨l,f⟩ h1 h2=>⟨_,atB l f h1 h2,y!⟩
def aah:Ok aeN:=kS mixed aag nL Tryz.func188 y! λ⟨p1,p2,p3,p4,p5,p6,t,e⟩ h1 h2=>⟨_,atC p1 p2 p3 p4 p5 p6 t e h1,y!⟩
def aai:Ok aeO:=kS mixed aah nL Tryz.func190 y! λ⟨p1,p2,p3,p4,p5,p6,t⟩ h1 h2=>⟨_,atD p1 p2 p3 p4 p5 p6 t,y!⟩
def aaj:Ok aeP:=kH3 mixed aai (λ_=>false) (λ_=>none) (λ_=>false) (λd=>bif Nat.beq d 16 then some [none] else bif Nat.beq d 13 then some [some 9,some 28] else none) lY Tryz.func101 y! λ⟨t,p1,p2,p3,p4,p5,p6⟩ ⟨⟩ h1 h2 h3=>⟨_,atE t p1 p2 p3 p4 p5 p6 h1,y!⟩
def aak:Ok aeQ:=kS2 mixed aaj (λ_=>false) (λ_=>none) (λd=>Nat.beq d 63) awX Tryz.func42 y! λ⟨root,n,t,p1,p2,p3,p4,p5,p6⟩ h1 h2=>⟨_,atF root n t p1 p2 p3 p4 p5 p6 h1,y!⟩
def aal:Ok aeR:=kS mixed aak nL Tryz.func293 y! λ⟨u,v⟩ h1 h2=>⟨_,atG u v,y!⟩
def aam:Ok aeS:=kS mixed aal aw0 Tryz.func240 y! λ⟨i,j,u,v,p⟩ h1 h2=>⟨_,atH i j u v p h1 h2,y!⟩
def aan:Ok aeT:=kS mixed aam nL Tryz.func160 y! λ⟨m,n,u,v,p⟩ h1 h2=>⟨_,atI m n u v p h1 h2,y!⟩
def aao:Ok aeU:=kS mixed aan aw3 Tryz.func75 y! λ⟨m,n,u,v,p⟩ h1 h2=>⟨_,atJ m n u v p h1 h2,y!⟩
def aap:Ok aeV:=kS mixed aao nL Tryz.func99 y! λ⟨j1,j2,j3,root⟩ h1 h2=>⟨_,atK j1 j2 j3 root,y!⟩
def aaq:Ok aeW:=kS3 mixed aap (λ_=>false) (λ_=>none) (λ_=>false) (λd=>bif Nat.beq d 5 then some [some 71,some 9] else none) nL Tryz.func39 y! λ⟨j1,j2,j3,root⟩ h1 h2=>⟨_,atL j1 j2 j3 root,y!⟩
def aar:Ok aeX:=kS mixed aaq nL Tryz.func40 y! λ⟨a1,a2,a3,a4,i,t⟩ h1 h2=>⟨_,atM a1 a2 a3 a4 i t h1,y!⟩
def aas:Ok aeY:=kS mixed aar nL Tryz.func66 y! λ⟨p1,p2,p3,p4,p5,p6,i⟩ h1 h2=>⟨_,atN p1 p2 p3 p4 p5 p6 i,y!⟩
def aat:Ok aeZ:=kS mixed aas aw9 Tryz.func43 y! λ⟨l,s1,s2⟩ h1 h2=>⟨_,atO l s1 s2 h2,y!⟩
def aau:Ok ae0:=kS mixed aat nL Tryz.func67 y! λ⟨p1,p2,p3,p4,p5,p6,i⟩ h1 h2=>⟨_,atP p1 p2 p3 p4 p5 p6 i h1,y!⟩
def aav:Ok ae1:=aV.bD aau Tryz.į (cV.k Tryz.func44 y!)
def Qf:Ok ae2:=kS3 mixed aav (λ_=>false) (λ_=>none) (λ_=>false) (λd=>bif Nat.beq d 26 then some [none,none] else bif Nat.beq d 25 then some [some 78,some 3] else none) nL Tryz.func27 y! λ⟨root,i,b⟩ h1 h2=>⟨_,atQ root i b h1,y!⟩
def afM:aF Tryz.prog G0 41 Vu:=vH Qf mixed aZh YE lY Tryz.func41 y! λ⟨g1,g2,g3,g4,w,a1,a2,a3,a4,i,j⟩ ⟨⟨⟩,⟨⟨xs,q⟩,⟨l,⟨⟩⟩⟩⟩ h1 h2 h3=>⟨_,atS g1 g2 g3 g4 w a1 a2 a3 a4 i j xs q l h1,y!⟩
def Y5:aF Tryz.prog G0 41 Vv:=afM
def Qg:Ok ae3:=aV.bD Qf Y5 (cV.k Tryz.func41 y!)
def afN:aF Tryz.prog G0 41 Vx:=vH Qg mixed aZh YE lY Tryz.func41 y! λ⟨g1,g2,g3,g4,w,a1,a2,a3,a4,i,j⟩ ⟨⟨⟩,⟨⟨xs,q⟩,⟨l,⟨⟩⟩⟩⟩ h1 h2 h3=>⟨_,atU g1 g2 g3 g4 w a1 a2 a3 a4 i j xs q l h1,y!⟩
def api:aF Tryz.prog G0 41 ae4:=aF.or afN Y5
def aaw:Ok ae5:=aV.bD Qg api (cV.k Tryz.func41 y!)
def aax:Ok ae7:=aV.ia aaw (Go.J.ao1 afM afN)
def Qh:Ok ae8:=kS3 mixed aax (λ_=>false) (λ_=>none) (λ_=>false) (λd=>bif Nat.beq d 65 then some [none,some 9,none,none,some 3,none] else bif Nat.beq d 100014 then some [some 100] else bif Nat.beq d 54 then some [none,some 3,none] else bif Nat.beq d 40 then some [some 74] else bif Nat.beq d 38 then some [] else bif Nat.beq d 36 then some [some 56] else none) axd Tryz.func13 y! λ⟨root,l,b⟩ h1 h2=>⟨_,atV root l b h1,y!⟩
def afO:aF Tryz.prog G0 76 Vy:=vH Qh mixed a4T azp lY Tryz.func76 y! λ⟨s1,s2,s3,s4,s5,s6,s7⟩ ⟨t,⟨⟩⟩ h1 h2 h3=>⟨_,atW s1 s2 s3 s4 s5 s6 s7 t,y!⟩
def apj:aF Tryz.prog G0 76 afa:=afO
def aay:Ok afb:=aV.bD Qh apj (cV.k Tryz.func76 y!)
def aaz:Ok afd:=aV.ia aay (Go.J.ao0 afO)
def aaA:Ok afe:=kS mixed aaz nL Tryz.func74 y! λ⟨s1,s2,s3,s4,s5,s6,s7⟩ h1 h2=>⟨_,atX s1 s2 s3 s4 s5 s6 s7 h1,y!⟩
def aaB:Ok aff:=kS3 mixed aaA (λ_=>false) (λ_=>none) (λ_=>false) (λd=>bif Nat.beq d 26 then some [none,none] else bif Nat.beq d 25 then some [none] else bif Nat.beq d 22 then some [some 82] else none) nL Tryz.func29 y! λ⟨root,b⟩ h1 h2=>⟨_,atY root b h1,y!⟩
def aWM:aF Tryz.prog G0 142 aTL:=vH aaB mixed aIa HG lY Tryz.func142 y! λ⟨⟩ ⟨d,⟨l,⟨⟩⟩⟩ h1 h2 h3=>⟨_,aWf d l,y!⟩
def aVn:aF Tryz.prog G0 142 aTM:=aF.or aWM YY
def aTf:Ok aTN:=aV.bD aaB aVn (cV.k Tryz.func142 y!)
def aTg:Ok aTO:=kS mixed aTf aWD Tryz.func63 y! λ⟨a1,a2,a3,a4⟩ h1 h2=>⟨_,aWg a1 a2 a3 a4 h1 h2,y!⟩
def aTh:Ok aTP:=kS mixed aTg aWF Tryz.func23 y! λ⟨y1,y2,l⟩ h1 h2=>⟨_,aWh y1 y2 l h1 h2,y!⟩
def aTj:Ok aTR:=kP qG0 mixed aTh nL Tryz.func12 y! λ_ h1 h2=>⟨_,aWj,y!⟩
def a1J:Ok a4N:=kS mixed aTj a4M Tryz.func9 y! λ⟨l,m⟩ h1 h2=>⟨_,a4F l m h2,y!⟩
def a4R:Valid Tryz.prog G0 9 (eD a1O a1Y):=kV a1J y!
end Go.J
