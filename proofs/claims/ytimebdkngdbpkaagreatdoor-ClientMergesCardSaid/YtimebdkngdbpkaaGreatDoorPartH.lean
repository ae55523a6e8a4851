import Derived.Test.YtimebdkngdbpkaaGreatDoorPartG
set_option linter.unusedVariables false
set_option linter.unusedSimpArgs false
set_option linter.unusedSectionVars false
set_option linter.defProp false
section
set_option maxHeartbeats 0
set_option maxRecDepth 100000
namespace Go.J
open Go.Proofs
open Go Vg
def Y0:Ok ŀ:=kS mixed YZ apo Tryz.func135 y! λ⟨d,t⟩ h1 h2=>⟨_,anr d t h1,y!⟩
def Y1:Ok Ł:=kS mixed Y0 nL Tryz.func138 y! λ⟨d,t⟩ h1 h2=>⟨_,ans d t h1,y!⟩
def Y2:Ok ł:=kX Y1 Tryz.func123 y! (Go.DM.V8 azM (λ_=>rfl) (λ_ _ _=>rfl))
def aHA:Ok aH7:=kS mixed Y2 aLQ Tryz.func24 y! λ⟨a,b⟩ h1 h2=>⟨_,aLB a b h2,y!⟩
def Y3:Ok Ń:=kS mixed aHA nL Tryz.func285 y! λ⟨s1,s2⟩ h1 h2=>⟨_,ant s1 s2,y!⟩
def Y4:Ok ń:=kS mixed Y3 apu Tryz.func219 y! λ⟨s1,s2,s3⟩ h1 h2=>⟨_,anu s1 s2 s3 h1 h2,y!⟩
def Y5:Ok Ņ:=kS mixed Y4 nL Tryz.func222 y! λ⟨s1,s2,s3⟩ h1 h2=>⟨_,anv s1 s2 s3 h1,y!⟩
def Y6:Ok ņ:=kS mixed Y5 nL Tryz.func312 y! λ⟨s1,s2,s3,s4⟩ h1 h2=>⟨_,anw s1 s2 s3 s4,y!⟩
def Y7:Ok Ň:=kS mixed Y6 nL Tryz.func53 y! λ⟨docs,s1,s2⟩ h1 h2=>⟨_,anx docs s1 s2,y!⟩
def Y8:Ok ň:=kS mixed Y7 apz Tryz.func288 y! λ⟨l,n⟩ h1 h2=>⟨_,anz l n,y!⟩
def aHB:Ok aH8:=kS mixed Y8 aLS Tryz.func220 y! λl h1 h2=>⟨_,aLC l h1 h2,y!⟩
def aHC:Ok aH9:=kS mixed aHB aLU Tryz.func125 y! λl h1 h2=>⟨_,aLD l h1 h2,y!⟩
def aHD:Ok aIa:=kS mixed aHC aLW Tryz.func221 y! λ⟨s1,s2⟩ h1 h2=>⟨_,aLE s1 s2 h2,y!⟩
def aHE:Ok aIb:=kS mixed aHD aLY Tryz.func127 y! λl h1 h2=>⟨_,aLF l h2,y!⟩
def aHF:Ok aIc:=kS mixed aHE aL0 Tryz.func128 y! λl h1 h2=>⟨_,aLG l h1 h2,y!⟩
def Y9:Ok ŉ:=kS mixed aHF nL Tryz.func55 y! λl h1 h2=>⟨_,anA l h1,y!⟩
def Za:Ok Ŋ:=kS mixed Y9 nL Tryz.func124 y! λl h1 h2=>⟨_,anB l h1,y!⟩
def Zb:Ok ŋ:=kS mixed Za apD Tryz.func280 y! λ⟨a,b⟩ h1 h2=>⟨_,anC a b h2,y!⟩
def Zc:Ok Ō:=kS mixed Zb nL Tryz.func279 y! λ⟨a1,a2,b1,b2⟩ h1 h2=>⟨_,anD a1 a2 b1 b2,y!⟩
def Zd:Ok ō:=kH mixed Zc apG Tryz.func278 y! λ⟨a,b⟩ ⟨⟩ h1 h2 h3=>⟨_,anE a b h2,y!⟩
def Ze:Ok Ŏ:=kS mixed Zd nL Tryz.func215 y! λ⟨a,b⟩ h1 h2=>⟨_,anF a b,y!⟩
def Zf:Ok ŏ:=kS mixed Ze apJ Tryz.func122 y! λ⟨y1,y2⟩ h1 h2=>⟨_,anG y1 y2,y!⟩
def Zg:Ok Ő:=kS mixed Zf nL Tryz.func51 y! λ⟨y1,y2⟩ h1 h2=>⟨_,anH y1 y2,y!⟩
def Zh:Ok ő:=kS mixed Zg nL Tryz.func52 y! λ⟨y1,y2⟩ h1 h2=>⟨_,anI y1 y2 h2,y!⟩
def Zi:Ok Œ:=kS2 mixed Zh (λt=>Nat.beq t 128) (λd=>bif Nat.beq d 73 then some 17 else none) (λ_=>false) apN Tryz.func54 y! λ⟨y1,y2⟩ h1 h2=>⟨_,anJ y1 y2 h1 h2,y!⟩
def aHG:Ok aId:=kS mixed Zi nL Tryz.func126 y! λ⟨l,i,m,s1,s2,s3⟩ h1 h2=>⟨_,aLH l i m s1 s2 s3 h1,y!⟩
def Zj:Ok œ:=kS mixed aHG nL Tryz.func129 y! λ⟨y1,y2⟩ h1 h2=>⟨_,anK y1 y2,y!⟩
def Zk:Ok Ŕ:=kS mixed Zj nL Tryz.func20 y! λ⟨y1,y2,d⟩ h1 h2=>⟨_,anL y1 y2 d,y!⟩
def Zl:Ok ŕ:=kS mixed Zk nL Tryz.func19 y! λ⟨y1,y2⟩ h1 h2=>⟨_,anM y1 y2,y!⟩
def aHH:Ok aIe:=kS mixed Zl nL Tryz.func56 y! λ⟨y1,y2,i,m⟩ h1 h2=>⟨_,aLI y1 y2 i m,y!⟩
def aHI:Ok aIf:=kS mixed aHH aL4 Tryz.func57 y! λ⟨y1,y2⟩ h1 h2=>⟨_,aLJ y1 y2,y!⟩
def Zm:Ok Ŗ:=kS mixed aHI apS Tryz.func131 y! λ⟨y1,y2⟩ h1 h2=>⟨_,anN y1 y2 h2,y!⟩
def aHJ:Ok aIg:=kS mixed Zm nL Tryz.func21 y! λ⟨y1,y2,a1,a2,a3,a4⟩ h1 h2=>⟨_,aLK y1 y2 a1 a2 a3 a4,y!⟩
def aHK:Ok aIh:=kS mixed aHJ aL7 Tryz.func18 y! λl h1 h2=>⟨_,aLL l,y!⟩
def Zn:Ok ŗ:=kS mixed aHK nL Tryz.func223 y! λ⟨y1,y2,y3⟩ h1 h2=>⟨_,anO y1 y2 y3,y!⟩
def Ng:Ok Ř:=kS mixed Zn nL Tryz.func58 y! λ⟨y1,y2⟩ h1 h2=>⟨_,anP y1 y2,y!⟩
def asa:ay Tryz.prog G0 224 ř:=vH2 Ng (λ_=>false) (λ_=>none) (λd=>Nat.beq d 5) mixed atC q6q lb Tryz.func224 y! λv ⟨q,⟨⟨⟩,⟨⟩⟩⟩ h1 h2 h3=>⟨_,anQ v q h1,y!⟩
def V9:ay Tryz.prog G0 224 SN:=asa
def Nh:Ok Ś:=aU.bE Ng V9 (cO.k Tryz.func224 y!)
def asb:ay Tryz.prog G0 224 ś:=vH2 Nh (λ_=>false) (λ_=>none) (λd=>Nat.beq d 5) mixed atC q7q lb Tryz.func224 y! λv ⟨q,⟨⟨⟩,⟨l,⟨⟩⟩⟩⟩ h1 h2 h3=>⟨_,anR v q l h1,y!⟩
def akL:ay Tryz.prog G0 224 Ŝ:=ay.or asb V9
def Zo:Ok ŝ:=aU.bE Nh akL (cO.k Tryz.func224 y!)
def Zp:Ok Ş:=kH mixed Zo lb Tryz.func226 y! λd ⟨⟨⟩,⟨l,⟨⟩⟩⟩ h1 h2 h3=>⟨_,anS d l h1,y!⟩
def Zq:Ok ş:=kS mixed Zp apZ Tryz.func132 y! λ⟨y1,y2,y3⟩ h1 h2=>⟨_,anT y1 y2 y3 h2,y!⟩
def Zr:Ok Š:=kH mixed Zq lb Tryz.func243 y! λ⟨⟩ ⟨⟨r1,r2,r3⟩,⟨⟩⟩ h1 h2 h3=>⟨_,anU r1 r2 r3 h1,y!⟩
def Zs:Ok š:=kH mixed Zr lb Tryz.func244 y! λ⟨⟩ ⟨⟨r1,r2,r3⟩,⟨⟩⟩ h1 h2 h3=>⟨_,anV r1 r2 r3 h1,y!⟩
def Zt:Ok Ţ:=kH mixed Zs lb Tryz.func245 y! λ⟨⟩ ⟨a,⟨⟨⟩,⟨⟨⟩,⟨⟨r1,r2,r3⟩,⟨⟩⟩⟩⟩⟩ h1 h2 h3=>⟨_,anW a r1 r2 r3 h1,y!⟩
def Zu:Ok ţ:=kS mixed Zt ap4 Tryz.func164 y! λb h1 h2=>⟨_,anX b h1,y!⟩
def Zv:Ok Ť:=kS2 mixed Zu (λ_=>false) (λ_=>none) (λd=>Nat.beq d 52) nL Tryz.func62 y! λ⟨d,t⟩ h1 h2=>⟨_,anY d t h1,y!⟩
def Zw:Ok ť:=kXH Zv Tryz.func97 y! (Tryz.akp (λ_=>rfl))
def Zx:Ok Ŧ:=kH mixed Zw ap8 Tryz.func98 y! λ⟨⟩ ⟨l,⟨⟩⟩ h1 h2 h3=>⟨_,anZ l h1,y!⟩
def Zy:Ok ŧ:=kS mixed Zx aqa Tryz.func37 y! λl h1 h2=>⟨_,an0 l h1,y!⟩
def Zz:Ok Ũ:=kS mixed Zy aqc Tryz.func38 y! λl h1 h2=>⟨_,an1 l h1,y!⟩
def ZA:Ok ũ:=kS mixed Zz nL Tryz.func177 y! λb h1 h2=>⟨_,an2 b h1,y!⟩
def ZB:Ok Ū:=kH2 mixed ZA (λ_=>false) (λ_=>none) (λd=>Nat.beq d 5) lb Tryz.func176 y! λ⟨⟩ ⟨st,⟨⟨⟩,⟨bb,⟨at_,⟨⟩⟩⟩⟩⟩ h1 h2 h3=>⟨_,an3 st bb at_ h1,y!⟩
def Ni:Ok ū:=kS mixed ZB aqg Tryz.func93 y! λb h1 h2=>⟨_,an4 b h1,y!⟩
def asc:ay Tryz.prog G0 95 Ŭ:=vH Ni mixed aiE FC lb Tryz.func95 y! λ⟨⟩ ⟨⟨e,n,w⟩,⟨⟩⟩ h1 h2 h3=>⟨_,an5 e n w h1,y!⟩
def Wa:ay Tryz.prog G0 95 SO:=asc
def Nj:Ok ŭ:=aU.bE Ni Wa (cO.k Tryz.func95 y!)
def asd:ay Tryz.prog G0 95 Ů:=vH Nj mixed aiE atz lb Tryz.func95 y! λ⟨⟩ ⟨⟨e,n,w⟩,⟨l,⟨⟩⟩⟩ h1 h2 h3=>⟨_,an6 e n w l h1,y!⟩
def akM:ay Tryz.prog G0 95 ů:=ay.or asd Wa
def ZC:Ok Ű:=aU.bE Nj akM (cO.k Tryz.func95 y!)
def ZD:Ok ű:=kH mixed ZC lb Tryz.func255 y! λd ⟨⟨e,n,w⟩,⟨⟩⟩ h1 h2 h3=>⟨_,an7 d e n w h1,y!⟩
def ZE:Ok Ų:=kH mixed ZD aql Tryz.func182 y! λd ⟨⟨e,n,w⟩,⟨⟩⟩ h1 h2 h3=>⟨_,an8 d e n w h1,y!⟩
def ZF:Ok ų:=kH mixed ZE aqn Tryz.func94 y! λd ⟨⟨e,n,w⟩,⟨⟩⟩ h1 h2 h3=>⟨_,an9 d e n w h1,y!⟩
def ZG:Ok Ŵ:=kS mixed ZF nL Tryz.func36 y! λb h1 h2=>⟨_,aoa b h1,y!⟩
def aHL:Ok aIi:=kS mixed ZG aL9 Tryz.func17 y! λl h1 h2=>⟨_,aLM l h1,y!⟩
def aHM:Ok aIj:=kS mixed aHL aMb Tryz.func15 y! λl h1 h2=>⟨_,aLN l h1 h2,y!⟩
def ZH:Ok ŵ:=kS mixed aHM aqq Tryz.func11 y! λl h1 h2=>⟨_,aob l h2,y!⟩
def ZI:Ok Ŷ:=kH mixed ZH lb Tryz.func140 y! λv ⟨d,⟨l,⟨⟩⟩⟩ h1 h2 h3=>⟨_,aoc v d l h1,y!⟩
def ZJ:Ok ŷ:=kH mixed ZI lb Tryz.func175 y! λ⟨b,m⟩ ⟨d,⟨l,⟨⟩⟩⟩ h1 h2 h3=>⟨_,aod b m d l h1,y!⟩
def ZK:Ok Ÿ:=kH mixed ZJ lb Tryz.func139 y! λ⟨y1,y2,y3⟩ ⟨d,⟨l,⟨⟩⟩⟩ h1 h2 h3=>⟨_,aoe y1 y2 y3 d l h1,y!⟩
def ZL:Ok Ź:=kH mixed ZK aqv Tryz.func171 y! λp ⟨d,⟨l,⟨⟩⟩⟩ h1 h2 h3=>⟨_,aof p d l h1,y!⟩
def Nk:Ok ź:=kH mixed ZL lb Tryz.func141 y! λ⟨p1,p2,p3,p4,p5,p6⟩ ⟨d,⟨l,⟨⟩⟩⟩ h1 h2 h3=>⟨_,aog p1 p2 p3 p4 p5 p6 d l h1,y!⟩
def ase:ay Tryz.prog G0 142 Ż:=vH Nk mixed aiE tq lb Tryz.func142 y! λ⟨⟩ ⟨d,⟨l,⟨⟩⟩⟩ h1 h2 h3=>⟨_,aoh d l,y!⟩
def Wb:ay Tryz.prog G0 142 SP:=ase
def ZM:Ok ż:=aU.bE Nk Wb (cO.k Tryz.func142 y!)
def Nl:Ok Ž:=kS mixed ZM aqz Tryz.func63 y! λ⟨a1,a2,a3,a4⟩ h1 h2=>⟨_,aoi a1 a2 a3 a4 h1 h2,y!⟩
def JT:ay Tryz.prog G0 79 ž:=vH Nl mixed aiR ql lb Tryz.func79 y! λ⟨b,c⟩ ⟨⟩ h1 h2 h3=>⟨_,aoj b c h1,y!⟩
def Wc:ay Tryz.prog G0 79 SQ:=JT
def Nn:Ok ſ:=aU.bE Nl Wc (cO.k Tryz.func79 y!)
def JU:ay Tryz.prog G0 79 aaa:=vH Nn mixed aiR ql lb Tryz.func79 y! λ⟨b,c⟩ ⟨⟩ h1 h2 h3=>⟨_,aok b c h1,y!⟩
def akN:ay Tryz.prog G0 79 aab:=ay.or JU Wc
def ZN:Ok aac:=aU.bE Nn akN (cO.k Tryz.func79 y!)
def ZO:Ok aad:=kH mixed ZN lb Tryz.func84 y! λ⟨⟩ ⟨⟨r1,r2,r3⟩,⟨⟩⟩ h1 h2 h3=>⟨_,aol r1 r2 r3 h1,y!⟩
def ZP:Ok aae:=kH mixed ZO lb Tryz.func85 y! λm ⟨⟨r1,r2,r3⟩,⟨⟩⟩ h1 h2 h3=>⟨_,aom m r1 r2 r3 h1,y!⟩
end Go.J

end
