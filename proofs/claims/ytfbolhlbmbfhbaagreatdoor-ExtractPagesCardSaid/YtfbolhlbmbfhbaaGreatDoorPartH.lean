import Derived.Test.YtfbolhlbmbfhbaaGreatDoorPartG
set_option linter.unusedVariables false
set_option linter.unusedSimpArgs false
set_option linter.unusedSectionVars false
set_option linter.defProp false
set_option linter.unusedVariables false
set_option maxHeartbeats 0
set_option maxRecDepth 100000
namespace Go.J
open Go.Proofs
open Go Vg
def aaO:Ok ae6:=kS mixed aaN axU Tryz.func105 y! λ⟨docs,s1,s2⟩ h1 h2=>⟨_,au1 docs s1 s2 h2,y!⟩
def aaP:Ok ae7:=kS mixed aaO nL Tryz.func312 y! λ⟨b,t⟩ h1 h2=>⟨_,au2 b t h1,y!⟩
def aaQ:Ok ae8:=kS mixed aaP nL Tryz.func172 y! λ⟨l1,l2,l3⟩ h1 h2=>⟨_,au3 l1 l2 l3 h1,y!⟩
def aaR:Ok ae9:=kS mixed aaQ axY Tryz.func169 y! λd h1 h2=>⟨_,au4 d h1,y!⟩
def aaS:Ok afa:=kS mixed aaR nL Tryz.func171 y! λd h1 h2=>⟨_,au5 d h1,y!⟩
def aaT:Ok afb:=kS mixed aaS ax1 Tryz.func217 y! λ⟨a,b⟩ h1 h2=>⟨_,au6 a b h2,y!⟩
def aaU:Ok afc:=kS mixed aaT ax3 Tryz.func218 y! λ⟨docs,s1,s2⟩ h1 h2=>⟨_,au7 docs s1 s2 h1,y!⟩
def aaV:Ok afd:=kS mixed aaU nL Tryz.func362 y! λ⟨s1,s2⟩ h1 h2=>⟨_,ava s1 s2,y!⟩
def aaW:Ok afe:=kS mixed aaV ax6 Tryz.func303 y! λ⟨s1,s2,s3⟩ h1 h2=>⟨_,avb s1 s2 s3 h1 h2,y!⟩
def aaX:Ok aff:=kS mixed aaW nL Tryz.func306 y! λ⟨s1,s2,s3⟩ h1 h2=>⟨_,avc s1 s2 s3 h1,y!⟩
def aaY:Ok afg:=kS mixed aaX nL Tryz.func378 y! λ⟨s1,s2,s3,s4⟩ h1 h2=>⟨_,avd s1 s2 s3 s4,y!⟩
def aaZ:Ok afh:=kS mixed aaY nL Tryz.func89 y! λ⟨docs,s1,s2⟩ h1 h2=>⟨_,ave docs s1 s2,y!⟩
def aa0:Ok afi:=kS mixed aaZ ayb Tryz.func353 y! λ⟨l,n⟩ h1 h2=>⟨_,avf l n,y!⟩
def aa1:Ok afj:=kS mixed aa0 nL Tryz.func106 y! λ⟨docs,s1,s2⟩ h1 h2=>⟨_,avg docs s1 s2,y!⟩
def aa2:Ok afk:=kS mixed aa1 nL Tryz.func108 y! λ⟨docs,s1,s2⟩ h1 h2=>⟨_,avh docs s1 s2 h1,y!⟩
def aa3:Ok afl:=kS mixed aa2 nL Tryz.func249 y! λ⟨s1,s2,s3⟩ h1 h2=>⟨_,avi s1 s2 s3 h1,y!⟩
def aa4:Ok afm:=kS mixed aa3 nL Tryz.func107 y! λ⟨a1,a2,a3,b1,b2,b3⟩ h1 h2=>⟨_,avj a1 a2 a3 b1 b2 b3,y!⟩
def aa5:Ok afn:=kS mixed aa4 ayh Tryz.func103 y! λd h1 h2=>⟨_,au8 d h2,y!⟩
def aa6:Ok afo:=kS mixed aa5 ayj Tryz.func104 y! λdocs h1 h2=>⟨_,au9 docs h2,y!⟩
def aa7:Ok afp:=kS mixed aa6 nL Tryz.func39 y! λ⟨s1,s2,s3⟩ h1 h2=>⟨_,avk s1 s2 s3 h2,y!⟩
def aa8:Ok afq:=kS mixed aa7 nL Tryz.func110 y! λl h1 h2=>⟨_,avl l h1,y!⟩
def aa9:Ok afr:=kS mixed aa8 nL Tryz.func194 y! λl h1 h2=>⟨_,avn l h1,y!⟩
def aba:Ok afs:=kS mixed aa9 ayo Tryz.func357 y! λ⟨a,b⟩ h1 h2=>⟨_,avo a b h2,y!⟩
def abb:Ok aft:=kS mixed aba nL Tryz.func356 y! λ⟨a1,a2,b1,b2⟩ h1 h2=>⟨_,avp a1 a2 b1 b2,y!⟩
def abc:Ok afu:=kH mixed abb ayr Tryz.func355 y! λ⟨a,b⟩ ⟨⟩ h1 h2 h3=>⟨_,avq a b h2,y!⟩
def abd:Ok afv:=kS mixed abc nL Tryz.func299 y! λ⟨a,b⟩ h1 h2=>⟨_,avr a b,y!⟩
def abe:Ok afw:=kS mixed abd ayu Tryz.func192 y! λ⟨y1,y2⟩ h1 h2=>⟨_,avt y1 y2,y!⟩
def abf:Ok afx:=kS mixed abe nL Tryz.func87 y! λ⟨y1,y2⟩ h1 h2=>⟨_,avu y1 y2,y!⟩
def abg:Ok afy:=kS mixed abf nL Tryz.func88 y! λ⟨y1,y2⟩ h1 h2=>⟨_,avv y1 y2 h2,y!⟩
def abh:Ok afz:=kS2 mixed abg (λt=>Nat.beq t 89) (λd=>bif Nat.beq d 73 then some 17 else none) (λ_=>false) ayy Tryz.func90 y! λ⟨y1,y2⟩ h1 h2=>⟨_,avw y1 y2 h1 h2,y!⟩
def abi:Ok afA:=kS mixed abh nL Tryz.func199 y! λ⟨y1,y2⟩ h1 h2=>⟨_,avx y1 y2,y!⟩
def abj:Ok afB:=kS mixed abi nL Tryz.func40 y! λ⟨y1,y2,d⟩ h1 h2=>⟨_,avy y1 y2 d,y!⟩
def abk:Ok afC:=kS mixed abj nL Tryz.func31 y! λ⟨y1,y2⟩ h1 h2=>⟨_,avz y1 y2,y!⟩
def abl:Ok afD:=kS mixed abk ayD Tryz.func201 y! λ⟨y1,y2⟩ h1 h2=>⟨_,avA y1 y2 h2,y!⟩
def abn:Ok afE:=kS mixed abl ayF Tryz.func37 y! λ⟨y1,y2⟩ h1 h2=>⟨_,avB y1 y2,y!⟩
def abo:Ok afF:=kS mixed abn nL Tryz.func109 y! λ⟨y1,y2⟩ h1 h2=>⟨_,avC y1 y2,y!⟩
def abp:Ok afG:=kS mixed abo ayI Tryz.func38 y! λ⟨y1,y2⟩ h1 h2=>⟨_,avD y1 y2 h2,y!⟩
def abq:Ok afH:=kS mixed abp ayK Tryz.func137 y! λ⟨y1,y2⟩ h1 h2=>⟨_,avE y1 y2 h2,y!⟩
def abr:Ok afI:=kS mixed abq ayM Tryz.func11 y! λ⟨y1,y2⟩ h1 h2=>⟨_,avF y1 y2 h1 h2,y!⟩
def abt:Ok afJ:=kS mixed abr ayO Tryz.func36 y! λ⟨y1,y2⟩ h1 h2=>⟨_,avG y1 y2 h2,y!⟩
def abu:Ok afK:=kS mixed abt nL Tryz.func295 y! λ⟨y1,y2,y3⟩ h1 h2=>⟨_,avH y1 y2 y3,y!⟩
def Q4:Ok afL:=kS mixed abu nL Tryz.func93 y! λ⟨y1,y2⟩ h1 h2=>⟨_,avI y1 y2,y!⟩
def aBn:aI Tryz.prog G0 296 afM:=vH2 Q4 (λ_=>false) (λ_=>none) (λd=>Nat.beq d 5) mixed aeM q6q mG Tryz.func296 y! λv ⟨q,⟨⟨⟩,⟨⟩⟩⟩ h1 h2 h3=>⟨_,avJ v q h1,y!⟩
def Ò:aI Tryz.prog G0 296 WG:=aBn
def Q5:Ok afN:=aW.bS Q4 Ò (du.kq Tryz.func296 y!)
def aBo:aI Tryz.prog G0 296 afO:=vH2 Q5 (λ_=>false) (λ_=>none) (λd=>Nat.beq d 5) mixed aeM q7q mG Tryz.func296 y! λv ⟨q,⟨⟨⟩,⟨l,⟨⟩⟩⟩⟩ h1 h2 h3=>⟨_,avK v q l h1,y!⟩
def arQ:aI Tryz.prog G0 296 afP:=aI.or aBo Ò
def abv:Ok afQ:=aW.bS Q5 arQ (du.kq Tryz.func296 y!)
def abw:Ok afR:=kH mixed abv mG Tryz.func298 y! λd ⟨⟨⟩,⟨l,⟨⟩⟩⟩ h1 h2 h3=>⟨_,avL d l h1,y!⟩
def abx:Ok afS:=kS mixed abw ayV Tryz.func190 y! λ⟨y1,y2,y3⟩ h1 h2=>⟨_,avM y1 y2 y3 h2,y!⟩
def aby:Ok afT:=kH mixed abx mG Tryz.func319 y! λ⟨⟩ ⟨⟨r1,r2,r3⟩,⟨⟩⟩ h1 h2 h3=>⟨_,avN r1 r2 r3 h1,y!⟩
def abz:Ok afU:=kH mixed aby mG Tryz.func320 y! λ⟨⟩ ⟨⟨r1,r2,r3⟩,⟨⟩⟩ h1 h2 h3=>⟨_,avO r1 r2 r3 h1,y!⟩
def abA:Ok afV:=kH mixed abz mG Tryz.func321 y! λ⟨⟩ ⟨a,⟨⟨⟩,⟨⟨⟩,⟨⟨r1,r2,r3⟩,⟨⟩⟩⟩⟩⟩ h1 h2 h3=>⟨_,avP a r1 r2 r3 h1,y!⟩
def abB:Ok afW:=kS mixed abA ay0 Tryz.func227 y! λb h1 h2=>⟨_,avQ b h1,y!⟩
def abC:Ok afX:=kS mixed abB nL Tryz.func10 y! λ⟨y1,y2⟩ h1 h2=>⟨_,avR y1 y2,y!⟩
def abD:Ok afY:=kS mixed abC nL Tryz.func54 y! λ⟨y1,y2⟩ h1 h2=>⟨_,avS y1 y2 h1,y!⟩
def abE:Ok afZ:=kS2 mixed abD (λ_=>false) (λ_=>none) (λd=>Nat.beq d 52) nL Tryz.func96 y! λ⟨d,t⟩ h1 h2=>⟨_,avT d t h1,y!⟩
def abF:Ok af0:=kXH abE Tryz.func120 y! (Tryz.arn (λ_=>rfl))
def abG:Ok af1:=kH mixed abF ay6 Tryz.func121 y! λ⟨⟩ ⟨l,⟨⟩⟩ h1 h2 h3=>⟨_,avU l h1,y!⟩
def abH:Ok af2:=kS mixed abG ay8 Tryz.func43 y! λl h1 h2=>⟨_,avV l h1,y!⟩
def abI:Ok af3:=kS mixed abH aza Tryz.func45 y! λl h1 h2=>⟨_,avW l h1,y!⟩
def abJ:Ok af4:=kS mixed abI nL Tryz.func220 y! λb h1 h2=>⟨_,avX b h1,y!⟩
def abK:Ok af5:=kH2 mixed abJ (λ_=>false) (λ_=>none) (λd=>Nat.beq d 5) mG Tryz.func219 y! λ⟨⟩ ⟨st,⟨⟨⟩,⟨bb,⟨at_,⟨⟩⟩⟩⟩⟩ h1 h2 h3=>⟨_,avY st bb at_ h1,y!⟩
def Q6:Ok af6:=kS mixed abK aze Tryz.func111 y! λb h1 h2=>⟨_,avZ b h1,y!⟩
def aBp:aI Tryz.prog G0 113 af7:=vH Q6 mixed AN ZY mG Tryz.func113 y! λ⟨⟩ ⟨⟨e,n,w⟩,⟨⟩⟩ h1 h2 h3=>⟨_,av0 e n w h1,y!⟩
def Ó:aI Tryz.prog G0 113 WH:=aBp
def Q7:Ok af8:=aW.bS Q6 Ó (du.kq Tryz.func113 y!)
def aBq:aI Tryz.prog G0 113 af9:=vH Q7 mixed AN aCq mG Tryz.func113 y! λ⟨⟩ ⟨⟨e,n,w⟩,⟨l,⟨⟩⟩⟩ h1 h2 h3=>⟨_,av1 e n w l h1,y!⟩
def arR:aI Tryz.prog G0 113 aga:=aI.or aBq Ó
def abL:Ok agb:=aW.bS Q7 arR (du.kq Tryz.func113 y!)
def abM:Ok agc:=kH mixed abL mG Tryz.func317 y! λd ⟨⟨e,n,w⟩,⟨⟩⟩ h1 h2 h3=>⟨_,av3 d e n w h1,y!⟩
def abN:Ok agd:=kH mixed abM azj Tryz.func225 y! λd ⟨⟨e,n,w⟩,⟨⟩⟩ h1 h2 h3=>⟨_,av4 d e n w h1,y!⟩
def abO:Ok age:=kH mixed abN azl Tryz.func112 y! λd ⟨⟨e,n,w⟩,⟨⟩⟩ h1 h2 h3=>⟨_,av5 d e n w h1,y!⟩
def abP:Ok agf:=kS mixed abO nL Tryz.func42 y! λb h1 h2=>⟨_,av6 b h1,y!⟩
def abQ:Ok agh:=kH mixed abP mG Tryz.func208 y! λv ⟨d,⟨l,⟨⟩⟩⟩ h1 h2 h3=>⟨_,av7 v d l h1,y!⟩
def abR:Ok agi:=kH mixed abQ mG Tryz.func214 y! λ⟨b,m⟩ ⟨d,⟨l,⟨⟩⟩⟩ h1 h2 h3=>⟨_,av8 b m d l h1,y!⟩
def abS:Ok agj:=kH mixed abR mG Tryz.func207 y! λ⟨y1,y2,y3⟩ ⟨d,⟨l,⟨⟩⟩⟩ h1 h2 h3=>⟨_,av9 y1 y2 y3 d l h1,y!⟩
def abT:Ok agk:=kH mixed abS azr Tryz.func215 y! λp ⟨d,⟨l,⟨⟩⟩⟩ h1 h2 h3=>⟨_,awa p d l h1,y!⟩
def abU:Ok agl:=kH mixed abT mG Tryz.func209 y! λ⟨p1,p2,p3,p4,p5,p6⟩ ⟨d,⟨l,⟨⟩⟩⟩ h1 h2 h3=>⟨_,awb p1 p2 p3 p4 p5 p6 d l h1,y!⟩
def abV:Ok agm:=kH mixed abU mG Tryz.func210 y! λ⟨⟩ ⟨d,⟨l,⟨⟩⟩⟩ h1 h2 h3=>⟨_,awc d l,y!⟩
def abW:Ok agn:=kS mixed abV azv Tryz.func97 y! λ⟨a1,a2,a3,a4⟩ h1 h2=>⟨_,awd a1 a2 a3 a4 h1 h2,y!⟩
def Q8:Ok ago:=kS mixed abW nL Tryz.func100 y! λ⟨p1,p2,p3,p4,p5,p6⟩ h1 h2=>⟨_,awe p1 p2 p3 p4 p5 p6 h1,y!⟩
def Xc:aI Tryz.prog G0 115 agp:=vH Q8 mixed LS A7 mG Tryz.func115 y! λ⟨b,c⟩ ⟨⟩ h1 h2 h3=>⟨_,awf b c h1,y!⟩
def Ô:aI Tryz.prog G0 115 WJ:=Xc
def Q9:Ok agq:=aW.bS Q8 Ô (du.kq Tryz.func115 y!)
def Xd:aI Tryz.prog G0 115 agr:=vH Q9 mixed LS A7 mG Tryz.func115 y! λ⟨b,c⟩ ⟨⟩ h1 h2 h3=>⟨_,awg b c h1,y!⟩
def arS:aI Tryz.prog G0 115 ags:=aI.or Xd Ô
def abX:Ok agt:=aW.bS Q9 arS (du.kq Tryz.func115 y!)
def abY:Ok agu:=kH mixed abX mG Tryz.func150 y! λ⟨⟩ ⟨⟨r1,r2,r3⟩,⟨⟩⟩ h1 h2 h3=>⟨_,awh r1 r2 r3 h1,y!⟩
def abZ:Ok agv:=kH mixed abY mG Tryz.func151 y! λm ⟨⟨r1,r2,r3⟩,⟨⟩⟩ h1 h2 h3=>⟨_,awi m r1 r2 r3 h1,y!⟩
def ab1:Ok agw:=kH mixed abZ mG Tryz.func117 y! λm ⟨⟨r1,r2,r3⟩,⟨⟩⟩ h1 h2 h3=>⟨_,awj m r1 r2 r3 h1,y!⟩
def ab2:Ok agx:=kH mixed ab1 mG Tryz.func116 y! λ⟨⟩ ⟨⟨r1,r2,r3⟩,⟨⟩⟩ h1 h2 h3=>⟨_,awk r1 r2 r3 h1,y!⟩
def ab3:Ok agy:=kH mixed ab2 mG Tryz.func228 y! λ⟨⟩ ⟨⟨r1,r2,r3⟩,⟨⟩⟩ h1 h2 h3=>⟨_,awl r1 r2 r3 h1,y!⟩
def ab4:Ok agz:=kH mixed ab3 azD Tryz.func152 y! λ⟨⟩ ⟨⟨r1,r2,r3⟩,⟨⟩⟩ h1 h2 h3=>⟨_,awm r1 r2 r3 h1,y!⟩
def Gw:Ok M4:=kH mixed ab4 mG Tryz.func118 y! λ⟨⟩ ⟨⟨r1,r2,r3⟩,⟨⟩⟩ h1 h2 h3=>⟨_,awn r1 r2 r3 h1,y!⟩
def aBr:Valid Tryz.prog G0 44 (fg lz azF):=vS (E:=azH) (aW.bS Gw Xc (du.kq Tryz.func115 y!)) mixed lz azG Tryz.func44 y! λb h1 h2=>⟨_,awo b h1,y!⟩
def aBs:Valid Tryz.prog G0 44 (fg lz azI):=vS (E:=azJ) (aW.bS Gw Xd (du.kq Tryz.func115 y!)) mixed lz nL Tryz.func44 y! λb h1 h2=>⟨_,awp b h1,y!⟩
def Gx:Ok M5:=kX Gw Tryz.func44 y! (Vg.Valid.cases aBr aBs (λx h=>(Classical.em (S.iW x 1=0)).elim (λq=>.inl ⟨⟨h,q⟩,rfl⟩) (λq=>.inr ⟨q,rfl⟩)))
def aBt:Valid Tryz.prog G0 62 (fg lz azL):=vS (E:=azM) (aW.bS Gx Xc (du.kq Tryz.func115 y!)) mixed lz nL Tryz.func62 y! λb h1 h2=>⟨_,awq b h1,y!⟩
def aBu:Valid Tryz.prog G0 62 (fg lz azN):=vS (E:=azO) (aW.bS Gx Xd (du.kq Tryz.func115 y!)) mixed lz nL Tryz.func62 y! λb h1 h2=>⟨_,awr b h1,y!⟩
end Go.J
