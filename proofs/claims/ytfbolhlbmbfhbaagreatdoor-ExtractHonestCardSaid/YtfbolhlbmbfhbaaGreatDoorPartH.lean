import Derived.Test.YtfbolhlbmbfhbaaGreatDoorPartG
set_option linter.all false
set_option maxHeartbeats 0
set_option maxRecDepth 100000
namespace Go.J
open Go.Proofs
open Go Vg
def a2M:Ok a3x:=kS ar a2L a7A Tryz.func92 y! λ⟨y,Y⟩ h H=>⟨_,a7h y Y,y!⟩
def acy:Ok agZ:=kS ar a2M aAP Tryz.func201 y! λ⟨y,Y⟩ H h=>⟨_,axH y Y h,y!⟩
def a2N:Ok a3y:=kS ar acy nL Tryz.func32 y! λ⟨y,Y,a,A,b,c⟩ h H=>⟨_,a7i y Y a A b c,y!⟩
def a2O:Ok a3z:=kS ar a2N a7D Tryz.func30 y! λl h H=>⟨_,a7j l,y!⟩
def acF:Ok ag6:=kS ar a2O nL Tryz.func295 y! λ⟨y,Y,a⟩ h H=>⟨_,axO y Y a,y!⟩
def R1:Ok ag7:=kS ar acF nL Tryz.func93 y! λ⟨y,Y⟩ h H=>⟨_,axP y Y,y!⟩
def aDL:aJ Tryz.prog G0 296 ag8:=vH2 R1 (λ_=>false) (λ_=>none) (λd=>Nat.beq d 5) ar Bx q6q mF Tryz.func296 y! λv ⟨q,⟨⟨⟩,⟨⟩⟩⟩ h H a=>⟨_,axQ v q h,y!⟩
def č:aJ Tryz.prog G0 296 XC:=aDL
def R2:Ok ag9:=ba.bT R1 č (aMw.k Tryz.func296 y!)
def aDM:aJ Tryz.prog G0 296 aha:=vH2 R2 (λ_=>false) (λ_=>none) (λd=>Nat.beq d 5) ar Bx q7q mF Tryz.func296 y! λv ⟨q,⟨⟨⟩,⟨l,⟨⟩⟩⟩⟩ h H a=>⟨_,axR v q l h,y!⟩
def atV:aJ Tryz.prog G0 296 ahb:=aJ.or aDM č
def acG:Ok ahc:=ba.bT R2 atV (aMw.k Tryz.func296 y!)
def acH:Ok ahd:=kH ar acG mF Tryz.func298 y! λd ⟨⟨⟩,⟨l,⟨⟩⟩⟩ h H a=>⟨_,axS d l h,y!⟩
def acI:Ok ahe:=kS ar acH aA7 Tryz.func190 y! λ⟨y,Y,a⟩ H h=>⟨_,axT y Y a h,y!⟩
def acJ:Ok ahf:=kH ar acI mF Tryz.func319 y! λ⟨⟩ ⟨⟨r,R,a⟩,⟨⟩⟩ h H b=>⟨_,axU r R a h,y!⟩
def acK:Ok ahg:=kH ar acJ mF Tryz.func320 y! λ⟨⟩ ⟨⟨r,R,a⟩,⟨⟩⟩ h H b=>⟨_,axV r R a h,y!⟩
def acL:Ok ahh:=kH ar acK mF Tryz.func321 y! λ⟨⟩ ⟨a,⟨⟨⟩,⟨⟨⟩,⟨⟨r,R,b⟩,⟨⟩⟩⟩⟩⟩ h H c=>⟨_,axW a r R b h,y!⟩
def acM:Ok ahi:=kS ar acL aBc Tryz.func227 y! λb h H=>⟨_,axX b h,y!⟩
def acP:Ok ahl:=kS2 ar acM (λ_=>false) (λ_=>none) (λd=>Nat.beq d 52) nL Tryz.func96 y! λ⟨d,t⟩ h H=>⟨_,ax0 d t h,y!⟩
def acQ:Ok ahm:=kXH acP Tryz.func120 y! (Tryz.atr (λ_=>rfl))
def acR:Ok ahn:=kH ar acQ aBi Tryz.func121 y! λ⟨⟩ ⟨l,⟨⟩⟩ h H a=>⟨_,ax1 l h,y!⟩
def acS:Ok aho:=kS ar acR aBk Tryz.func43 y! λl h H=>⟨_,ax2 l h,y!⟩
def acT:Ok ahp:=kS ar acS aBm Tryz.func45 y! λl h H=>⟨_,ax3 l h,y!⟩
def acU:Ok ahq:=kS ar acT nL Tryz.func220 y! λb h H=>⟨_,ax4 b h,y!⟩
def acV:Ok ahr:=kH2 ar acU (λ_=>false) (λ_=>none) (λd=>Nat.beq d 5) mF Tryz.func219 y! λ⟨⟩ ⟨s,⟨⟨⟩,⟨b,⟨a,⟨⟩⟩⟩⟩⟩ h H c=>⟨_,ax5 s b a h,y!⟩
def R3:Ok ahs:=kS ar acV aBq Tryz.func111 y! λb h H=>⟨_,ax6 b h,y!⟩
def aDN:aJ Tryz.prog G0 113 aht:=vH R3 ar Jl ì mF Tryz.func113 y! λ⟨⟩ ⟨⟨e,n,w⟩,⟨⟩⟩ h H a=>⟨_,ax7 e n w h,y!⟩
def Ď:aJ Tryz.prog G0 113 XD:=aDN
def R4:Ok ahu:=ba.bT R3 Ď (aMw.k Tryz.func113 y!)
def aDO:aJ Tryz.prog G0 113 ahv:=vH R4 ar Jl aES mF Tryz.func113 y! λ⟨⟩ ⟨⟨e,n,w⟩,⟨l,⟨⟩⟩⟩ h H a=>⟨_,ax8 e n w l h,y!⟩
def atW:aJ Tryz.prog G0 113 ahw:=aJ.or aDO Ď
def acW:Ok ahx:=ba.bT R4 atW (aMw.k Tryz.func113 y!)
def acX:Ok ahy:=kH ar acW mF Tryz.func317 y! λd ⟨⟨e,n,w⟩,⟨⟩⟩ h H a=>⟨_,ax9 d e n w h,y!⟩
def acY:Ok ahz:=kH ar acX aBv Tryz.func225 y! λd ⟨⟨e,n,w⟩,⟨⟩⟩ h H a=>⟨_,aya d e n w h,y!⟩
def acZ:Ok ahA:=kH ar acY aBx Tryz.func112 y! λd ⟨⟨e,n,w⟩,⟨⟩⟩ h H a=>⟨_,ayb d e n w h,y!⟩
def ac0:Ok ahB:=kS ar acZ nL Tryz.func42 y! λb h H=>⟨_,ayc b h,y!⟩
def ac3:Ok ahE:=kS ar ac0 aBE Tryz.func9 y! λl H h=>⟨_,ayf l h,y!⟩
def ac4:Ok ahF:=kH ar ac3 mF Tryz.func208 y! λv ⟨d,⟨l,⟨⟩⟩⟩ h H a=>⟨_,ayg v d l h,y!⟩
def ac5:Ok ahG:=kH ar ac4 mF Tryz.func214 y! λ⟨b,m⟩ ⟨d,⟨l,⟨⟩⟩⟩ h H a=>⟨_,ayh b m d l h,y!⟩
def ac6:Ok ahH:=kH ar ac5 mF Tryz.func207 y! λ⟨y,Y,a⟩ ⟨d,⟨l,⟨⟩⟩⟩ h H b=>⟨_,ayi y Y a d l h,y!⟩
def ac7:Ok ahI:=kH ar ac6 aBJ Tryz.func215 y! λp ⟨d,⟨l,⟨⟩⟩⟩ h H a=>⟨_,ayj p d l h,y!⟩
def ac8:Ok ahJ:=kH ar ac7 mF Tryz.func209 y! λ⟨p,P,a,b,c,e⟩ ⟨d,⟨l,⟨⟩⟩⟩ h H f=>⟨_,ayk p P a b c e d l h,y!⟩
def ac9:Ok ahK:=kH ar ac8 mF Tryz.func210 y! λ⟨⟩ ⟨d,⟨l,⟨⟩⟩⟩ h H a=>⟨_,ayl d l,y!⟩
def ada:Ok ahL:=kS ar ac9 aBN Tryz.func97 y! λ⟨a,A,b,c⟩ h H=>⟨_,aym a A b c h H,y!⟩
def R5:Ok ahM:=kS ar ada nL Tryz.func100 y! λ⟨p,P,a,b,c,d⟩ h H=>⟨_,ayn p P a b c d h,y!⟩
def a0O:Ok a3A:=kS ar R5 nL Tryz.func102 y! λ⟨s,S,a,b,c,d,e⟩ h H=>⟨_,a7k s S a b c d e,y!⟩
def X6:aJ Tryz.prog G0 115 ahN:=vH a0O ar aEW BL mF Tryz.func115 y! λ⟨b,c⟩ ⟨⟩ h H a=>⟨_,ayo b c h,y!⟩
def ď:aJ Tryz.prog G0 115 XF:=X6
def R6:Ok ahO:=ba.bT a0O ď (aMw.k Tryz.func115 y!)
def X7:aJ Tryz.prog G0 115 ahP:=vH R6 ar aEW BL mF Tryz.func115 y! λ⟨b,c⟩ ⟨⟩ h H a=>⟨_,ayp b c h,y!⟩
def atX:aJ Tryz.prog G0 115 ahQ:=aJ.or X7 ď
def adb:Ok ahR:=ba.bT R6 atX (aMw.k Tryz.func115 y!)
def ade:Ok ahS:=kH ar adb mF Tryz.func150 y! λ⟨⟩ ⟨⟨r,R,a⟩,⟨⟩⟩ h H b=>⟨_,ayq r R a h,y!⟩
def adf:Ok ahT:=kH ar ade mF Tryz.func151 y! λm ⟨⟨r,R,a⟩,⟨⟩⟩ h H b=>⟨_,ayr m r R a h,y!⟩
def adg:Ok ahU:=kH ar adf mF Tryz.func117 y! λm ⟨⟨r,R,a⟩,⟨⟩⟩ h H b=>⟨_,ays m r R a h,y!⟩
def adh:Ok ahV:=kH ar adg mF Tryz.func116 y! λ⟨⟩ ⟨⟨r,R,a⟩,⟨⟩⟩ h H b=>⟨_,ayt r R a h,y!⟩
def adi:Ok ahW:=kH ar adh mF Tryz.func228 y! λ⟨⟩ ⟨⟨r,R,a⟩,⟨⟩⟩ h H b=>⟨_,ayu r R a h,y!⟩
def adj:Ok ahX:=kH ar adi aBV Tryz.func152 y! λ⟨⟩ ⟨⟨r,R,a⟩,⟨⟩⟩ h H b=>⟨_,ayv r R a h,y!⟩
def Hc:Ok NN:=kH ar adj mF Tryz.func118 y! λ⟨⟩ ⟨⟨r,R,a⟩,⟨⟩⟩ h H b=>⟨_,ayw r R a h,y!⟩
def aDP:Valid Tryz.prog G0 44 (fo q5p aBX):=vS (E:=aBZ) (ba.bT Hc X6 (aMw.k Tryz.func115 y!)) mixed q5p aBY Tryz.func44 y! λb h H=>⟨_,ayx b h,y!⟩
def aDQ:Valid Tryz.prog G0 44 (fo q5p aB0):=vS (E:=aB1) (ba.bT Hc X7 (aMw.k Tryz.func115 y!)) mixed q5p nL Tryz.func44 y! λb h H=>⟨_,ayy b h,y!⟩
def He:Ok NO:=kX Hc Tryz.func44 y! (Vg.Valid.cases aDP aDQ (λx h=>(Classical.em (S.jd x 1=0)).elim (λq=>.inl ⟨⟨h,q⟩,rfl⟩) (λq=>.inr ⟨q,rfl⟩)))
def aDR:Valid Tryz.prog G0 62 (fo q5p aB3):=vS (E:=aB4) (ba.bT He X6 (aMw.k Tryz.func115 y!)) mixed q5p nL Tryz.func62 y! λb h H=>⟨_,ayz b h,y!⟩
def aDS:Valid Tryz.prog G0 62 (fo q5p aB5):=vS (E:=aB6) (ba.bT He X7 (aMw.k Tryz.func115 y!)) mixed q5p nL Tryz.func62 y! λb h H=>⟨_,ayA b h,y!⟩
def adk:Ok ahY:=kX He Tryz.func62 y! (Vg.Valid.cases aDR aDS (λx h=>(Classical.em (S.jd x 2=0)).elim (λq=>.inl ⟨⟨h,q⟩,rfl⟩) (λq=>.inr ⟨q,rfl⟩)))
def aYa:Valid Tryz.prog G0 77 (fo q5p aXH):=vS (E:=aXI) (ba.bT adk X6 (aMw.k Tryz.func115 y!)) mixed q5p nL Tryz.func77 y! λb h H=>⟨_,aXn b h,y!⟩
def aYb:Valid Tryz.prog G0 77 (fo q5p aXJ):=vS (E:=aXK) (ba.bT adk X7 (aMw.k Tryz.func115 y!)) mixed q5p nL Tryz.func77 y! λb h H=>⟨_,aXo b h,y!⟩
def aTU:Ok aUt:=kX adk Tryz.func77 y! (Vg.Valid.cases aYa aYb (λx h=>(Classical.em (S.jd x 3=0)).elim (λq=>.inl ⟨⟨h,q⟩,rfl⟩) (λq=>.inr ⟨q,rfl⟩)))
def adn:Ok ah1:=kS ar aTU nL Tryz.func85 y! λ⟨y,Y,a⟩ h H=>⟨_,ayD y Y a,y!⟩
def ado:Ok ah2:=kS ar adn nL Tryz.func60 y! λ⟨a,b⟩ h H=>⟨_,ayE a b,y!⟩
def R7:Ok ah3:=kS ar ado nL Tryz.func41 y! λ⟨y,Y⟩ h H=>⟨_,ayF y Y,y!⟩
def aDT:aJ Tryz.prog G0 95 ah4:=vH R7 ar aOv aEU mF Tryz.func95 y! λt ⟨d,⟨e,⟨⟨⟩,⟨⟩⟩⟩⟩ h H a=>⟨_,ayG t d e h,y!⟩
def Đ:aJ Tryz.prog G0 95 XH:=aDT
def R8:Ok ah5:=ba.bT R7 Đ (aMw.k Tryz.func95 y!)
def aDU:aJ Tryz.prog G0 95 ah6:=vH R8 ar aOv aEV mF Tryz.func95 y! λt ⟨d,⟨e,⟨⟨⟩,⟨l,⟨⟩⟩⟩⟩⟩ h H a=>⟨_,ayH t d e l h,y!⟩
def atY:aJ Tryz.prog G0 95 ah7:=aJ.or aDU Đ
def adp:Ok ah8:=ba.bT R8 atY (aMw.k Tryz.func95 y!)
def adq:Ok ah9:=kH ar adp aCh Tryz.func94 y! λd ⟨e,⟨t,⟨⟩⟩⟩ h H a=>⟨_,ayI d e t h H a,y!⟩
def adr:Ok aia:=kS ar adq aCj Tryz.func33 y! λ⟨y,Y,l⟩ h H=>⟨_,ayJ y Y l h H,y!⟩
def ads:Ok aib:=kS ar adr nL Tryz.func34 y! λ⟨y,Y,i⟩ h H=>⟨_,ayK y Y i,y!⟩
def a2P:Ok a3B:=kS ar ads a7G Tryz.func35 y! λ⟨y,Y,z,Z⟩ H h=>⟨_,a7l y Y z Z h,y!⟩
def adu:Ok aid:=kS ar a2P aCn Tryz.func153 y! λ⟨i,n⟩ h H=>⟨_,ayM i n h,y!⟩
def adv:Ok aie:=kS ar adu aCp Tryz.func65 y! λ⟨d,i,n,p⟩ h H=>⟨_,ayN d i n p h H,y!⟩
def adw:Ok aif:=kS ar adv aCr Tryz.func233 y! λb h H=>⟨_,ayO b h,y!⟩
def adx:Ok aih:=kS ar adw nL Tryz.func243 y! λ⟨n,p,q⟩ h H=>⟨_,ayP n p q,y!⟩
def ady:Ok aii:=kS ar adx nL Tryz.func244 y! λ⟨n,p,q⟩ h H=>⟨_,ayQ n p q,y!⟩
def R9:Ok aij:=kS ar ady nL Tryz.func245 y! λ⟨n,p,q⟩ h H=>⟨_,ayR n p q,y!⟩
def aDV:aJ Tryz.prog G0 242 aik:=vH R9 ar Rh BL aCw Tryz.func242 y! λ⟨a,b⟩ ⟨⟩ h H c=>⟨_,ayS a b,y!⟩
def đ:aJ Tryz.prog G0 242 XI:=aJ.or aDV Č
def Sa:Ok ail:=ba.bT R9 đ (aMw.k Tryz.func242 y!)
def aDW:aJ Tryz.prog G0 242 aim:=vH Sa ar aOz BL aCy Tryz.func242 y! λ⟨a,b⟩ ⟨⟩ h H c=>⟨_,ayT a b,y!⟩
def Ē:aJ Tryz.prog G0 242 XJ:=aJ.or aDW đ
def Sb:Ok ain:=ba.bT Sa Ē (aMw.k Tryz.func242 y!)
def aDX:aJ Tryz.prog G0 242 aio:=vH Sb ar aE6 BL aCA Tryz.func242 y! λ⟨a,b⟩ ⟨⟩ h H c=>⟨_,ayU a b,y!⟩
def atZ:aJ Tryz.prog G0 242 aip:=aJ.or aDX Ē
def adz:Ok aiq:=ba.bT Sb atZ (aMw.k Tryz.func242 y!)
def adA:Ok air:=kS ar adz nL Tryz.func130 y! λ⟨a,b⟩ h H=>⟨_,ayV a b,y!⟩
def adB:Ok ais:=kS ar adA nL Tryz.func131 y! λ⟨a,b⟩ h H=>⟨_,ayW a b,y!⟩
def adC:Ok ait:=kS ar adB nL Tryz.func132 y! λ⟨a,b⟩ h H=>⟨_,ayX a b,y!⟩
def adD:Ok aiu:=kS ar adC nL Tryz.func238 y! λs h H=>⟨_,ayY s,y!⟩
def adE:Ok aiv:=kS ar adD nL Tryz.func237 y! λ⟨a,b⟩ h H=>⟨_,ayZ a b,y!⟩
end Go.J
