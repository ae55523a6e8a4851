import Derived.Test.YtfbolhlbmbfhbaaGreatDoorPartG
set_option linter.unusedVariables false
set_option linter.unusedSimpArgs false
set_option linter.unusedSectionVars false
set_option linter.defProp false
set_option linter.unusedVariables false
set_option maxHeartbeats 0
set_option maxRecDepth 100000
namespace Go.J
open Go.Proofs
open Go Vg
def acb:Ok agF:=kS ar aca nL Tryz.func106 y! λ⟨d,s,S⟩ h H=>⟨_,axq d s S,y!⟩
def acd:Ok agG:=kS ar acb nL Tryz.func108 y! λ⟨d,s,S⟩ h H=>⟨_,axr d s S h,y!⟩
def ace:Ok agH:=kS ar acd nL Tryz.func249 y! λ⟨s,S,a⟩ h H=>⟨_,axs s S a h,y!⟩
def acf:Ok agI:=kS ar ace nL Tryz.func107 y! λ⟨a,A,b,B,c,d⟩ h H=>⟨_,axt a A b B c d,y!⟩
def acg:Ok agJ:=kS ar acf aAt Tryz.func103 y! λd H h=>⟨_,aPJ d h,y!⟩
def ach:Ok agK:=kS ar acg aAv Tryz.func104 y! λd H h=>⟨_,aPK d h,y!⟩
def aci:Ok agL:=kS ar ach nL Tryz.func39 y! λ⟨s,S,a⟩ H h=>⟨_,aPL s S a h,y!⟩
def acj:Ok agM:=kS ar aci nL Tryz.func110 y! λl h H=>⟨_,axu l h,y!⟩
def ack:Ok agN:=kS ar acj nL Tryz.func194 y! λl h H=>⟨_,axv l h,y!⟩
def acm:Ok agO:=kS ar ack aAA Tryz.func357 y! λ⟨a,b⟩ H h=>⟨_,axw a b h,y!⟩
def acn:Ok agP:=kS ar acm nL Tryz.func356 y! λ⟨a,A,b,B⟩ h H=>⟨_,axx a A b B,y!⟩
def aco:Ok agQ:=kH ar acn aAD Tryz.func355 y! λ⟨a,b⟩ ⟨⟩ H h c=>⟨_,axy a b h,y!⟩
def acp:Ok agR:=kS ar aco nL Tryz.func299 y! λ⟨a,b⟩ h H=>⟨_,axz a b,y!⟩
def acq:Ok agS:=kS ar acp aAG Tryz.func192 y! λ⟨y,Y⟩ h H=>⟨_,axA y Y,y!⟩
def acr:Ok agT:=kS ar acq nL Tryz.func87 y! λ⟨y,Y⟩ h H=>⟨_,axB y Y,y!⟩
def acs:Ok agU:=kS ar acr nL Tryz.func88 y! λ⟨y,Y⟩ H h=>⟨_,axC y Y h,y!⟩
def acu:Ok agV:=kS2 ar acs (λt=>Nat.beq t 89) (λd=>bif Nat.beq d 73 then some 17 else none) (λ_=>false) aAK Tryz.func90 y! λ⟨y,Y⟩ h H=>⟨_,axD y Y h H,y!⟩
def acv:Ok agW:=kS ar acu nL Tryz.func199 y! λ⟨y,Y⟩ h H=>⟨_,axE y Y,y!⟩
def acw:Ok agX:=kS ar acv nL Tryz.func40 y! λ⟨y,Y,d⟩ h H=>⟨_,axF y Y d,y!⟩
def acx:Ok agY:=kS ar acw nL Tryz.func31 y! λ⟨y,Y⟩ h H=>⟨_,axG y Y,y!⟩
def acy:Ok agZ:=kS ar acx aAP Tryz.func201 y! λ⟨y,Y⟩ H h=>⟨_,axH y Y h,y!⟩
def acz:Ok ag0:=kS ar acy aAR Tryz.func37 y! λ⟨y,Y⟩ h H=>⟨_,axI y Y,y!⟩
def acA:Ok ag1:=kS ar acz nL Tryz.func109 y! λ⟨y,Y⟩ h H=>⟨_,axJ y Y,y!⟩
def acB:Ok ag2:=kS ar acA aAU Tryz.func38 y! λ⟨y,Y⟩ H h=>⟨_,axK y Y h,y!⟩
def acC:Ok ag3:=kS ar acB aAW Tryz.func137 y! λ⟨y,Y⟩ H h=>⟨_,axL y Y h,y!⟩
def acD:Ok ag4:=kS ar acC aAY Tryz.func11 y! λ⟨y,Y⟩ h H=>⟨_,axM y Y h H,y!⟩
def acE:Ok ag5:=kS ar acD aA0 Tryz.func36 y! λ⟨y,Y⟩ H h=>⟨_,axN y Y h,y!⟩
def acF:Ok ag6:=kS ar acE nL Tryz.func295 y! λ⟨y,Y,a⟩ h H=>⟨_,axO y Y a,y!⟩
def R1:Ok ag7:=kS ar acF nL Tryz.func93 y! λ⟨y,Y⟩ h H=>⟨_,axP y Y,y!⟩
def aDL:aJ Tryz.prog G0 296 ag8:=vH2 R1 (λ_=>false) (λ_=>none) (λd=>Nat.beq d 5) ar aOk q6q mF Tryz.func296 y! λv ⟨q,⟨⟨⟩,⟨⟩⟩⟩ h H a=>⟨_,axQ v q h,y!⟩
def č:aJ Tryz.prog G0 296 XC:=aDL
def R2:Ok ag9:=ba.bT R1 č (dG.k Tryz.func296 y!)
def aDM:aJ Tryz.prog G0 296 aha:=vH2 R2 (λ_=>false) (λ_=>none) (λd=>Nat.beq d 5) ar aOk q7q mF Tryz.func296 y! λv ⟨q,⟨⟨⟩,⟨l,⟨⟩⟩⟩⟩ h H a=>⟨_,axR v q l h,y!⟩
def atV:aJ Tryz.prog G0 296 ahb:=aJ.or aDM č
def acG:Ok ahc:=ba.bT R2 atV (dG.k Tryz.func296 y!)
def acH:Ok ahd:=kH ar acG mF Tryz.func298 y! λd ⟨⟨⟩,⟨l,⟨⟩⟩⟩ h H a=>⟨_,axS d l h,y!⟩
def acI:Ok ahe:=kS ar acH aA7 Tryz.func190 y! λ⟨y,Y,a⟩ H h=>⟨_,axT y Y a h,y!⟩
def acJ:Ok ahf:=kH ar acI mF Tryz.func319 y! λ⟨⟩ ⟨⟨r,R,a⟩,⟨⟩⟩ h H b=>⟨_,axU r R a h,y!⟩
def acK:Ok ahg:=kH ar acJ mF Tryz.func320 y! λ⟨⟩ ⟨⟨r,R,a⟩,⟨⟩⟩ h H b=>⟨_,axV r R a h,y!⟩
def acL:Ok ahh:=kH ar acK mF Tryz.func321 y! λ⟨⟩ ⟨a,⟨⟨⟩,⟨⟨⟩,⟨⟨r,R,b⟩,⟨⟩⟩⟩⟩⟩ h H c=>⟨_,axW a r R b h,y!⟩
def acM:Ok ahi:=kS ar acL aBc Tryz.func227 y! λb h H=>⟨_,axX b h,y!⟩
def acN:Ok ahj:=kS ar acM nL Tryz.func10 y! λ⟨y,Y⟩ h H=>⟨_,axY y Y,y!⟩
def acO:Ok ahk:=kS ar acN nL Tryz.func54 y! λ⟨y,Y⟩ h H=>⟨_,axZ y Y h,y!⟩
def acP:Ok ahl:=kS2 ar acO (λ_=>false) (λ_=>none) (λd=>Nat.beq d 52) nL Tryz.func96 y! λ⟨d,t⟩ h H=>⟨_,ax0 d t h,y!⟩
def acQ:Ok ahm:=kXH acP Tryz.func120 y! (Tryz.atr (λ_=>rfl))
def acR:Ok ahn:=kH ar acQ aBi Tryz.func121 y! λ⟨⟩ ⟨l,⟨⟩⟩ h H a=>⟨_,ax1 l h,y!⟩
def acS:Ok aho:=kS ar acR aBk Tryz.func43 y! λl h H=>⟨_,ax2 l h,y!⟩
def acT:Ok ahp:=kS ar acS aBm Tryz.func45 y! λl h H=>⟨_,ax3 l h,y!⟩
def acU:Ok ahq:=kS ar acT nL Tryz.func220 y! λb h H=>⟨_,ax4 b h,y!⟩
def acV:Ok ahr:=kH2 ar acU (λ_=>false) (λ_=>none) (λd=>Nat.beq d 5) mF Tryz.func219 y! λ⟨⟩ ⟨s,⟨⟨⟩,⟨b,⟨a,⟨⟩⟩⟩⟩⟩ h H c=>⟨_,ax5 s b a h,y!⟩
def R3:Ok ahs:=kS ar acV aBq Tryz.func111 y! λb h H=>⟨_,ax6 b h,y!⟩
def aDN:aJ Tryz.prog G0 113 aht:=vH R3 ar aOm ì mF Tryz.func113 y! λ⟨⟩ ⟨⟨e,n,w⟩,⟨⟩⟩ h H a=>⟨_,ax7 e n w h,y!⟩
def Ď:aJ Tryz.prog G0 113 XD:=aDN
def R4:Ok ahu:=ba.bT R3 Ď (dG.k Tryz.func113 y!)
def aDO:aJ Tryz.prog G0 113 ahv:=vH R4 ar aOm aES mF Tryz.func113 y! λ⟨⟩ ⟨⟨e,n,w⟩,⟨l,⟨⟩⟩⟩ h H a=>⟨_,ax8 e n w l h,y!⟩
def atW:aJ Tryz.prog G0 113 ahw:=aJ.or aDO Ď
def acW:Ok ahx:=ba.bT R4 atW (dG.k Tryz.func113 y!)
def acX:Ok ahy:=kH ar acW mF Tryz.func317 y! λd ⟨⟨e,n,w⟩,⟨⟩⟩ h H a=>⟨_,ax9 d e n w h,y!⟩
def acY:Ok ahz:=kH ar acX aBv Tryz.func225 y! λd ⟨⟨e,n,w⟩,⟨⟩⟩ h H a=>⟨_,aya d e n w h,y!⟩
def acZ:Ok ahA:=kH ar acY aBx Tryz.func112 y! λd ⟨⟨e,n,w⟩,⟨⟩⟩ h H a=>⟨_,ayb d e n w h,y!⟩
def ac0:Ok ahB:=kS ar acZ nL Tryz.func42 y! λb h H=>⟨_,ayc b h,y!⟩
def ac4:Ok ahF:=kH ar ac0 mF Tryz.func208 y! λv ⟨d,⟨l,⟨⟩⟩⟩ h H a=>⟨_,ayg v d l h,y!⟩
def ac5:Ok ahG:=kH ar ac4 mF Tryz.func214 y! λ⟨b,m⟩ ⟨d,⟨l,⟨⟩⟩⟩ h H a=>⟨_,ayh b m d l h,y!⟩
def ac6:Ok ahH:=kH ar ac5 mF Tryz.func207 y! λ⟨y,Y,a⟩ ⟨d,⟨l,⟨⟩⟩⟩ h H b=>⟨_,ayi y Y a d l h,y!⟩
def ac7:Ok ahI:=kH ar ac6 aBJ Tryz.func215 y! λp ⟨d,⟨l,⟨⟩⟩⟩ h H a=>⟨_,ayj p d l h,y!⟩
def ac8:Ok ahJ:=kH ar ac7 mF Tryz.func209 y! λ⟨p,P,a,b,c,e⟩ ⟨d,⟨l,⟨⟩⟩⟩ h H f=>⟨_,ayk p P a b c e d l h,y!⟩
def ac9:Ok ahK:=kH ar ac8 mF Tryz.func210 y! λ⟨⟩ ⟨d,⟨l,⟨⟩⟩⟩ h H a=>⟨_,ayl d l,y!⟩
def ada:Ok ahL:=kS ar ac9 aBN Tryz.func97 y! λ⟨a,A,b,c⟩ h H=>⟨_,aym a A b c h H,y!⟩
def R5:Ok ahM:=kS ar ada nL Tryz.func100 y! λ⟨p,P,a,b,c,d⟩ h H=>⟨_,ayn p P a b c d h,y!⟩
def X6:aJ Tryz.prog G0 115 ahN:=vH R5 ar í BL mF Tryz.func115 y! λ⟨b,c⟩ ⟨⟩ h H a=>⟨_,ayo b c h,y!⟩
def ď:aJ Tryz.prog G0 115 XF:=X6
def R6:Ok ahO:=ba.bT R5 ď (dG.k Tryz.func115 y!)
def X7:aJ Tryz.prog G0 115 ahP:=vH R6 ar í BL mF Tryz.func115 y! λ⟨b,c⟩ ⟨⟩ h H a=>⟨_,ayp b c h,y!⟩
def atX:aJ Tryz.prog G0 115 ahQ:=aJ.or X7 ď
def adb:Ok ahR:=ba.bT R6 atX (dG.k Tryz.func115 y!)
def ade:Ok ahS:=kH ar adb mF Tryz.func150 y! λ⟨⟩ ⟨⟨r,R,a⟩,⟨⟩⟩ h H b=>⟨_,ayq r R a h,y!⟩
def adf:Ok ahT:=kH ar ade mF Tryz.func151 y! λm ⟨⟨r,R,a⟩,⟨⟩⟩ h H b=>⟨_,ayr m r R a h,y!⟩
def adg:Ok ahU:=kH ar adf mF Tryz.func117 y! λm ⟨⟨r,R,a⟩,⟨⟩⟩ h H b=>⟨_,ays m r R a h,y!⟩
def adh:Ok ahV:=kH ar adg mF Tryz.func116 y! λ⟨⟩ ⟨⟨r,R,a⟩,⟨⟩⟩ h H b=>⟨_,ayt r R a h,y!⟩
def adi:Ok ahW:=kH ar adh mF Tryz.func228 y! λ⟨⟩ ⟨⟨r,R,a⟩,⟨⟩⟩ h H b=>⟨_,ayu r R a h,y!⟩
def adj:Ok ahX:=kH ar adi aBV Tryz.func152 y! λ⟨⟩ ⟨⟨r,R,a⟩,⟨⟩⟩ h H b=>⟨_,ayv r R a h,y!⟩
def Hc:Ok NN:=kH ar adj mF Tryz.func118 y! λ⟨⟩ ⟨⟨r,R,a⟩,⟨⟩⟩ h H b=>⟨_,ayw r R a h,y!⟩
def aDP:Valid Tryz.prog G0 44 (fo lL aBX):=vS (E:=aBZ) (ba.bT Hc X6 (dG.k Tryz.func115 y!)) mixed lL aBY Tryz.func44 y! λb h H=>⟨_,ayx b h,y!⟩
def aDQ:Valid Tryz.prog G0 44 (fo lL aB0):=vS (E:=aB1) (ba.bT Hc X7 (dG.k Tryz.func115 y!)) mixed lL nL Tryz.func44 y! λb h H=>⟨_,ayy b h,y!⟩
def He:Ok NO:=kX Hc Tryz.func44 y! (Vg.Valid.cases aDP aDQ (λx h=>(Classical.em (S.jd x 1=0)).elim (λq=>.inl ⟨⟨h,q⟩,rfl⟩) (λq=>.inr ⟨q,rfl⟩)))
def aDR:Valid Tryz.prog G0 62 (fo lL aB3):=vS (E:=aB4) (ba.bT He X6 (dG.k Tryz.func115 y!)) mixed lL nL Tryz.func62 y! λb h H=>⟨_,ayz b h,y!⟩
def aDS:Valid Tryz.prog G0 62 (fo lL aB5):=vS (E:=aB6) (ba.bT He X7 (dG.k Tryz.func115 y!)) mixed lL nL Tryz.func62 y! λb h H=>⟨_,ayA b h,y!⟩
def adk:Ok ahY:=kX He Tryz.func62 y! (Vg.Valid.cases aDR aDS (λx h=>(Classical.em (S.jd x 2=0)).elim (λq=>.inl ⟨⟨h,q⟩,rfl⟩) (λq=>.inr ⟨q,rfl⟩)))
def aYa:Valid Tryz.prog G0 77 (fo lL aXH):=vS (E:=aXI) (ba.bT adk X6 (dG.k Tryz.func115 y!)) mixed lL nL Tryz.func77 y! λb h H=>⟨_,aXn b h,y!⟩
def aYb:Valid Tryz.prog G0 77 (fo lL aXJ):=vS (E:=aXK) (ba.bT adk X7 (dG.k Tryz.func115 y!)) mixed lL nL Tryz.func77 y! λb h H=>⟨_,aXo b h,y!⟩
def aTU:Ok aUt:=kX adk Tryz.func77 y! (Vg.Valid.cases aYa aYb (λx h=>(Classical.em (S.jd x 3=0)).elim (λq=>.inl ⟨⟨h,q⟩,rfl⟩) (λq=>.inr ⟨q,rfl⟩)))
def adl:Ok ahZ:=kS ar aTU aB9 Tryz.func134 y! λ⟨y,Y,a⟩ h H=>⟨_,ayB y Y a h H,y!⟩
def adm:Ok ah0:=kS ar adl nL Tryz.func53 y! λ⟨y,Y,a⟩ h H=>⟨_,ayC y Y a h,y!⟩
def adn:Ok ah1:=kS ar adm nL Tryz.func85 y! λ⟨y,Y,a⟩ h H=>⟨_,ayD y Y a,y!⟩
def ado:Ok ah2:=kS ar adn nL Tryz.func60 y! λ⟨a,b⟩ h H=>⟨_,ayE a b,y!⟩
def R7:Ok ah3:=kS ar ado nL Tryz.func41 y! λ⟨y,Y⟩ h H=>⟨_,ayF y Y,y!⟩
def aDT:aJ Tryz.prog G0 95 ah4:=vH R7 ar aEW aEU mF Tryz.func95 y! λt ⟨d,⟨e,⟨⟨⟩,⟨⟩⟩⟩⟩ h H a=>⟨_,ayG t d e h,y!⟩
def Đ:aJ Tryz.prog G0 95 XH:=aDT
def R8:Ok ah5:=ba.bT R7 Đ (dG.k Tryz.func95 y!)
def aDU:aJ Tryz.prog G0 95 ah6:=vH R8 ar aEW aEV mF Tryz.func95 y! λt ⟨d,⟨e,⟨⟨⟩,⟨l,⟨⟩⟩⟩⟩⟩ h H a=>⟨_,ayH t d e l h,y!⟩
def atY:aJ Tryz.prog G0 95 ah7:=aJ.or aDU Đ
def adp:Ok ah8:=ba.bT R8 atY (dG.k Tryz.func95 y!)
def adq:Ok ah9:=kH ar adp aCh Tryz.func94 y! λd ⟨e,⟨t,⟨⟩⟩⟩ h H a=>⟨_,ayI d e t h H a,y!⟩
def adr:Ok aia:=kS ar adq aCj Tryz.func33 y! λ⟨y,Y,l⟩ h H=>⟨_,ayJ y Y l h H,y!⟩
def ads:Ok aib:=kS ar adr nL Tryz.func34 y! λ⟨y,Y,i⟩ h H=>⟨_,ayK y Y i,y!⟩
def adt:Ok aic:=kS ar ads nL Tryz.func14 y! λ⟨y,Y⟩ h H=>⟨_,ayL y Y h H,y!⟩
def aTV:Ok aUu:=kS ar adt nL Tryz.func29 y! λ⟨a,b⟩ H h=>⟨_,aXp a b h,y!⟩
def adu:Ok aid:=kS ar aTV aCn Tryz.func153 y! λ⟨i,n⟩ h H=>⟨_,ayM i n h,y!⟩
def adv:Ok aie:=kS ar adu aCp Tryz.func65 y! λ⟨d,i,n,p⟩ h H=>⟨_,ayN d i n p h H,y!⟩
def adw:Ok aif:=kS ar adv aCr Tryz.func233 y! λb h H=>⟨_,ayO b h,y!⟩
def adx:Ok aih:=kS ar adw nL Tryz.func243 y! λ⟨n,p,q⟩ h H=>⟨_,ayP n p q,y!⟩
def ady:Ok aii:=kS ar adx nL Tryz.func244 y! λ⟨n,p,q⟩ h H=>⟨_,ayQ n p q,y!⟩
end Go.J
