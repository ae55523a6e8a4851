import Derived.Test.YtfbolhlbmbfhbaaGreatDoorPartH
set_option linter.unusedVariables false
set_option linter.unusedSimpArgs false
set_option linter.unusedSectionVars false
set_option linter.defProp false
set_option linter.unusedVariables false
set_option maxHeartbeats 0
set_option maxRecDepth 100000
namespace Go.J
open Go.Proofs
open Go Vg
def adl:Ok ahZ:=kS ar adk aB9 Tryz.func134 y! λ⟨y,Y,a⟩ h H=>⟨_,ayB y Y a h H,y!⟩
def adm:Ok ah0:=kS ar adl nL Tryz.func53 y! λ⟨y,Y,a⟩ h H=>⟨_,ayC y Y a h,y!⟩
def adn:Ok ah1:=kS ar adm nL Tryz.func85 y! λ⟨y,Y,a⟩ h H=>⟨_,ayD y Y a,y!⟩
def ado:Ok ah2:=kS ar adn nL Tryz.func60 y! λ⟨a,b⟩ h H=>⟨_,ayE a b,y!⟩
def R7:Ok ah3:=kS ar ado nL Tryz.func41 y! λ⟨y,Y⟩ h H=>⟨_,ayF y Y,y!⟩
def aDT:aJ Tryz.prog G0 95 ah4:=vH R7 ar af8 aEU mF Tryz.func95 y! λt ⟨d,⟨e,⟨⟨⟩,⟨⟩⟩⟩⟩ h H a=>⟨_,ayG t d e h,y!⟩
def Đ:aJ Tryz.prog G0 95 XH:=aDT
def R8:Ok ah5:=ba.bT R7 Đ (dG.k Tryz.func95 y!)
def aDU:aJ Tryz.prog G0 95 ah6:=vH R8 ar af8 aEV mF Tryz.func95 y! λt ⟨d,⟨e,⟨⟨⟩,⟨l,⟨⟩⟩⟩⟩⟩ h H a=>⟨_,ayH t d e l h,y!⟩
def atY:aJ Tryz.prog G0 95 ah7:=aJ.or aDU Đ
def adp:Ok ah8:=ba.bT R8 atY (dG.k Tryz.func95 y!)
def adq:Ok ah9:=kH ar adp aCh Tryz.func94 y! λd ⟨e,⟨t,⟨⟩⟩⟩ h H a=>⟨_,ayI d e t h H a,y!⟩
def adr:Ok aia:=kS ar adq aCj Tryz.func33 y! λ⟨y,Y,l⟩ h H=>⟨_,ayJ y Y l h H,y!⟩
def ads:Ok aib:=kS ar adr nL Tryz.func34 y! λ⟨y,Y,i⟩ h H=>⟨_,ayK y Y i,y!⟩
def adt:Ok aic:=kS ar ads nL Tryz.func14 y! λ⟨y,Y⟩ h H=>⟨_,ayL y Y h H,y!⟩
def adu:Ok aid:=kS ar adt aCn Tryz.func153 y! λ⟨i,n⟩ h H=>⟨_,ayM i n h,y!⟩
def adv:Ok aie:=kS ar adu aCp Tryz.func65 y! λ⟨d,i,n,p⟩ h H=>⟨_,ayN d i n p h H,y!⟩
def adw:Ok aif:=kS ar adv aCr Tryz.func233 y! λb h H=>⟨_,ayO b h,y!⟩
def adx:Ok aih:=kS ar adw nL Tryz.func243 y! λ⟨n,p,q⟩ h H=>⟨_,ayP n p q,y!⟩
def ady:Ok aii:=kS ar adx nL Tryz.func244 y! λ⟨n,p,q⟩ h H=>⟨_,ayQ n p q,y!⟩
def R9:Ok aij:=kS ar ady nL Tryz.func245 y! λ⟨n,p,q⟩ h H=>⟨_,ayR n p q,y!⟩
def aDV:aJ Tryz.prog G0 242 aik:=vH R9 ar aE0 BL aCw Tryz.func242 y! λ⟨a,b⟩ ⟨⟩ h H c=>⟨_,ayS a b,y!⟩
def đ:aJ Tryz.prog G0 242 XI:=aJ.or aDV Č
def Sa:Ok ail:=ba.bT R9 đ (dG.k Tryz.func242 y!)
def aDW:aJ Tryz.prog G0 242 aim:=vH Sa ar aE1 BL aCy Tryz.func242 y! λ⟨a,b⟩ ⟨⟩ h H c=>⟨_,ayT a b,y!⟩
def Ē:aJ Tryz.prog G0 242 XJ:=aJ.or aDW đ
def Sb:Ok ain:=ba.bT Sa Ē (dG.k Tryz.func242 y!)
def aDX:aJ Tryz.prog G0 242 aio:=vH Sb ar aE2 BL aCA Tryz.func242 y! λ⟨a,b⟩ ⟨⟩ h H c=>⟨_,ayU a b,y!⟩
def atZ:aJ Tryz.prog G0 242 aip:=aJ.or aDX Ē
def adz:Ok aiq:=ba.bT Sb atZ (dG.k Tryz.func242 y!)
def adA:Ok air:=kS ar adz nL Tryz.func130 y! λ⟨a,b⟩ h H=>⟨_,ayV a b,y!⟩
def adB:Ok ais:=kS ar adA nL Tryz.func131 y! λ⟨a,b⟩ h H=>⟨_,ayW a b,y!⟩
def adC:Ok ait:=kS ar adB nL Tryz.func132 y! λ⟨a,b⟩ h H=>⟨_,ayX a b,y!⟩
def adD:Ok aiu:=kS ar adC nL Tryz.func238 y! λs h H=>⟨_,ayY s,y!⟩
def adE:Ok aiv:=kS ar adD nL Tryz.func237 y! λ⟨a,b⟩ h H=>⟨_,ayZ a b,y!⟩
def adF:Ok aiw:=kS ar adE aCH Tryz.func127 y! λ⟨x,t⟩ h H=>⟨_,ay0 x t h,y!⟩
def Sc:Ok aix:=kS ar adF nL Tryz.func126 y! λ⟨s,t,f⟩ h H=>⟨_,ay1 s t f h,y!⟩
def aDY:aJ Tryz.prog G0 240 aiy:=vH Sc ar Rh aE3 mF Tryz.func240 y! λs ⟨⟨⟩,⟨⟨⟩,⟨l,⟨⟩⟩⟩⟩ h H a=>⟨_,ay2 s l h,y!⟩
def ē:aJ Tryz.prog G0 240 XK:=aDY
def Sd:Ok aiz:=ba.bT Sc ē (dG.k Tryz.func240 y!)
def aDZ:aJ Tryz.prog G0 240 aiA:=vH Sd ar Rh aE4 mF Tryz.func240 y! λs ⟨⟨⟩,⟨⟨⟩,⟨l,⟨⟩⟩⟩⟩ h H a=>⟨_,ay3 s l h,y!⟩
def Ĕ:aJ Tryz.prog G0 240 XL:=aJ.or aDZ ē
def Se:Ok aiB:=ba.bT Sd Ĕ (dG.k Tryz.func240 y!)
def aD0:aJ Tryz.prog G0 240 aiC:=vH Se ar Rh aE5 mF Tryz.func240 y! λs ⟨⟨⟩,⟨⟨⟩,⟨l,⟨⟩⟩⟩⟩ h H a=>⟨_,ay4 s l h,y!⟩
def at0:aJ Tryz.prog G0 240 aiD:=aJ.or aD0 Ĕ
def adG:Ok aiE:=ba.bT Se at0 (dG.k Tryz.func240 y!)
def adH:Ok aiF:=kH ar adG mF Tryz.func241 y! λs ⟨⟨⟩,⟨⟨t,f⟩,⟨l,⟨⟩⟩⟩⟩ h H a=>⟨_,ay5 s t f l h,y!⟩
def adI:Ok aiG:=kH ar adH aCO Tryz.func129 y! λ⟨l,t,f⟩ ⟨⟩ h H a=>⟨_,ay6 l t f h H,y!⟩
def adJ:Ok aiH:=kS3 ar adI (λ_=>false) (λ_=>none) (λ_=>false) (λd=>bif Nat.beq d 30 then some [some 103,some 105] else none) aCQ Tryz.func52 y! λ⟨l,f⟩ h H=>⟨_,ay7 l f h H,y!⟩
def adK:Ok aiI:=kS ar adJ nL Tryz.func234 y! λ⟨p,P,a,b,c,d,t,e⟩ h H=>⟨_,ay8 p P a b c d t e h,y!⟩
def adL:Ok aiJ:=kS ar adK nL Tryz.func236 y! λ⟨p,P,a,b,c,d,t⟩ h H=>⟨_,ay9 p P a b c d t,y!⟩
def adM:Ok aiK:=kH3 ar adL (λ_=>false) (λ_=>none) (λ_=>false) (λd=>bif Nat.beq d 16 then some [none] else bif Nat.beq d 13 then some [some 9,some 37] else none) mF Tryz.func124 y! λ⟨t,p,P,a,b,c,e⟩ ⟨⟩ h H f=>⟨_,aza t p P a b c e h,y!⟩
def adN:Ok aiL:=kS2 ar adM (λ_=>false) (λ_=>none) (λd=>Nat.beq d 63) aCV Tryz.func49 y! λ⟨r,n,t,p,P,a,b,c,e⟩ h H=>⟨_,azb r n t p P a b c e h,y!⟩
def adO:Ok aiM:=kS ar adN nL Tryz.func122 y! λ⟨j,J,a,r⟩ h H=>⟨_,azd j J a r,y!⟩
def adP:Ok aiN:=kS3 ar adO (λ_=>false) (λ_=>none) (λ_=>false) (λd=>bif Nat.beq d 5 then some [some 97,some 9] else none) nL Tryz.func46 y! λ⟨j,J,a,r⟩ h H=>⟨_,aze j J a r,y!⟩
def adQ:Ok aiO:=kS ar adP nL Tryz.func47 y! λ⟨a,A,b,c,i,t⟩ h H=>⟨_,azf a A b c i t h,y!⟩
def adR:Ok aiP:=kS ar adQ nL Tryz.func63 y! λ⟨p,P,a,b,c,d,i⟩ h H=>⟨_,azg p P a b c d i,y!⟩
def adS:Ok aiQ:=kS ar adR aC1 Tryz.func50 y! λ⟨l,s,S⟩ H h=>⟨_,azh l s S h,y!⟩
def adT:Ok aiR:=kS ar adS nL Tryz.func64 y! λ⟨p,P,a,b,c,d,i⟩ h H=>⟨_,azi p P a b c d i h,y!⟩
def adU:Ok aiS:=ba.bT adT Tryz.abJ (dG.k Tryz.func51 y!)
def Sf:Ok aiT:=kS3 ar adU (λ_=>false) (λ_=>none) (λ_=>false) (λd=>bif Nat.beq d 26 then some [none,none] else bif Nat.beq d 25 then some [some 136,some 3] else none) nL Tryz.func21 y! λ⟨r,i,b⟩ h H=>⟨_,azj r i b h,y!⟩
def ajA:aJ Tryz.prog G0 48 XN:=vH Sf ar î ï mF Tryz.func48 y! λ⟨g,G,a,b,w,A,c,d,e,i,j⟩ ⟨⟨⟩,⟨⟨x,q⟩,⟨l,⟨⟩⟩⟩⟩ h H f=>⟨_,azk g G a b w A c d e i j x q l h,y!⟩
def ĕ:aJ Tryz.prog G0 48 XO:=ajA
def Sh:Ok aiU:=ba.bT Sf ĕ (dG.k Tryz.func48 y!)
def ajB:aJ Tryz.prog G0 48 XQ:=vH Sh ar î ï mF Tryz.func48 y! λ⟨g,G,a,b,w,A,c,d,e,i,j⟩ ⟨⟨⟩,⟨⟨x,q⟩,⟨l,⟨⟩⟩⟩⟩ h H f=>⟨_,azl g G a b w A c d e i j x q l h,y!⟩
def at1:aJ Tryz.prog G0 48 aiV:=aJ.or ajB ĕ
def adV:Ok aiW:=ba.bT Sh at1 (dG.k Tryz.func48 y!)
def adW:Ok aiY:=ba.J7 adV (Go.J.atI ajA ajB)
def adX:Ok aiZ:=kS3 ar adW (λ_=>false) (λ_=>none) (λ_=>false) (λd=>bif Nat.beq d 65 then some [none,some 9,none,none,some 3,none] else bif Nat.beq d 100014 then some [some 109] else bif Nat.beq d 54 then some [none,some 3,none] else bif Nat.beq d 40 then some [some 100] else bif Nat.beq d 38 then some [] else bif Nat.beq d 36 then some [some 103] else none) aC5 Tryz.func13 y! λ⟨r,l,b⟩ h H=>⟨_,azm r l b h,y!⟩
def adY:Ok ai0:=kS ar adX nL Tryz.func20 y! λ⟨c,C⟩ h H=>⟨_,azn c C h,y!⟩
def adZ:Ok ai1:=kS ar adY nL Tryz.func339 y! λb h H=>⟨_,azo b h,y!⟩
def ad0:Ok ai2:=kS ar adZ nL Tryz.func257 y! λ⟨a,b⟩ h H=>⟨_,azp a b h,y!⟩
def ad3:Ok ai3:=kS ar ad0 nL Tryz.func288 y! λl h H=>⟨_,azq l h,y!⟩
def ad4:Ok ai4:=kS ar ad3 nL Tryz.func271 y! λ⟨a,b⟩ h H=>⟨_,azr a b,y!⟩
def ad5:Ok ai5:=kS ar ad4 nL Tryz.func268 y! λl h H=>⟨_,azs l h,y!⟩
def ad6:Ok ai6:=kS ar ad5 nL Tryz.func260 y! λ⟨a,b⟩ h H=>⟨_,azt a b h,y!⟩
def ad7:Ok ai7:=kS ar ad6 nL Tryz.func143 y! λ⟨a,b⟩ h H=>⟨_,azu a b h,y!⟩
def ad8:Ok ai8:=kS ar ad7 nL Tryz.func344 y! λ⟨a,b⟩ h H=>⟨_,azv a b h,y!⟩
def ad9:Ok ai9:=kS3 ar ad8 (λ_=>false) (λ_=>none) (λ_=>false) (λd=>bif Nat.beq d 5 then some [some 27,some 27] else none) nL Tryz.func269 y! λ⟨a,b⟩ h H=>⟨_,azw a b,y!⟩
def aea:Ok aja:=ba.bT ad9 Tryz.X5 (dG.k Tryz.func272 y!)
def aeb:Ok ajb:=kS3 ar aea (λ_=>false) (λ_=>none) (λ_=>false) (λd=>bif Nat.beq d 82 then some [] else none) aDh Tryz.func157 y! λ⟨l,i,f,p⟩ h H=>⟨_,azx l i f p h H,y!⟩
def aec:Ok ajc:=kS ar aeb nL Tryz.func146 y! λ⟨d,t,p,P,a,b,c,e⟩ h H=>⟨_,azy d t p P a b c e h,y!⟩
def aed:Ok ajd:=ba.bT aec Tryz.ċ (dG.k Tryz.func57 y!)
def aee:Ok aje:=kS ar aed nL Tryz.func144 y! λ⟨p,P,a,b,c⟩ h H=>⟨_,azz p P a b c,y!⟩
def aef:Ok ajf:=kS ar aee nL Tryz.func145 y! λ⟨p,P,a,b,c⟩ h H=>⟨_,azA p P a b c,y!⟩
def aeg:Ok ajg:=kS ar aef nL Tryz.func58 y! λ⟨p,P,a,b,c⟩ h H=>⟨_,azB p P a b c,y!⟩
def aeh:Ok ajh:=kS ar aeg aDn Tryz.func59 y! λ⟨a,A,b,c,d,e,f⟩ h H=>⟨_,azC a A b c d e f h H,y!⟩
def aei:Ok aji:=kS ar aeh nL Tryz.func67 y! λ⟨a,A,b,c,d,e,f,g⟩ h H=>⟨_,azD a A b c d e f g h,y!⟩
def aej:Ok ajj:=kS ar aei nL Tryz.func19 y! λ⟨y,Y,l,b⟩ h H=>⟨_,azE y Y l b h,y!⟩
def aek:Ok ajk:=kS ar aej nL Tryz.func22 y! λ⟨y,Y,i,b⟩ h H=>⟨_,azF y Y i b h,y!⟩
def ael:Ok ajl:=kS ar aek aDs Tryz.func142 y! λl h H=>⟨_,azG l h H,y!⟩
def aem:Ok ajm:=kR ar ael aDu nL Tryz.func56 y! λm ⟨d,l⟩ h H a=>⟨_,azH m d l h H a,y!⟩
def aen:Ok ajn:=kS ar aem aDw Tryz.func18 y! λ⟨d,l⟩ h H=>⟨_,azI d l h H,y!⟩
def aeo:Ok ajo:=kS ar aen nL Tryz.func8 y! λ⟨y,Y,b⟩ H h=>⟨_,azJ y Y b h,y!⟩
def aep:Ok ajp:=kS ar aeo nL Tryz.func12 y! λ_ h H=>⟨_,azK,y!⟩
def aeq:Ok aDz:=kS ar aep nL Tryz.func3 y! λ⟨y,Y,l,b⟩ H h=>⟨_,azL y Y l b h,y!⟩
def aD1:Valid Tryz.prog G0 3 (fo ð ajq):=kV aeq y!
end Go.J
