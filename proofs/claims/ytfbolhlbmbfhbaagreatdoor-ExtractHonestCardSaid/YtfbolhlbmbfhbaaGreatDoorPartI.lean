import Derived.Test.YtfbolhlbmbfhbaaGreatDoorPartH
set_option linter.all false
set_option maxHeartbeats 0
set_option maxRecDepth 100000
namespace Go.J
open Go.Proofs
open Go Vg
def adF:Ok aiw:=kS ar adE aCH Tryz.func127 y! λ⟨x,t⟩ h H=>⟨_,ay0 x t h,y!⟩
def Sc:Ok aix:=kS ar adF nL Tryz.func126 y! λ⟨s,t,f⟩ h H=>⟨_,ay1 s t f h,y!⟩
def aDY:aJ Tryz.prog G0 240 aiy:=vH Sc ar aOC aE3 mF Tryz.func240 y! λs ⟨⟨⟩,⟨⟨⟩,⟨l,⟨⟩⟩⟩⟩ h H a=>⟨_,ay2 s l h,y!⟩
def ē:aJ Tryz.prog G0 240 XK:=aDY
def Sd:Ok aiz:=ba.bT Sc ē (aMw.k Tryz.func240 y!)
def aDZ:aJ Tryz.prog G0 240 aiA:=vH Sd ar aOC aE4 mF Tryz.func240 y! λs ⟨⟨⟩,⟨⟨⟩,⟨l,⟨⟩⟩⟩⟩ h H a=>⟨_,ay3 s l h,y!⟩
def Ĕ:aJ Tryz.prog G0 240 XL:=aJ.or aDZ ē
def Se:Ok aiB:=ba.bT Sd Ĕ (aMw.k Tryz.func240 y!)
def aD0:aJ Tryz.prog G0 240 aiC:=vH Se ar aOC aE5 mF Tryz.func240 y! λs ⟨⟨⟩,⟨⟨⟩,⟨l,⟨⟩⟩⟩⟩ h H a=>⟨_,ay4 s l h,y!⟩
def at0:aJ Tryz.prog G0 240 aiD:=aJ.or aD0 Ĕ
def adG:Ok aiE:=ba.bT Se at0 (aMw.k Tryz.func240 y!)
def adH:Ok aiF:=kH ar adG mF Tryz.func241 y! λs ⟨⟨⟩,⟨⟨t,f⟩,⟨l,⟨⟩⟩⟩⟩ h H a=>⟨_,ay5 s t f l h,y!⟩
def adI:Ok aiG:=kH ar adH aCO Tryz.func129 y! λ⟨l,t,f⟩ ⟨⟩ h H a=>⟨_,ay6 l t f h H,y!⟩
def adJ:Ok aiH:=kS3 ar adI (λ_=>false) (λ_=>none) (λ_=>false) (λd=>bif Nat.beq d 30 then some [some 103,some 105] else none) aCQ Tryz.func52 y! λ⟨l,f⟩ h H=>⟨_,ay7 l f h H,y!⟩
def adK:Ok aiI:=kS ar adJ nL Tryz.func234 y! λ⟨p,P,a,b,c,d,t,e⟩ h H=>⟨_,ay8 p P a b c d t e h,y!⟩
def adL:Ok aiJ:=kS ar adK nL Tryz.func236 y! λ⟨p,P,a,b,c,d,t⟩ h H=>⟨_,ay9 p P a b c d t,y!⟩
def adM:Ok aiK:=kH3 ar adL (λ_=>false) (λ_=>none) (λ_=>false) (λd=>bif Nat.beq d 16 then some [none] else bif Nat.beq d 13 then some [some 9,some 37] else none) mF Tryz.func124 y! λ⟨t,p,P,a,b,c,e⟩ ⟨⟩ h H f=>⟨_,aza t p P a b c e h,y!⟩
def adN:Ok aiL:=kS2 ar adM (λ_=>false) (λ_=>none) (λd=>Nat.beq d 63) aCV Tryz.func49 y! λ⟨r,n,t,p,P,a,b,c,e⟩ h H=>⟨_,azb r n t p P a b c e h,y!⟩
def aTW:Ok aUv:=kS ar adN nL Tryz.func352 y! λ⟨u,v⟩ h H=>⟨_,aXq u v,y!⟩
def aTX:Ok aUw:=kS ar aTW aXP Tryz.func294 y! λ⟨i,j,u,v,p⟩ h H=>⟨_,aXr i j u v p h H,y!⟩
def aTY:Ok aUx:=kS ar aTX nL Tryz.func189 y! λ⟨m,n,u,v,p⟩ h H=>⟨_,aXs m n u v p h H,y!⟩
def aTZ:Ok aUy:=kS ar aTY aXS Tryz.func83 y! λ⟨m,n,u,v,p⟩ h H=>⟨_,aXt m n u v p h H,y!⟩
def adO:Ok aiM:=kS ar aTZ nL Tryz.func122 y! λ⟨j,J,a,r⟩ h H=>⟨_,azd j J a r,y!⟩
def adP:Ok aiN:=kS3 ar adO (λ_=>false) (λ_=>none) (λ_=>false) (λd=>bif Nat.beq d 5 then some [some 97,some 9] else none) nL Tryz.func46 y! λ⟨j,J,a,r⟩ h H=>⟨_,aze j J a r,y!⟩
def adQ:Ok aiO:=kS ar adP nL Tryz.func47 y! λ⟨a,A,b,c,i,t⟩ h H=>⟨_,azf a A b c i t h,y!⟩
def adR:Ok aiP:=kS ar adQ nL Tryz.func63 y! λ⟨p,P,a,b,c,d,i⟩ h H=>⟨_,azg p P a b c d i,y!⟩
def adS:Ok aiQ:=kS ar adR aC1 Tryz.func50 y! λ⟨l,s,S⟩ H h=>⟨_,azh l s S h,y!⟩
def adT:Ok aiR:=kS ar adS nL Tryz.func64 y! λ⟨p,P,a,b,c,d,i⟩ h H=>⟨_,azi p P a b c d i h,y!⟩
def adU:Ok aiS:=ba.bT adT Tryz.abJ (aMw.k Tryz.func51 y!)
def Sf:Ok aiT:=kS3 ar adU (λ_=>false) (λ_=>none) (λ_=>false) (λd=>bif Nat.beq d 26 then some [none,none] else bif Nat.beq d 25 then some [some 136,some 3] else none) nL Tryz.func21 y! λ⟨r,i,b⟩ h H=>⟨_,azj r i b h,y!⟩
def ajA:aJ Tryz.prog G0 48 XN:=vH Sf ar aOL ï mF Tryz.func48 y! λ⟨g,G,a,b,w,A,c,d,e,i,j⟩ ⟨⟨⟩,⟨⟨x,q⟩,⟨l,⟨⟩⟩⟩⟩ h H f=>⟨_,azk g G a b w A c d e i j x q l h,y!⟩
def ĕ:aJ Tryz.prog G0 48 XO:=ajA
def Sh:Ok aiU:=ba.bT Sf ĕ (aMw.k Tryz.func48 y!)
def ajB:aJ Tryz.prog G0 48 XQ:=vH Sh ar aOL ï mF Tryz.func48 y! λ⟨g,G,a,b,w,A,c,d,e,i,j⟩ ⟨⟨⟩,⟨⟨x,q⟩,⟨l,⟨⟩⟩⟩⟩ h H f=>⟨_,azl g G a b w A c d e i j x q l h,y!⟩
def at1:aJ Tryz.prog G0 48 aiV:=aJ.or ajB ĕ
def adV:Ok aiW:=ba.bT Sh at1 (aMw.k Tryz.func48 y!)
def adW:Ok aiY:=ba.J7 adV (Go.J.atI ajA ajB)
def adX:Ok aiZ:=kS3 ar adW (λ_=>false) (λ_=>none) (λ_=>false) (λd=>bif Nat.beq d 65 then some [none,some 9,none,none,some 3,none] else bif Nat.beq d 100014 then some [some 109] else bif Nat.beq d 54 then some [none,some 3,none] else bif Nat.beq d 40 then some [some 100] else bif Nat.beq d 38 then some [] else bif Nat.beq d 36 then some [some 103] else none) aC5 Tryz.func13 y! λ⟨r,l,b⟩ h H=>⟨_,azm r l b h,y!⟩
def aUN:aJ Tryz.prog G0 84 aSF:=vH adX ar aOM aYh mF Tryz.func84 y! λ⟨s,S,a,b,c,d,e⟩ ⟨t,⟨⟩⟩ h H f=>⟨_,aXu s S a b c d e t,y!⟩
def aWq:aJ Tryz.prog G0 84 aUA:=aUN
def aT0:Ok aUB:=ba.bT adX aWq (aMw.k Tryz.func84 y!)
def aT1:Ok aUD:=ba.J7 aT0 (Go.J.aWp aUN)
def aT2:Ok aUE:=kS ar aT1 nL Tryz.func82 y! λ⟨s,S,a,b,c,d,e⟩ h H=>⟨_,aXv s S a b c d e h,y!⟩
def aT3:Ok aUF:=kS3 ar aT2 (λ_=>false) (λ_=>none) (λ_=>false) (λd=>bif Nat.beq d 26 then some [none,none] else bif Nat.beq d 25 then some [none] else bif Nat.beq d 22 then some [some 165] else none) nL Tryz.func28 y! λ⟨r,b⟩ h H=>⟨_,aXw r b h,y!⟩
def adY:Ok ai0:=kS ar aT3 nL Tryz.func20 y! λ⟨c,C⟩ h H=>⟨_,azn c C h,y!⟩
def adZ:Ok ai1:=kS ar adY nL Tryz.func339 y! λb h H=>⟨_,azo b h,y!⟩
def ad0:Ok ai2:=kS ar adZ nL Tryz.func257 y! λ⟨a,b⟩ h H=>⟨_,azp a b h,y!⟩
def ad3:Ok ai3:=kS ar ad0 nL Tryz.func288 y! λl h H=>⟨_,azq l h,y!⟩
def ad4:Ok ai4:=kS ar ad3 nL Tryz.func271 y! λ⟨a,b⟩ h H=>⟨_,azr a b,y!⟩
def ad5:Ok ai5:=kS ar ad4 nL Tryz.func268 y! λl h H=>⟨_,azs l h,y!⟩
def ad6:Ok ai6:=kS ar ad5 nL Tryz.func260 y! λ⟨a,b⟩ h H=>⟨_,azt a b h,y!⟩
def ad7:Ok ai7:=kS ar ad6 nL Tryz.func143 y! λ⟨a,b⟩ h H=>⟨_,azu a b h,y!⟩
def ad8:Ok ai8:=kS ar ad7 nL Tryz.func344 y! λ⟨a,b⟩ h H=>⟨_,azv a b h,y!⟩
def ad9:Ok ai9:=kS3 ar ad8 (λ_=>false) (λ_=>none) (λ_=>false) (λd=>bif Nat.beq d 5 then some [some 27,some 27] else none) nL Tryz.func269 y! λ⟨a,b⟩ h H=>⟨_,azw a b,y!⟩
def aea:Ok aja:=ba.bT ad9 Tryz.X5 (aMw.k Tryz.func272 y!)
def aeb:Ok ajb:=kS3 ar aea (λ_=>false) (λ_=>none) (λ_=>false) (λd=>bif Nat.beq d 82 then some [] else none) aDh Tryz.func157 y! λ⟨l,i,f,p⟩ h H=>⟨_,azx l i f p h H,y!⟩
def aec:Ok ajc:=kS ar aeb nL Tryz.func146 y! λ⟨d,t,p,P,a,b,c,e⟩ h H=>⟨_,azy d t p P a b c e h,y!⟩
def aed:Ok ajd:=ba.bT aec Tryz.ċ (aMw.k Tryz.func57 y!)
def aee:Ok aje:=kS ar aed nL Tryz.func144 y! λ⟨p,P,a,b,c⟩ h H=>⟨_,azz p P a b c,y!⟩
def aef:Ok ajf:=kS ar aee nL Tryz.func145 y! λ⟨p,P,a,b,c⟩ h H=>⟨_,azA p P a b c,y!⟩
def aeg:Ok ajg:=kS ar aef nL Tryz.func58 y! λ⟨p,P,a,b,c⟩ h H=>⟨_,azB p P a b c,y!⟩
def aeh:Ok ajh:=kS ar aeg aDn Tryz.func59 y! λ⟨a,A,b,c,d,e,f⟩ h H=>⟨_,azC a A b c d e f h H,y!⟩
def aei:Ok aji:=kS ar aeh nL Tryz.func67 y! λ⟨a,A,b,c,d,e,f,g⟩ h H=>⟨_,azD a A b c d e f g h,y!⟩
def aej:Ok ajj:=kS ar aei nL Tryz.func19 y! λ⟨y,Y,l,b⟩ h H=>⟨_,azE y Y l b h,y!⟩
def aek:Ok ajk:=kS ar aej nL Tryz.func22 y! λ⟨y,Y,i,b⟩ h H=>⟨_,azF y Y i b h,y!⟩
def aFI:Valid Tryz.prog G0 387 (fo aWd aDr)/\Valid Tryz.prog G0 388 (fo aWd aDt)/\Valid Tryz.prog G0 377 (fo aWe aDv):=k3T mixed aek aXV aDu aXW nL nL nL (λ_=>false) (λ_=>none) (λ_=>false) (λd=>bif Nat.beq d 34 then some [none,none,none,none,none] else bif Nat.beq d 33 then some [none,none,none,none,none] else bif Nat.beq d 100010 then some [some 3] else bif Nat.beq d 300007 then some [some 103] else bif Nat.beq d 300006 then some [some 103] else bif Nat.beq d 300005 then some [some 22] else bif Nat.beq d 300004 then some [some 22] else none) Tryz.func387 y! Tryz.func388 y! Tryz.func377 y! (λm ⟨a,k,b,x,y⟩ h H c=>⟨_,azG m a k b x y h H c,y!⟩) (λm ⟨a,k,b,x,y⟩ h H c=>⟨_,azH m a k b x y h H c,y!⟩) (λm ⟨a,b,x,y⟩ h H c=>⟨_,azI m a b x y h H c,y!⟩)
def ael:Ok ajl:=kX aek Tryz.func387 y! aFI.1
def aem:Ok ajm:=kX ael Tryz.func388 y! aFI.2.1
def aen:Ok ajn:=kX aem Tryz.func377 y! aFI.2.2
def aeo:Ok ajo:=kS ar aen nL Tryz.func351 y! λ⟨a,b⟩ h H=>⟨_,azJ a b h H,y!⟩
def aep:Ok ajp:=kS ar aeo nL Tryz.func350 y! λ⟨a,i,j,b⟩ h H=>⟨_,azK a i j b h H,y!⟩
def aT4:Ok aUG:=kS3 ar aep (λ_=>false) (λ_=>none) (λ_=>false) (λd=>bif Nat.beq d 9 then some [some 22,some 3,some 3,some 22] else none) nL Tryz.func291 y! λ⟨a,b,i,j⟩ H h=>⟨_,aXx a b i j h,y!⟩
def aeq:Ok aDz:=kS ar aT4 nL Tryz.func290 y! λ_ h H=>⟨_,azL,y!⟩
def aT5:Ok aUH:=kS ar aeq aXZ Tryz.func289 y! λ⟨m,n⟩ h H=>⟨_,aXy m n h H,y!⟩
def aT6:Ok aUI:=kS3 ar aT5 (λ_=>false) (λ_=>none) (λd=>Nat.beq d 106) (λd=>bif Nat.beq d 75 then some [] else bif Nat.beq d 72 then some [] else none) aX1 Tryz.func184 y! λ⟨a,b,p⟩ h H=>⟨_,aXz a b p h H,y!⟩
def aT7:Ok aUJ:=kS ar aT6 nL Tryz.func78 y! λ⟨S,a,b,c,d,e,f,g,h,F,s⟩ H i=>⟨_,aXA S a b c d e f g h F s H i,y!⟩
def aT8:Ok aUK:=kS ar aT7 nL Tryz.func25 y! λ⟨x,X,y,Y,b⟩ h H=>⟨_,aXB x X y Y b h H,y!⟩
def aUa:Ok aUM:=kS ar aT8 nL Tryz.func12 y! λ_ h H=>⟨_,aXD,y!⟩
def a2Q:Ok a7I:=kS ar aUa a7H Tryz.func7 y! λ⟨l,m,q,i⟩ H h=>⟨_,a7m l m q i h,y!⟩
def a7M:Valid Tryz.prog G0 7 (fo a1j a3C):=kV a2Q y!
end Go.J
