import Derived.Test.YtfbolhlbmbfhbaaGreatDoorPartF
set_option linter.all false
set_option maxHeartbeats 0
set_option maxRecDepth 100000
namespace Go.J
open Go.Proofs
open Go Vg
def mixed:Tryz.prog.follows .mixedOrders=true:=by kernel_rfl
def ar:Tryz.prog.follows .mixedOrders=true:=mixed
abbrev Ok(E:Env):Prop:=ba Tryz.prog E
def aLX:Ok E0:=ba.none G0 (bM.of af4)
def atP:Ok aFi:=kS ar aLX nL Tryz.func373 y! λ⟨x,k⟩ h H=>⟨_,aOW x k h,y!⟩
def atQ:Ok aFj:=kS ar atP nL Tryz.func149 y! λ_ h H=>⟨_,aOX,y!⟩
def atS:Ok aFk:=kS ar atQ nL Tryz.func261 y! λ⟨s,S,a,b,c,d,e,f,g,F⟩ h H=>⟨_,aOY s S a b c d e f g F,y!⟩
def atU:Ok aFl:=kS ar atS aPj Tryz.func340 y! λ⟨u,U,a,b,c,d,e,f,p⟩ h H=>⟨_,aOZ u U a b c d e f p h H,y!⟩
def alW:Ok arW:=kS ar atU aJQ Tryz.func262 y! λ⟨u,U,a,c,d,e,f,g,b⟩ h H=>⟨_,aIq u U a c d e f g b h,y!⟩
def alX:Ok arX:=kS ar alW nL Tryz.func148 y! λ⟨s,S,a,c,d,e,f,g,h,F,b⟩ H i=>⟨_,aIr s S a c d e f g h F b H,y!⟩
def alY:Ok arY:=kS ar alX aJT Tryz.func147 y! λ⟨s,S,a,b,c,d,e,f,g,F⟩ h H=>⟨_,aIs s S a b c d e f g F h,y!⟩
def alZ:Ok arZ:=kS ar alY nL Tryz.func61 y! λb h H=>⟨_,aIt b h,y!⟩
def al2:Ok ar3:=kS ar alZ nL Tryz.func333 y! λb h H=>⟨_,aIw b h,y!⟩
def al3:Ok ar4:=kH ar al2 aJ0 Tryz.func354 y! λv ⟨l,⟨⟩⟩ h H a=>⟨_,aIx v l h H,y!⟩
def al4:Ok ar5:=kH ar al3 mF Tryz.func332 y! λs ⟨l,⟨⟩⟩ h H a=>⟨_,aIy s l h,y!⟩
def al5:Ok ar6:=kS ar al4 nL Tryz.func297 y! λ⟨b,v⟩ h H=>⟨_,aIz b v h,y!⟩
def al6:Ok ar7:=kS ar al5 nL Tryz.func232 y! λ⟨b,s⟩ h H=>⟨_,aIA b s h,y!⟩
def al7:Ok ar8:=kS ar al6 nL Tryz.func229 y! λ⟨r,R,a⟩ h H=>⟨_,aIB r R a,y!⟩
def al8:Ok ar9:=kS ar al7 nL Tryz.func341 y! λ⟨r,R,a⟩ h H=>⟨_,aIC r R a h,y!⟩
def al9:Ok asa:=kS ar al8 aJ7 Tryz.func342 y! λ⟨b,p⟩ h H=>⟨_,aID b p h H,y!⟩
def ama:Ok asb:=kS ar al9 nL Tryz.func343 y! λ⟨b,p,g⟩ h H=>⟨_,aIE b p g h H,y!⟩
def amb:Ok asc:=kS ar ama nL Tryz.func264 y! λ⟨r,R,a,g⟩ h H=>⟨_,aIF r R a g h,y!⟩
def amc:Ok asd:=kS ar amb nL Tryz.func263 y! λ⟨r,R,a⟩ h H=>⟨_,aIG r R a h,y!⟩
def amd:Ok ase:=kS ar amc nL Tryz.func265 y! λ⟨r,R,a⟩ h H=>⟨_,aIH r R a h H,y!⟩
def ame:Ok asf:=kS ar amd nL Tryz.func119 y! λ⟨r,R,a⟩ h H=>⟨_,aII r R a,y!⟩
def amj:Ok asl:=kS ar ame aKj Tryz.func267 y! λ⟨k,p⟩ h H=>⟨_,aIN k p h H,y!⟩
def amk:Ok asm:=kS ar amj nL Tryz.func156 y! λb h H=>⟨_,aIO b h,y!⟩
def aml:Ok asn:=kS ar amk nL Tryz.func270 y! λ⟨l,r⟩ h H=>⟨_,aIP l r h,y!⟩
def amm:Ok aso:=kS ar aml nL Tryz.func334 y! λb h H=>⟨_,aIQ b h,y!⟩
def amn:Ok asp:=kS ar amm nL Tryz.func258 y! λb h H=>⟨_,aIR b h,y!⟩
def amo:Ok asq:=kS ar amn nL Tryz.func66 y! λb h H=>⟨_,aIS b h,y!⟩
def amp:Ok asr:=kS ar amo nL Tryz.func266 y! λ⟨l,r⟩ h H=>⟨_,aIT l r,y!⟩
def amq:Ok ass:=kS ar amp nL Tryz.func235 y! λb h H=>⟨_,aIU b h,y!⟩
def amr:Ok ast:=kS ar amq nL Tryz.func191 y! λb h H=>⟨_,aIV b h,y!⟩
def ams:Ok asu:=kS ar amr nL Tryz.func314 y! λc h H=>⟨_,aIW c,y!⟩
def amt:Ok asv:=kS ar ams nL Tryz.func315 y! λc h H=>⟨_,aIX c,y!⟩
def amu:Ok asw:=kS ar amt nL Tryz.func316 y! λc h H=>⟨_,aIY c h,y!⟩
def amv:Ok asx:=kS ar amu nL Tryz.func224 y! λc h H=>⟨_,aIZ c,y!⟩
def amw:Ok asy:=kS ar amv aKx Tryz.func313 y! λb h H=>⟨_,aI0 b h H,y!⟩
def amx:Ok asz:=kS ar amw aKz Tryz.func221 y! λb h H=>⟨_,aI6 b h,y!⟩
def amy:Ok asA:=kS ar amx aKB Tryz.func222 y! λc h H=>⟨_,aI7 c,y!⟩
def amz:Ok asB:=kS ar amy nL Tryz.func223 y! λc h H=>⟨_,aI8 c,y!⟩
def amA:Ok asC:=kS ar amz aKE Tryz.func364 y! λc h H=>⟨_,aI9 c,y!⟩
def amJ:Ok asL:=kS ar amA aKQ Tryz.func318 y! λu h H=>⟨_,aJi u h,y!⟩
def amK:Ok asM:=kS ar amJ aKS Tryz.func226 y! λb h H=>⟨_,aJj b h,y!⟩
def amL:Ok asN:=kS ar amK nL Tryz.func114 y! λs h H=>⟨_,aJk s h,y!⟩
def amU:Ok asW:=kS ar amL nL Tryz.func335 y! λs h H=>⟨_,aJt s,y!⟩
def amV:Ok asX:=kS ar amU nL Tryz.func359 y! λ⟨a,b⟩ h H=>⟨_,aJu a b,y!⟩
def amW:Ok asY:=kH ar amV mF Tryz.func382 y! λ⟨a,b⟩ ⟨⟨⟩,⟨⟩⟩ h H c=>⟨_,aJv a b,y!⟩
def amX:Ok asZ:=kH ar amW aLc Tryz.func381 y! λ⟨⟩ ⟨l,⟨⟨⟩,⟨⟩⟩⟩ h H a=>⟨_,aJw l h,y!⟩
def amY:Ok as1:=kX amX Tryz.func379 y! (Vg.Lp Tryz.abx (λ_=>rfl))
def amZ:Ok as2:=kX amY Tryz.func128 y! (Vg.aQx Tryz.aby (λ_=>rfl))
def am0:Ok as3:=kXH amZ Tryz.func380 y! (Tryz.aDE (λ_=>rfl))
def am1:Ok as4:=kH ar am0 mF Tryz.func358 y! λl ⟨⟩ h H a=>⟨_,aJx l h,y!⟩
def U6:Ok as6:=kS ar am1 nL Tryz.func300 y! λb h H=>⟨_,aJy b h,y!⟩
def aLY:Valid Tryz.prog G0 300 (fo q5p as5):=kV U6 y!
def am2:Ok as7:=kS ar U6 aLi Tryz.func154 y! λl H h=>⟨_,aJz l h,y!⟩
def am3:Ok as8:=kS ar am2 nL Tryz.func155 y! λ⟨a,b⟩ h H=>⟨_,aJA a b,y!⟩
def am4:Ok as9:=kH ar am3 mF Tryz.func309 y! λ⟨⟩ ⟨s,⟨⟩⟩ h H a=>⟨_,aJB s h,y!⟩
def am5:Ok ata:=kS ar am4 aLm Tryz.func99 y! λl h H=>⟨_,aJC l h H,y!⟩
def am6:Ok atb:=kS ar am5 aLo Tryz.func212 y! λl h H=>⟨_,aJD l h,y!⟩
def am7:Ok atc:=kS ar am6 nL Tryz.func200 y! λl h H=>⟨_,aJE l h,y!⟩
def anb:Ok atg:=kS ar am7 aLx Tryz.func211 y! λn h H=>⟨_,aJI n,y!⟩
def anc:Ok ath:=kXH anb Tryz.func213 y! (Tryz.aLK (λ_=>rfl))
def ane:Ok ati:=kS ar anc aLA Tryz.func98 y! λ⟨l,i⟩ h H=>⟨_,aJJ l i h,y!⟩
def a4i:Ok a5Q:=kS ar ane nL Tryz.func310 y! λl h H=>⟨_,a9i l h,y!⟩
def a4j:Ok a5R:=kR ar a4i a9n nL Tryz.func216 y! λm ⟨l,n,p⟩ h H a=>⟨_,a9j m l n p h H a,y!⟩
def a4k:Ok a5S:=kS ar a4j nL Tryz.func101 y! λ⟨l,m⟩ h H=>⟨_,a9k l m h,y!⟩
def anf:Ok atj:=kS ar a4k aLC Tryz.func125 y! λl H h=>⟨_,aJK l h,y!⟩
def ang:Ok atk:=kS ar anf aLE Tryz.func205 y! λl H h=>⟨_,aJL l h,y!⟩
def anh:Ok atl:=kS ar ang nL Tryz.func308 y! λl h H=>⟨_,aJM l,y!⟩
def U7:Ok atm:=kH ar anh mF Tryz.func384 y! λ⟨n,p,q⟩ ⟨⟨s,S⟩,⟨⟩⟩ h H a=>⟨_,aJN n p q s S,y!⟩
def aDK:aJ Tryz.prog G0 242 agd:=vH U7 ar af6 q5q azN Tryz.func242 y! λ⟨a,b⟩ ⟨⟨s,S⟩,⟨⟩⟩ h H c=>⟨_,aw1 a b s S h,y!⟩
def Č:aJ Tryz.prog G0 242 XB:=aDK
def abK:Ok age:=ba.bT U7 Č (aMw.k Tryz.func242 y!)
def abL:Ok agf:=kS ar abK nL Tryz.func363 y! λ⟨l,s,S⟩ h H=>⟨_,aw2 l s S,y!⟩
def abO:Ok agj:=kS ar abL azT Tryz.func17 y! λ⟨a,b⟩ H h=>⟨_,aw5 a b h,y!⟩
def abP:Ok agk:=kS ar abO azV Tryz.func307 y! λd h H=>⟨_,aw6 d h,y!⟩
def abQ:Ok agl:=kS ar abP nL Tryz.func123 y! λ⟨l,L,a⟩ h H=>⟨_,aw7 l L a,y!⟩
def abR:Ok agm:=kS ar abQ nL Tryz.func204 y! λb h H=>⟨_,aw8 b h,y!⟩
def abS:Ok agn:=kS ar abR azZ Tryz.func202 y! λd h H=>⟨_,aw9 d h,y!⟩
def abT:Ok ago:=kS ar abS nL Tryz.func259 y! λd h H=>⟨_,axa d h,y!⟩
def abU:Ok agp:=kS ar abT az2 Tryz.func203 y! λ⟨d,t⟩ h H=>⟨_,axb d t h,y!⟩
def abV:Ok agq:=kS ar abU nL Tryz.func206 y! λ⟨d,t⟩ h H=>⟨_,axc d t h,y!⟩
def abW:Ok agr:=kX abV Tryz.func193 y! (Go.DM.ĉ aLY (λ_=>rfl) (λ_ _ _=>rfl))
def ab5:Ok agz:=kS ar abW nL Tryz.func362 y! λ⟨s,S⟩ h H=>⟨_,axk s S,y!⟩
def ab6:Ok agA:=kS ar ab5 aAi Tryz.func303 y! λ⟨s,S,a⟩ h H=>⟨_,axl s S a h H,y!⟩
def ab7:Ok agB:=kS ar ab6 nL Tryz.func306 y! λ⟨s,S,a⟩ h H=>⟨_,axm s S a h,y!⟩
def ab8:Ok agC:=kS ar ab7 nL Tryz.func378 y! λ⟨s,S,a,b⟩ h H=>⟨_,axn s S a b,y!⟩
def ab9:Ok agD:=kS ar ab8 nL Tryz.func89 y! λ⟨d,s,S⟩ h H=>⟨_,axo d s S,y!⟩
def aca:Ok agE:=kS ar ab9 aAn Tryz.func353 y! λ⟨l,n⟩ h H=>⟨_,axp l n,y!⟩
def a2F:Ok a3q:=kS ar aca a7o Tryz.func304 y! λl h H=>⟨_,a7a l h H,y!⟩
def a2G:Ok a3r:=kS ar a2F a7q Tryz.func195 y! λl h H=>⟨_,a7b l h H,y!⟩
def a2H:Ok a3s:=kS ar a2G a7s Tryz.func305 y! λ⟨s,S⟩ H h=>⟨_,a7c s S h,y!⟩
def a2I:Ok a3t:=kS ar a2H a7u Tryz.func197 y! λl H h=>⟨_,a7d l h,y!⟩
def a2J:Ok a3u:=kS ar a2I a7w Tryz.func198 y! λl h H=>⟨_,a7e l h H,y!⟩
def acj:Ok agM:=kS ar a2J nL Tryz.func110 y! λl h H=>⟨_,axu l h,y!⟩
def ack:Ok agN:=kS ar acj nL Tryz.func194 y! λl h H=>⟨_,axv l h,y!⟩
def acm:Ok agO:=kS ar ack aAA Tryz.func357 y! λ⟨a,b⟩ H h=>⟨_,axw a b h,y!⟩
def acn:Ok agP:=kS ar acm nL Tryz.func356 y! λ⟨a,A,b,B⟩ h H=>⟨_,axx a A b B,y!⟩
def aco:Ok agQ:=kH ar acn aAD Tryz.func355 y! λ⟨a,b⟩ ⟨⟩ H h c=>⟨_,axy a b h,y!⟩
def acp:Ok agR:=kS ar aco nL Tryz.func299 y! λ⟨a,b⟩ h H=>⟨_,axz a b,y!⟩
def acq:Ok agS:=kS ar acp aAG Tryz.func192 y! λ⟨y,Y⟩ h H=>⟨_,axA y Y,y!⟩
def acr:Ok agT:=kS ar acq nL Tryz.func87 y! λ⟨y,Y⟩ h H=>⟨_,axB y Y,y!⟩
def acs:Ok agU:=kS ar acr nL Tryz.func88 y! λ⟨y,Y⟩ H h=>⟨_,axC y Y h,y!⟩
def acu:Ok agV:=kS2 ar acs (λt=>Nat.beq t 89) (λd=>bif Nat.beq d 73 then some 17 else none) (λ_=>false) aAK Tryz.func90 y! λ⟨y,Y⟩ h H=>⟨_,axD y Y h H,y!⟩
def a2K:Ok a3v:=kS ar acu nL Tryz.func196 y! λ⟨l,i,m,s,S,a⟩ h H=>⟨_,a7f l i m s S a h,y!⟩
def acv:Ok agW:=kS ar a2K nL Tryz.func199 y! λ⟨y,Y⟩ h H=>⟨_,axE y Y,y!⟩
def acw:Ok agX:=kS ar acv nL Tryz.func40 y! λ⟨y,Y,d⟩ h H=>⟨_,axF y Y d,y!⟩
def acx:Ok agY:=kS ar acw nL Tryz.func31 y! λ⟨y,Y⟩ h H=>⟨_,axG y Y,y!⟩
def a2L:Ok a3w:=kS ar acx nL Tryz.func91 y! λ⟨y,Y,i,m⟩ h H=>⟨_,a7g y Y i m,y!⟩
end Go.J
