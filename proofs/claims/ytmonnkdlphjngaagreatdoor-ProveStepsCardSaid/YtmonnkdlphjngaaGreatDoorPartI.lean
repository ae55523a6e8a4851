import Derived.Test.YtmonnkdlphjngaaGreatDoorPartH
set_option linter.unusedVariables false
set_option linter.unusedSimpArgs false
section
set_option linter.unusedVariables false
set_option maxHeartbeats 0
set_option maxRecDepth 100000
namespace Go.J
open Go.Proofs
open Go Vg
theorem ag9:Ok aoL:=kH mixed ag8 oM Tryz.func165 y! fun⟨⟩ ⟨s,⟨⟩⟩ h1 h2 h3=>⟨_,aEN s h1 h2 h3,y!⟩
theorem aha:Ok aoM:=kS mixed ag9 aGI Tryz.func43 y! fun l h1 h2=>⟨_,aEO l h1 h2,y!⟩
theorem ahb:Ok aoN:=kS mixed aha aGK Tryz.func101 y! fun l h1 h2=>⟨_,aEP l h1 h2,y!⟩
theorem ahc:Ok aoO:=kS mixed ahb nL Tryz.func97 y! fun l h1 h2=>⟨_,aEQ l h1 h2,y!⟩
theorem ahd:Ok aoP:=kS mixed ahc aGN Tryz.func115 y! fun n h1 h2=>⟨_,aER n h1 h2,y!⟩
theorem ahe:Ok aoQ:=kR mixed ahd aGP nL Tryz.func84 y! fun m l h1 h2 h3=>⟨_,aES m l h1 h2 h3,y!⟩
theorem ahf:Ok aoR:=kS mixed ahe aGR Tryz.func53 y! fun l h1 h2=>⟨_,aET l h1 h2,y!⟩
theorem ahg:Ok aoS:=kS mixed ahf aGT Tryz.func100 y! fun n h1 h2=>⟨_,aEU n h1 h2,y!⟩
theorem ahh:Ok aoT:=kXH ahg Tryz.func102 y! (Tryz.aHb (fun _=>rfl))
theorem ahi:Ok aoU:=kS mixed ahh aGW Tryz.func42 y! fun⟨l,i⟩ h1 h2=>⟨_,aEV l i h1 h2,y!⟩
theorem ahj:Ok aoV:=kS mixed ahi nL Tryz.func193 y! fun l h1 h2=>⟨_,aEW l h1 h2,y!⟩
theorem ahk:Ok aoW:=kR mixed ahj aGZ nL Tryz.func138 y! fun m ⟨l,n,p⟩ h1 h2 h3=>⟨_,aEX m l n p h1 h2 h3,y!⟩
theorem ahl:Ok aoX:=kS mixed ahk nL Tryz.func67 y! fun⟨l,m⟩ h1 h2=>⟨_,aEY l m h1 h2,y!⟩
theorem ahn:Ok aoZ:=kR mixed ahl aG4 nL Tryz.func139 y! fun m ⟨l,n,w⟩ h1 h2 h3=>⟨_,aE0 m l n w h1 h2 h3,y!⟩
theorem aho:Ok ao0:=kS mixed ahn nL Tryz.func70 y! fun⟨l,m⟩ h1 h2=>⟨_,aE1 l m h1 h2,y!⟩
theorem ahp:Ok ao1:=kS mixed aho aG7 Tryz.func177 y! fun l h1 h2=>⟨_,aE2 l h1 h2,y!⟩
theorem XB:Ok aba:=kS mixed ahp auV Tryz.func123 y! fun l h1 h2=>⟨_,asl l h1 h2,y!⟩
theorem XC:Ok abb:=kS mixed XB nL Tryz.func175 y! fun l h1 h2=>⟨_,asm l h1 h2,y!⟩
theorem XD:Ok abc:=kH mixed XC oM Tryz.func249 y! fun⟨n,p,q⟩ ⟨⟨s1,s2⟩,⟨⟩⟩ h1 h2 h3=>⟨_,asn n p q s1 s2 h1 h2 h3,y!⟩
theorem XE:Ok abd:=kH mixed XD auZ Tryz.func248 y! fun⟨a,b⟩ ⟨⟨s1,s2⟩,⟨⟩⟩ h1 h2 h3=>⟨_,aso a b s1 s2 h1 h2 h3,y!⟩
theorem XF:Ok abe:=kS mixed XE nL Tryz.func198 y! fun⟨l,s1,s2⟩ h1 h2=>⟨_,asp l s1 s2 h1 h2,y!⟩
theorem XH:Ok abg:=kS mixed XF au4 Tryz.func136 y! fun l h1 h2=>⟨_,asr l h1 h2,y!⟩
theorem XI:Ok abh:=kS mixed XH nL Tryz.func191 y! fun l h1 h2=>⟨_,ass l h1 h2,y!⟩
theorem XJ:Ok abi:=kS mixed XI au7 Tryz.func225 y! fun⟨a,b⟩ h1 h2=>⟨_,ast a b h1 h2,y!⟩
theorem XK:Ok abj:=kS mixed XJ au9 Tryz.func174 y! fun d h1 h2=>⟨_,asu d h1 h2,y!⟩
theorem XL:Ok abk:=kS mixed XK nL Tryz.func176 y! fun⟨l1,l2,l3⟩ h1 h2=>⟨_,asv l1 l2 l3 h1 h2,y!⟩
theorem XM:Ok abl:=kS mixed XL nL Tryz.func122 y! fun b h1 h2=>⟨_,asw b h1 h2,y!⟩
theorem XN:Ok abn:=kS mixed XM avd Tryz.func120 y! fun d h1 h2=>⟨_,asx d h1 h2,y!⟩
theorem XO:Ok abo:=kS mixed XN nL Tryz.func216 y! fun d h1 h2=>⟨_,asy d h1 h2,y!⟩
theorem XP:Ok abp:=kS mixed XO avg Tryz.func121 y! fun⟨d,t⟩ h1 h2=>⟨_,asz d t h1 h2,y!⟩
theorem XQ:Ok abq:=kS mixed XP nL Tryz.func124 y! fun⟨d,t⟩ h1 h2=>⟨_,asA d t h1 h2,y!⟩
theorem XR:Ok abr:=kX XQ Tryz.func140 y! (Go.DM.UR aHm (fun _=>rfl) (fun _ _ _=>rfl))
theorem XT:Ok abu:=kS mixed XR avn Tryz.func109 y! fun⟨docs,s1,s2⟩ h1 h2=>⟨_,asC docs s1 s2 h1 h2,y!⟩
theorem XU:Ok abv:=kS mixed XT nL Tryz.func227 y! fun⟨b,t⟩ h1 h2=>⟨_,asD b t h1 h2,y!⟩
theorem XV:Ok abw:=kS mixed XU nL Tryz.func137 y! fun⟨l1,l2,l3⟩ h1 h2=>⟨_,asE l1 l2 l3 h1 h2,y!⟩
theorem XX:Ok aby:=kS mixed XV avt Tryz.func134 y! fun d h1 h2=>⟨_,asG d h1 h2,y!⟩
theorem XY:Ok abz:=kS mixed XX nL Tryz.func205 y! fun d h1 h2=>⟨_,asH d h1 h2,y!⟩
theorem X0:Ok abB:=kS mixed XY avy Tryz.func169 y! fun⟨a,b⟩ h1 h2=>⟨_,asJ a b h1 h2,y!⟩
theorem X1:Ok abC:=kS mixed X0 avA Tryz.func69 y! fun⟨a,b⟩ h1 h2=>⟨_,asK a b h1 h2,y!⟩
theorem X2:Ok abD:=kS mixed X1 avC Tryz.func170 y! fun⟨docs,s1,s2⟩ h1 h2=>⟨_,asL docs s1 s2 h1 h2,y!⟩
theorem X3:Ok abE:=kS mixed X2 nL Tryz.func197 y! fun⟨s1,s2⟩ h1 h2=>⟨_,asM s1 s2 h1 h2,y!⟩
theorem X4:Ok abF:=kS mixed X3 avF Tryz.func144 y! fun⟨s1,s2,s3⟩ h1 h2=>⟨_,asN s1 s2 s3 h1 h2,y!⟩
theorem X5:Ok abG:=kS mixed X4 nL Tryz.func163 y! fun⟨s1,s2,s3⟩ h1 h2=>⟨_,asO s1 s2 s3 h1 h2,y!⟩
theorem X6:Ok abH:=kS mixed X5 nL Tryz.func266 y! fun⟨s1,s2,s3,s4⟩ h1 h2=>⟨_,asP s1 s2 s3 s4 h1 h2,y!⟩
theorem X7:Ok abI:=kS mixed X6 nL Tryz.func73 y! fun⟨docs,s1,s2⟩ h1 h2=>⟨_,asQ docs s1 s2 h1 h2,y!⟩
theorem X8:Ok abJ:=kS mixed X7 avK Tryz.func241 y! fun⟨l,n⟩ h1 h2=>⟨_,asR l n h1 h2,y!⟩
theorem X9:Ok abK:=kS mixed X8 nL Tryz.func110 y! fun⟨docs,s1,s2⟩ h1 h2=>⟨_,asS docs s1 s2 h1 h2,y!⟩
theorem Ya:Ok abL:=kS mixed X9 nL Tryz.func112 y! fun⟨docs,s1,s2⟩ h1 h2=>⟨_,asT docs s1 s2 h1 h2,y!⟩
theorem Yb:Ok abM:=kS mixed Ya nL Tryz.func151 y! fun⟨s1,s2,s3⟩ h1 h2=>⟨_,asU s1 s2 s3 h1 h2,y!⟩
theorem Yc:Ok abN:=kS mixed Yb nL Tryz.func111 y! fun⟨a1,a2,a3,b1,b2,b3⟩ h1 h2=>⟨_,asV a1 a2 a3 b1 b2 b3 h1 h2,y!⟩
theorem Yd:Ok abO:=kS mixed Yc avQ Tryz.func37 y! fun d h1 h2=>⟨_,asW d h1 h2,y!⟩
theorem Ye:Ok abP:=kS mixed Yd avS Tryz.func38 y! fun docs h1 h2=>⟨_,asX docs h1 h2,y!⟩
theorem Yf:Ok abQ:=kS mixed Ye nL Tryz.func45 y! fun⟨s1,s2,s3⟩ h1 h2=>⟨_,asY s1 s2 s3 h1 h2,y!⟩
theorem Ym:Ok abX:=kS mixed Yf nL Tryz.func91 y! fun l h1 h2=>⟨_,as5 l h1 h2,y!⟩
theorem Yn:Ok abY:=kS mixed Ym nL Tryz.func141 y! fun l h1 h2=>⟨_,as6 l h1 h2,y!⟩
theorem Yo:Ok abZ:=kS mixed Yn av9 Tryz.func215 y! fun⟨a,b⟩ h1 h2=>⟨_,as7 a b h1 h2,y!⟩
theorem Yp:Ok ab1:=kS mixed Yo nL Tryz.func214 y! fun⟨a1,a2,b1,b2⟩ h1 h2=>⟨_,as8 a1 a2 b1 b2 h1 h2,y!⟩
theorem Yq:Ok ab2:=kH mixed Yp awc Tryz.func213 y! fun⟨a,b⟩ ⟨⟩ h1 h2 h3=>⟨_,as9 a b h1 h2 h3,y!⟩
theorem Yr:Ok ab3:=kS mixed Yq nL Tryz.func162 y! fun⟨a,b⟩ h1 h2=>⟨_,ata a b h1 h2,y!⟩
theorem Ys:Ok ab4:=kS mixed Yr awf Tryz.func95 y! fun⟨y1,y2⟩ h1 h2=>⟨_,atb y1 y2 h1 h2,y!⟩
theorem Yt:Ok ab5:=kS mixed Ys nL Tryz.func71 y! fun⟨y1,y2⟩ h1 h2=>⟨_,atc y1 y2 h1 h2,y!⟩
theorem Yu:Ok ab6:=kS mixed Yt nL Tryz.func72 y! fun⟨y1,y2⟩ h1 h2=>⟨_,atd y1 y2 h1 h2,y!⟩
theorem Yv:Ok ab7:=kS2 mixed Yu (fun t=>Nat.beq t 102) (fun d=>bif Nat.beq d 73 then some 17 else none) (fun _=>false) awj Tryz.func74 y! fun⟨y1,y2⟩ h1 h2=>⟨_,ate y1 y2 h1 h2,y!⟩
theorem Yx:Ok ab9:=kS mixed Yv nL Tryz.func96 y! fun⟨y1,y2⟩ h1 h2=>⟨_,atg y1 y2 h1 h2,y!⟩
theorem Yy:Ok aca:=kS mixed Yx nL Tryz.func39 y! fun⟨y1,y2,d⟩ h1 h2=>⟨_,ath y1 y2 d h1 h2,y!⟩
theorem Yz:Ok acb:=kS mixed Yy nL Tryz.func28 y! fun⟨y1,y2⟩ h1 h2=>⟨_,ati y1 y2 h1 h2,y!⟩
theorem YC:Ok acf:=kS mixed Yz aws Tryz.func98 y! fun⟨y1,y2⟩ h1 h2=>⟨_,atl y1 y2 h1 h2,y!⟩
theorem YD:Ok acg:=kS mixed YC awu Tryz.func46 y! fun⟨y1,y2⟩ h1 h2=>⟨_,atm y1 y2 h1 h2,y!⟩
theorem YE:Ok ach:=kS mixed YD nL Tryz.func113 y! fun⟨y1,y2⟩ h1 h2=>⟨_,atn y1 y2 h1 h2,y!⟩
theorem YF:Ok aci:=kS mixed YE awx Tryz.func47 y! fun⟨y1,y2⟩ h1 h2=>⟨_,ato y1 y2 h1 h2,y!⟩
theorem YG:Ok acj:=kS mixed YF awz Tryz.func85 y! fun⟨y1,y2⟩ h1 h2=>⟨_,atp y1 y2 h1 h2,y!⟩
theorem YH:Ok ack:=kS mixed YG awB Tryz.func11 y! fun⟨y1,y2⟩ h1 h2=>⟨_,atq y1 y2 h1 h2,y!⟩
theorem YJ:Ok acn:=kS mixed YH awE Tryz.func8 y! fun⟨y1,y2⟩ h1 h2=>⟨_,ats y1 y2 h1 h2,y!⟩
theorem YL:Ok acp:=kS mixed YJ nL Tryz.func178 y! fun⟨y1,y2,y3⟩ h1 h2=>⟨_,atu y1 y2 y3 h1 h2,y!⟩
theorem MJ:Ok acq:=kS mixed YL nL Tryz.func41 y! fun⟨y1,y2⟩ h1 h2=>⟨_,atv y1 y2 h1 h2,y!⟩
theorem ayH:cg Tryz.prog G0 179 acr:=vH2 MJ (fun _=>false) (fun _=>none) (fun d=>Nat.beq d 5) mixed az2 q6q oM Tryz.func179 y! fun v ⟨q,⟨⟨⟩,⟨⟩⟩⟩ h1 h2 h3=>⟨_,atw v q h1 h2 h3,y!⟩
theorem US:cg Tryz.prog G0 179 Rv:=ayH
theorem MK:Ok acs:=b5.eN MJ US (im.k Tryz.func179 y!)
theorem ayI:cg Tryz.prog G0 179 acu:=vH2 MK (fun _=>false) (fun _=>none) (fun d=>Nat.beq d 5) mixed az2 q7q oM Tryz.func179 y! fun v ⟨q,⟨⟨⟩,⟨l,⟨⟩⟩⟩⟩ h1 h2 h3=>⟨_,atx v q l h1 h2 h3,y!⟩
end Go.J

end
