import Derived.Test.YtmonnkdlphjngaaGreatDoorPartH
set_option linter.unusedVariables false
set_option linter.unusedSimpArgs false
section
set_option linter.unusedVariables false
set_option maxHeartbeats 0
set_option maxRecDepth 100000
namespace Go.J
open Go.Proofs
open Go Vg
theorem MQ:Ok alL:=kH mixed MP y4 Tryz.func244 (by kernel_rfl) fun l ⟨⟩ h1 h2 h3=>⟨_,aCe l h1 h2 h3,by kernel_rfl⟩
theorem MR:Ok alO:=kS mixed MQ nL Tryz.func194 (by kernel_rfl) fun b h1 h2=>⟨_,aCf b h1 h2,by kernel_rfl⟩
theorem amQ:Valid Tryz.prog G0 194 (ao n4 aEH):=kV MR (by kernel_rfl)
theorem MS:Ok alR:=kS mixed MR aEK Tryz.func99 (by kernel_rfl) fun l h1 h2=>⟨_,aCg l h1 h2,by kernel_rfl⟩
theorem MT:Ok alU:=kS mixed MS nL Tryz.func220 (by kernel_rfl) fun⟨a,b⟩ h1 h2=>⟨_,aCh a b h1 h2,by kernel_rfl⟩
theorem MU:Ok alZ:=kH mixed MT y4 Tryz.func165 (by kernel_rfl) fun⟨⟩ ⟨s,⟨⟩⟩ h1 h2 h3=>⟨_,aCi s h1 h2 h3,by kernel_rfl⟩
theorem MV:Ok al2:=kS mixed MU aEQ Tryz.func43 (by kernel_rfl) fun l h1 h2=>⟨_,aCj l h1 h2,by kernel_rfl⟩
theorem MW:Ok al5:=kS mixed MV aES Tryz.func101 (by kernel_rfl) fun l h1 h2=>⟨_,aCk l h1 h2,by kernel_rfl⟩
theorem MX:Ok al8:=kS mixed MW nL Tryz.func97 (by kernel_rfl) fun l h1 h2=>⟨_,aCl l h1 h2,by kernel_rfl⟩
theorem MY:Ok Uu:=kS mixed MX aEW Tryz.func115 (by kernel_rfl) fun n h1 h2=>⟨_,aCm n h1 h2,by kernel_rfl⟩
theorem MZ:Ok ame:=kR mixed MY amc nL Tryz.func84 (by kernel_rfl) fun m l h1 h2 h3=>⟨_,aCn m l h1 h2 h3,by kernel_rfl⟩
theorem M1:Ok amh:=kS mixed MZ aE0 Tryz.func53 (by kernel_rfl) fun l h1 h2=>⟨_,aCo l h1 h2,by kernel_rfl⟩
theorem adn:Ok amk:=kS mixed M1 aE2 Tryz.func100 (by kernel_rfl) fun n h1 h2=>⟨_,aCp n h1 h2,by kernel_rfl⟩
theorem M3:Ok amn:=kXH adn Tryz.func102 (by kernel_rfl) (Tryz.aFf (fun _=>rfl))
theorem M4:Ok Uv:=kS mixed M3 aE7 Tryz.func42 (by kernel_rfl) fun⟨l,i⟩ h1 h2=>⟨_,aCq l i h1 h2,by kernel_rfl⟩
theorem M5:Ok amt:=kR mixed M4 amr nL Tryz.func52 (by kernel_rfl) fun m ⟨l,i⟩ h1 h2 h3=>⟨_,aCr m l i h1 h2 h3,by kernel_rfl⟩
theorem M6:Ok amw:=kS mixed M5 aFb Tryz.func177 (by kernel_rfl) fun l h1 h2=>⟨_,aCs l h1 h2,by kernel_rfl⟩
theorem Ie:Ok X2:=kS mixed M6 arA Tryz.func123 (by kernel_rfl) fun l h1 h2=>⟨_,apI l h1 h2,by kernel_rfl⟩
theorem Ig:Ok X5:=kS mixed Ie nL Tryz.func175 (by kernel_rfl) fun l h1 h2=>⟨_,apJ l h1 h2,by kernel_rfl⟩
theorem Ih:Ok Ya:=kH mixed Ig y4 Tryz.func249 (by kernel_rfl) fun⟨n,p,q⟩ ⟨⟨s1,s2⟩,⟨⟩⟩ h1 h2 h3=>⟨_,apK n p q s1 s2 h1 h2 h3,by kernel_rfl⟩
theorem Ii:Ok Yf:=kH mixed Ih arG Tryz.func248 (by kernel_rfl) fun⟨a,b⟩ ⟨⟨s1,s2⟩,⟨⟩⟩ h1 h2 h3=>⟨_,apL a b s1 s2 h1 h2 h3,by kernel_rfl⟩
theorem Ij:Ok Yi:=kS mixed Ii nL Tryz.func198 (by kernel_rfl) fun⟨l,s1,s2⟩ h1 h2=>⟨_,apM l s1 s2 h1 h2,by kernel_rfl⟩
theorem Ik:Ok Yl:=kS mixed Ij arK Tryz.func136 (by kernel_rfl) fun l h1 h2=>⟨_,apN l h1 h2,by kernel_rfl⟩
theorem Il:Ok Yo:=kS mixed Ik nL Tryz.func191 (by kernel_rfl) fun l h1 h2=>⟨_,apO l h1 h2,by kernel_rfl⟩
theorem Im:Ok Yr:=kS mixed Il arO Tryz.func225 (by kernel_rfl) fun⟨a,b⟩ h1 h2=>⟨_,apP a b h1 h2,by kernel_rfl⟩
theorem Io:Ok Yu:=kS mixed Im arQ Tryz.func174 (by kernel_rfl) fun d h1 h2=>⟨_,apQ d h1 h2,by kernel_rfl⟩
theorem Ip:Ok Yx:=kS mixed Io nL Tryz.func176 (by kernel_rfl) fun⟨l1,l2,l3⟩ h1 h2=>⟨_,apR l1 l2 l3 h1 h2,by kernel_rfl⟩
theorem Iq:Ok YA:=kS mixed Ip nL Tryz.func122 (by kernel_rfl) fun b h1 h2=>⟨_,apS b h1 h2,by kernel_rfl⟩
theorem Ir:Ok YD:=kS mixed Iq arW Tryz.func120 (by kernel_rfl) fun d h1 h2=>⟨_,apT d h1 h2,by kernel_rfl⟩
theorem Is:Ok YG:=kS mixed Ir nL Tryz.func216 (by kernel_rfl) fun d h1 h2=>⟨_,apU d h1 h2,by kernel_rfl⟩
theorem It:Ok YJ:=kS mixed Is ar0 Tryz.func121 (by kernel_rfl) fun⟨d,t⟩ h1 h2=>⟨_,apV d t h1 h2,by kernel_rfl⟩
theorem UL:Ok YM:=kS mixed It nL Tryz.func124 (by kernel_rfl) fun⟨d,t⟩ h1 h2=>⟨_,apW d t h1 h2,by kernel_rfl⟩
theorem Iu:Ok YO:=kX UL Tryz.func140 (by kernel_rfl) (Go.DM.R1 amQ (fun _=>rfl) (fun _ _ _=>rfl))
theorem Iv:Ok YR:=kS mixed Iu ar6 Tryz.func109 (by kernel_rfl) fun⟨docs,s1,s2⟩ h1 h2=>⟨_,apX docs s1 s2 h1 h2,by kernel_rfl⟩
theorem Iw:Ok YU:=kS mixed Iv nL Tryz.func227 (by kernel_rfl) fun⟨b,t⟩ h1 h2=>⟨_,apY b t h1 h2,by kernel_rfl⟩
theorem Ix:Ok YX:=kS mixed Iw nL Tryz.func137 (by kernel_rfl) fun⟨l1,l2,l3⟩ h1 h2=>⟨_,apZ l1 l2 l3 h1 h2,by kernel_rfl⟩
theorem Iy:Ok Y0:=kS mixed Ix asc Tryz.func134 (by kernel_rfl) fun d h1 h2=>⟨_,ap0 d h1 h2,by kernel_rfl⟩
theorem Iz:Ok Y3:=kS mixed Iy nL Tryz.func205 (by kernel_rfl) fun d h1 h2=>⟨_,ap1 d h1 h2,by kernel_rfl⟩
theorem IA:Ok Y6:=kS mixed Iz asg Tryz.func169 (by kernel_rfl) fun⟨a,b⟩ h1 h2=>⟨_,ap2 a b h1 h2,by kernel_rfl⟩
theorem IB:Ok Y9:=kS mixed IA asi Tryz.func170 (by kernel_rfl) fun⟨docs,s1,s2⟩ h1 h2=>⟨_,ap3 docs s1 s2 h1 h2,by kernel_rfl⟩
theorem IC:Ok Zc:=kS mixed IB nL Tryz.func197 (by kernel_rfl) fun⟨s1,s2⟩ h1 h2=>⟨_,ap4 s1 s2 h1 h2,by kernel_rfl⟩
theorem ID:Ok Zf:=kS mixed IC asn Tryz.func144 (by kernel_rfl) fun⟨s1,s2,s3⟩ h1 h2=>⟨_,ap5 s1 s2 s3 h1 h2,by kernel_rfl⟩
theorem IE:Ok Zi:=kS mixed ID nL Tryz.func163 (by kernel_rfl) fun⟨s1,s2,s3⟩ h1 h2=>⟨_,ap6 s1 s2 s3 h1 h2,by kernel_rfl⟩
theorem IF:Ok Zl:=kS mixed IE nL Tryz.func266 (by kernel_rfl) fun⟨s1,s2,s3,s4⟩ h1 h2=>⟨_,ap7 s1 s2 s3 s4 h1 h2,by kernel_rfl⟩
theorem IG:Ok Zo:=kS mixed IF nL Tryz.func73 (by kernel_rfl) fun⟨docs,s1,s2⟩ h1 h2=>⟨_,ap8 docs s1 s2 h1 h2,by kernel_rfl⟩
theorem IH:Ok Zr:=kS mixed IG asv Tryz.func241 (by kernel_rfl) fun⟨l,n⟩ h1 h2=>⟨_,ap9 l n h1 h2,by kernel_rfl⟩
theorem II:Ok Zu:=kS mixed IH nL Tryz.func110 (by kernel_rfl) fun⟨docs,s1,s2⟩ h1 h2=>⟨_,aqa docs s1 s2 h1 h2,by kernel_rfl⟩
theorem IJ:Ok Zx:=kS mixed II nL Tryz.func112 (by kernel_rfl) fun⟨docs,s1,s2⟩ h1 h2=>⟨_,aqb docs s1 s2 h1 h2,by kernel_rfl⟩
theorem IK:Ok ZA:=kS mixed IJ nL Tryz.func151 (by kernel_rfl) fun⟨s1,s2,s3⟩ h1 h2=>⟨_,aqc s1 s2 s3 h1 h2,by kernel_rfl⟩
theorem IL:Ok ZD:=kS mixed IK nL Tryz.func111 (by kernel_rfl) fun⟨a1,a2,a3,b1,b2,b3⟩ h1 h2=>⟨_,aqd a1 a2 a3 b1 b2 b3 h1 h2,by kernel_rfl⟩
theorem IM:Ok ZG:=kS mixed IL asF Tryz.func37 (by kernel_rfl) fun d h1 h2=>⟨_,aqe d h1 h2,by kernel_rfl⟩
theorem IN:Ok ZJ:=kS mixed IM asH Tryz.func38 (by kernel_rfl) fun docs h1 h2=>⟨_,aqf docs h1 h2,by kernel_rfl⟩
theorem IP:Ok ZM:=kS mixed IN nL Tryz.func45 (by kernel_rfl) fun⟨s1,s2,s3⟩ h1 h2=>⟨_,aqg s1 s2 s3 h1 h2,by kernel_rfl⟩
theorem IQ:Ok ZP:=kS mixed IP nL Tryz.func91 (by kernel_rfl) fun l h1 h2=>⟨_,aqh l h1 h2,by kernel_rfl⟩
theorem IS:Ok ZS:=kS mixed IQ nL Tryz.func141 (by kernel_rfl) fun l h1 h2=>⟨_,aqi l h1 h2,by kernel_rfl⟩
theorem IT:Ok ZV:=kS mixed IS asP Tryz.func215 (by kernel_rfl) fun⟨a,b⟩ h1 h2=>⟨_,aqj a b h1 h2,by kernel_rfl⟩
theorem IU:Ok ZY:=kS mixed IT nL Tryz.func214 (by kernel_rfl) fun⟨a1,a2,b1,b2⟩ h1 h2=>⟨_,aqk a1 a2 b1 b2 h1 h2,by kernel_rfl⟩
theorem IV:Ok Z3:=kH mixed IU asT Tryz.func213 (by kernel_rfl) fun⟨a,b⟩ ⟨⟩ h1 h2 h3=>⟨_,aql a b h1 h2 h3,by kernel_rfl⟩
theorem IW:Ok Z6:=kS mixed IV nL Tryz.func162 (by kernel_rfl) fun⟨a,b⟩ h1 h2=>⟨_,aqm a b h1 h2,by kernel_rfl⟩
theorem IX:Ok Z9:=kS mixed IW asX Tryz.func95 (by kernel_rfl) fun⟨y1,y2⟩ h1 h2=>⟨_,aqn y1 y2 h1 h2,by kernel_rfl⟩
theorem IY:Ok Â:=kS mixed IX nL Tryz.func71 (by kernel_rfl) fun⟨y1,y2⟩ h1 h2=>⟨_,aqo y1 y2 h1 h2,by kernel_rfl⟩
theorem u9:Ok O1:=kS mixed IY nL Tryz.func72 (by kernel_rfl) fun⟨y1,y2⟩ h1 h2=>⟨_,aqp y1 y2 h1 h2,by kernel_rfl⟩
theorem IZ:Ok Ç:=kS2 mixed u9 (fun t=>Nat.beq t 102) (fun d=>bif Nat.beq d 73 then some 17 else none) (fun _=>false) as3 Tryz.func74 (by kernel_rfl) fun⟨y1,y2⟩ h1 h2=>⟨_,aqq y1 y2 h1 h2,by kernel_rfl⟩
theorem I0:Ok Ê:=kS mixed IZ nL Tryz.func96 (by kernel_rfl) fun⟨y1,y2⟩ h1 h2=>⟨_,aqr y1 y2 h1 h2,by kernel_rfl⟩
theorem I1:Ok Í:=kS mixed I0 nL Tryz.func39 (by kernel_rfl) fun⟨y1,y2,d⟩ h1 h2=>⟨_,aqs y1 y2 d h1 h2,by kernel_rfl⟩
theorem I2:Ok Ð:=kS mixed I1 nL Tryz.func28 (by kernel_rfl) fun⟨y1,y2⟩ h1 h2=>⟨_,aqt y1 y2 h1 h2,by kernel_rfl⟩
theorem I3:Ok Ó:=kS mixed I2 atc Tryz.func98 (by kernel_rfl) fun⟨y1,y2⟩ h1 h2=>⟨_,aqu y1 y2 h1 h2,by kernel_rfl⟩
theorem I4:Ok Ö:=kS mixed I3 ate Tryz.func46 (by kernel_rfl) fun⟨y1,y2⟩ h1 h2=>⟨_,aqv y1 y2 h1 h2,by kernel_rfl⟩
theorem I5:Ok Ú:=kS mixed I4 nL Tryz.func113 (by kernel_rfl) fun⟨y1,y2⟩ h1 h2=>⟨_,aqx y1 y2 h1 h2,by kernel_rfl⟩
theorem I6:Ok Ý:=kS mixed I5 ati Tryz.func47 (by kernel_rfl) fun⟨y1,y2⟩ h1 h2=>⟨_,aqy y1 y2 h1 h2,by kernel_rfl⟩
theorem I7:Ok à:=kS mixed I6 atk Tryz.func85 (by kernel_rfl) fun⟨y1,y2⟩ h1 h2=>⟨_,aqz y1 y2 h1 h2,by kernel_rfl⟩
theorem I8:Ok ã:=kS mixed I7 atm Tryz.func11 (by kernel_rfl) fun⟨y1,y2⟩ h1 h2=>⟨_,aqA y1 y2 h1 h2,by kernel_rfl⟩
theorem I9:Ok æ:=kS mixed I8 ato Tryz.func8 (by kernel_rfl) fun⟨y1,y2⟩ h1 h2=>⟨_,aqB y1 y2 h1 h2,by kernel_rfl⟩
theorem Ja:Ok é:=kS mixed I9 nL Tryz.func178 (by kernel_rfl) fun⟨y1,y2,y3⟩ h1 h2=>⟨_,aqC y1 y2 y3 h1 h2,by kernel_rfl⟩
theorem vc:Ok O2:=kS mixed Ja nL Tryz.func41 (by kernel_rfl) fun⟨y1,y2⟩ h1 h2=>⟨_,aqD y1 y2 h1 h2,by kernel_rfl⟩
end Go.J

end
