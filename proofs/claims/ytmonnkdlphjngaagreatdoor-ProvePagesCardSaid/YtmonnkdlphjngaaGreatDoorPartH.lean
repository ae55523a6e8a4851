import Derived.Test.YtmonnkdlphjngaaGreatDoorPartG
set_option linter.unusedVariables false
set_option linter.unusedSimpArgs false
section
set_option linter.unusedVariables false
set_option maxHeartbeats 0
set_option maxRecDepth 100000
namespace Go.J
open Go.Proofs
open Go Vg
theorem mixed:Tryz.prog.follows .mixedOrders=true :=by kernel_rfl
abbrev Ok(E:Env):Prop :=af Tryz.prog E
theorem amP:Ok E0:=af.none G0 (bO.of VU)
theorem R2:Ok ayu:=kS mixed amP nL Tryz.func251 (by kernel_rfl) fun _ h1 h2=>⟨_,aIi h1 h2,by kernel_rfl⟩
theorem R3:Ok ayx:=kS mixed R2 nL Tryz.func252 (by kernel_rfl) fun⟨x,n⟩ h1 h2=>⟨_,aIj x n h1 h2,by kernel_rfl⟩
theorem R4:Ok ayA:=kS mixed R3 aIC Tryz.func250 (by kernel_rfl) fun b h1 h2=>⟨_,aIl b h1 h2,by kernel_rfl⟩
theorem R5:Ok ayD:=kS mixed R4 aIE Tryz.func204 (by kernel_rfl) fun⟨l,p⟩ h1 h2=>⟨_,aIm l p h1 h2,by kernel_rfl⟩
theorem R6:Ok ayG:=kS mixed R5 aIG Tryz.func203 (by kernel_rfl) fun b h1 h2=>⟨_,aIn b h1 h2,by kernel_rfl⟩
theorem R7:Ok ayJ:=kS mixed R6 aII Tryz.func149 (by kernel_rfl) fun b h1 h2=>⟨_,aIo b h1 h2,by kernel_rfl⟩
theorem R8:Ok ayM:=kS mixed R7 nL Tryz.func277 (by kernel_rfl) fun⟨x,k⟩ h1 h2=>⟨_,aIp x k h1 h2,by kernel_rfl⟩
theorem R9:Ok ayP:=kS mixed R8 nL Tryz.func219 (by kernel_rfl) fun _ h1 h2=>⟨_,aIq h1 h2,by kernel_rfl⟩
theorem Sa:Ok ayS:=kS mixed R9 nL Tryz.func253 (by kernel_rfl) fun⟨s1,s2,s3,s4,s5,s6,s7,s8,s9,aQ⟩ h1 h2=>⟨_,aIr s1 s2 s3 s4 s5 s6 s7 s8 s9 aQ h1 h2,by kernel_rfl⟩
theorem Sb:Ok ayV:=kS mixed Sa aIQ Tryz.func272 (by kernel_rfl) fun⟨u1,u2,u3,u4,u5,u6,u7,u8,p⟩ h1 h2=>⟨_,aIs u1 u2 u3 u4 u5 u6 u7 u8 p h1 h2,by kernel_rfl⟩
theorem LQ:Ok ait:=kS mixed Sb aCB Tryz.func254 (by kernel_rfl) fun⟨u1,u2,u3,u4,u5,u6,u7,u8,b⟩ h1 h2=>⟨_,aBb u1 u2 u3 u4 u5 u6 u7 u8 b h1 h2,by kernel_rfl⟩
theorem apF:Ok aiw:=kS mixed LQ nL Tryz.func218 (by kernel_rfl) fun⟨s1,s2,s3,s4,s5,s6,s7,s8,s9,aQ,b⟩ h1 h2=>⟨_,aBc s1 s2 s3 s4 s5 s6 s7 s8 s9 aQ b h1 h2,by kernel_rfl⟩
theorem LS:Ok aiz:=kS mixed apF aCF Tryz.func217 (by kernel_rfl) fun⟨s1,s2,s3,s4,s5,s6,s7,s8,s9,aQ⟩ h1 h2=>⟨_,aBd s1 s2 s3 s4 s5 s6 s7 s8 s9 aQ h1 h2,by kernel_rfl⟩
theorem LU:Ok Ut:=kS mixed LS nL Tryz.func164 (by kernel_rfl) fun b h1 h2=>⟨_,aBe b h1 h2,by kernel_rfl⟩
theorem LV:Ok aiF:=kR mixed LU aiD nL Tryz.func49 (by kernel_rfl) fun m v h1 h2 h3=>⟨_,aBf m v h1 h2 h3,by kernel_rfl⟩
theorem LW:Ok aiI:=kS mixed LV nL Tryz.func50 (by kernel_rfl) fun s h1 h2=>⟨_,aBg s h1 h2,by kernel_rfl⟩
theorem LX:Ok aiL:=kS mixed LW nL Tryz.func223 (by kernel_rfl) fun b h1 h2=>⟨_,aBh b h1 h2,by kernel_rfl⟩
theorem LY:Ok aiQ:=kH mixed LX aCP Tryz.func222 (by kernel_rfl) fun v ⟨l,⟨⟩⟩ h1 h2 h3=>⟨_,aBi v l h1 h2 h3,by kernel_rfl⟩
theorem LZ:Ok aiV:=kH mixed LY y4 Tryz.func224 (by kernel_rfl) fun s ⟨l,⟨⟩⟩ h1 h2 h3=>⟨_,aBj s l h1 h2 h3,by kernel_rfl⟩
theorem L0:Ok aiY:=kS mixed LZ nL Tryz.func167 (by kernel_rfl) fun⟨b,v⟩ h1 h2=>⟨_,aBk b v h1 h2,by kernel_rfl⟩
theorem L1:Ok ai1:=kS mixed L0 nL Tryz.func168 (by kernel_rfl) fun⟨b,s⟩ h1 h2=>⟨_,aBl b s h1 h2,by kernel_rfl⟩
theorem L2:Ok ai4:=kS mixed L1 nL Tryz.func148 (by kernel_rfl) fun⟨r1,r2,r3⟩ h1 h2=>⟨_,aBm r1 r2 r3 h1 h2,by kernel_rfl⟩
theorem L3:Ok ai7:=kS mixed L2 nL Tryz.func202 (by kernel_rfl) fun⟨r1,r2,r3⟩ h1 h2=>⟨_,aBn r1 r2 r3 h1 h2,by kernel_rfl⟩
theorem L4:Ok aja:=kS mixed L3 aC1 Tryz.func206 (by kernel_rfl) fun⟨b,p⟩ h1 h2=>⟨_,aBo b p h1 h2,by kernel_rfl⟩
theorem L5:Ok ajd:=kS mixed L4 nL Tryz.func207 (by kernel_rfl) fun⟨b,p,cd⟩ h1 h2=>⟨_,aBp b p cd h1 h2,by kernel_rfl⟩
theorem L6:Ok ajg:=kS mixed L5 nL Tryz.func154 (by kernel_rfl) fun⟨r1,r2,r3,cd⟩ h1 h2=>⟨_,aBq r1 r2 r3 cd h1 h2,by kernel_rfl⟩
theorem L7:Ok ajj:=kS mixed L6 nL Tryz.func153 (by kernel_rfl) fun⟨r1,r2,r3⟩ h1 h2=>⟨_,aBr r1 r2 r3 h1 h2,by kernel_rfl⟩
theorem L8:Ok ajm:=kS mixed L7 nL Tryz.func147 (by kernel_rfl) fun⟨r1,r2,r3⟩ h1 h2=>⟨_,aBs r1 r2 r3 h1 h2,by kernel_rfl⟩
theorem L9:Ok ajp:=kS mixed L8 nL Tryz.func82 (by kernel_rfl) fun⟨r1,r2,r3⟩ h1 h2=>⟨_,aBt r1 r2 r3 h1 h2,by kernel_rfl⟩
theorem Ma:Ok ajs:=kS mixed L9 aDd Tryz.func182 (by kernel_rfl) fun⟨kind,b⟩ h1 h2=>⟨_,aBu kind b h1 h2,by kernel_rfl⟩
theorem Mb:Ok ajv:=kS mixed Ma nL Tryz.func128 (by kernel_rfl) fun⟨kind,b⟩ h1 h2=>⟨_,aBv kind b h1 h2,by kernel_rfl⟩
theorem Mc:Ok ajy:=kS mixed Mb nL Tryz.func116 (by kernel_rfl) fun b h1 h2=>⟨_,aBw b h1 h2,by kernel_rfl⟩
theorem Md:Ok ajB:=kS mixed Mc nL Tryz.func150 (by kernel_rfl) fun⟨l,r⟩ h1 h2=>⟨_,aBx l r h1 h2,by kernel_rfl⟩
theorem Me:Ok ajE:=kS mixed Md aDl Tryz.func221 (by kernel_rfl) fun⟨kind,parts⟩ h1 h2=>⟨_,aBy kind parts h1 h2,by kernel_rfl⟩
theorem Mf:Ok ajH:=kS mixed Me nL Tryz.func166 (by kernel_rfl) fun b h1 h2=>⟨_,aBz b h1 h2,by kernel_rfl⟩
theorem Mg:Ok ajK:=kS mixed Mf nL Tryz.func273 (by kernel_rfl) fun⟨l,r⟩ h1 h2=>⟨_,aBA l r h1 h2,by kernel_rfl⟩
theorem Mh:Ok ajN:=kS mixed Mg nL Tryz.func265 (by kernel_rfl) fun b h1 h2=>⟨_,aBB b h1 h2,by kernel_rfl⟩
theorem Mi:Ok ajQ:=kS mixed Mh nL Tryz.func103 (by kernel_rfl) fun b h1 h2=>⟨_,aBC b h1 h2,by kernel_rfl⟩
theorem Mj:Ok ajT:=kS mixed Mi nL Tryz.func255 (by kernel_rfl) fun⟨l,r⟩ h1 h2=>⟨_,aBD l r h1 h2,by kernel_rfl⟩
theorem Mk:Ok ajW:=kS mixed Mj nL Tryz.func240 (by kernel_rfl) fun b h1 h2=>⟨_,aBE b h1 h2,by kernel_rfl⟩
theorem Ml:Ok ajZ:=kS mixed Mk nL Tryz.func209 (by kernel_rfl) fun c h1 h2=>⟨_,aBF c h1 h2,by kernel_rfl⟩
theorem Mm:Ok aj2:=kS mixed Ml nL Tryz.func210 (by kernel_rfl) fun c h1 h2=>⟨_,aBG c h1 h2,by kernel_rfl⟩
theorem Mn:Ok aj5:=kS mixed Mm nL Tryz.func211 (by kernel_rfl) fun c h1 h2=>⟨_,aBH c h1 h2,by kernel_rfl⟩
theorem Mo:Ok aj8:=kS mixed Mn nL Tryz.func160 (by kernel_rfl) fun c h1 h2=>⟨_,aBI c h1 h2,by kernel_rfl⟩
theorem Mp:Ok akb:=kS mixed Mo aDH Tryz.func208 (by kernel_rfl) fun b h1 h2=>⟨_,aBJ b h1 h2,by kernel_rfl⟩
theorem Mq:Ok ake:=kS mixed Mp aDJ Tryz.func157 (by kernel_rfl) fun b h1 h2=>⟨_,aBO b h1 h2,by kernel_rfl⟩
theorem Mr:Ok akh:=kS mixed Mq aDL Tryz.func158 (by kernel_rfl) fun c h1 h2=>⟨_,aBP c h1 h2,by kernel_rfl⟩
theorem Ms:Ok akk:=kS mixed Mr nL Tryz.func159 (by kernel_rfl) fun c h1 h2=>⟨_,aBQ c h1 h2,by kernel_rfl⟩
theorem Mt:Ok akn:=kS mixed Ms aDP Tryz.func258 (by kernel_rfl) fun c h1 h2=>⟨_,aBR c h1 h2,by kernel_rfl⟩
theorem Mu:Ok akq:=kS mixed Mt nL Tryz.func188 (by kernel_rfl) fun⟨c,a,b⟩ h1 h2=>⟨_,aBS c a b h1 h2,by kernel_rfl⟩
theorem Mv:Ok akt:=kS mixed Mu nL Tryz.func184 (by kernel_rfl) fun c h1 h2=>⟨_,aBT c h1 h2,by kernel_rfl⟩
theorem Mw:Ok akw:=kS mixed Mv nL Tryz.func185 (by kernel_rfl) fun c h1 h2=>⟨_,aBU c h1 h2,by kernel_rfl⟩
theorem Mx:Ok akz:=kS mixed Mw nL Tryz.func186 (by kernel_rfl) fun⟨a,b⟩ h1 h2=>⟨_,aBV a b h1 h2,by kernel_rfl⟩
theorem My:Ok akC:=kS mixed Mx nL Tryz.func187 (by kernel_rfl) fun c h1 h2=>⟨_,aBW c h1 h2,by kernel_rfl⟩
theorem Mz:Ok akF:=kS mixed My nL Tryz.func131 (by kernel_rfl) fun c h1 h2=>⟨_,aBX c h1 h2,by kernel_rfl⟩
theorem MA:Ok akI:=kS mixed Mz aD3 Tryz.func183 (by kernel_rfl) fun⟨b,n⟩ h1 h2=>⟨_,aBY b n h1 h2,by kernel_rfl⟩
theorem MB:Ok akL:=kS mixed MA aD5 Tryz.func129 (by kernel_rfl) fun b h1 h2=>⟨_,aBZ b h1 h2,by kernel_rfl⟩
theorem MC:Ok akO:=kS mixed MB aD7 Tryz.func228 (by kernel_rfl) fun u h1 h2=>⟨_,aB0 u h1 h2,by kernel_rfl⟩
theorem MD:Ok akR:=kS mixed MC aD9 Tryz.func171 (by kernel_rfl) fun b h1 h2=>⟨_,aB1 b h1 h2,by kernel_rfl⟩
theorem ME:Ok akU:=kS mixed MD nL Tryz.func117 (by kernel_rfl) fun s h1 h2=>⟨_,aB2 s h1 h2,by kernel_rfl⟩
theorem MF:Ok akX:=kS mixed ME nL Tryz.func130 (by kernel_rfl) fun c h1 h2=>⟨_,aB3 c h1 h2,by kernel_rfl⟩
theorem MG:Ok ak0:=kS mixed MF aEf Tryz.func274 (by kernel_rfl) fun u h1 h2=>⟨_,aB4 u h1 h2,by kernel_rfl⟩
theorem MH:Ok ak3:=kS mixed MG aEh Tryz.func256 (by kernel_rfl) fun b h1 h2=>⟨_,aB5 b h1 h2,by kernel_rfl⟩
theorem MI:Ok ak6:=kS mixed MH aEj Tryz.func189 (by kernel_rfl) fun l h1 h2=>⟨_,aB6 l h1 h2,by kernel_rfl⟩
theorem MJ:Ok alb:=kH mixed MI aEl Tryz.func132 (by kernel_rfl) fun⟨⟩ ⟨l,⟨⟩⟩ h1 h2 h3=>⟨_,aB7 l h1 h2 h3,by kernel_rfl⟩
theorem MK:Ok ale:=kS mixed MJ nL Tryz.func226 (by kernel_rfl) fun b h1 h2=>⟨_,aB8 b h1 h2,by kernel_rfl⟩
theorem ML:Ok alh:=kS mixed MK aEp Tryz.func257 (by kernel_rfl) fun⟨b,t⟩ h1 h2=>⟨_,aB9 b t h1 h2,by kernel_rfl⟩
theorem MM:Ok alk:=kS mixed ML nL Tryz.func264 (by kernel_rfl) fun s h1 h2=>⟨_,aCa s h1 h2,by kernel_rfl⟩
theorem MN:Ok alo:=kS mixed MM nL Tryz.func245 (by kernel_rfl) fun⟨a,b⟩ h1 h2=>⟨_,aCb a b h1 h2,by kernel_rfl⟩
theorem MO:Ok alu:=kH mixed MN y4 Tryz.func270 (by kernel_rfl) fun⟨a,b⟩ ⟨⟨⟩,⟨⟩⟩ h1 h2 h3=>⟨_,aCc a b h1 h2 h3,by kernel_rfl⟩
theorem adk:Ok alz:=kH mixed MO aEx Tryz.func269 (by kernel_rfl) fun⟨⟩ ⟨l,⟨⟨⟩,⟨⟩⟩⟩ h1 h2 h3=>⟨_,aCd l h1 h2 h3,by kernel_rfl⟩
theorem adl:Ok alB:=kX adk Tryz.func267 (by kernel_rfl) (Vg.Da Tryz.Uz (fun _=>rfl))
theorem adm:Ok alD:=kX adl Tryz.func142 (by kernel_rfl) (Vg.Db Tryz.UA (fun _=>rfl))
theorem MP:Ok alG:=kXH adm Tryz.func268 (by kernel_rfl) (Tryz.avC (fun _=>rfl))
end Go.J

end
