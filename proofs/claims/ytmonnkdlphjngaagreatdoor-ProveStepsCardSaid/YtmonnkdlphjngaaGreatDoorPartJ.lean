import Derived.Test.YtmonnkdlphjngaaGreatDoorPartI
set_option linter.unusedVariables false
set_option linter.unusedSimpArgs false
section
set_option linter.unusedVariables false
set_option maxHeartbeats 0
set_option maxRecDepth 100000
namespace Go.J
open Go.Proofs
open Go Vg
theorem apw:cg Tryz.prog G0 179 acv:=cg.or ayI US
theorem YM:Ok acw:=b5.eN MK apw (im.k Tryz.func179 y!)
theorem YN:Ok acx:=kH mixed YM oM Tryz.func180 y! fun d ⟨⟨⟩,⟨l,⟨⟩⟩⟩ h1 h2 h3=>⟨_,aty d l h1 h2 h3,y!⟩
theorem YO:Ok acy:=kS mixed YN awN Tryz.func126 y! fun⟨y1,y2,y3⟩ h1 h2=>⟨_,atz y1 y2 y3 h1 h2,y!⟩
theorem YP:Ok acz:=kH mixed YO oM Tryz.func199 y! fun⟨⟩ ⟨⟨r1,r2,r3⟩,⟨⟩⟩ h1 h2 h3=>⟨_,atA r1 r2 r3 h1 h2 h3,y!⟩
theorem YQ:Ok acA:=kH mixed YP oM Tryz.func200 y! fun⟨⟩ ⟨⟨r1,r2,r3⟩,⟨⟩⟩ h1 h2 h3=>⟨_,atB r1 r2 r3 h1 h2 h3,y!⟩
theorem YR:Ok acB:=kH mixed YQ oM Tryz.func201 y! fun⟨⟩ ⟨a,⟨⟨⟩,⟨⟨⟩,⟨⟨r1,r2,r3⟩,⟨⟩⟩⟩⟩⟩ h1 h2 h3=>⟨_,atC a r1 r2 r3 h1 h2 h3,y!⟩
theorem YS:Ok acC:=kS mixed YR awS Tryz.func146 y! fun b h1 h2=>⟨_,atD b h1 h2,y!⟩
theorem YT:Ok acD:=kS mixed YS nL Tryz.func12 y! fun⟨y1,y2⟩ h1 h2=>⟨_,atE y1 y2 h1 h2,y!⟩
theorem YU:Ok acE:=kS mixed YT nL Tryz.func32 y! fun⟨y1,y2⟩ h1 h2=>⟨_,atF y1 y2 h1 h2,y!⟩
theorem YX:Ok acH:=kS2 mixed YU (fun _=>false) (fun _=>none) (fun d=>Nat.beq d 52) nL Tryz.func58 y! fun⟨d,t⟩ h1 h2=>⟨_,atI d t h1 h2,y!⟩
theorem YZ:Ok acJ:=kXH YX Tryz.func118 y! (Tryz.ao7 (fun _=>rfl))
theorem Y0:Ok acK:=kH mixed YZ aw3 Tryz.func119 y! fun⟨⟩ ⟨l,⟨⟩⟩ h1 h2 h3=>⟨_,atK l h1 h2 h3,y!⟩
theorem Y1:Ok acL:=kS mixed Y0 aw5 Tryz.func54 y! fun l h1 h2=>⟨_,atL l h1 h2,y!⟩
theorem Y2:Ok acM:=kS mixed Y1 aw7 Tryz.func55 y! fun l h1 h2=>⟨_,atM l h1 h2,y!⟩
theorem Y3:Ok acN:=kS mixed Y2 nL Tryz.func156 y! fun b h1 h2=>⟨_,atN b h1 h2,y!⟩
theorem Y4:Ok acO:=kH2 mixed Y3 (fun _=>false) (fun _=>none) (fun d=>Nat.beq d 5) oM Tryz.func155 y! fun⟨⟩ ⟨st,⟨⟨⟩,⟨bb,⟨at_,⟨⟩⟩⟩⟩⟩ h1 h2 h3=>⟨_,atO st bb at_ h1 h2 h3,y!⟩
theorem ML:Ok acP:=kS mixed Y4 axb Tryz.func92 y! fun b h1 h2=>⟨_,atP b h1 h2,y!⟩
theorem ayJ:cg Tryz.prog G0 94 acQ:=vH ML mixed az4 Fa oM Tryz.func94 y! fun⟨⟩ ⟨⟨e,n,w⟩,⟨⟩⟩ h1 h2 h3=>⟨_,atQ e n w h1 h2 h3,y!⟩
theorem UT:cg Tryz.prog G0 94 Rw:=ayJ
theorem MM:Ok acR:=b5.eN ML UT (im.k Tryz.func94 y!)
theorem ayK:cg Tryz.prog G0 94 acS:=vH MM mixed az4 akQ oM Tryz.func94 y! fun⟨⟩ ⟨⟨e,n,w⟩,⟨l,⟨⟩⟩⟩ h1 h2 h3=>⟨_,atS e n w l h1 h2 h3,y!⟩
theorem apx:cg Tryz.prog G0 94 acT:=cg.or ayK UT
theorem Y5:Ok acU:=b5.eN MM apx (im.k Tryz.func94 y!)
theorem Y6:Ok acV:=kH mixed Y5 oM Tryz.func212 y! fun d ⟨⟨e,n,w⟩,⟨⟩⟩ h1 h2 h3=>⟨_,atT d e n w h1 h2 h3,y!⟩
theorem Y7:Ok acW:=kH mixed Y6 axg Tryz.func161 y! fun d ⟨⟨e,n,w⟩,⟨⟩⟩ h1 h2 h3=>⟨_,atU d e n w h1 h2 h3,y!⟩
theorem Y8:Ok acX:=kH mixed Y7 axi Tryz.func93 y! fun d ⟨⟨e,n,w⟩,⟨⟩⟩ h1 h2 h3=>⟨_,atV d e n w h1 h2 h3,y!⟩
theorem Y9:Ok acY:=kS mixed Y8 nL Tryz.func40 y! fun b h1 h2=>⟨_,atW b h1 h2,y!⟩
theorem Ze:Ok ac3:=kH mixed Y9 oM Tryz.func105 y! fun v ⟨d,⟨l,⟨⟩⟩⟩ h1 h2 h3=>⟨_,at1 v d l h1 h2 h3,y!⟩
theorem Zf:Ok ac4:=kH mixed Ze oM Tryz.func106 y! fun⟨b,m⟩ ⟨d,⟨l,⟨⟩⟩⟩ h1 h2 h3=>⟨_,at2 b m d l h1 h2 h3,y!⟩
theorem Zg:Ok ac5:=kH mixed Zf oM Tryz.func104 y! fun⟨y1,y2,y3⟩ ⟨d,⟨l,⟨⟩⟩⟩ h1 h2 h3=>⟨_,at3 y1 y2 y3 d l h1 h2 h3,y!⟩
theorem Zh:Ok ac6:=kH mixed Zg axw Tryz.func107 y! fun p ⟨d,⟨l,⟨⟩⟩⟩ h1 h2 h3=>⟨_,at4 p d l h1 h2 h3,y!⟩
theorem Zi:Ok ac7:=kH mixed Zh oM Tryz.func125 y! fun⟨p1,p2,p3,p4,p5,p6⟩ ⟨d,⟨l,⟨⟩⟩⟩ h1 h2 h3=>⟨_,at5 p1 p2 p3 p4 p5 p6 d l h1 h2 h3,y!⟩
theorem Zj:Ok ac8:=kH mixed Zi oM Tryz.func108 y! fun⟨⟩ ⟨d,⟨l,⟨⟩⟩⟩ h1 h2 h3=>⟨_,at6 d l h1 h2 h3,y!⟩
theorem Zk:Ok ac9:=kS mixed Zj axA Tryz.func59 y! fun⟨a1,a2,a3,a4⟩ h1 h2=>⟨_,at7 a1 a2 a3 a4 h1 h2,y!⟩
theorem Zl:Ok ada:=kS mixed Zk nL Tryz.func44 y! fun⟨p1,p2,p3,p4,p5,p6⟩ h1 h2=>⟨_,aua p1 p2 p3 p4 p5 p6 h1 h2,y!⟩
theorem MN:Ok adb:=kS mixed Zl nL Tryz.func68 y! fun⟨s1,s2,s3,s4,s5,s6,s7⟩ h1 h2=>⟨_,aub s1 s2 s3 s4 s5 s6 s7 h1 h2,y!⟩
theorem Jr:cg Tryz.prog G0 79 ade:=vH MN mixed aAc Br oM Tryz.func79 y! fun⟨b,c⟩ ⟨⟩ h1 h2 h3=>⟨_,auc b c h1 h2 h3,y!⟩
theorem UU:cg Tryz.prog G0 79 Rx:=Jr
theorem MO:Ok adf:=b5.eN MN UU (im.k Tryz.func79 y!)
theorem Js:cg Tryz.prog G0 79 adg:=vH MO mixed aAc Br oM Tryz.func79 y! fun⟨b,c⟩ ⟨⟩ h1 h2 h3=>⟨_,aud b c h1 h2 h3,y!⟩
theorem apy:cg Tryz.prog G0 79 adh:=cg.or Js UU
theorem Zm:Ok adi:=b5.eN MO apy (im.k Tryz.func79 y!)
theorem Zn:Ok adj:=kH mixed Zm oM Tryz.func89 y! fun⟨⟩ ⟨⟨r1,r2,r3⟩,⟨⟩⟩ h1 h2 h3=>⟨_,aue r1 r2 r3 h1 h2 h3,y!⟩
theorem Zo:Ok adk:=kH mixed Zn oM Tryz.func90 y! fun m ⟨⟨r1,r2,r3⟩,⟨⟩⟩ h1 h2 h3=>⟨_,auf m r1 r2 r3 h1 h2 h3,y!⟩
theorem Zp:Ok adl:=kH mixed Zo oM Tryz.func86 y! fun m ⟨⟨r1,r2,r3⟩,⟨⟩⟩ h1 h2 h3=>⟨_,aug m r1 r2 r3 h1 h2 h3,y!⟩
theorem Zq:Ok adm:=kH mixed Zp oM Tryz.func80 y! fun⟨⟩ ⟨⟨r1,r2,r3⟩,⟨⟩⟩ h1 h2 h3=>⟨_,auh r1 r2 r3 h1 h2 h3,y!⟩
theorem Zr:Ok adn:=kH mixed Zq oM Tryz.func152 y! fun⟨⟩ ⟨⟨r1,r2,r3⟩,⟨⟩⟩ h1 h2 h3=>⟨_,aui r1 r2 r3 h1 h2 h3,y!⟩
theorem Zs:Ok ado:=kH mixed Zr axJ Tryz.func81 y! fun⟨⟩ ⟨⟨r1,r2,r3⟩,⟨⟩⟩ h1 h2 h3=>⟨_,auj r1 r2 r3 h1 h2 h3,y!⟩
theorem Dp:Ok Jm:=kH mixed Zs oM Tryz.func87 y! fun⟨⟩ ⟨⟨r1,r2,r3⟩,⟨⟩⟩ h1 h2 h3=>⟨_,auk r1 r2 r3 h1 h2 h3,y!⟩
theorem ayL:Valid Tryz.prog G0 33 (db ei axL):=vS (E:=axN) (b5.eN Dp Jr (im.k Tryz.func79 y!)) mixed ei axM Tryz.func33 y! fun b h1 h2=>⟨_,aul b h1 h2,y!⟩
theorem ayM:Valid Tryz.prog G0 33 (db ei axO):=vS (E:=axP) (b5.eN Dp Js (im.k Tryz.func79 y!)) mixed ei nL Tryz.func33 y! fun b h1 h2=>⟨_,aum b h1 h2,y!⟩
theorem Dq:Ok Jn:=kX Dp Tryz.func33 y! (Vg.Valid.cases ayL ayM (fun x h=>(Classical.em (S.eP x 1=0)).elim (fun q=> .inl ⟨⟨h,q⟩,rfl⟩) (fun q=> .inr ⟨q,rfl⟩)))
theorem Zu:Ok adq:=kS mixed Dq ax2 Tryz.func114 y! fun⟨y1,y2,y3⟩ h1 h2=>⟨_,aur y1 y2 y3 h1 h2,y!⟩
theorem Zw:Ok ads:=kS mixed Zu ax5 Tryz.func51 y! fun p h1 h2=>⟨_,aut p h1 h2,y!⟩
theorem Zx:Ok adt:=kS mixed Zw nL Tryz.func48 y! fun⟨y1,y2,y3⟩ h1 h2=>⟨_,auu y1 y2 y3 h1 h2,y!⟩
theorem ZB:Ok adx:=kS mixed Zx nL Tryz.func25 y! fun⟨s1,s2,s3,s4,s5,s6,s7⟩ h1 h2=>⟨_,auz s1 s2 s3 s4 s5 s6 s7 h1 h2,y!⟩
theorem ZD:Ok adz:=kS mixed ZB nL Tryz.func66 y! fun⟨a,b⟩ h1 h2=>⟨_,auB a b h1 h2,y!⟩
theorem ayR:cg Tryz.prog G0 57 adB:=vH ZD mixed aAe akW oM Tryz.func57 y! fun t ⟨dd,⟨er,⟨⟨⟩,⟨⟩⟩⟩⟩ h1 h2 h3=>⟨_,auD t dd er h1 h2 h3,y!⟩
theorem UW:cg Tryz.prog G0 57 Ry:=ayR
theorem MQ:Ok adC:=b5.eN ZD UW (im.k Tryz.func57 y!)
theorem ayS:cg Tryz.prog G0 57 adD:=vH MQ mixed aAe akX oM Tryz.func57 y! fun t ⟨dd,⟨er,⟨⟨⟩,⟨l,⟨⟩⟩⟩⟩⟩ h1 h2 h3=>⟨_,auE t dd er l h1 h2 h3,y!⟩
theorem apz:cg Tryz.prog G0 57 adE:=cg.or ayS UW
theorem ZE:Ok adF:=b5.eN MQ apz (im.k Tryz.func57 y!)
theorem ZF:Ok adG:=kH mixed ZE ayi Tryz.func56 y! fun d ⟨er,⟨ts,⟨⟩⟩⟩ h1 h2 h3=>⟨_,auF d er ts h1 h2 h3,y!⟩
theorem ZG:Ok adH:=kS mixed ZF ayk Tryz.func16 y! fun⟨y1,y2,l⟩ h1 h2=>⟨_,auG y1 y2 l h1 h2,y!⟩
theorem ZH:Ok adI:=kS mixed ZG nL Tryz.func10 y! fun⟨y1,y2,i⟩ h1 h2=>⟨_,auH y1 y2 i h1 h2,y!⟩
theorem ZI:Ok adJ:=kS mixed ZH ayn Tryz.func23 y! fun⟨y1,y2,z1,z2⟩ h1 h2=>⟨_,auI y1 y2 z1 z2 h1 h2,y!⟩
theorem ZM:Ok adN:=kS mixed ZI nL Tryz.func24 y! fun⟨a,b⟩ h1 h2=>⟨_,auM a b h1 h2,y!⟩
theorem ZN:Ok adO:=kS mixed ZM nL Tryz.func26 y! fun⟨y1,y2,z1,z2⟩ h1 h2=>⟨_,auN y1 y2 z1 z2 h1 h2,y!⟩
theorem ZO:Ok adP:=kS mixed ZN nL Tryz.func9 y! fun _ h1 h2=>⟨_,auO h1 h2,y!⟩
theorem MT:Ok adV:=kS mixed ZO nL Tryz.func5 y! fun⟨y1,y2,z1,z2⟩ h1 h2=>⟨_,auR y1 y2 z1 z2 h1 h2,y!⟩
theorem ayV:Valid Tryz.prog G0 5 (db Ĕ adU):=kV MT y!
end Go.J

end
