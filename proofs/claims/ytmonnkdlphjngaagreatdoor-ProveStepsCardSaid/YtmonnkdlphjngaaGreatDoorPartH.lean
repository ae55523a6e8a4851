import Derived.Test.YtmonnkdlphjngaaGreatDoorPartG
set_option linter.unusedVariables false
set_option linter.unusedSimpArgs false
section
set_option linter.unusedVariables false
set_option maxHeartbeats 0
set_option maxRecDepth 100000
namespace Go.J
open Go.Proofs
open Go Vg
theorem mixed:Tryz.prog.follows .mixedOrders=true :=by kernel_rfl
abbrev Ok(E:Env):Prop :=b5 Tryz.prog E
theorem aHl:Ok E0:=b5.none G0 (bD.of Bj)
theorem apl:Ok aAw:=kS mixed aHl nL Tryz.func251 y! fun _ h1 h2=>⟨_,aJj h1 h2,y!⟩
theorem apm:Ok aAx:=kS mixed apl nL Tryz.func252 y! fun⟨x,n⟩ h1 h2=>⟨_,aJk x n h1 h2,y!⟩
theorem apn:Ok aAy:=kS mixed apm aJA Tryz.func250 y! fun b h1 h2=>⟨_,aJm b h1 h2,y!⟩
theorem apo:Ok aAz:=kS mixed apn aJC Tryz.func204 y! fun⟨l,p⟩ h1 h2=>⟨_,aJn l p h1 h2,y!⟩
theorem apq:Ok aAA:=kS mixed apo aJE Tryz.func203 y! fun b h1 h2=>⟨_,aJo b h1 h2,y!⟩
theorem apr:Ok aAB:=kS mixed apq aJG Tryz.func149 y! fun b h1 h2=>⟨_,aJp b h1 h2,y!⟩
theorem aps:Ok aAC:=kS mixed apr nL Tryz.func277 y! fun⟨x,k⟩ h1 h2=>⟨_,aJq x k h1 h2,y!⟩
theorem apt:Ok aAD:=kS mixed aps nL Tryz.func219 y! fun _ h1 h2=>⟨_,aJr h1 h2,y!⟩
theorem apu:Ok aAE:=kS mixed apt nL Tryz.func253 y! fun⟨s1,s2,s3,s4,s5,s6,s7,s8,s9,aT⟩ h1 h2=>⟨_,aJs s1 s2 s3 s4 s5 s6 s7 s8 s9 aT h1 h2,y!⟩
theorem apv:Ok aAF:=kS mixed apu aJL Tryz.func272 y! fun⟨u1,u2,u3,u4,u5,u6,u7,u8,p⟩ h1 h2=>⟨_,aJt u1 u2 u3 u4 u5 u6 u7 u8 p h1 h2,y!⟩
theorem afY:Ok anz:=kS mixed apv aE9 Tryz.func254 y! fun⟨u1,u2,u3,u4,u5,u6,u7,u8,b⟩ h1 h2=>⟨_,aDB u1 u2 u3 u4 u5 u6 u7 u8 b h1 h2,y!⟩
theorem afZ:Ok anA:=kS mixed afY nL Tryz.func218 y! fun⟨s1,s2,s3,s4,s5,s6,s7,s8,s9,aT,b⟩ h1 h2=>⟨_,aDC s1 s2 s3 s4 s5 s6 s7 s8 s9 aT b h1 h2,y!⟩
theorem af0:Ok anB:=kS mixed afZ aFc Tryz.func217 y! fun⟨s1,s2,s3,s4,s5,s6,s7,s8,s9,aT⟩ h1 h2=>⟨_,aDD s1 s2 s3 s4 s5 s6 s7 s8 s9 aT h1 h2,y!⟩
theorem af1:Ok anC:=kS mixed af0 nL Tryz.func164 y! fun b h1 h2=>⟨_,aDE b h1 h2,y!⟩
theorem af2:Ok anD:=kR mixed af1 aFf nL Tryz.func49 y! fun m v h1 h2 h3=>⟨_,aDF m v h1 h2 h3,y!⟩
theorem af3:Ok anE:=kS mixed af2 nL Tryz.func50 y! fun s h1 h2=>⟨_,aDG s h1 h2,y!⟩
theorem af6:Ok anH:=kS mixed af3 nL Tryz.func223 y! fun b h1 h2=>⟨_,aDJ b h1 h2,y!⟩
theorem af7:Ok anI:=kH mixed af6 aFm Tryz.func222 y! fun v ⟨l,⟨⟩⟩ h1 h2 h3=>⟨_,aDK v l h1 h2 h3,y!⟩
theorem af8:Ok anJ:=kH mixed af7 oM Tryz.func224 y! fun s ⟨l,⟨⟩⟩ h1 h2 h3=>⟨_,aDL s l h1 h2 h3,y!⟩
theorem af9:Ok anK:=kS mixed af8 nL Tryz.func167 y! fun⟨b,v⟩ h1 h2=>⟨_,aDM b v h1 h2,y!⟩
theorem aga:Ok anL:=kS mixed af9 nL Tryz.func168 y! fun⟨b,s⟩ h1 h2=>⟨_,aDN b s h1 h2,y!⟩
theorem agb:Ok anM:=kS mixed aga nL Tryz.func148 y! fun⟨r1,r2,r3⟩ h1 h2=>⟨_,aDO r1 r2 r3 h1 h2,y!⟩
theorem agc:Ok anN:=kS mixed agb nL Tryz.func202 y! fun⟨r1,r2,r3⟩ h1 h2=>⟨_,aDP r1 r2 r3 h1 h2,y!⟩
theorem agd:Ok anO:=kS mixed agc aFt Tryz.func206 y! fun⟨b,p⟩ h1 h2=>⟨_,aDQ b p h1 h2,y!⟩
theorem age:Ok anP:=kS mixed agd nL Tryz.func207 y! fun⟨b,p,bB⟩ h1 h2=>⟨_,aDR b p bB h1 h2,y!⟩
theorem agf:Ok anQ:=kS mixed age nL Tryz.func154 y! fun⟨r1,r2,r3,bB⟩ h1 h2=>⟨_,aDS r1 r2 r3 bB h1 h2,y!⟩
theorem agh:Ok anR:=kS mixed agf nL Tryz.func153 y! fun⟨r1,r2,r3⟩ h1 h2=>⟨_,aDT r1 r2 r3 h1 h2,y!⟩
theorem agi:Ok anS:=kS mixed agh nL Tryz.func147 y! fun⟨r1,r2,r3⟩ h1 h2=>⟨_,aDU r1 r2 r3 h1 h2,y!⟩
theorem agj:Ok anT:=kS mixed agi nL Tryz.func82 y! fun⟨r1,r2,r3⟩ h1 h2=>⟨_,aDV r1 r2 r3 h1 h2,y!⟩
theorem agk:Ok anU:=kS mixed agj aFA Tryz.func182 y! fun⟨kind,b⟩ h1 h2=>⟨_,aDW kind b h1 h2,y!⟩
theorem agl:Ok anV:=kS mixed agk nL Tryz.func128 y! fun⟨kind,b⟩ h1 h2=>⟨_,aDX kind b h1 h2,y!⟩
theorem agm:Ok anW:=kS mixed agl nL Tryz.func116 y! fun b h1 h2=>⟨_,aDY b h1 h2,y!⟩
theorem agn:Ok anX:=kS mixed agm nL Tryz.func150 y! fun⟨l,r⟩ h1 h2=>⟨_,aDZ l r h1 h2,y!⟩
theorem ago:Ok anY:=kS mixed agn aFF Tryz.func221 y! fun⟨kind,parts⟩ h1 h2=>⟨_,aD0 kind parts h1 h2,y!⟩
theorem agp:Ok anZ:=kS mixed ago nL Tryz.func166 y! fun b h1 h2=>⟨_,aD1 b h1 h2,y!⟩
theorem agq:Ok an0:=kS mixed agp nL Tryz.func273 y! fun⟨l,r⟩ h1 h2=>⟨_,aD2 l r h1 h2,y!⟩
theorem agr:Ok an1:=kS mixed agq nL Tryz.func265 y! fun b h1 h2=>⟨_,aD3 b h1 h2,y!⟩
theorem agt:Ok an3:=kS mixed agr nL Tryz.func103 y! fun b h1 h2=>⟨_,aD5 b h1 h2,y!⟩
theorem agu:Ok an4:=kS mixed agt nL Tryz.func255 y! fun⟨l,r⟩ h1 h2=>⟨_,aD6 l r h1 h2,y!⟩
theorem agv:Ok an5:=kS mixed agu nL Tryz.func240 y! fun b h1 h2=>⟨_,aD7 b h1 h2,y!⟩
theorem agx:Ok an7:=kS mixed agv nL Tryz.func209 y! fun c h1 h2=>⟨_,aD9 c h1 h2,y!⟩
theorem agy:Ok an8:=kS mixed agx nL Tryz.func210 y! fun c h1 h2=>⟨_,aEa c h1 h2,y!⟩
theorem agz:Ok an9:=kS mixed agy nL Tryz.func211 y! fun c h1 h2=>⟨_,aEb c h1 h2,y!⟩
theorem agA:Ok aoa:=kS mixed agz nL Tryz.func160 y! fun c h1 h2=>⟨_,aEc c h1 h2,y!⟩
theorem agB:Ok aob:=kS mixed agA aFT Tryz.func208 y! fun b h1 h2=>⟨_,aEd b h1 h2,y!⟩
theorem agC:Ok aoc:=kS mixed agB aFV Tryz.func157 y! fun b h1 h2=>⟨_,aEi b h1 h2,y!⟩
theorem agD:Ok aod:=kS mixed agC aFX Tryz.func158 y! fun c h1 h2=>⟨_,aEj c h1 h2,y!⟩
theorem agE:Ok aoe:=kS mixed agD nL Tryz.func159 y! fun c h1 h2=>⟨_,aEk c h1 h2,y!⟩
theorem agF:Ok aof:=kS mixed agE aF0 Tryz.func258 y! fun c h1 h2=>⟨_,aEl c h1 h2,y!⟩
theorem agG:Ok aog:=kS mixed agF nL Tryz.func188 y! fun⟨c,a,b⟩ h1 h2=>⟨_,aEm c a b h1 h2,y!⟩
theorem agH:Ok aoh:=kS mixed agG nL Tryz.func184 y! fun c h1 h2=>⟨_,aEn c h1 h2,y!⟩
theorem agI:Ok aoi:=kS mixed agH nL Tryz.func185 y! fun c h1 h2=>⟨_,aEo c h1 h2,y!⟩
theorem agJ:Ok aoj:=kS mixed agI nL Tryz.func186 y! fun⟨a,b⟩ h1 h2=>⟨_,aEp a b h1 h2,y!⟩
theorem agK:Ok aok:=kS mixed agJ nL Tryz.func187 y! fun c h1 h2=>⟨_,aEq c h1 h2,y!⟩
theorem agL:Ok aol:=kS mixed agK nL Tryz.func131 y! fun c h1 h2=>⟨_,aEr c h1 h2,y!⟩
theorem agM:Ok aom:=kS mixed agL aF8 Tryz.func183 y! fun⟨b,n⟩ h1 h2=>⟨_,aEs b n h1 h2,y!⟩
theorem agN:Ok aon:=kS mixed agM aGa Tryz.func129 y! fun b h1 h2=>⟨_,aEt b h1 h2,y!⟩
theorem agO:Ok aoo:=kS mixed agN aGc Tryz.func228 y! fun u h1 h2=>⟨_,aEu u h1 h2,y!⟩
theorem agP:Ok aop:=kS mixed agO aGe Tryz.func171 y! fun b h1 h2=>⟨_,aEv b h1 h2,y!⟩
theorem agQ:Ok aoq:=kS mixed agP nL Tryz.func117 y! fun s h1 h2=>⟨_,aEw s h1 h2,y!⟩
theorem agR:Ok aor:=kS mixed agQ nL Tryz.func130 y! fun c h1 h2=>⟨_,aEx c h1 h2,y!⟩
theorem agS:Ok aos:=kS mixed agR aGi Tryz.func274 y! fun u h1 h2=>⟨_,aEy u h1 h2,y!⟩
theorem agT:Ok aot:=kS mixed agS aGk Tryz.func256 y! fun b h1 h2=>⟨_,aEz b h1 h2,y!⟩
theorem agU:Ok aou:=kS mixed agT aGm Tryz.func189 y! fun l h1 h2=>⟨_,aEA l h1 h2,y!⟩
theorem agV:Ok aov:=kH mixed agU aGo Tryz.func132 y! fun⟨⟩ ⟨l,⟨⟩⟩ h1 h2 h3=>⟨_,aEB l h1 h2 h3,y!⟩
theorem agW:Ok aow:=kS mixed agV nL Tryz.func226 y! fun b h1 h2=>⟨_,aEC b h1 h2,y!⟩
theorem agX:Ok aox:=kS mixed agW aGr Tryz.func257 y! fun⟨b,t⟩ h1 h2=>⟨_,aED b t h1 h2,y!⟩
theorem agZ:Ok aoz:=kS mixed agX nL Tryz.func264 y! fun s h1 h2=>⟨_,aEF s h1 h2,y!⟩
theorem ag0:Ok aoA:=kS mixed agZ nL Tryz.func245 y! fun⟨a,b⟩ h1 h2=>⟨_,aEG a b h1 h2,y!⟩
theorem ag1:Ok aoB:=kH mixed ag0 oM Tryz.func270 y! fun⟨a,b⟩ ⟨⟨⟩,⟨⟩⟩ h1 h2 h3=>⟨_,aEH a b h1 h2 h3,y!⟩
theorem ag2:Ok aoC:=kH mixed ag1 aGy Tryz.func269 y! fun⟨⟩ ⟨l,⟨⟨⟩,⟨⟩⟩⟩ h1 h2 h3=>⟨_,aEI l h1 h2 h3,y!⟩
theorem ag3:Ok aoD:=kX ag2 Tryz.func267 y! (Vg.GP Tryz.Xp (fun _=>rfl))
theorem ag4:Ok aoE:=kX ag3 Tryz.func142 y! (Vg.GQ Tryz.Xq (fun _=>rfl))
theorem ag5:Ok aoF:=kXH ag4 Tryz.func268 y! (Tryz.ayB (fun _=>rfl))
theorem ag6:Ok aoG:=kH mixed ag5 oM Tryz.func244 y! fun l ⟨⟩ h1 h2 h3=>⟨_,aEJ l h1 h2 h3,y!⟩
theorem Pr:Ok aoI:=kS mixed ag6 nL Tryz.func194 y! fun b h1 h2=>⟨_,aEK b h1 h2,y!⟩
theorem aHm:Valid Tryz.prog G0 194 (db ei aoH):=kV Pr y!
theorem ag7:Ok aoJ:=kS mixed Pr aGE Tryz.func99 y! fun l h1 h2=>⟨_,aEL l h1 h2,y!⟩
theorem ag8:Ok aoK:=kS mixed ag7 nL Tryz.func220 y! fun⟨a,b⟩ h1 h2=>⟨_,aEM a b h1 h2,y!⟩
end Go.J

end
