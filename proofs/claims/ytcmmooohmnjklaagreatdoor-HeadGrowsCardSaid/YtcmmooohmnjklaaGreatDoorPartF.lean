import Derived.Test.YtcmmooohmnjklaaGreatDoorPartE
import Derived.Shelf.SlicesG.Clone
import Derived.Shelf.SlSortCmp.NoneTotal
import Derived.Shelf.SlIter.Nil
import Derived.Shelf.SortM.Plain
import Derived.Shelf.SortM.SortNone
import Derived.Test.YtcmmooohmnjklaaGreatDoorProg
import Derived.Lib.Small
import Derived.Lib.Walk
import Derived.Sort.Walk0
import Derived.Laws.Cover1
import Derived.Maps.GroupsBeside
import Derived.Sort.KeysCollected
import Derived.WalkKit
set_option linter.unusedVariables false
set_option linter.unusedSimpArgs false
section
set_option linter.unusedVariables false
namespace Go.J
open Go Vg
def body(f:Func):Code:=f.body.getD .skip
def E0:Env:= {T:=fU,sig:=fun _=>none,kD:=G0}
abbrev aeR:List PS:= [.one (.int .u32), .one (.int .i64)]
def aoL:Int×Int→Prop×AV×List AB:=fun x=>match x with
 |(x,k)=>(S.fE x k, .int .u32 (S.rotl x k:Int),[])
def aoM:Int×Int→Nat→Option al:=fun _ _=>none
def aeS:bc:=au aeR aoL
def aeT:Env:=Env.cons 191 aeS E0
abbrev aeU:List PS:= []
def aoN:Unit→Prop×AV×List AB:=fun x=>match x with
 |()=>(True, .agg [.int .u32 1779033703, .int .u32 3144134277, .int .u32 1013904242, .int .u32 2773480762, .int .u32 1359893119, .int .u32 2600822924, .int .u32 528734635, .int .u32 1541459225, .nil, .int .i64 0],[])
def aoO:Unit→Nat→Option al:=fun _ _=>none
def aeV:bc:=au aeU aoN
def aeW:Env:=Env.cons 107 aeV aeT
abbrev aeX:List PS:= [.agg [.int .u32, .int .u32, .int .u32, .int .u32, .int .u32, .int .u32, .int .u32, .int .u32, .slice [.int .u8], .int .i64]]
def aoP:Int×Int×Int×Int×Int×Int×Int×Int×List UInt8×Int→Prop×AV×List AB:=fun x=>match x with
 |(s1,s2,s3,s4,s5,s6,s7,s8,s9,aI)=>(True, .bool (S.aU s9 aI),[])
def aoQ:Int×Int×Int×Int×Int×Int×Int×Int×List UInt8×Int→Nat→Option al:=fun _ _=>none
def aeY:bc:=au aeX aoP
def aeZ:Env:=Env.cons 138 aeY aeW
abbrev ae0:List PS:= [.agg [.int .u32, .int .u32, .int .u32, .int .u32, .int .u32, .int .u32, .int .u32, .int .u32], .one (.slice [.int .u8])]
def aoR:Int×Int×Int×Int×Int×Int×Int×Int×List UInt8→Prop×AV×List AB:=fun x=>match x with
 |(u1,u2,u3,u4,u5,u6,u7,u8,p)=>(S.HP (u1,u2,u3,u4,u5,u6,u7,u8) p, .agg [.int .u32 ((S.block (u1,u2,u3,u4,u5,u6,u7,u8) p).1:Int), .int .u32 ((S.block (u1,u2,u3,u4,u5,u6,u7,u8) p).2.1:Int), .int .u32 ((S.block (u1,u2,u3,u4,u5,u6,u7,u8) p).2.2.1:Int), .int .u32 ((S.block (u1,u2,u3,u4,u5,u6,u7,u8) p).2.2.2.1:Int), .int .u32 ((S.block (u1,u2,u3,u4,u5,u6,u7,u8) p).2.2.2.2.1:Int), .int .u32 ((S.block (u1,u2,u3,u4,u5,u6,u7,u8) p).2.2.2.2.2.1:Int), .int .u32 ((S.block (u1,u2,u3,u4,u5,u6,u7,u8) p).2.2.2.2.2.2.1:Int), .int .u32 ((S.block (u1,u2,u3,u4,u5,u6,u7,u8) p).2.2.2.2.2.2.2:Int)],[])
def aoS:Int×Int×Int×Int×Int×Int×Int×Int×List UInt8→Nat→Option al:=fun x=>match x with
 |(u1,u2,u3,u4,u5,u6,u7,u8,p)=>fun id=>(match id with
  |0=>some {τ:=Nat,aL:= [(26,fun k=> .int .i64 ((k:Nat):Int))],keys:= [(5,fun k=> .arr [.int .u32] (S.aO p k))],bM:= [],drop:= [],bm:= [],inv:=fun k=>S.bY k 16,ag:=fun k=>S.ag 16 k}
  |2=>some {τ:=Nat,aL:= [(7,fun k=> .int .i64 ((k:Nat):Int))],keys:= [(5,fun k=> .arr [.int .u32] (S.aO p k))],bM:= [],drop:= [],bm:= [],inv:=fun k=>16≤k∧k≤64,ag:=fun k=>S.ag 64 k}
  |4=>some {τ:=Nat,aL:= [(124,fun k=> .int .i64 ((k:Nat):Int)),(12,fun k=> .int .u32 (S.dg (S.sched p 64) (u1,u2,u3,u4,u5,u6,u7,u8) k).1),(13,fun k=> .int .u32 (S.dg (S.sched p 64) (u1,u2,u3,u4,u5,u6,u7,u8) k).2.1),(14,fun k=> .int .u32 (S.dg (S.sched p 64) (u1,u2,u3,u4,u5,u6,u7,u8) k).2.2.1),(15,fun k=> .int .u32 (S.dg (S.sched p 64) (u1,u2,u3,u4,u5,u6,u7,u8) k).2.2.2.1),(16,fun k=> .int .u32 (S.dg (S.sched p 64) (u1,u2,u3,u4,u5,u6,u7,u8) k).2.2.2.2.1),(17,fun k=> .int .u32 (S.dg (S.sched p 64) (u1,u2,u3,u4,u5,u6,u7,u8) k).2.2.2.2.2.1),(18,fun k=> .int .u32 (S.dg (S.sched p 64) (u1,u2,u3,u4,u5,u6,u7,u8) k).2.2.2.2.2.2.1),(19,fun k=> .int .u32 (S.dg (S.sched p 64) (u1,u2,u3,u4,u5,u6,u7,u8) k).2.2.2.2.2.2.2)],keys:= [],bM:= [],drop:= [],bm:= [],inv:=fun k=>S.bY k 64,ag:=fun k=>S.ag 64 k}
  |_=>none)
def ae1:bc:=au ae0 aoR
def ae2:Env:=Env.cons 167 ae1 aeZ
abbrev WO:List PS:= [.agg [.int .u32, .int .u32, .int .u32, .int .u32, .int .u32, .int .u32, .int .u32, .int .u32], .one (.slice [.int .u8])]
def aiF:Int×Int×Int×Int×Int×Int×Int×Int×List UInt8→Prop×AV×List AB:=fun x=>match x with
 |(u1,u2,u3,u4,u5,u6,u7,u8,b)=>(S.pQ (u1,u2,u3,u4,u5,u6,u7,u8), .dc [.agg [.int .u32 ((((S.aT (u1,u2,u3,u4,u5,u6,u7,u8) b,S.dA b)).1).1:Int), .int .u32 ((((S.aT (u1,u2,u3,u4,u5,u6,u7,u8) b,S.dA b)).1).2.1:Int), .int .u32 ((((S.aT (u1,u2,u3,u4,u5,u6,u7,u8) b,S.dA b)).1).2.2.1:Int), .int .u32 ((((S.aT (u1,u2,u3,u4,u5,u6,u7,u8) b,S.dA b)).1).2.2.2.1:Int), .int .u32 ((((S.aT (u1,u2,u3,u4,u5,u6,u7,u8) b,S.dA b)).1).2.2.2.2.1:Int), .int .u32 ((((S.aT (u1,u2,u3,u4,u5,u6,u7,u8) b,S.dA b)).1).2.2.2.2.2.1:Int), .int .u32 ((((S.aT (u1,u2,u3,u4,u5,u6,u7,u8) b,S.dA b)).1).2.2.2.2.2.2.1:Int), .int .u32 ((((S.aT (u1,u2,u3,u4,u5,u6,u7,u8) b,S.dA b)).1).2.2.2.2.2.2.2:Int)], .sl [.int .u8] (((S.aT (u1,u2,u3,u4,u5,u6,u7,u8) b,S.dA b)).2)],[])
def aiG:Int×Int×Int×Int×Int×Int×Int×Int×List UInt8→Nat→Option al:=fun x=>match x with
 |(u1,u2,u3,u4,u5,u6,u7,u8,b)=>fun id=>(match id with
  |0=>some {τ:=Nat,aL:= [(1,fun k=> .sl [.int .u8] (S.dM b k))],keys:= [(2,fun k=> .cells [.int .u32 (S.proc (u1,u2,u3,u4,u5,u6,u7,u8) b k).1, .int .u32 (S.proc (u1,u2,u3,u4,u5,u6,u7,u8) b k).2.1, .int .u32 (S.proc (u1,u2,u3,u4,u5,u6,u7,u8) b k).2.2.1, .int .u32 (S.proc (u1,u2,u3,u4,u5,u6,u7,u8) b k).2.2.2.1, .int .u32 (S.proc (u1,u2,u3,u4,u5,u6,u7,u8) b k).2.2.2.2.1, .int .u32 (S.proc (u1,u2,u3,u4,u5,u6,u7,u8) b k).2.2.2.2.2.1, .int .u32 (S.proc (u1,u2,u3,u4,u5,u6,u7,u8) b k).2.2.2.2.2.2.1, .int .u32 (S.proc (u1,u2,u3,u4,u5,u6,u7,u8) b k).2.2.2.2.2.2.2])],bM:= [],drop:= [],bm:= [],inv:=fun k=>64*k≤b.length,ag:=fun k=>S.ag (S.blocks b) k}
  |_=>none)
def WQ:bc:=au WO aiF
def WR:Env:=Env.cons 139 WQ ae2
abbrev WS:List PS:= [.agg [.int .u32, .int .u32, .int .u32, .int .u32, .int .u32, .int .u32, .int .u32, .int .u32, .slice [.int .u8], .int .i64], .one (.slice [.int .u8])]
def aiH:Int×Int×Int×Int×Int×Int×Int×Int×List UInt8×Int×List UInt8→Prop×AV×List AB:=fun x=>match x with
 |(s1,s2,s3,s4,s5,s6,s7,s8,s9,aI,b)=>(S.HO (s1,s2,s3,s4,s5,s6,s7,s8) s9 aI b, .agg [.int .u32 (S.aT (s1,s2,s3,s4,s5,s6,s7,s8) b).1, .int .u32 (S.aT (s1,s2,s3,s4,s5,s6,s7,s8) b).2.1, .int .u32 (S.aT (s1,s2,s3,s4,s5,s6,s7,s8) b).2.2.1, .int .u32 (S.aT (s1,s2,s3,s4,s5,s6,s7,s8) b).2.2.2.1, .int .u32 (S.aT (s1,s2,s3,s4,s5,s6,s7,s8) b).2.2.2.2.1, .int .u32 (S.aT (s1,s2,s3,s4,s5,s6,s7,s8) b).2.2.2.2.2.1, .int .u32 (S.aT (s1,s2,s3,s4,s5,s6,s7,s8) b).2.2.2.2.2.2.1, .int .u32 (S.aT (s1,s2,s3,s4,s5,s6,s7,s8) b).2.2.2.2.2.2.2, .sl [.int .u8] (S.dA b), .int .i64 (S.jy b)],[])
def aiI:Int×Int×Int×Int×Int×Int×Int×Int×List UInt8×Int×List UInt8→Nat→Option al:=fun _ _=>none
def WT:bc:=au WS aiH
def WU:Env:=Env.cons 106 WT WR
abbrev WV:List PS:= [.agg [.int .u32, .int .u32, .int .u32, .int .u32, .int .u32, .int .u32, .int .u32, .int .u32, .slice [.int .u8], .int .i64]]
def aiJ:Int×Int×Int×Int×Int×Int×Int×Int×List UInt8×Int→Prop×AV×List AB:=fun x=>match x with
 |(s1,s2,s3,s4,s5,s6,s7,s8,s9,aI)=>(S.AA (s1,s2,s3,s4,s5,s6,s7,s8) s9 aI, .str (S.Q8 (S.aT (s1,s2,s3,s4,s5,s6,s7,s8) (S.tail s9 aI))),[])
def aiK:Int×Int×Int×Int×Int×Int×Int×Int×List UInt8×Int→Nat→Option al:=fun x=>match x with
 |(s1,s2,s3,s4,s5,s6,s7,s8,s9,aI)=>fun id=>(match id with
  |0=>some {τ:=Nat,aL:= [(3,fun k=> .own 300)],keys:= [(300,fun k=> .row 5 [.int .u8] (S.du s9 k) false)],bM:= [(Vg.Loc.slot 3,300)],drop:= [101700,101701,101702,43,104300,102000,17,102001,102002,20,104301,104302,301],bm:= [],inv:=fun k=>S.bH s9 k,ag:=fun k=>S.ag (S.dL (S.len s9)) k}
  |2=>some {τ:=Nat,aL:= [(32,fun k=> .int .i64 ((k:Nat):Int)),(3,fun k=> .own 301)],keys:= [(301,fun k=> .row 5 [.int .u8] (S.j7 s9 aI k) false)],bM:= [(Vg.Loc.slot 3,301)],drop:= [300,101700,101701,101702,102700,102701,102702,102000,17,102001,102002,20,27],bm:= [],inv:=fun k=>S.bY k 8,ag:=fun k=>S.ag 8 k}
  |4=>some {τ:=Nat,aL:= [(54,fun k=> .int .i64 ((k:Nat):Int)),(8,fun k=> .own 302)],keys:= [(302,fun k=> .row 5 [.int .u8] (S.jP (S.aT (s1,s2,s3,s4,s5,s6,s7,s8) (S.tail s9 aI)) k) false)],bM:= [(Vg.Loc.slot 8,302)],drop:= [52],bm:= [],inv:=fun k=>S.bY k 8,ag:=fun k=>S.ag 8 k}
  |_=>none)
def WW:bc:=au WV aiJ
def WX:Env:=Env.cons 105 WW WU
abbrev WY:List PS:= [.one (.slice [.int .u8])]
def aiL:List UInt8→Prop×AV×List AB:=fun x=>match x with
 |b=>(S.small b, .str (S.sum b),[])
def aiM:List UInt8→Nat→Option al:=fun _ _=>none
def WZ:bc:=au WY aiL
def MB:Env:=Env.cons 67 WZ WX
abbrev W8:List PS:= [.one (.slice [.int .u8])]
def aiR:List UInt8→Prop×AV×List AB:=fun x=>match x with
 |b=>(b.length≤140737488355328, .own 0,[.row 5 [.int .u8] (b) false])
def aiS:List UInt8→Nat→Option al:=fun _ _=>none
def W9:bc:=au W8 aiR
def Xa:Env:=Env.cons 113 W9 MB
abbrev Xb:List TA:= [.own 50000, .iP (.int .i64)]
abbrev Xc:List TB:= [.row 5 [.int .u8]]
def aiT:Int→((List UInt8)×Unit)→fe:=fun x y=>match x,y with
 |v,(l,())=> {pre:=S.xz l v,res:= .own 60000,heap:= [none],new:= [.row 5 [.int .u8] (l++S.num v) false]}
def aiU:Int→((List UInt8)×Unit)→Nat→Option al:=fun x y=>match x,y with
 |v,(l,())=>fun id=>(match id with
  |0=>some {τ:=List UInt8×Int,aL:= [(1,fun k=> .int .i64 k.2),(0,fun k=> .own 300)],keys:= [(300,fun k=> .row 5 [.int .u8] k.1 false)],bM:= [(Vg.Loc.slot 0,300)],drop:= [50000],bm:= [],inv:=fun k=>S.ng l v k.1 k.2,ag:=fun k=>k.2.toNat}
  |_=>none)
def Xd:eU:=gp Xb Xc aiT
def Xe:eU:=Xd
def Xf:Env:=Env.eP 112 [true,false] Xe Xa
abbrev Xg:List TA:= [.own 50000, .iP (.str)]
abbrev Xh:List TB:= [.row 5 [.int .u8]]
def aiV:(List UInt8)→((List UInt8)×Unit)→fe:=fun x y=>match x,y with
 |s,(l,())=> {pre:=S.kR l s,res:= .own 60000,heap:= [none],new:= [.row 5 [.int .u8] (l++S.text s) false]}
def aiW:(List UInt8)→((List UInt8)×Unit)→Nat→Option al:=fun _ _ _=>none
def Xi:eU:=gp Xg Xh aiV
def Xj:eU:=Xi
def Xk:Env:=Env.eP 194 [true,false] Xj Xf
abbrev Xl:List PS:= [.one (.slice [.int .u8]), .one (.int .i64)]
def aiX:List UInt8×Int→Prop×AV×List AB:=fun x=>match x with
 |(b,v)=>(b.length≤35184372088832, .dc [.own 0, .int .i64 (((S.mS b v,S.Ck v)).2:Int)],[.row 5 [.int .u8] (((S.mS b v,S.Ck v)).1) false])
def aiY:List UInt8×Int→Nat→Option al:=fun _ _=>none
def Xm:bc:=au Xl aiX
def Xn:Env:=Env.cons 71 Xm Xk
abbrev Xo:List PS:= [.one (.slice [.int .u8]), .one (.str)]
def aiZ:List UInt8×List UInt8→Prop×AV×List AB:=fun x=>match x with
 |(b,s)=>(S.kR b s, .own 0,[.row 5 [.int .u8] (b++S.text s) false])
def ai0:List UInt8×List UInt8→Nat→Option al:=fun _ _=>none
def Xp:bc:=au Xo aiZ
def Xq:Env:=Env.cons 176 Xp Xn
abbrev axY:List PS:= [.agg [.slice [.int .u8], .int .i64, .int .i64]]
def aBp:List UInt8×Int×Int→Prop×AV×List AB:=fun x=>match x with
 |(r1,r2,r3)=>(True, .bool (S.inside r1 r2),[])
def aBq:List UInt8×Int×Int→Nat→Option al:=fun _ _=>none
def ax4:bc:=au axY aBp
def ax5:Env:=Env.cons 116 ax4 Xq
abbrev ax7:List PS:= [.agg [.slice [.int .u8], .int .i64, .int .i64]]
def aBr:List UInt8×Int×Int→Prop×AV×List AB:=fun x=>match x with
 |(r1,r2,r3)=>(r1.length≤140737488355328, .agg [.sl [.int .u8] (((r1,r2,S.afz r1 r2 r3)).1), .int .i64 (((r1,r2,S.afz r1 r2 r3)).2.1:Int), .int .i64 (((r1,r2,S.afz r1 r2 r3)).2.2:Int)],[])
def aBs:List UInt8×Int×Int→Nat→Option al:=fun _ _=>none
def ax8:bc:=au ax7 aBr
def ax9:Env:=Env.cons 114 ax8 ax5
abbrev aya:List PS:= [.one (.slice [.int .u8]), .one (.int .i64)]
def aBt:List UInt8×Int→Prop×AV×List AB:=fun x=>match x with
 |(b,p)=>(S.afo b p, .dc [.int .i64 ((S.ae5 b p).1:Int), .int .i64 ((S.ae5 b p).2.1:Int), .int .i64 ((S.ae5 b p).2.2:Int)],[])
def aBu:List UInt8×Int→Nat→Option al:=fun x=>match x with
 |(b,p)=>fun id=>(match id with
  |0=>some {τ:=Nat,aL:= [(7,fun k=> .int .i64 (S.afa b p k)),(8,fun k=> .int .i64 ((k:Nat):Int))],keys:= [],bM:= [],drop:= [],bm:= [],inv:=fun k=>S.afl b p k,ag:=fun k=>S.ag 9 k}
  |_=>none)
def ayb:bc:=au aya aBt
def ayc:Env:=Env.cons 115 ayb ax9
abbrev ayd:List PS:= [.agg [.slice [.int .u8], .int .i64, .int .i64]]
def aBv:List UInt8×Int×Int→Prop×AV×List AB:=fun x=>match x with
 |(r1,r2,r3)=>(r1.length≤140737488355328, .dc [.agg [.sl [.int .u8] (((S.aab r1 r2 r3).1).1), .int .i64 (((S.aab r1 r2 r3).1).2.1:Int), .int .i64 (((S.aab r1 r2 r3).1).2.2:Int)], .int .i64 ((S.aab r1 r2 r3).2:Int)],[])
def aBw:List UInt8×Int×Int→Nat→Option al:=fun _ _=>none
def aye:bc:=au ayd aBv
def ayf:Env:=Env.cons 74 aye ayc
abbrev ayg:List PS:= [.agg [.slice [.int .u8], .int .i64, .int .i64]]
def aBx:List UInt8×Int×Int→Prop×AV×List AB:=fun x=>match x with
 |(r1,r2,r3)=>(r1.length≤140737488355328, .dc [.agg [.sl [.int .u8] (((S.aac r1 r2 r3).1).1), .int .i64 (((S.aac r1 r2 r3).1).2.1:Int), .int .i64 (((S.aac r1 r2 r3).1).2.2:Int)], .str ((S.aac r1 r2 r3).2)],[])
def aBy:List UInt8×Int×Int→Nat→Option al:=fun _ _=>none
def ayh:bc:=au ayg aBx
def ayi:Env:=Env.cons 76 ayh ayf
abbrev ayj:List PS:= [.agg [.slice [.int .u8], .int .i64, .int .i64]]
def aBz:List UInt8×Int×Int→Prop×AV×List AB:=fun x=>match x with
 |(r1,r2,r3)=>(True, .int .i64 (S.done r1 r2 r3:Int),[])
def aBA:List UInt8×Int×Int→Nat→Option al:=fun _ _=>none
def ayk:bc:=au ayj aBz
def ayl:Env:=Env.cons 78 ayk ayi
abbrev XD:List PS:= [.one (.int .u8), .one (.slice [.slice [.int .u8]])]
def ai9:UInt8×List (List UInt8)→Prop×AV×List AB:=fun x=>match x with
 |(kind,parts)=>(S.iQ parts, .own 0,[.row 5 [.int .u8] (S.dN kind parts) false])
def aja:UInt8×List (List UInt8)→Nat→Option al:=fun x=>match x with
 |(kind,parts)=>fun id=>(match id with
  |0=>some {τ:=Nat,aL:= [(12,fun k=> .int .i64 ((k:Nat):Int)),(5,fun k=> .own 300)],keys:= [(300,fun k=> .row 5 [.int .u8] (S.jo kind parts k) false)],bM:= [(Vg.Loc.slot 5,300)],drop:= [9],bm:= [],inv:=fun k=>S.dY parts k,ag:=fun k=>S.ag (S.len parts) k}
  |_=>none)
def XE:bc:=au XD ai9
def XF:Env:=Env.cons 168 XE ayl
abbrev XG:List PS:= [.one (.slice [.int .u8])]
def ajb:List UInt8→Prop×AV×List AB:=fun x=>match x with
 |b=>(S.bj b, .own 0,[.row 5 [.int .u8] (S.iR 0 b) false])
def ajc:List UInt8→Nat→Option al:=fun _ _=>none
def XH:bc:=au XG ajb
def XI:Env:=Env.cons 140 XH XF
abbrev XJ:List PS:= [.one (.str), .one (.str)]
def ajd:List UInt8×List UInt8→Prop×AV×List AB:=fun x=>match x with
 |(l,r)=>(S.bj (l++r), .own 0,[.row 5 [.int .u8] (S.iR 1 (l++r)) false])
def aje:List UInt8×List UInt8→Nat→Option al:=fun _ _=>none
def XK:bc:=au XJ ajd
def XL:Env:=Env.cons 192 XK XI
abbrev XM:List PS:= [.one (.slice [.int .u8])]
def ajf:List UInt8→Prop×AV×List AB:=fun x=>match x with
 |b=>(S.bj b, .own 0,[.row 5 [.int .u8] (S.iR 2 b) false])
def ajg:List UInt8→Nat→Option al:=fun _ _=>none
def XN:bc:=au XM ajf
def XO:Env:=Env.cons 193 XN XL
abbrev XP:List PS:= [.one (.slice [.int .u8])]
def ajh:List UInt8→Prop×AV×List AB:=fun x=>match x with
 |b=>(S.bj b, .str (S.leaf b),[])
def aji:List UInt8→Nat→Option al:=fun _ _=>none
def XQ:bc:=au XP ajh
def XR:Env:=Env.cons 108 XQ XO
abbrev XS:List PS:= [.one (.str), .one (.str)]
def ajj:List UInt8×List UInt8→Prop×AV×List AB:=fun x=>match x with
 |(l,r)=>(True, .dc [.str (((S.cM l r,S.j8 l r)).1), .int .i64 (((S.cM l r,S.j8 l r)).2:Int)],[])
def ajk:List UInt8×List UInt8→Nat→Option al:=fun _ _=>none
def XT:bc:=au XS ajj
def XU:Env:=Env.cons 173 XT XR
abbrev XV:List PS:= [.one (.slice [.int .u8])]
def ajl:List UInt8→Prop×AV×List AB:=fun x=>match x with
 |b=>(S.bj b, .str (S.oi 2 b),[])
def ajm:List UInt8→Nat→Option al:=fun _ _=>none
def XW:bc:=au XV ajl
def XX:Env:=Env.cons 175 XW XU
abbrev XY:List PS:= [.one (.int .i64)]
def ajn:Int→Prop×AV×List AB:=fun x=>match x with
 |c=>(True, .bool (S.bh c),[])
def ajo:Int→Nat→Option al:=fun _ _=>none
def XZ:bc:=au XY ajn
def X0:Env:=Env.cons 218 XZ XX
abbrev X1:List PS:= [.one (.int .i64)]
def ajp:Int→Prop×AV×List AB:=fun x=>match x with
 |c=>(True, .int .i64 (S.cI c:Int),[])
def ajq:Int→Nat→Option al:=fun _ _=>none
def X2:bc:=au X1 ajp
def X3:Env:=Env.cons 219 X2 X0
abbrev X4:List PS:= [.one (.int .i64)]
def ajr:Int→Prop×AV×List AB:=fun x=>match x with
 |c=>(0≤c, .int .u8 ((S.more c).toNat:Int),[])
def ajs:Int→Nat→Option al:=fun _ _=>none
def X5:bc:=au X4 ajr
def X6:Env:=Env.cons 220 X5 X3
abbrev X7:List PS:= [.one (.int .i64)]
def ajt:Int→Prop×AV×List AB:=fun x=>match x with
 |c=>(True, .dc [.own 0, .int .i64 (((S.dZ c,S.rP c)).2:Int)],[.row 5 [.int .u8] (((S.dZ c,S.rP c)).1) false])
def aju:Int→Nat→Option al:=fun _ _=>none
def X8:bc:=au X7 ajt
def X9:Env:=Env.cons 197 X8 X6
abbrev Ya:List PS:= [.one (.slice [.int .u8])]
def ajv:List UInt8→Prop×AV×List AB:=fun x=>match x with
 |b=>(0<b.length, .dc [.int .i64 ((S.aK b).1:Int), .int .i64 ((S.aK b).2:Int)],[])
def ajw:List UInt8→Nat→Option al:=fun x=>match x with
 |b=>fun id=>(match id with
  |1=>some {τ:=Nat,aL:= [(42,fun k=> .int .i64 ((k:Nat):Int)),(4,fun k=> .int .i64 (S.bq b k))],keys:= [],bM:= [],drop:= [],bm:= [],inv:=fun k=>S.ku b k,ag:=fun k=>S.ag 4 k}
  |_=>none)
def Yb:bc:=au Ya ajv
def Yc:Env:=Env.cons 196 Yb X9
abbrev Yd:List PS:= [.one (.slice [.int .u8])]
def ajx:List UInt8→Prop×AV×List AB:=fun x=>match x with
 |b=>(S.small b, .own 0,[.row 3 [.int .i64] (S.decode b) false])
def ajy:List UInt8→Nat→Option al:=fun x=>match x with
 |b=>fun id=>(match id with
  |0=>some {τ:=List UInt8×List Int,aL:= [(0,fun k=> .sl [.int .u8] k.1),(3,fun k=> .own 300)],keys:= [(300,fun k=> .row 3 [.int .i64] k.2 false)],bM:= [(Vg.Loc.slot 3,300)],drop:= [],bm:= [],inv:=fun k=>S.gq b k.1 k.2,ag:=fun k=>S.len k.1}
  |_=>none)
def Ye:bc:=au Yd ajx
def Yf:Env:=Env.cons 182 Ye Yc
abbrev Yg:List PS:= [.one (.int .i64)]
def ajz:Int→Prop×AV×List AB:=fun x=>match x with
 |c=>(True, .bool (S.letter c),[])
def ajA:Int→Nat→Option al:=fun x=>match x with
 |c=>fun id=>(match id with
  |0=>some {τ:=Nat,aL:= [(6,fun k=> .int .i64 ((k:Nat):Int))],keys:= [],bM:= [],drop:= [],bm:= [],inv:=fun k=>S.kt c k,ag:=fun k=>S.ag 9 k}
  |_=>none)
def Yh:bc:=au Yg ajz
def Yi:Env:=Env.cons 183 Yh Yf
abbrev Yj:List PS:= [.one (.int .i64)]
def ajB:Int→Prop×AV×List AB:=fun x=>match x with
 |c=>(True, .bool (S.digit c),[])
def ajC:Int→Nat→Option al:=fun _ _=>none
def Yk:bc:=au Yj ajB
def Yl:Env:=Env.cons 184 Yk Yi
abbrev Ym:List PS:= [.one (.int .i64)]
def ajD:Int→Prop×AV×List AB:=fun x=>match x with
 |c=>(True, .int .i64 (S.aR c:Int),[])
def ajE:Int→Nat→Option al:=fun x=>match x with
 |c=>fun id=>(match id with
  |0=>some {τ:=Nat,aL:= [(6,fun k=> .int .i64 ((k:Nat):Int))],keys:= [],bM:= [],drop:= [],bm:= [],inv:=fun k=>S.kS c k,ag:=fun k=>S.ag 7 k}
  |_=>none)
def Yn:bc:=au Ym ajD
def Yo:Env:=Env.cons 198 Yn Yl
abbrev YN:List PS:= [.one (.slice [.int .i64])]
def ajV:List Int→Prop×AV×List AB:=fun x=>match x with
 |u=>(S.Ew u, .str (S.c9 u),[])
def ajW:List Int→Nat→Option al:=fun x=>match x with
 |u=>fun id=>(match id with
  |0=>some {τ:=Nat×List UInt8,aL:= [(10,fun k=> .int .i64 ((k.1:Nat):Int)),(3,fun k=> .own 300)],keys:= [(300,fun k=> .row 5 [.int .u8] k.2 false)],bM:= [(Vg.Loc.slot 3,300)],drop:= [],bm:= [],inv:=fun k=>S.gJ u k.1 k.2,ag:=fun k=>S.ag (S.len u) k.1}
  |_=>none)
def YO:bc:=au YN ajV
def YP:Env:=Env.cons 185 YO Yo
abbrev YQ:List PS:= [.one (.slice [.int .u8])]
def ajX:List UInt8→Prop×AV×List AB:=fun x=>match x with
 |b=>(S.small b, .own 0,[.row 9 [.str] (S.aS b) false])
def ajY:List UInt8→Nat→Option al:=fun x=>match x with
 |b=>fun id=>(match id with
  |0=>some {τ:=Nat×List (List UInt8)×List Int,aL:= [(10,fun k=> .int .i64 ((k.1:Nat):Int)),(3,fun k=> .own 300),(4,fun k=> .own 301)],keys:= [(300,fun k=> .row 9 [.str] k.2.1 false),(301,fun k=> .row 3 [.int .i64] k.2.2 false)],bM:= [(Vg.Loc.slot 3,300),(Vg.Loc.slot 4,301)],drop:= [104000,104001,104002,40],bm:= [],inv:=fun k=>S.gr (S.decode b) k.1 k.2.1 k.2.2,ag:=fun k=>S.ag (S.len (S.decode b)) k.1}
  |_=>none)
def YR:bc:=au YQ ajX
def YS:Env:=Env.cons 160 YR YP
abbrev YT:List PS:= [.one (.str)]
def ajZ:List UInt8→Prop×AV×List AB:=fun x=>match x with
 |s=>(S.small s, .bool (S.isTerm s),[])
def aj0:List UInt8→Nat→Option al:=fun _ _=>none
def YU:bc:=au YT ajZ
def YV:Env:=Env.cons 144 YU YS
abbrev Zj:List PS:= [.one (.str)]
def akf:List UInt8→Prop×AV×List AB:=fun x=>match x with
 |s=>(True, .bool false,[])
def akg:List UInt8→Nat→Option al:=fun _ _=>none
def Zk:bc:=au Zj akf
def Zl:Env:=Env.cons 186 Zk YV
abbrev Zm:List PS:= [.one (.str), .one (.str)]
def akh:List UInt8×List UInt8→Prop×AV×List AB:=fun x=>match x with
 |(a,b)=>(True, .int .i64 (S.fA a b:Int),[])
def aki:List UInt8×List UInt8→Nat→Option al:=fun _ _=>none
def Zn:bc:=au Zm akh
def Zo:Env:=Env.cons 161 Zn Zl
abbrev Zp:List TA:= [.iP (.str), .iP (.str), .ref 50000 0]
abbrev Zq:List TB:= [.cells [.fn (.func 161) [] []]]
def akj:(List UInt8×List UInt8)→(Unit×Unit)→fe:=fun x y=>match x,y with
 |(a,b),((),())=> {pre:=True,res:= .bool (decide (a=b)),heap:= [some (.cells [.fn (.func 161) [] []])],new:= []}
def akk:(List UInt8×List UInt8)→(Unit×Unit)→Nat→Option al:=fun _ _ _=>none
def Zr:eU:=gp Zp Zq akj
def Zs:eU:=Zr
def Zt:Env:=Env.eP 181 [false,false,true] Zs Zo
abbrev Zu:List TA:= [.own 50000, .fn (.func 181) [] [.ref 50001 0]]
abbrev Zv:List TB:= [.row 9 [.str], .cells [.fn (.func 161) [] []]]
def akl:Unit→((List (List UInt8))×Unit×Unit)→fe:=fun x y=>match x,y with
 |(),(l,((),()))=> {pre:=S.small l,res:= .own 60000,heap:= [none,some (.cells [.fn (.func 161) [] []])],new:= [.row 9 [.str] (S.bJ l) false]}
def akm:Unit→((List (List UInt8))×Unit×Unit)→Nat→Option al:=fun x y=>match x,y with
 |(),(l,((),()))=>fun id=>(match id with
  |0=>some {τ:=Nat,aL:= [(5,fun k=> .int .i64 ((k:Nat):Int))],keys:= [(50001,fun k=> .cells [.fn (.func 161) [] []])],bM:= [],drop:= [],bm:= [],inv:=fun k=>S.nj l k,ag:=fun k=>S.ag (S.len l) k}
  |2=>some {τ:=Nat×Nat×List (List UInt8)×Nat,aL:= [(5,fun k=> .int .i64 ((k.1:Nat):Int)),(7,fun k=> .int .i64 ((k.2.1:Nat):Int))],keys:= [(50000,fun k=> .row 9 [.str] k.2.2.1 false),(50001,fun k=> .cells [.fn (.func 161) [] []])],bM:= [],drop:= [],bm:= [(30,fun k=> .int .i64 ((k.2.2.2:Nat):Int))],inv:=fun k=>S.iT l k.2.2.2 k.1 k.2.1 k.2.2.1,ag:=fun k=>S.ag (S.len l) k.2.1}
  |_=>none)
def Zw:eU:=gp Zu Zv akl
def Zx:eU:=Zw
def Zy:Env:=Env.eP 180 [true,true] Zx Zt
abbrev akn:List PS:= [.one (.slice [.str])]
def ako:List (List UInt8)→Prop×AV×List AB:=fun x=>match x with
 |l=>(S.small l, .own 0,[.row 9 [.str] (l) false])
def Zz:bc:=au akn ako
def ZA:Env:=Env.cons 178 Zz Zy
abbrev akp:List PS:= [.one (.slice [.int .i64])]
def akq:List Int→Prop×AV×List AB:=fun x=>match x with
 |l=>(S.small l, .own 0,[.row 3 [.int .i64] (l) false])
def ZB:bc:=au akp akq
def ZC:Env:=Env.cons 81 ZB ZA
abbrev akr:List TA:= [.own 50000, .fn (.func 161) [] []]
abbrev aks:List TB:= [.row 9 [.str]]
def akt:Unit→((List (List UInt8))×Unit)→fe:=fun x y=>match x,y with
 |(),(l,())=> {pre:=S.small l,res:= .dc [],heap:= [some (.row 9 [.str] (S.fB l) false)],new:= []}
def ZD:eU:=gp akr aks akt
def ZE:eU:=ZD
def ZF:Env:=Env.eP 179 [true,true] ZE ZC
abbrev ZG:List TA:= [.iP (.slice [.str]), .fn (.func 161) [] []]
abbrev ZH:List TB:= []
def aku:(List (List UInt8))→Unit→fe:=fun x y=>match x,y with
 |l,()=> {pre:=S.small l,res:= .own 60000,heap:= [],new:= [.row 9 [.str] (S.bJ (S.fB l)) false]}
def akv:(List (List UInt8))→Unit→Nat→Option al:=fun _ _ _=>none
def ZI:eU:=gp ZG ZH aku
def ZJ:eU:=ZI
def ZK:Env:=Env.eP 159 [false,true] ZJ ZF
abbrev ZL:List PS:= [.one (.slice [.int .u8])]
def akw:List UInt8→Prop×AV×List AB:=fun x=>match x with
 |b=>(S.small b, .own 0,[.row 9 [.str] (S.sorted (S.aS b)) false])
def akx:List UInt8→Nat→Option al:=fun _ _=>none
def ZM:bc:=au ZL akw
def ZN:Env:=Env.cons 131 ZM ZK
abbrev ZO:List PS:= [.one (.slice [.str])]
def aky:List (List UInt8)→Prop×AV×List AB:=fun x=>match x with
 |l=>(True, .bool (S.mT l),[])
def akz:List (List UInt8)→Nat→Option al:=fun x=>match x with
 |l=>fun id=>(match id with
  |0=>some {τ:=Nat,aL:= [(7,fun k=> .int .i64 ((k:Nat):Int))],keys:= [],bM:= [],drop:= [],bm:= [],inv:=fun k=>S.mB l k,ag:=fun k=>S.ag (S.len l) k}
  |_=>none)
def ZP:bc:=au ZO aky
def ZQ:Env:=Env.cons 85 ZP ZN
abbrev ZR:List PS:= [.one (.str), .one (.str)]
def akA:List UInt8×List UInt8→Prop×AV×List AB:=fun x=>match x with
 |(a,b)=>(True, .str (S.cM a b),[])
def akB:List UInt8×List UInt8→Nat→Option al:=fun _ _=>none
def ZS:bc:=au ZR akA
def ZT:Env:=Env.cons 151 ZS ZQ
abbrev ZU:List TA:= [.own 50000]
abbrev ZV:List TB:= [.row 9 [.str]]
def akC:Unit→((List (List UInt8))×Unit)→fe:=fun x y=>match x,y with
 |(),(s,())=> {pre:=S.qn s,res:= .own 60000,heap:= [none],new:= [.row 9 [.str] (S.comb s) false]}
def akD:Unit→((List (List UInt8))×Unit)→Nat→Option al:=fun _ _ _=>none
def ZW:eU:=gp ZU ZV akC
def ZX:eU:=ZW
def ZY:Env:=Env.eP 123 [true] ZX ZT
abbrev ZZ:List PS:= [.one (.slice [.slice [.int .u8]])]
def akE:List (List UInt8)→Prop×AV×List AB:=fun x=>match x with
 |l=>(S.iU l, .own 0,[.row 9 [.str] (S.leaves l) false])
def akF:List (List UInt8)→Nat→Option al:=fun x=>match x with
 |l=>fun id=>(match id with
  |0=>some {τ:=Nat,aL:= [(8,fun k=> .int .i64 ((k:Nat):Int)),(3,fun k=> .own 300)],keys:= [(300,fun k=> .row 9 [.str] (S.db l k) false)],bM:= [(Vg.Loc.slot 3,300)],drop:= [],bm:= [],inv:=fun k=>S.dY l k,ag:=fun k=>S.ag (S.len l) k}
  |_=>none)
def Z0:bc:=au ZZ akE
def Z1:Env:=Env.cons 68 Z0 ZY
abbrev Z2:List PS:= [.one (.slice [.str])]
def akG:List (List UInt8)→Prop×AV×List AB:=fun x=>match x with
 |l=>(S.eb l, .str (S.root l),[])
def akH:List (List UInt8)→Nat→Option al:=fun x=>match x with
 |l=>fun id=>(match id with
  |0=>some {τ:=Nat×List (List UInt8),aL:= [(12,fun k=> .int .i64 ((k.1:Nat):Int)),(3,fun k=> .own 300)],keys:= [(300,fun k=> .row 9 [.str] k.2 false)],bM:= [(Vg.Loc.slot 3,300)],drop:= [302,35,103500,103501,103502,304],bm:= [],inv:=fun k=>S.kU l k.1 k.2,ag:=fun k=>S.ag (S.len l) k.1}
  |2=>some {τ:=Nat×Nat×List (List UInt8)×Nat,aL:= [(5,fun k=> .int .i64 ((k.2.1:Nat):Int)),(3,fun k=> .own 302)],keys:= [(302,fun k=> .row 9 [.str] k.2.2.1 false)],bM:= [(Vg.Loc.slot 3,302)],drop:= [35,103500,103501,103502,102100,102101,21,102102,300,304],bm:= [(4,fun k=> .int .i64 ((k.2.2.2:Nat):Int))],inv:=fun k=>S.jY l k.2.2.2 k.1 k.2.1 k.2.2.1,ag:=fun k=>k.2.1}
  |4=>some {τ:=List (List UInt8),aL:= [(3,fun k=> .own 304)],keys:= [(304,fun k=> .row 9 [.str] k false)],bM:= [(Vg.Loc.slot 3,304)],drop:= [102100,102101,21,102102,102901,102900,102902,29,300,302],bm:= [],inv:=fun k=>S.kV l k,ag:=fun k=>S.len k}
  |_=>none)
def Z3:bc:=au Z2 akG
def Z4:Env:=Env.cons 86 Z3 Z1
abbrev Z5:List PS:= [.one (.slice [.str])]
def akI:List (List UInt8)→Prop×AV×List AB:=fun x=>match x with
 |l=>(S.small l, .dc [.str (((S.rq l,S.ru l)).1), .int .i64 (((S.rq l,S.ru l)).2:Int)],[])
def akJ:List (List UInt8)→Nat→Option al:=fun _ _=>none
def Z6:bc:=au Z5 akI
def Z7:Env:=Env.cons 45 Z6 Z4
abbrev Ç:List PS:= [.one (.slice [.int .i64])]
def akQ:List Int→Prop×AV×List AB:=fun x=>match x with
 |l=>(True, .bool (S.bR l),[])
def akR:List Int→Nat→Option al:=fun x=>match x with
 |l=>fun id=>(match id with
  |0=>some {τ:=Nat,aL:= [(8,fun k=> .int .i64 ((k:Nat):Int)),(3,fun k=> .int .i64 (S.dV l k))],keys:= [],bM:= [],drop:= [],bm:= [],inv:=fun k=>S.hY l k,ag:=fun k=>S.ag (S.len l) k}
  |_=>none)
def È:bc:=au Ç akQ
def É:Env:=Env.cons 143 È Z7
abbrev Ê:List PS:= [.one (.slice [.int .i64])]
def akS:List Int→Prop×AV×List AB:=fun x=>match x with
 |l=>(True, .dc [.own 0, .int .i64 (((S.oA l,S.jD l)).2:Int)],[.row 5 [.int .u8] (((S.oA l,S.jD l)).1) false])
def akT:List Int→Nat→Option al:=fun x=>match x with
 |l=>fun id=>(match id with
  |0=>some {τ:=Nat,aL:= [(22,fun k=> .int .i64 ((k:Nat):Int)),(6,fun k=> .int .i64 (S.dV l k)),(4,fun k=> .own 300)],keys:= [(300,fun k=> .row 5 [.int .u8] (S.cB l k) false)],bM:= [(Vg.Loc.slot 4,300)],drop:= [101700,101701,101702,17],bm:= [],inv:=fun k=>k≤l.length,ag:=fun k=>S.ag (S.len l) k}
  |_=>none)
def Ë:bc:=au Ê akS
def Ì:Env:=Env.cons 174 Ë É
abbrev Í:List PS:= [.one (.slice [.int .i64])]
def akU:List Int→Prop×AV×List AB:=fun x=>match x with
 |l=>(True, .dc [.str (((S.oB l,S.jD l)).1), .int .i64 (((S.oB l,S.jD l)).2:Int)],[])
def akV:List Int→Nat→Option al:=fun _ _=>none
def Î:bc:=au Í akU
def Ï:Env:=Env.cons 155 Î Ì
abbrev Ð:List TA:= [.iP (.int .i64), .iP (.bool), .iP (.bool), .ref 50000 0]
abbrev Ñ:List TB:= [.cells [.iP (.int .i64), .iP (.int .i64)]]
def akW:(Int×Bool×Bool)→((Int×Int)×Unit)→fe:=fun x y=>match x,y with
 |(n,p,q),((s1,s2),())=> {pre:=True,res:= .bool (S.oC n s1 s2),heap:= [some (.cells [.int .i64 s1, .int .i64 s2])],new:= []}
def akX:(Int×Bool×Bool)→((Int×Int)×Unit)→Nat→Option al:=fun _ _ _=>none
def Ò:eU:=gp Ð Ñ akW
def Ó:eU:=Ò
def Ô:Env:=Env.eP 154 [false,false,false,true] Ó Ï
abbrev Õ:List TA:= [.iP (.slice [.int .i64]), .iP (.slice [.int .i64]), .fn (.func 154) [] [.ref 50000 0]]
abbrev Ö:List TB:= [.cells [.iP (.int .i64), .iP (.int .i64)]]
def akY:(List Int×List Int)→((Int×Int)×Unit)→fe:=fun x y=>match x,y with
 |(a,b),((s1,s2),())=> {pre:=b.length=0,res:= .own 60000,heap:= [some (.cells [.int .i64 s1, .int .i64 s2])],new:= [.row 3 [.int .i64] (S.CG a s1 s2) false]}
def akZ:(List Int×List Int)→((Int×Int)×Unit)→Nat→Option al:=fun x y=>match x,y with
 |(a,b),((s1,s2),())=>fun id=>(match id with
  |0=>some {τ:=List Int×List Int,aL:= [(0,fun k=> .sl [.int .i64] k.1),(1,fun k=> .sl [.int .i64] S.fa),(7,fun k=> .own 300)],keys:= [(300,fun k=> .row 3 [.int .i64] k.2 false),(50000,fun k=> .cells [.int .i64 s1, .int .i64 s2])],bM:= [(Vg.Loc.slot 7,300)],drop:= [],bm:= [],inv:=fun k=>S.iV a s1 s2 k.1 k.2,ag:=fun k=>S.len k.1}
  |_=>none)
def Ø:eU:=gp Õ Ö akY
def Ù:eU:=Ø
def Ú:Env:=Env.eP 153 [false,false,true] Ù Ô
abbrev Û:List PS:= [.one (.slice [.int .i64]), .agg [.int .i64, .int .i64]]
def ak0:List Int×Int×Int→Prop×AV×List AB:=fun x=>match x with
 |(l,s1,s2)=>(True, .own 0,[.row 3 [.int .i64] (S.CG l s1 s2) false])
def ak1:List Int×Int×Int→Nat→Option al:=fun _ _=>none
def Ü:bc:=au Û ak0
def Ý:Env:=Env.cons 127 Ü Ú
abbrev ç:List PS:= [.one (.slice [.str, .slice [.int .i64]])]
def ak8:List (List UInt8×List Int)→Prop×AV×List AB:=fun x=>match x with
 |d=>(S.bB d, .bool (S.bl d),[])
def ak9:List (List UInt8×List Int)→Nat→Option al:=fun x=>match x with
 |d=>fun id=>(match id with
  |0=>some {τ:=Nat,aL:= [(7,fun k=> .int .i64 ((k:Nat):Int))],keys:= [],bM:= [],drop:= [],bm:= [],inv:=fun k=>S.zK d k,ag:=fun k=>S.ag (S.len d) k}
  |_=>none)
def è:bc:=au ç ak8
def é:Env:=Env.cons 118 è Ý
abbrev ê:List PS:= [.agg [.str, .str, .str]]
def ala:List UInt8×List UInt8×List UInt8→Prop×AV×List AB:=fun x=>match x with
 |(l1,l2,l3)=>(True, .dc [.sl [.int .u8] (((S.oD l1 l2 l3,S.wk l1 l2 l3)).1), .int .i64 (((S.oD l1 l2 l3,S.wk l1 l2 l3)).2:Int)],[])
def alb:List UInt8×List UInt8×List UInt8→Nat→Option al:=fun _ _=>none
def ë:bc:=au ê ala
def ì:Env:=Env.cons 156 ë é
abbrev í:List PS:= [.one (.slice [.str, .slice [.int .i64]])]
def alc:List (List UInt8×List Int)→Prop×AV×List AB:=fun x=>match x with
 |d=>(S.bB d, .dc [.own 0, .int .i64 (((S.fb d,S.dE d)).2:Int)],[.row 46 [.slice [.int .u8]] (((S.fb d,S.dE d)).1) false])
def ald:List (List UInt8×List Int)→Nat→Option al:=fun x=>match x with
 |d=>fun id=>(match id with
  |0=>some {τ:=Nat,aL:= [(16,fun k=> .int .i64 ((k:Nat):Int)),(4,fun k=> .own 300)],keys:= [(300,fun k=> .row 46 [.slice [.int .u8]] (S.dy d k) false)],bM:= [(Vg.Loc.slot 4,300)],drop:= [],bm:= [],inv:=fun k=>k≤d.length+1,ag:=fun k=>S.ag (S.len d+1) k}
  |_=>none)
def î:bc:=au í alc
def ï:Env:=Env.cons 128 î ì
abbrev ð:List PS:= [.one (.slice [.str, .slice [.int .i64]])]
def ale:List (List UInt8×List Int)→Prop×AV×List AB:=fun x=>match x with
 |d=>(S.bB d, .dc [.str (((S.rz d,S.dE d)).1), .int .i64 (((S.rz d,S.dE d)).2:Int)],[])
def alf:List (List UInt8×List Int)→Nat→Option al:=fun _ _=>none
def ñ:bc:=au ð ale
def ò:Env:=Env.cons 93 ñ ï
abbrev alg:List PS:= [.one (.slice [.slice [.int .u8]]), .agg [.int .i64, .int .i64]]
def alh:List (List UInt8)×Int×Int→Prop×AV×List AB:=fun x=>match x with
 |(docs,s1,s2)=>(True, .dc [.sl [.str, .slice [.int .i64]] ((S.fK docs s1 s2).1), .int .i64 ((S.fK docs s1 s2).2:Int)],[])
def ó:bc:=au alg alh
def ô:Env:=Env.cons 96 ó ò
abbrev OH:List PS:= [.agg [.int .i64, .int .i64]]
def abe:Int×Int→Prop×AV×List AB:=fun x=>match x with
 |(s1,s2)=>(True, .bool (S.iD s1 s2),[])
def abf:Int×Int→Nat→Option al:=fun _ _=>none
def OI:bc:=au OH abe
def OJ:Env:=Env.cons 117 OI ô
abbrev OK:List PS:= [.agg [.int .i64, .int .i64, .slice [.str, .slice [.int .i64]]]]
def abg:Int×Int×List (List UInt8×List Int)→Prop×AV×List AB:=fun x=>match x with
 |(s1,s2,s3)=>(S.bB s3, .bool (S.dh s1 s2 s3),[])
def abh:Int×Int×List (List UInt8×List Int)→Nat→Option al:=fun x=>match x with
 |(s1,s2,s3)=>fun id=>(match id with
  |0=>some {τ:=Nat,aL:= [(18,fun k=> .int .i64 ((k:Nat):Int))],keys:= [],bM:= [],drop:= [],bm:= [],inv:=fun k=>S.pn s1 s2 s3 k,ag:=fun k=>S.ag (S.len s3) k}
  |_=>none)
def OL:bc:=au OK abg
def OM:Env:=Env.cons 92 OL OJ
abbrev ON:List PS:= [.agg [.int .i64, .int .i64, .slice [.str, .slice [.int .i64]]]]
def abi:Int×Int×List (List UInt8×List Int)→Prop×AV×List AB:=fun x=>match x with
 |(s1,s2,s3)=>(S.bB s3, .dc [.agg [.int .i64 (((S.lh s1 s2 s3).1).1:Int), .int .i64 (((S.lh s1 s2 s3).1).2.1:Int), .int .i64 (((S.lh s1 s2 s3).1).2.2.1:Int), .str (((S.lh s1 s2 s3).1).2.2.2)], .int .i64 ((S.lh s1 s2 s3).2:Int)],[])
def abj:Int×Int×List (List UInt8×List Int)→Nat→Option al:=fun _ _=>none
def OO:bc:=au ON abi
def OP:Env:=Env.cons 51 OO OM
abbrev auc:List PS:= [.agg [.int .i64, .int .i64, .int .i64, .str]]
def auV:Int×Int×Int×List UInt8→Prop×AV×List AB:=fun x=>match x with
 |(s1,s2,s3,s4)=>(True, .bool (S.af8 s1 s2 s3 s4),[])
def auW:Int×Int×Int×List UInt8→Nat→Option al:=fun _ _=>none
def aud:bc:=au auc auV
def aue:Env:=Env.cons 79 aud OP
abbrev OQ:List PS:= [.one (.slice [.slice [.int .u8]]), .agg [.int .i64, .int .i64]]
def abk:List (List UInt8)×Int×Int→Prop×AV×List AB:=fun x=>match x with
 |(docs,s1,s2)=>(True, .dc [.agg [.int .i64 (((S.cb docs s1 s2).1).1:Int), .int .i64 (((S.cb docs s1 s2).1).2.1:Int), .sl [.str, .slice [.int .i64]] (((S.cb docs s1 s2).1).2.2)], .int .i64 ((S.cb docs s1 s2).2:Int)],[])
def abl:List (List UInt8)×Int×Int→Nat→Option al:=fun _ _=>none
def OR:bc:=au OQ abk
def OS:Env:=Env.cons 55 OR aue
abbrev auf:List PS:= [.one (.slice [.int .i64, .int .i64, .int .i64, .str]), .one (.int .i64)]
def auX:List (Int×Int×Int×List UInt8)×Int→Prop×AV×List AB:=fun x=>match x with
 |(l,n)=>(True, .bool (S.aga l n),[])
def auY:List (Int×Int×Int×List UInt8)×Int→Nat→Option al:=fun x=>match x with
 |(l,n)=>fun id=>(match id with
  |0=>some {τ:=Nat,aL:= [(14,fun k=> .int .i64 ((k:Nat):Int)),(5,fun k=> .int .i64 (S.rowAt l k:Int))],keys:= [],bM:= [],drop:= [],bm:= [],inv:=fun k=>S.M1 l k,ag:=fun k=>S.ag (S.len l) k}
  |_=>none)
def auo:bc:=au auf auX
def aup:Env:=Env.cons 39 auo OS
abbrev Ph:List PS:= [.one (.slice [.int .i64, .int .i64, .slice [.str, .slice [.int .i64]]])]
def abE:List (Int×Int×List (List UInt8×List Int))→Prop×AV×List AB:=fun x=>match x with
 |l=>(S.mF l, .sl [.str, .slice [.int .i64]] (S.l9 l),[])
def abF:List (Int×Int×List (List UInt8×List Int))→Nat→Option al:=fun x=>match x with
 |l=>fun id=>(match id with
  |0=>some {τ:=Nat,aL:= [(3,fun k=> .own 300)],keys:= [(300,fun k=> .row 132 [.str, .slice [.int .i64]] (S.cc l k) false),(13,fun k=> .row 3 [.int .i64] (S.ay l k) false)],bM:= [(Vg.Loc.slot 3,300)],drop:= [302],bm:= [],inv:=fun k=>k≤S.uL l,ag:=fun k=>S.ag (S.uL l) k}
  |2=>some {τ:=Nat×Nat,aL:= [(16,fun k=> .int .i64 ((k.1:Nat):Int)),(5,fun k=> .int .i64 (S.cv l (S.ay l k.2) k.1))],keys:= [],bM:= [],drop:= [],bm:= [(4,fun k=> .sl [.int .i64] (S.ay l k.2))],inv:=fun k=>k.1≤l.length∧k.2≤S.uL l,ag:=fun k=>S.ag (S.len l) k.1}
  |4=>some {τ:=Nat×Nat,aL:= [(74,fun k=> .int .i64 ((k.1:Nat):Int))],keys:= [(13,fun k=> .row 3 [.int .i64] (S.aY l k.2 k.1) false),(8,fun k=> .cells [.str (S.k6 l k.2), .own 302]),(302,fun k=> .row 3 [.int .i64] (S.cw l (S.k6 l k.2) k.1) false)],bM:= [(Vg.Loc.cell 8 1,302)],drop:= [],bm:= [(3,fun k=> .sl [.str, .slice [.int .i64]] (S.cc l k.2))],inv:=fun k=>k.1≤l.length∧k.2<S.uL l,ag:=fun k=>S.ag (S.len l) k.1}
  |_=>none)
def Pj:bc:=au Ph abE
def Pk:Env:=Env.cons 126 Pj aup
abbrev Pl:List PS:= [.one (.slice [.int .i64, .int .i64, .slice [.str, .slice [.int .i64]]])]
def abG:List (Int×Int×List (List UInt8×List Int))→Prop×AV×List AB:=fun x=>match x with
 |l=>(S.tE l, .dc [.agg [.int .i64 (((S.dC l).1).1:Int), .int .i64 (((S.dC l).1).2.1:Int), .sl [.str, .slice [.int .i64]] (((S.dC l).1).2.2)], .int .i64 ((S.dC l).2:Int)],[])
def abH:List (Int×Int×List (List UInt8×List Int))→Nat→Option al:=fun x=>match x with
 |l=>fun id=>(match id with
  |0=>some {τ:=Nat,aL:= [(14,fun k=> .int .i64 ((k:Nat):Int))],keys:= [],bM:= [],drop:= [],bm:= [],inv:=fun k=>S.np l k,ag:=fun k=>S.ag (S.len l) k}
  |2=>some {τ:=Nat,aL:= [(6,fun k=> .int .i64 ((k:Int)+1))],keys:= [],bM:= [],drop:= [],bm:= [],inv:=fun k=>S.pU l k,ag:=fun k=>S.ag (S.len l) k}
  |_=>none)
def Pm:bc:=au Pl abG
def Pn:Env:=Env.cons 90 Pm Pk
abbrev Po:List PS:= [.agg [.int .i64, .int .i64]]
def abI:Int×Int→Prop×AV×List AB:=fun x=>match x with
 |(s1,s2)=>(True, .int .i64 (S.jE s1 s2:Int),[])
def abJ:Int×Int→Nat→Option al:=fun x=>match x with
 |(s1,s2)=>fun id=>(match id with
  |0=>some {τ:=Nat,aL:= [(4,fun n=> .int .i64 ((n:Nat):Int)),(3,fun n=> .int .i64 (S.lg (s2-s1)-S.lg n))],keys:= [],bM:= [],drop:= [],bm:= [],inv:=fun n=>S.kZ s1 s2 n,ag:=fun n=>n}
  |_=>none)
def Pq:bc:=au Po abI
def Pr:Env:=Env.cons 125 Pq Pn
abbrev aqC:List PS:= [.one (.slice [.int .i64, .int .i64])]
def abK:List (Int×Int)→Prop×AV×List AB:=fun x=>match x with
 |l=>(True, .dc [.int .i64 ((S.dw l).1:Int), .bool ((S.dw l).2)],[])
def abL:List (Int×Int)→Nat→Option al:=fun x=>match x with
 |l=>fun id=>(match id with
  |0=>some {τ:=Nat,aL:= [(4,fun k=> .int .i64 (((S.len l:Nat):Int)-2-(k:Int)))],keys:= [],bM:= [],drop:= [],bm:= [],inv:=fun k=>S.jU l k,ag:=fun k=>S.ag (S.len l) k}
  |_=>none)
def Pt:bc:=au aqC abK
def Pu:Env:=Env.cons 88 Pt Pr
abbrev Pv:List PS:= [.one (.slice [.int .i64, .int .i64, .slice [.str, .slice [.int .i64]]])]
def abM:List (Int×Int×List (List UInt8×List Int))→Prop×AV×List AB:=fun x=>match x with
 |l=>(S.small l, .sl [.int .i64, .int .i64] (S.b8 l),[])
def abN:List (Int×Int×List (List UInt8×List Int))→Nat→Option al:=fun x=>match x with
 |l=>fun id=>(match id with
  |0=>some {τ:=Nat,aL:= [(8,fun k=> .int .i64 ((k:Nat):Int)),(3,fun k=> .own 300)],keys:= [(300,fun k=> .row 40 [.int .i64, .int .i64] (S.fY l k) false)],bM:= [(Vg.Loc.slot 3,300)],drop:= [],bm:= [],inv:=fun k=>k≤l.length,ag:=fun k=>S.ag (S.len l) k}
  |_=>none)
def Pw:bc:=au Pv abM
def Px:Env:=Env.cons 89 Pw Pu
abbrev Py:List PS:= [.one (.slice [.int .u8])]
def abO:List UInt8→Prop×AV×List AB:=fun x=>match x with
 |l=>(S.small l, .own 0,[.row 5 [.int .u8] (l) false])
def abP:List UInt8→Nat→Option al:=fun _ _=>none
def Pz:bc:=au Py abO
def PA:Env:=Env.cons 84 Pz Px
abbrev PB:List PS:= [.one (.slice [.str, .slice [.int .i64]])]
def abQ:List (List UInt8×List Int)→Prop×AV×List AB:=fun x=>match x with
 |l=>(S.small l, .own 0,[.row 132 [.str, .slice [.int .i64]] (l) false])
def abR:List (List UInt8×List Int)→Nat→Option al:=fun _ _=>none
def PC:bc:=au PB abQ
def PD:Env:=Env.cons 122 PC PA
abbrev PE:List PS:= [.one (.slice [.int .i64]), .one (.slice [.int .i64])]
def abS:List Int×List Int→Prop×AV×List AB:=fun x=>match x with
 |(a,b)=>(True, .bool (S.agO a b),[])
def abT:List Int×List Int→Nat→Option al:=fun x=>match x with
 |(a,b)=>fun id=>(match id with
  |0=>some {τ:=Nat,aL:= [(13,fun k=> .int .i64 ((k:Nat):Int))],keys:= [],bM:= [],drop:= [],bm:= [],inv:=fun k=>S.xQ a b k,ag:=fun k=>S.ag (S.len a) k}
  |_=>none)
def PF:bc:=au PE abS
def PG:Env:=Env.cons 99 PF PD
abbrev PH:List PS:= [.agg [.str, .slice [.int .i64]], .agg [.str, .slice [.int .i64]]]
def abU:List UInt8×List Int×List UInt8×List Int→Prop×AV×List AB:=fun x=>match x with
 |(a1,a2,b1,b2)=>(True, .bool (S.tK a1 a2 b1 b2),[])
def abV:List UInt8×List Int×List UInt8×List Int→Nat→Option al:=fun _ _=>none
def PI:bc:=au PH abU
def PJ:Env:=Env.cons 98 PI PG
abbrev PK:List TA:= [.iP (.slice [.str, .slice [.int .i64]]), .iP (.slice [.str, .slice [.int .i64]]), .fn (.func 98) [] []]
abbrev PL:List TB:= []
def abW:(List (List UInt8×List Int)×List (List UInt8×List Int))→Unit→fe:=fun x y=>match x,y with
 |(a,b),()=> {pre:=True,res:= .bool (S.eR a b),heap:= [],new:= []}
def abX:(List (List UInt8×List Int)×List (List UInt8×List Int))→Unit→Nat→Option al:=fun x y=>match x,y with
 |(a,b),()=>fun id=>(match id with
  |0=>some {τ:=Nat,aL:= [(17,fun k=> .int .i64 ((k:Nat):Int))],keys:= [],bM:= [],drop:= [],bm:= [],inv:=fun k=>S.hZ a b k,ag:=fun k=>S.ag (S.len a) k}
  |_=>none)
def PM:eU:=gp PK PL abW
def PN:eU:=PM
def PO:Env:=Env.eP 97 [false,false,true] PN PJ
abbrev PQ:List PS:= [.one (.slice [.str, .slice [.int .i64]]), .one (.slice [.str, .slice [.int .i64]])]
def abY:List (List UInt8×List Int)×List (List UInt8×List Int)→Prop×AV×List AB:=fun x=>match x with
 |(a,b)=>(True, .bool (S.eR a b),[])
def abZ:List (List UInt8×List Int)×List (List UInt8×List Int)→Nat→Option al:=fun _ _=>none
def PR:bc:=au PQ abY
def PT:Env:=Env.cons 56 PR PO
abbrev PU:List PS:= [.agg [.slice [.slice [.int .u8]], .slice [.int .i64, .int .i64, .slice [.str, .slice [.int .i64]]]]]
def ab1:List (List UInt8)×List (Int×Int×List (List UInt8×List Int))→Prop×AV×List AB:=fun x=>match x with
 |(y1,y2)=>(True, .bool (S.bE y1 y2),[])
def ab2:List (List UInt8)×List (Int×Int×List (List UInt8×List Int))→Nat→Option al:=fun x=>match x with
 |(y1,y2)=>fun id=>(match id with
  |0=>some {τ:=Nat,aL:= [(23,fun k=> .int .i64 ((k:Nat):Int))],keys:= [],bM:= [],drop:= [],bm:= [],inv:=fun k=>S.C3 y1 y2 k,ag:=fun k=>S.ag (S.len y1) k}
  |2=>some {τ:=Nat,aL:= [(34,fun k=> .int .i64 ((k:Nat):Int)),(5,fun k=> .int .i64 (S.cD y2 k))],keys:= [],bM:= [],drop:= [],bm:= [],inv:=fun k=>S.oH y1 y2 k,ag:=fun k=>S.ag (S.len y2) k}
  |_=>none)
def PV:bc:=au PU ab1
def PW:Env:=Env.cons 19 PV PT
abbrev PX:List PS:= [.agg [.slice [.slice [.int .u8]], .slice [.int .i64, .int .i64, .slice [.str, .slice [.int .i64]]]]]
def ab3:List (List UInt8)×List (Int×Int×List (List UInt8×List Int))→Prop×AV×List AB:=fun x=>match x with
 |(y1,y2)=>(True, .agg [.sl [.slice [.int .u8]] ((S.ao y1 y2).1), .sl [.int .i64, .int .i64, .slice [.str, .slice [.int .i64]]] ((S.ao y1 y2).2)],[])
def ab4:List (List UInt8)×List (Int×Int×List (List UInt8×List Int))→Nat→Option al:=fun _ _=>none
def PY:bc:=au PX ab3
def PZ:Env:=Env.cons 50 PY PW
abbrev P0:List PS:= [.agg [.slice [.slice [.int .u8]], .slice [.int .i64, .int .i64, .slice [.str, .slice [.int .i64]]]]]
def ab5:List (List UInt8)×List (Int×Int×List (List UInt8×List Int))→Prop×AV×List AB:=fun x=>match x with
 |(y1,y2)=>(True, .int .i64 (S.eE y2:Int),[])
def ab6:List (List UInt8)×List (Int×Int×List (List UInt8×List Int))→Nat→Option al:=fun _ _=>none
def P1:bc:=au P0 ab5
def Iu:Env:=Env.cons 61 P1 PZ
abbrev P2:List PS:= [.agg [.slice [.slice [.int .u8]], .slice [.int .i64, .int .i64, .slice [.str, .slice [.int .i64]]]]]
def ab7:List (List UInt8)×List (Int×Int×List (List UInt8×List Int))→Prop×AV×List AB:=fun x=>match x with
 |(y1,y2)=>(S.nq y1 y2, .agg [.own 0, .own 1],[.row 46 [.slice [.int .u8]] y1 false, .row 81 [.int .i64, .int .i64, .slice [.str, .slice [.int .i64]]] y2 false])
def ab8:List (List UInt8)×List (Int×Int×List (List UInt8×List Int))→Nat→Option al:=fun x=>match x with
 |(y1,y2)=>fun id=>(match id with
  |0=>some {τ:=Nat,aL:= [(22,fun k=> .int .i64 ((k:Nat):Int))],keys:= [(13,fun k=> .row 46 [.slice [.int .u8]] (S.cE [] y1 k) false)],bM:= [],drop:= [],bm:= [],inv:=fun k=>S.kh y1 k,ag:=fun k=>S.ag (S.len y1) k}
  |2=>some {τ:=Nat,aL:= [(37,fun k=> .int .i64 ((k:Nat):Int))],keys:= [(17,fun k=> .row 81 [.int .i64, .int .i64, .slice [.str, .slice [.int .i64]]] (S.cE (0,0,[]) y2 k) false)],bM:= [],drop:= [],bm:= [],inv:=fun k=>S.kh y2 k,ag:=fun k=>S.ag (S.len y2) k}
  |4=>some {τ:=Nat×Nat×List S.aD,aL:= [(55,fun k=> .int .i64 ((k.1:Nat):Int))],keys:= [(17,fun k=> .fZ 81 (some 104900) [.int .i64, .int .i64, .slice [.str, .slice [.int .i64]]] k.2.2 k.2.1),(104900,fun k=> .row 132 [.str, .slice [.int .i64]] (S.aq y2 k.2.1).2.2 false)],bM:= [],drop:= [],bm:= [(6,fun k=> .int .i64 ((k.2.1:Nat):Int))],inv:=fun k=>S.pv y2 k.2.2 k.2.1 k.1,ag:=fun k=>S.ag (S.jW y2 k.2.1) k.1}
  |_=>none)
def P3:bc:=au P2 ab7
def P4:Env:=Env.cons 83 P3 Iu
def ab9:Env:= {Iu with fZ:=fun t=>Nat.beq t 81,cls:=fun d=>bif Nat.beq d 73 then some 17 else none,spl:=fun d=>false}
abbrev P5:List PS:= [.one (.slice [.int .i64, .int .i64, .slice [.str, .slice [.int .i64]]]), .one (.int .i64), .one (.int .i64), .agg [.int .i64, .int .i64, .slice [.str, .slice [.int .i64]]]]
def aca:List (Int×Int×List (List UInt8×List Int))×Int×Int×Int×Int×List (List UInt8×List Int)→Prop×AV×List AB:=fun x=>match x with
 |(l,i,m,s1,s2,s3)=>(S.xR l i m, .own 0,[.row 81 [.int .i64, .int .i64, .slice [.str, .slice [.int .i64]]] (S.qv l i.toNat m.toNat (s1,s2,s3)) false])
def acb:List (Int×Int×List (List UInt8×List Int))×Int×Int×Int×Int×List (List UInt8×List Int)→Nat→Option al:=fun _ _=>none
def P6:bc:=au P5 aca
def P7:Env:=Env.cons 91 P6 P4
abbrev P8:List PS:= [.agg [.slice [.slice [.int .u8]], .slice [.int .i64, .int .i64, .slice [.str, .slice [.int .i64]]]]]
def acd:List (List UInt8)×List (Int×Int×List (List UInt8×List Int))→Prop×AV×List AB:=fun x=>match x with
 |(y1,y2)=>(True, .int .i64 (S.iX y1 y2:Int),[])
def ace:List (List UInt8)×List (Int×Int×List (List UInt8×List Int))→Nat→Option al:=fun _ _=>none
def P9:bc:=au P8 acd
def Qa:Env:=Env.cons 21 P9 P7
abbrev Qb:List PS:= [.agg [.slice [.slice [.int .u8]], .slice [.int .i64, .int .i64, .slice [.str, .slice [.int .i64]]]], .one (.slice [.int .u8])]
def acf:List (List UInt8)×List (Int×Int×List (List UInt8×List Int))×List UInt8→Prop×AV×List AB:=fun x=>match x with
 |(y1,y2,d)=>(True, .dc [.agg [.sl [.slice [.int .u8]] (((S.b6 y1 y2 d).1).1), .sl [.int .i64, .int .i64, .slice [.str, .slice [.int .i64]]] (((S.b6 y1 y2 d).1).2)], .int .i64 ((S.b6 y1 y2 d).2:Int)],[])
def acg:List (List UInt8)×List (Int×Int×List (List UInt8×List Int))×List UInt8→Nat→Option al:=fun _ _=>none
def Qc:bc:=au Qb acf
def Qd:Env:=Env.cons 44 Qc Qa
abbrev Qe:List PS:= [.agg [.slice [.slice [.int .u8]], .slice [.int .i64, .int .i64, .slice [.str, .slice [.int .i64]]]]]
def ach:List (List UInt8)×List (Int×Int×List (List UInt8×List Int))→Prop×AV×List AB:=fun x=>match x with
 |(y1,y2)=>(True, .dc [.agg [.sl [.slice [.int .u8]] (((S.cU y1 y2).1).1), .sl [.int .i64, .int .i64, .slice [.str, .slice [.int .i64]]] (((S.cU y1 y2).1).2)], .int .i64 ((S.cU y1 y2).2:Int)],[])
def aci:List (List UInt8)×List (Int×Int×List (List UInt8×List Int))→Nat→Option al:=fun _ _=>none
def Qf:bc:=au Qe ach
def Qg:Env:=Env.cons 43 Qf Qd
abbrev aqQ:List PS:= [.agg [.slice [.slice [.int .u8]], .slice [.int .i64, .int .i64, .slice [.str, .slice [.int .i64]]]], .one (.int .i64), .one (.int .i64)]
def as4:List (List UInt8)×List (Int×Int×List (List UInt8×List Int))×Int×Int→Prop×AV×List AB:=fun x=>match x with
 |(y1,y2,i,m)=>(True, .dc [.agg [.sl [.slice [.int .u8]] (((S.ţ y1 y2 i m).1).1), .sl [.int .i64, .int .i64, .slice [.str, .slice [.int .i64]]] (((S.ţ y1 y2 i m).1).2)], .int .i64 ((S.ţ y1 y2 i m).2:Int)],[])
def as5:List (List UInt8)×List (Int×Int×List (List UInt8×List Int))×Int×Int→Nat→Option al:=fun _ _=>none
def aqR:bc:=au aqQ as4
def aqS:Env:=Env.cons 62 aqR Qg
abbrev Qh:List PS:= [.agg [.slice [.slice [.int .u8]], .slice [.int .i64, .int .i64, .slice [.str, .slice [.int .i64]]]]]
def acj:List (List UInt8)×List (Int×Int×List (List UInt8×List Int))→Prop×AV×List AB:=fun x=>match x with
 |(y1,y2)=>(True, .agg [.sl [.slice [.int .u8]] ((S.jV y1 y2).1), .sl [.int .i64, .int .i64, .slice [.str, .slice [.int .i64]]] ((S.jV y1 y2).2)],[])
def ack:List (List UInt8)×List (Int×Int×List (List UInt8×List Int))→Nat→Option al:=fun x=>match x with
 |(y1,y2)=>fun id=>(match id with
  |0=>some {τ:=List (Int×Int),aL:= [],keys:= [(3,fun L=> .cells [.own 101100, .own 300]),(300,fun L=> .row 81 [.int .i64, .int .i64, .slice [.str, .slice [.int .i64]]] (S.aF (S.ao y1 y2).1 L) false)],bM:= [(Vg.Loc.cell 3 1,300)],drop:= [101101],bm:= [],inv:=fun L=>S.ma y1 y2 L,ag:=fun L=>L.length}
  |_=>none)
def Qi:bc:=au Qh acj
def Qj:Env:=Env.cons 49 Qi aqS
abbrev Qk:List PS:= [.agg [.slice [.slice [.int .u8]], .slice [.int .i64, .int .i64, .slice [.str, .slice [.int .i64]]]]]
def acm:List (List UInt8)×List (Int×Int×List (List UInt8×List Int))→Prop×AV×List AB:=fun x=>match x with
 |(y1,y2)=>(True, .sl [.int .i64, .int .i64, .int .i64, .str] (S.dW y1 y2),[])
def acn:List (List UInt8)×List (Int×Int×List (List UInt8×List Int))→Nat→Option al:=fun x=>match x with
 |(y1,y2)=>fun id=>(match id with
  |0=>some {τ:=Nat,aL:= [(17,fun k=> .int .i64 ((k:Nat):Int)),(3,fun k=> .own 300)],keys:= [(300,fun k=> .row 44 [.int .i64, .int .i64, .int .i64, .str] (S.dn y1 y2 k) false)],bM:= [(Vg.Loc.slot 3,300)],drop:= [13],bm:= [],inv:=fun k=>k≤S.gL y1 y2,ag:=fun k=>S.ag (S.gL y1 y2) k}
  |_=>none)
def Ql:bc:=au Qk acm
def Qm:Env:=Env.cons 16 Ql Qj
abbrev arh:List PS:= [.agg [.slice [.slice [.int .u8]], .slice [.int .i64, .int .i64, .slice [.str, .slice [.int .i64]]]], .agg [.int .i64, .int .i64, .int .i64, .slice [.int .u8]]]
def atk:List (List UInt8)×List (Int×Int×List (List UInt8×List Int))×Int×Int×Int×List UInt8→Prop×AV×List AB:=fun x=>match x with
 |(y1,y2,a1,a2,a3,a4)=>(True, .dc [.agg [.sl [.slice [.int .u8]] (((S.agi y1 y2 a1 a2 a3 a4).1).1), .sl [.int .i64, .int .i64, .slice [.str, .slice [.int .i64]]] (((S.agi y1 y2 a1 a2 a3 a4).1).2)], .int .i64 ((S.agi y1 y2 a1 a2 a3 a4).2:Int)],[])
def atl:List (List UInt8)×List (Int×Int×List (List UInt8×List Int))×Int×Int×Int×List UInt8→Nat→Option al:=fun _ _=>none
def arx:bc:=au arh atk
def ary:Env:=Env.cons 24 arx Qm
abbrev atT:List PS:= [.one (.slice [.int .i64, .int .i64, .int .i64, .slice [.int .u8]])]
def aui:List (Int×Int×Int×List UInt8)→Prop×AV×List AB:=fun x=>match x with
 |l=>(True, .agg [.sl [.slice [.int .u8]] ((S.aea l).1), .sl [.int .i64, .int .i64, .slice [.str, .slice [.int .i64]]] ((S.aea l).2)],[])
def auj:List (Int×Int×Int×List UInt8)→Nat→Option al:=fun x=>match x with
 |l=>fun id=>(match id with
  |0=>some {τ:=Nat,aL:= [(4,fun k=> .int .i64 ((k:Nat):Int))],keys:= [(3,fun k=> .cells [.sl [.slice [.int .u8]] (S.AI ([],[]) l k).1, .sl [.int .i64, .int .i64, .slice [.str, .slice [.int .i64]]] (S.AI ([],[]) l k).2])],bM:= [],drop:= [],bm:= [],inv:=fun k=>S.ags l k,ag:=fun k=>S.ag (S.len l) k}
  |_=>none)
def atU:bc:=au atT aui
def auk:Env:=Env.cons 27 atU ary
abbrev awo:List PS:= [.agg [.int .i64, .str, .slice [.int .i64, .int .i64, .int .i64, .str]]]
def ay6:Int×List UInt8×List (Int×Int×Int×List UInt8)→Prop×AV×List AB:=fun x=>match x with
 |(y1,y2,y3)=>(True, .bool (S.aae y1 y2 y3),[])
def ay7:Int×List UInt8×List (Int×Int×Int×List UInt8)→Nat→Option al:=fun _ _=>none
def awp:bc:=au awo ay6
def awq:Env:=Env.cons 35 awp auk
abbrev awr:List PS:= [.agg [.slice [.slice [.int .u8]], .slice [.int .i64, .int .i64, .slice [.str, .slice [.int .i64]]]]]
def ay8:List (List UInt8)×List (Int×Int×List (List UInt8×List Int))→Prop×AV×List AB:=fun x=>match x with
 |(y1,y2)=>(True, .dc [.agg [.int .i64 (((S.hOf y1 y2).1).1:Int), .str (((S.hOf y1 y2).1).2.1), .sl [.int .i64, .int .i64, .int .i64, .str] (((S.hOf y1 y2).1).2.2)], .int .i64 ((S.hOf y1 y2).2:Int)],[])
def ay9:List (List UInt8)×List (Int×Int×List (List UInt8×List Int))→Nat→Option al:=fun _ _=>none
def aws:bc:=au awr ay8
def avJ:Env:=Env.cons 30 aws awq
abbrev awt:List TA:= [.iP (.int .i64), .ref 50000 0, .ref 50001 0]
abbrev awu:List TB:= [.cells [.iP (.int .i64)], .cells [.nil]]
def aza:Int→(Int×Unit×Unit)→fe:=fun x y=>match x,y with
 |v,(q,((),()))=> {pre:=S.rj v=false∧q=0,res:= .dc [],heap:= [some (.cells [.int .i64 0]),some (.cells [.own 60000])],new:= [.row 5 [.int .u8] (S.num v) false]}
def azb:Int→(Int×Unit×Unit)→Nat→Option al:=fun _ _ _=>none
def awv:eU:=gp awt awu aza
def avL:eU:=awv
def avM:Env:=Env.eP 70 [false,true,true] avL avJ
def azc:Env:= {avJ with fZ:=fun t=>false,cls:=fun d=>none,spl:=fun d=>Nat.beq d 5}
abbrev awQ:List TA:= [.iP (.int .i64), .ref 50000 0, .ref 50001 0]
abbrev awR:List TB:= [.cells [.iP (.int .i64)], .cells [.own 50002], .row 5 [.int .u8]]
def azd:Int→(Int×Unit×(List UInt8)×Unit)→fe:=fun x y=>match x,y with
 |v,(q,((),(l,())))=> {pre:=S.rj v=false∧q=0∧l.length≤35184372088832,res:= .dc [],heap:= [some (.cells [.int .i64 0]),some (.cells [.own 60000]),none],new:= [.row 5 [.int .u8] (l++S.num v) false]}
def aze:Int→(Int×Unit×(List UInt8)×Unit)→Nat→Option al:=fun _ _ _=>none
def awS:eU:=gp awQ awR azd
def awT:eU:=M3 awS avL
def awU:Env:=Env.eP 70 [false,true,true] awT avM
def azf:Env:= {avM with fZ:=fun t=>false,cls:=fun d=>none,spl:=fun d=>Nat.beq d 5}
abbrev awV:List TA:= [.iP (.str), .ref 50000 0]
abbrev awW:List TB:= [.cells [.own 50001], .row 5 [.int .u8]]
def azg:(List UInt8)→(Unit×(List UInt8)×Unit)→fe:=fun x y=>match x,y with
 |d,((),(l,()))=> {pre:=l.length≤35184372088832∧d.length≤35184372088832,res:= .dc [],heap:= [some (.cells [.own 60000]),none],new:= [.row 5 [.int .u8] (l++d) false]}
def azh:(List UInt8)→(Unit×(List UInt8)×Unit)→Nat→Option al:=fun _ _ _=>none
def awX:eU:=gp awV awW azg
def awY:eU:=awX
def awZ:Env:=Env.eP 72 [false,true] awY awU
abbrev aw0:List PS:= [.agg [.int .i64, .str, .slice [.int .i64, .int .i64, .int .i64, .str]]]
def azi:Int×List UInt8×List (Int×Int×Int×List UInt8)→Prop×AV×List AB:=fun x=>match x with
 |(y1,y2,y3)=>(True, .dc [.own 0, .int .i64 ((S.hW y1 y2 y3).2:Int)],[.row 5 [.int .u8] ((S.hW y1 y2 y3).1) false])
def azj:Int×List UInt8×List (Int×Int×Int×List UInt8)→Nat→Option al:=fun x=>match x with
 |(y1,y2,y3)=>fun id=>(match id with
  |0=>some {τ:=Nat,aL:= [(31,fun k=> .int .i64 ((k:Nat):Int))],keys:= [(4,fun k=> .cells [.own 300]),(300,fun k=> .row 5 [.int .u8] (S.hTo y1 y2 y3 k) false),(5,fun k=> .cells [.int .i64 0])],bM:= [(Vg.Loc.cell 4 0,300)],drop:= [102700],bm:= [],inv:=fun k=>S.atS y1 y2 y3 k,ag:=fun k=>S.ag (S.len y3) k}
  |_=>none)
def aw1:bc:=au aw0 azi
def aw2:Env:=Env.cons 37 aw1 awZ
abbrev aw3:List TA:= [.ref 50000 0]
abbrev aw4:List TB:= [.cells [.iP (.slice [.int .u8]), .iP (.int .i64), .iP (.int .i64)]]
def azk:Unit→((List UInt8×Int×Int)×Unit)→fe:=fun x y=>match x,y with
 |(),((r1,r2,r3),())=> {pre:=r1.length≤140737488355328,res:= .int .i64 (S.aab r1 r2 r3).2,heap:= [some (.cells [.sl [.int .u8] r1, .int .i64 (S.aab r1 r2 r3).1.2.1, .int .i64 (S.aab r1 r2 r3).1.2.2])],new:= []}
def azl:Unit→((List UInt8×Int×Int)×Unit)→Nat→Option al:=fun _ _ _=>none
def aw5:eU:=gp aw3 aw4 azk
def aw6:eU:=aw5
def aw7:Env:=Env.eP 73 [true] aw6 aw2
abbrev aw8:List TA:= [.ref 50000 0]
abbrev aw9:List TB:= [.cells [.iP (.slice [.int .u8]), .iP (.int .i64), .iP (.int .i64)]]
def azm:Unit→((List UInt8×Int×Int)×Unit)→fe:=fun x y=>match x,y with
 |(),((r1,r2,r3),())=> {pre:=r1.length≤140737488355328,res:= .str (S.aac r1 r2 r3).2,heap:= [some (.cells [.sl [.int .u8] r1, .int .i64 (S.aac r1 r2 r3).1.2.1, .int .i64 (S.aac r1 r2 r3).1.2.2])],new:= []}
def azn:Unit→((List UInt8×Int×Int)×Unit)→Nat→Option al:=fun _ _ _=>none
def axa:eU:=gp aw8 aw9 azm
def axb:eU:=axa
def axc:Env:=Env.eP 75 [true] axb aw7
abbrev axd:List TA:= [.ref 50000 0, .ref 50001 0, .ref 50002 0]
abbrev axe:List TB:= [.cells [.iP (.int .i64)], .cells [.fn (.func 73) [] [.ref 50003 0]], .cells [.fn (.func 75) [] [.ref 50003 0]], .cells [.iP (.slice [.int .u8]), .iP (.int .i64), .iP (.int .i64)]]
def azo:Unit→(Int×Unit×Unit×(List UInt8×Int×Int)×Unit)→fe:=fun x y=>match x,y with
 |(),(a,((),((),((r1,r2,r3),()))))=> {pre:=r1.length≤140737488355328,res:= .agg [.int .i64 a, .int .i64 (S.pSg r1 r2 r3 a).2.2.1, .int .i64 (S.pSg r1 r2 r3 a).2.2.2.1, .str (S.pSg r1 r2 r3 a).2.2.2.2],heap:= [some (.cells [.int .i64 (S.pSg r1 r2 r3 a).2.2.1]),some (.cells [.fn (.func 73) [] [.ref 50003 0]]),some (.cells [.fn (.func 75) [] [.ref 50003 0]]),some (.cells [.sl [.int .u8] r1, .int .i64 (S.pSg r1 r2 r3 a).1.1, .int .i64 (S.pSg r1 r2 r3 a).1.2])],new:= []}
def azp:Unit→(Int×Unit×Unit×(List UInt8×Int×Int)×Unit)→Nat→Option al:=fun _ _ _=>none
def axf:eU:=gp axd axe azo
def axg:eU:=axf
def axh:Env:=Env.eP 77 [true,true,true] axg axc
abbrev axi:List PS:= [.one (.slice [.int .u8])]
def azq:List UInt8→Prop×AV×List AB:=fun x=>match x with
 |b=>(b.length≤140737488355328, .dc [.agg [.int .i64 (((S.hR b).1).1:Int), .str (((S.hR b).1).2.1), .sl [.int .i64, .int .i64, .int .i64, .str] (((S.hR b).1).2.2)], .int .i64 ((S.hR b).2:Int)],[])
def azr:List UInt8→Nat→Option al:=fun x=>match x with
 |b=>fun id=>(match id with
  |0=>some {τ:=Nat,aL:= [(29,fun k=> .int .i64 ((k:Nat):Int))],keys:= [(4,fun k=> .cells [.sl [.int .u8] b, .int .i64 (S.pSt b k).1.1, .int .i64 (S.pSt b k).1.2]),(7,fun k=> .cells [.int .i64 (S.pSt b k).2.1]),(5,fun k=> .cells [.fn (.func 73) [] [.ref 4 0]]),(6,fun k=> .cells [.fn (.func 75) [] [.ref 4 0]]),(9,fun k=> .cells [.int .i64 (S.pHd b).1.1, .str (S.pHd b).1.2.1, .own 300]),(300,fun k=> .row 44 [.int .i64, .int .i64, .int .i64, .str] (S.pSt b k).2.2 false)],bM:= [(Vg.Loc.cell 9 2,300)],drop:= [],bm:= [],inv:=fun k=>k≤S.pN b∧(S.pHd b).1.2.2≤64,ag:=fun k=>S.ag (S.pN b) k}
  |_=>none)
def axj:bc:=au axi azq
def axk:Env:=Env.cons 38 axj axh
abbrev axC:List PS:= []
def azy:Unit→Prop×AV×List AB:=fun x=>match x with
 |()=>(True, .bool true,[])
def azz:Unit→Nat→Option al:=fun _ _=>none
def axD:bc:=au axC azy
def axE:Env:=Env.cons 29 axD axk
abbrev aAA:List PS:= [.one (.slice [.int .i64, .int .i64, .int .i64, .slice [.int .u8]]), .one (.slice [.int .u8])]
def aA3:List (Int×Int×Int×List UInt8)×List UInt8→Prop×AV×List AB:=fun x=>match x with
 |(l,d)=>(True, .bool true,[])
def aA4:List (Int×Int×Int×List UInt8)×List UInt8→Nat→Option al:=fun x=>match x with
 |(l,d)=>fun id=>(match id with
  |0=>some {τ:=Nat,aL:= [(13,fun k=> .int .i64 ((k:Nat):Int))],keys:= [],bM:= [],drop:= [],bm:= [],inv:=fun k=>S.axZ l k,ag:=fun k=>S.ag (S.fL l) k}
  |_=>none)
def aA5:bc:=au aAA aA3
end Go.J

end
section
namespace Go.Vg
open Go Go.Shelf Go.RowKit Go.Proofs
def encS(s:List UInt8):Value:= .string ⟨s.toArray⟩
section
variable {w w':World} {A:Nat→Prop} {G:Nat→Option GD}
theorem yb:∀(l:List (List UInt8)) (cs:List Value),bW (bg w A [.str]) cs l→cs=l.map encS∧∀s∈l,s.length≤maxLen
 | [],cs,h=>by simp only [bW] at h;simp [h]
 |s::l,cs,⟨c1,c2,hc,h1,h2⟩=>by
  subst hc
  simp only [bg] at h1
  obtain⟨v,bX,rfl,hv,rfl⟩:=h1
  simp only [Rd] at hv
  obtain⟨g1,g2⟩:=yb l c2 h2
  obtain⟨rfl,hl⟩:=hv
  refine⟨by rw [g1];rfl,fun s' gg=> ?_⟩
  rcases List.mem_cons.1 gg with rfl|gg
  · exact hl
  · exact g2 s' gg
theorem y8:∀(l:List (List UInt8)),(∀s∈l,s.length≤maxLen)→bW (bg w A [.str]) (l.map encS) l
 | [],_=>rfl
 |s::l,h=>⟨[encS s],l.map encS,rfl,by
   simp only [bg]
   exact⟨_,[],rfl,by simp only [Rd];exact⟨rfl,h s (by simp)⟩,rfl⟩,y8 l fun s' gg=>h s' (by simp [gg])⟩
theorem Kz:∀(l:List Int) (cs:List Value),bW (bg w A [.int .i64]) cs l→cs=l.map (Value.int .i64)∧∀z∈l,lo .i64≤z∧z≤hi .i64
 | [],cs,h=>by simp only [bW] at h;simp [h]
 |s::l,cs,⟨c1,c2,hc,h1,h2⟩=>by
  subst hc
  simp only [bg] at h1
  obtain⟨v,bX,rfl,hv,rfl⟩:=h1
  simp only [Rd] at hv
  obtain⟨g1,g2⟩:=Kz l c2 h2
  obtain⟨rfl,hl⟩:=hv
  refine⟨by rw [g1];rfl,fun s' gg=> ?_⟩
  rcases List.mem_cons.1 gg with rfl|gg
  · exact hl
  · exact g2 s' gg
theorem y9:∀(l:List Int),(∀z∈l,lo .i64≤z∧z≤hi .i64)→bW (bg w A [.int .i64]) (l.map (Value.int .i64)) l
 | [],_=>rfl
 |s::l,h=>⟨[.int .i64 s],l.map (Value.int .i64),rfl,by
   simp only [bg]
   exact⟨_,[],rfl,by simp only [Rd];exact⟨rfl,h s (by simp)⟩,rfl⟩,y9 l fun s' gg=>h s' (by simp [gg])⟩
theorem FF {e:Nat} {row:List Ty} {l:List (Row row)} {v:Value} {xs:List Value}(hA:∀b,A b→b<w.heap.size)(hb:Below w.heap.size w w')(ho:w'.ownsRow w.heap.size e row.length v l.length xs)(hr:bW (bg w' A row) xs l):
  ∃A' aJ,jg w A w' v (.own 0) [.row e row l false] A' aJ:=by
 have hblk:∀b,ax v=some b→w.heap.size≤b:=by
  intro b bu
  rcases ho.2 with⟨rfl,_⟩|⟨g,cap,cur,rfl,hg,_⟩
  · cases bu
  · simp only [ax,Option.some.injEq] at bu;omega
 have h1:v.oneCell'=true :=by
  rcases ho.2 with⟨rfl,_⟩|⟨g,cap,cur,rfl,hg,_⟩<;>rfl
 have ho0:w'.ownsRow 0 e row.length v l.length xs:=by
  refine⟨ho.1,?_⟩
  rcases ho.2 with h|⟨g,cap,cur,g1,g2,g3⟩
  · exact .inl h
  · exact .inr ⟨g,cap,cur,g1,Nat.zero_le _,g3⟩
 refine⟨A,fun _=>v,{os:=hb.os,tape:=hb.tape,output:=hb.output,size:=hb.size,same:=hb.block,mono:=fun _ h=>h,old:=fun _ _ h=>h,bound:=fun b h=>Nat.lt_of_lt_of_le (hA b h) hb.size,res:= ?_,rows:= ?_,apart:= ?_}⟩
 · simp only [ae];exact⟨trivial,h1⟩
 · intro i ab hi
   match i,hi with
   |0,hi=>
    simp only [List.getElem?_cons_zero,Option.some.injEq] at hi
    subst hi
    refine⟨⟨xs,ho0,hr,fun b bu=> ?_⟩,hblk⟩
    simp only [Bool.false_eq_true,if_false]
    intro wc
    have :=hA b wc
    have :=hblk b bu
    omega
   |i+1,hi=>simp at hi
 · intro i j b hi hj _ _
   simp at hi hj;omega
end
theorem Iw {α γ:Type}(f:α→γ)(l:List α)(j:Nat)(d:γ)(hj:j<l.length):(l.map f).getD j d=f l[j]:=by
 rw [List.getD_eq_getElem?_getD,List.getElem?_map,List.getElem?_eq_getElem hj];rfl
theorem vA {P:Program} {f:FuncId} {args:Array Value} {w:World} {A:Nat→Prop} {e:Nat} {row:List Ty}(hA:∀b,A b→b<w.heap.size)
  (h:Calls P f args w fun e w'=>e= .returned (.slice none 0 0)∧w'=w):Calls P f args w fun ex w'=>∃v,ex= .returned v∧∃A' aJ,jg w A w' v (.own 0) [.row e row [] false] A' aJ:=
 h.mono fun ex w' ⟨he,hw⟩=>by
  subst hw
  exact⟨_,he,FF (xs:= []) hA (Below.refl _ _) ⟨by simp, .inl ⟨rfl,rfl⟩⟩ rfl⟩
theorem mc {P:Program} {f:FuncId} {args:Array Value} {w:World} {A:Nat→Prop} {e:Nat} {row:List Ty} {l:List (Row row)} {xs:List Value}(hA:∀b,A b→b<w.heap.size)
  (hr:∀w',bW (bg w' A row) xs l)
  (h:Calls P f args w fun ex w'=>∃v',ex= .returned v'∧w'.ownsRow w.heap.size e row.length v' l.length xs∧v'≠ .slice none 0 0∧Below w.heap.size w w'):
  Calls P f args w fun ex w'=>∃v,ex= .returned v∧∃A' aJ,jg w A w' v (.own 0) [.row e row l false] A' aJ:=
 h.mono fun ex w' ⟨v',he,ho,_,hb⟩=>⟨v',he,FF hA hb ho (hr w')⟩
theorem FG {w:World} {A:Nat→Prop} {β:Nat→Value} {row:List Ty} {args:List Value} {l:List (Row row)}(h:ai w A β args [.sl row l]):∃a cap cs,args= [.slice a l.length cap]∧l.length≤cap∧cap≤maxLen∧bW (bg w A row) cs l∧
  (cs≠ []→∃b o,a=some ⟨b,o,none⟩∧A b∧w.rangeAt b o cs):=by
 simp only [ai] at h
 obtain⟨v,bX,rfl,hv,rfl⟩:=h
 simp only [ae,Rd] at hv
 obtain⟨a,cap,cs,rfl,h1,h2,h3,h4⟩:=hv
 exact⟨a,cap,cs,rfl,h1,h2,h3,h4⟩
theorem za {P:Program} {ρ:Ren} {G:Nat→Option GD}(L:SlLaysN.n42 P ρ) {F:Row (PS.flat [.one (.slice [.str])])→Prop×AV×List AB}
  (hF:∀l:List (List UInt8),F l=(l.length≤1099511627776, .own 0,[.row (ρ.t 26) [.str] l false])):Valid P G (ρ.f 42) (au [.one (.slice [.str])] F):=by
 intro w A β args cd pre res bs hA hG bp hs hp
 unfold au at hs
 split at hs
 · rename_i x hx
   change List (List UInt8) at x
   have gg:=hs
   rw [hF x] at gg
   simp only [Option.some.injEq,Prod.mk.injEq] at gg
   obtain⟨rfl,rfl,rfl⟩:=gg
   obtain⟨g1,g2⟩:=qY _ hx bp
   obtain⟨a,cap,cs,rfl,h1,h2,h3,h4⟩:=FG (row:= [.str]) (l:=x) g1
   obtain⟨rfl,hl⟩:=yb x cs h3
   cases x with
   |nil=>cases a with
    |none=>exact vA hA (AnyG.slices_Clone_string_nil L 0 cap w)
    |some ad=>exact mc (xs:= []) hA (fun _=>rfl) (AnyG.slices_Clone_string_zero L ad cap w)
   |cons s x=>
    obtain⟨b,o,rfl,wc,hr⟩:=h4 (by simp)
    refine mc (xs:=(s::x).map encS) hA (fun _=>y8 _ hl) ?_
    have :=AnyG.slices_Clone_string L b o (s::x).length cap ((s::x).map fun s=>⟨s.toArray⟩) w (by simp) (by omega) (fun j hj=>by
     refine hr j _ ?_
     simp only [List.length_map] at hj
     rw [Iw _ _ _ _ hj,List.getElem?_map,List.getElem?_eq_getElem hj]
     rfl)
    have e1:(((s::x).map fun s=>(⟨s.toArray⟩:ByteArray)).take (s::x).length).map Value.string=(s::x).map encS:=by
     rw [List.take_of_length_le (by simp),List.map_map];rfl
    rw [e1] at this
    exact this
 · cases hs
theorem zb {P:Program} {ρ:Ren} {G:Nat→Option GD}(L:SlLaysN.n41 P ρ) {F:Row (PS.flat [.one (.slice [.int .i64])])→Prop×AV×List AB}
  (hF:∀l:List Int,F l=(l.length≤1099511627776, .own 0,[.row (ρ.t 23) [.int .i64] l false])):Valid P G (ρ.f 41) (au [.one (.slice [.int .i64])] F):=by
 intro w A β args cd pre res bs hA hG bp hs hp
 unfold au at hs
 split at hs
 · rename_i x hx
   change List Int at x
   have gg:=hs
   rw [hF x] at gg
   simp only [Option.some.injEq,Prod.mk.injEq] at gg
   obtain⟨rfl,rfl,rfl⟩:=gg
   obtain⟨g1,g2⟩:=qY _ hx bp
   obtain⟨a,cap,cs,rfl,h1,h2,h3,h4⟩:=FG (row:= [.int .i64]) (l:=x) g1
   obtain⟨rfl,hl⟩:=Kz x cs h3
   cases x with
   |nil=>cases a with
    |none=>exact vA hA (AnyG.slices_Clone_int_nil L 0 cap w)
    |some ad=>exact mc (xs:= []) hA (fun _=>rfl) (AnyG.slices_Clone_int_zero L ad cap w)
   |cons s x=>
    obtain⟨b,o,rfl,wc,hr⟩:=h4 (by simp)
    refine mc (xs:=(s::x).map (Value.int .i64)) hA (fun _=>y9 _ hl) ?_
    have :=AnyG.slices_Clone_int L b o (s::x).length cap (s::x) w (by simp) (by omega) (fun j hj=>by
     refine hr j _ ?_
     rw [List.getElem?_map,List.getElem?_eq_getElem hj]
     simp [List.getD,List.getElem?_eq_getElem hj])
    rw [List.take_of_length_le (by simp)] at this
    exact this
 · cases hs
end Go.Vg

end
section
namespace Go.Vg
open Go Go.Shelf Go.RowKit Go.Proofs Go.Sort Go.Lib
theorem tT(a b:List UInt8):ltOf S.fA a b=Op.bytesLess a b:=by
 unfold ltOf S.fA
 by_cases h:Op.bytesLess a b
 · simp [h]
 · simp only [h]
   by_cases h2:Op.bytesLess b a<;>simp [h2]
theorem Sm:SWO (ltOf S.fA) where
 irrefl x:=by rw [tT];exact S.bO x
 trans x y z h1 h2:=by rw [tT] at *;exact S.js _ _ _ h1 h2
 ntrans x y z h1 h2:=by
  rw [tT] at *
  cases h:Op.bytesLess x z with
  |false=>rfl
  |true=>
   rcases S.fX x y with t|t|t
   · rw [t] at h1;cases h1
   · subst t;rw [h] at h2;cases h2
   · rw [S.js _ _ _ t h] at h2;cases h2
theorem KA(x y:List UInt8)(h1:ltOf S.fA x y=false)(h2:ltOf S.fA y x=false):x=y:=by
 rw [tT] at *
 rcases S.fX x y with t|t|t
 · rw [t] at h1;cases h1
 · exact t
 · rw [t] at h2;cases h2
theorem Ix {α:Type} [Inhabited α](enc:α→Value)(w:World)(nk off:Nat)(d:Array α) {c:Array Value} {e:TypeId} {fr:Nat×Nat}(h:w.heap[nk]? =some (.cells c e fr)):
  (putRow enc w nk off d).heap[nk]? =some (.cells (putCells enc off d c) e fr):=by
 unfold putRow mapBlock
 simp [Array.getElem?_modify,h,onCells]
theorem Al {α:Type} [Inhabited α](enc:α→Value)(w:World)(nk off k:Nat)(d:Array α)(h:k≠nk):(putRow enc w nk off d).heap[k]? =w.heap[k]? :=by
 unfold putRow mapBlock
 simp [Array.getElem?_modify,Ne.symm h]
theorem size_putRow {α:Type} [Inhabited α](enc:α→Value)(w:World)(nk off:Nat)(d:Array α):(putRow enc w nk off d).heap.size=w.heap.size:=by
 unfold putRow mapBlock
 simp
theorem Dg(l:List (List UInt8))(c:Array Value)(h:l.length≤c.size):(putCells encS 0 l.toArray c).toList.take l.length=l.map encS:=by
 apply List.ext_getElem?
 intro k
 rw [List.getElem?_take]
 by_cases hk:k<l.length
 · rw [if_pos hk,List.getElem?_map,List.getElem?_eq_getElem hk,Array.getElem?_toList]
   simp only [putCells,Array.getElem?_mapIdx,Array.getElem?_eq_getElem (show k<c.size by omega),Option.map_some]
   rw [if_pos ⟨Nat.zero_le _,by simpa using hk⟩]
   simp [hk]
 · rw [if_neg hk,List.getElem?_eq_none (by simp;omega)]
theorem Dh {α:Type} [Inhabited α](enc:α→Value)(d:Array α)(c:Array Value):(putCells enc 0 d c).size=c.size:=by simp [putCells]
theorem Am {P:Program} {ρ:Ren} {G:Nat→Option GD}(L:SlLaysF.n6 P ρ) {g e:Nat}(eg:∀args w,(callFunc g args).run P w= .ok (.enter g args) w)
  (aoT:∀(x y:List UInt8) (w:World),Calls P g #[encS x,encS y] w fun e w'=>e= .returned (.int .i64 (S.fA x y))∧w'=w)
  {F:Row (TA.eI [.own 50000, .fn (.func g) [] []])→fJ [.row e [.str]]→fe}
  (hF:∀l:List (List UInt8),F () (l,())= {pre:=l.length≤1099511627776,res:= .dc [],heap:= [some (.row e [.str] (S.fB l) false)],new:= []}):
  ca P G (ρ.f 6) (gp [.own 50000, .fn (.func g) [] []] [.row e [.str]] F):=by
 intro w A β args cd hs r hA hG bp fm Ag mM hp hlen B7
 unfold gp at mM
 split at mM
 · rename_i cs cQ
   split at mM
   · rename_i x y hx hy
     obtain⟨l,u⟩:=y
     simp only [Option.some.injEq] at mM
     have hxu:x=():=rfl
     subst hxu
     rw [hF l] at mM
     subst mM
     obtain⟨g1,g2⟩:=yI cQ hx bp
     obtain⟨q1,q2,q3⟩:=B9 (w:=w) (A:=A) (β:=β) [.row e [.str]] hs (l,u) 50000 hy fm
     have hb:=q2 0 (.row e [.str] l false) rfl
     have alk:hs.length=1:=by rw [←q1];rfl
     simp only [TA.qc,TA.put,ai] at g1
     obtain⟨v0,bX,rfl,ù,v1,aoU,rfl,IH,rfl⟩:=g1
     simp only [ae] at ù IH
     obtain⟨ù,gi⟩:=ù
     obtain⟨a1,a2,rfl,ha1,ha2⟩:=IH
     simp only [TA.qc,ai,List.drop_nil,List.take_nil] at ha1 ha2
     have ea1:a1= #[]:=by apply Array.ext';simpa using ha1
     have ea2:a2= #[]:=by apply Array.ext';simpa using ha2
     subst ea1;subst ea2
     obtain⟨xs,ho,pG,iF⟩:=hb
     obtain⟨rfl,hl⟩:=yb l xs pG
     have vO:∀s∈S.fB l,s.length≤maxLen:=fun s gg=>hl s ((List.mergeSort_perm l _).subset gg)
     have ú:(S.fB l).length=l.length:=(List.mergeSort_perm l _).length_eq
     simp only [Bool.false_eq_true,if_false] at iF
     rcases ho.2 with⟨K4,hn2⟩|⟨g0,cap,cur,hv,_,hg0,I0,û,cz,IU⟩
     ·
      have KY:l= []:=List.length_eq_zero_iff.1 hn2
      subst KY
      rw [ù,K4]
      have SR:S.fB []= []:=List.length_eq_zero_iff.1 ú
      rw [SR]
      refine(AnyF.slices_SortFunc_none {L with} none 0 (.func (.func g) #[] #[]) w).mono fun ex w' ⟨he,hw⟩=> ?_
      subst hw
      refine⟨_,he,A,β,{os:=rfl,tape:=rfl,output:=rfl,size:=Nat.le_refl _,same:=fun _ _ _=>rfl,mono:=fun b h=>⟨h,rfl⟩,old:=fun _ _ h=> .inl h,bound:=hA,res:=by simp only [ae];exact⟨#[],rfl,by simp [ai]⟩,kept:= ?_,rows:= ?_,apart:= ?_}⟩
      · intro i ab hi
        match i,hi with
        |0,hi=>
         simp only [List.getElem?_cons_zero,Option.some.injEq] at hi
         subst hi
         exact⟨⟨_,ho,pG,by simpa using iF⟩,rfl⟩
        |i+1,hi=>simp at hi
      · intro j ab hj;simp at hj
      · intro k k' b hk c6 _ _
        rcases hk with⟨i,ab,rfl,_,hi⟩|⟨j,_,hj⟩
        · rcases c6 with⟨i',AR,rfl,_,iE⟩|⟨j,_,hj⟩
          · match i,i',hi,iE with
            |0,0,_,_=>rfl
            |i+1,_,hi,_=>simp at hi
            |0,i+1,_,iE=>simp at iE
          · simp at hj
        · simp at hj
     · have ü:g0<w.heap.size:=(Array.getElem?_eq_some_iff.1 hg0).1
       simp only [List.length_cons,List.length_nil,Nat.zero_add,Nat.mul_one] at cz IU
       have aoX:∀j,j<l.length→cur[j]? =some (encS (l.toArray)[j]!):=fun j hj=>by
        have h1:(cur.toList.take l.length)[j]? =some (encS l[j]):=by rw [IU,List.getElem?_map,List.getElem?_eq_getElem hj];rfl
        rw [List.getElem?_take,if_pos hj,Array.getElem?_toList] at h1
        rw [h1];simp [hj]
       have hH:Holds encS w g0 0 l.toArray:=fun j hj=>by
        have dO:j<l.length:=by simpa using hj
        refine⟨?_,?_⟩
        · simp only [World.cell?,hg0]
          simpa using aoX j dO
        · simp only [World.frozen?,hg0]
          simp
       rw [ù,hv]
       have hc:=Any.slices_SortFunc_total L encS (fun _=>rfl) S.fA Sm g #[] g0 0 cap l.toArray w eg (fun m os dk _ x y=>(aoT x y _).mono fun ex w' ⟨he,hw⟩=>⟨he,0, #[],by rw [hw];rfl⟩) hH ü (by simp only [List.size_toArray];omega) KA
       have e1:(l.toArray.toList.mergeSort fun x y=> !(ltOf S.fA) y x)=S.fB l:=by
        unfold S.fB
        simp only [List.toList_toArray,tT]
       rw [e1] at hc
       refine hc.mono fun ex w' ⟨he,n,os,hw⟩=> ?_
       have hw0:(putRow encS (Go.Sort.ahead w n) g0 0 (S.fB l).toArray).heap[g0]? =some (.cells (putCells encS 0 (S.fB l).toArray cur) e (0,0)):=Ix encS (Go.Sort.ahead w n) g0 0 _ hg0
       have hg1:w'.heap[g0]? =some (.cells (putCells encS 0 (S.fB l).toArray cur) e (0,0)):=by
        rw [hw];unfold sortWorld grow
        simp only
        rw [Array.getElem?_append_left (by rw [size_putRow];exact ü)]
        exact hw0
       have vD:∀b,b<w.heap.size→b≠g0→w'.heap[b]? =w.heap[b]? :=fun b hb dp=>by
        rw [hw];unfold sortWorld grow
        simp only
        rw [Array.getElem?_append_left (by rw [size_putRow];exact hb),Al encS (Go.Sort.ahead w n) g0 0 b _ dp]
        rfl
       have mI:w.heap.size≤w'.heap.size:=by
        rw [hw];unfold sortWorld grow
        simp only [Array.size_append,size_putRow]
        exact Nat.le_add_right _ _
       have ġ:HM β 1 g0:=⟨0,by omega,by rw [show β (50000+0)=β 50000 from rfl,hv];rfl⟩
       have aoY:¬A g0:=iF g0 (by rw [hv];rfl)
       refine⟨_,he,A,β,{os:=by rw [hw];rfl,tape:=by rw [hw];rfl,output:=by rw [hw];rfl,size:=mI,same:= ?_,mono:= ?_,old:=fun _ _ h=> .inl h,bound:=fun b h=>Nat.lt_of_lt_of_le (hA b h) mI,res:=by simp only [ae];exact⟨#[],rfl,by simp [ai]⟩,kept:= ?_,rows:= ?_,apart:= ?_}⟩
       · intro b hb dp
         rw [alk] at dp
         exact vD b hb (fun h=>dp (h▸ġ))
       · intro b wc
         exact⟨wc,vD b (hA b wc) (fun h=>aoY (h▸wc))⟩
       · intro i ab hi
         match i,hi with
         |0,hi=>
          simp only [List.getElem?_cons_zero,Option.some.injEq] at hi
          subst hi
          refine⟨⟨(S.fB l).map encS,⟨by simp, .inr ⟨g0,cap,_,?_,Nat.zero_le _,hg1,by omega,û,by rw [Dh];simpa using cz,?_⟩⟩,y8 _ vO,by simpa using iF⟩,rfl⟩
          · rw [ú];exact hv
          · have :=Dg (S.fB l) cur (by omega)
            simpa using this
         |i+1,hi=>simp at hi
       · intro j ab hj;simp at hj
       · intro k k' b hk c6 _ _
         rcases hk with⟨i,ab,rfl,_,hi⟩|⟨j,_,hj⟩
         · rcases c6 with⟨i',AR,rfl,_,iE⟩|⟨j,_,hj⟩
           · match i,i',hi,iE with
             |0,0,_,_=>rfl
             |i+1,_,hi,_=>simp at hi
             |0,i+1,_,iE=>simp at iE
           · simp at hj
         · simp at hj
   · cases mM
 · cases mM
end Go.Vg

end
section
namespace Go.Proofs
open Go.Shelf
def Tryz.zX:Go.Shelf.Ren:=⟨fun|7=>133|10=>164|n=>n,fun|23=>183|26=>9|3=>77|28=>186|0=>0|27=>185|33=>196|4=>4|n=>n,fun|n=>n⟩
theorem Tryz.QH:Go.Proofs.SlLaysZ.n7 Tryz.prog Tryz.zX:= {
 mixed:=by kernel_rfl
 f7:=⟨Tryz.f133.name,by decide,Tryz.func133.trans (congrArg some (by kernel_rfl))⟩
 f10:=⟨Tryz.f164.name,by decide,Tryz.func164.trans (congrArg some (by kernel_rfl))⟩
 t0:=Tryz.underlying0
 a0:=Tryz.isAgg0
 z0:=Tryz.sizeOf0
 v0:=Tryz.zeroValue0
 t4:=Tryz.underlying4
 a4:=Tryz.isAgg4
 z4:=Tryz.sizeOf4
 v4:=Tryz.zeroValue4
 t23:=Tryz.underlying183
 a23:=Tryz.isAgg183
 z23:=Tryz.sizeOf183
 v23:=Tryz.zeroValue183
 t26:=Tryz.underlying9
 a26:=Tryz.isAgg9
 z26:=Tryz.sizeOf9
 v26:=Tryz.zeroValue9
 t27:=Tryz.underlying185
 a27:=Tryz.isAgg185
 z27:=Tryz.sizeOf185
 v27:=Tryz.zeroValue185
 t28:=Tryz.underlying186
 a28:=Tryz.isAgg186
 z28:=Tryz.sizeOf186
 v28:=Tryz.zeroValue186
 t33:=Tryz.underlying196
 a33:=Tryz.isAgg196
 z33:=Tryz.sizeOf196
 v33:=Tryz.zeroValue196}
def Tryz.vB:Go.Shelf.Ren:=⟨fun|6=>132|8=>162|9=>163|11=>187|13=>189|12=>188|23=>208|24=>209|14=>199|15=>200|16=>201|17=>202|18=>203|19=>204|20=>205|21=>206|22=>207|25=>221|26=>222|27=>223|28=>224|29=>225|30=>186|31=>229|n=>n,fun|26=>9|28=>186|24=>89|0=>0|3=>3|37=>172|48=>154|50=>190|4=>4|40=>238|39=>237|45=>128|5=>5|9=>9|51=>254|55=>258|57=>262|58=>230|33=>196|n=>n,fun|n=>n⟩
theorem Tryz.Sn:Go.Proofs.SlLaysZ.n6 Tryz.prog Tryz.vB:= {
 mixed:=by kernel_rfl
 f6:=⟨Tryz.f132.name,by decide,Tryz.func132.trans (congrArg some (by kernel_rfl))⟩
 f8:=⟨Tryz.f162.name,by decide,Tryz.func162.trans (congrArg some (by kernel_rfl))⟩
 f11:=⟨Tryz.f187.name,by decide,Tryz.func187.trans (congrArg some (by kernel_rfl))⟩
 t0:=Tryz.underlying0
 a0:=Tryz.isAgg0
 z0:=Tryz.sizeOf0
 v0:=Tryz.zeroValue0
 t24:=Tryz.underlying89
 a24:=Tryz.isAgg89
 z24:=Tryz.sizeOf89
 v24:=Tryz.zeroValue89
 t26:=Tryz.underlying9
 a26:=Tryz.isAgg9
 z26:=Tryz.sizeOf9
 v26:=Tryz.zeroValue9
 t28:=Tryz.underlying186
 a28:=Tryz.isAgg186
 z28:=Tryz.sizeOf186
 v28:=Tryz.zeroValue186
 i26:=by kernel_rfl}
def Tryz.KB:Go.Shelf.Ren:=⟨fun|6=>163|8=>189|9=>188|19=>208|20=>209|21=>199|22=>200|23=>201|24=>202|25=>203|26=>204|27=>205|28=>206|29=>207|36=>221|31=>222|32=>223|37=>224|38=>225|39=>186|41=>229|n=>n,fun|27=>89|29=>9|3=>3|32=>172|26=>89|0=>0|44=>154|46=>190|4=>4|36=>238|35=>237|41=>128|5=>5|9=>9|53=>254|57=>258|63=>262|64=>230|n=>n,fun|n=>n⟩
theorem Tryz.QI:Go.Proofs.SlLaysM.n6 Tryz.prog Tryz.KB:= {
 mixed:=by kernel_rfl
 f6:=⟨Tryz.f163.name,by decide,Tryz.func163.trans (congrArg some (by kernel_rfl))⟩
 f8:=Tryz.func189.trans (congrArg some (by kernel_rfl))
 f9:=⟨Tryz.f188.name,by decide,Tryz.func188.trans (congrArg some (by kernel_rfl))⟩
 f19:=Tryz.func208.trans (congrArg some (by kernel_rfl))
 f20:=Tryz.func209.trans (congrArg some (by kernel_rfl))
 f21:=⟨Tryz.f199.name,by decide,Tryz.func199.trans (congrArg some (by kernel_rfl))⟩
 f22:=⟨Tryz.f200.name,by decide,Tryz.func200.trans (congrArg some (by kernel_rfl))⟩
 f23:=⟨Tryz.f201.name,by decide,Tryz.func201.trans (congrArg some (by kernel_rfl))⟩
 f24:=⟨Tryz.f202.name,by decide,Tryz.func202.trans (congrArg some (by kernel_rfl))⟩
 f25:=⟨Tryz.f203.name,by decide,Tryz.func203.trans (congrArg some (by kernel_rfl))⟩
 f26:=⟨Tryz.f204.name,by decide,Tryz.func204.trans (congrArg some (by kernel_rfl))⟩
 f27:=⟨Tryz.f205.name,by decide,Tryz.func205.trans (congrArg some (by kernel_rfl))⟩
 f28:=⟨Tryz.f206.name,by decide,Tryz.func206.trans (congrArg some (by kernel_rfl))⟩
 f29:=⟨Tryz.f207.name,by decide,Tryz.func207.trans (congrArg some (by kernel_rfl))⟩
 f31:=Tryz.func222.trans (congrArg some (by kernel_rfl))
 f32:=Tryz.func223.trans (congrArg some (by kernel_rfl))
 f36:=⟨Tryz.f221.name,by decide,Tryz.func221.trans (congrArg some (by kernel_rfl))⟩
 f37:=⟨Tryz.f224.name,by decide,Tryz.func224.trans (congrArg some (by kernel_rfl))⟩
 f38:=⟨Tryz.f225.name,by decide,Tryz.func225.trans (congrArg some (by kernel_rfl))⟩
 f39:=⟨Tryz.f186.name,by decide,Tryz.func186.trans (congrArg some (by kernel_rfl))⟩
 f41:=⟨Tryz.f229.name,by decide,Tryz.func229.trans (congrArg some (by kernel_rfl))⟩
 t0:=Tryz.underlying0
 a0:=Tryz.isAgg0
 z0:=Tryz.sizeOf0
 v0:=Tryz.zeroValue0
 t3:=Tryz.underlying3
 a3:=Tryz.isAgg3
 z3:=Tryz.sizeOf3
 v3:=Tryz.zeroValue3
 t4:=Tryz.underlying4
 a4:=Tryz.isAgg4
 z4:=Tryz.sizeOf4
 v4:=Tryz.zeroValue4
 t5:=Tryz.underlying5
 a5:=Tryz.isAgg5
 z5:=Tryz.sizeOf5
 v5:=Tryz.zeroValue5
 t9:=Tryz.underlying9
 a9:=Tryz.isAgg9
 z9:=Tryz.sizeOf9
 v9:=Tryz.zeroValue9
 t26:=Tryz.underlying89
 a26:=Tryz.isAgg89
 z26:=Tryz.sizeOf89
 v26:=Tryz.zeroValue89
 t27:=Tryz.underlying89
 a27:=Tryz.isAgg89
 z27:=Tryz.sizeOf89
 v27:=Tryz.zeroValue89
 t29:=Tryz.underlying9
 a29:=Tryz.isAgg9
 z29:=Tryz.sizeOf9
 v29:=Tryz.zeroValue9
 t32:=Tryz.underlying172
 a32:=Tryz.isAgg172
 z32:=Tryz.sizeOf172
 v32:=Tryz.zeroValue172
 t35:=Tryz.underlying237
 a35:=Tryz.isAgg237
 z35:=Tryz.sizeOf237
 v35:=Tryz.zeroValue237
 t36:=Tryz.underlying238
 a36:=Tryz.isAgg238
 z36:=Tryz.sizeOf238
 v36:=Tryz.zeroValue238
 t41:=Tryz.underlying128
 a41:=Tryz.isAgg128
 z41:=Tryz.sizeOf128
 v41:=Tryz.zeroValue128
 t44:=Tryz.underlying154
 a44:=Tryz.isAgg154
 z44:=Tryz.sizeOf154
 v44:=Tryz.zeroValue154
 t46:=Tryz.underlying190
 a46:=Tryz.isAgg190
 z46:=Tryz.sizeOf190
 v46:=Tryz.zeroValue190
 t53:=Tryz.underlying254
 a53:=Tryz.isAgg254
 z53:=Tryz.sizeOf254
 v53:=Tryz.zeroValue254
 t57:=Tryz.underlying258
 a57:=Tryz.isAgg258
 z57:=Tryz.sizeOf258
 v57:=Tryz.zeroValue258
 t63:=Tryz.underlying262
 a63:=Tryz.isAgg262
 z63:=Tryz.sizeOf262
 v63:=Tryz.zeroValue262
 t64:=Tryz.underlying230
 a64:=Tryz.isAgg230
 z64:=Tryz.sizeOf230
 v64:=Tryz.zeroValue230}
def Tryz.Di:Go.Shelf.Ren:=⟨fun|42=>178|n=>n,fun|25=>89|26=>9|4=>4|n=>n,fun|n=>n⟩
theorem Tryz.MD:Go.Proofs.SlLaysN.n42 Tryz.prog Tryz.Di:= {
 mixed:=by kernel_rfl
 f42:=⟨Tryz.f178.name,by decide,Tryz.func178.trans (congrArg some (by kernel_rfl))⟩
 t4:=Tryz.underlying4
 a4:=Tryz.isAgg4
 z4:=Tryz.sizeOf4
 v4:=Tryz.zeroValue4
 t25:=Tryz.underlying89
 a25:=Tryz.isAgg89
 z25:=Tryz.sizeOf89
 v25:=Tryz.zeroValue89
 t26:=Tryz.underlying9
 a26:=Tryz.isAgg9
 z26:=Tryz.sizeOf9
 v26:=Tryz.zeroValue9
 i26:=by kernel_rfl}
def Tryz.Dj:Go.Shelf.Ren:=⟨fun|41=>81|n=>n,fun|22=>77|23=>3|4=>4|n=>n,fun|n=>n⟩
theorem Tryz.ME:Go.Proofs.SlLaysN.n41 Tryz.prog Tryz.Dj:= {
 mixed:=by kernel_rfl
 f41:=⟨Tryz.f81.name,by decide,Tryz.func81.trans (congrArg some (by kernel_rfl))⟩
 t4:=Tryz.underlying4
 a4:=Tryz.isAgg4
 z4:=Tryz.sizeOf4
 v4:=Tryz.zeroValue4
 t22:=Tryz.underlying77
 a22:=Tryz.isAgg77
 z22:=Tryz.sizeOf77
 v22:=Tryz.zeroValue77
 t23:=Tryz.underlying3
 a23:=Tryz.isAgg3
 z23:=Tryz.sizeOf3
 v23:=Tryz.zeroValue3
 i23:=by kernel_rfl}
def Tryz.MF:Go.Shelf.Ren:=⟨fun|6=>179|15=>189|14=>195|28=>208|29=>209|20=>210|21=>211|22=>212|23=>213|24=>214|25=>215|26=>216|27=>217|46=>226|47=>222|48=>223|49=>227|50=>228|57=>230|n=>n,fun|22=>89|24=>9|25=>209|3=>3|39=>172|0=>0|53=>154|55=>190|4=>4|46=>238|45=>237|50=>128|5=>5|9=>9|66=>254|70=>258|76=>262|77=>230|n=>n,fun|n=>n⟩
theorem Tryz.aln:Go.Proofs.SlLaysF.n6 Tryz.prog Tryz.MF:= {
 mixed:=by kernel_rfl
 f6:=⟨Tryz.f179.name,by decide,Tryz.func179.trans (congrArg some (by kernel_rfl))⟩
 f14:=⟨Tryz.f195.name,by decide,Tryz.func195.trans (congrArg some (by kernel_rfl))⟩
 f15:=Tryz.func189.trans (congrArg some (by kernel_rfl))
 f20:=⟨Tryz.f210.name,by decide,Tryz.func210.trans (congrArg some (by kernel_rfl))⟩
 f21:=⟨Tryz.f211.name,by decide,Tryz.func211.trans (congrArg some (by kernel_rfl))⟩
 f22:=⟨Tryz.f212.name,by decide,Tryz.func212.trans (congrArg some (by kernel_rfl))⟩
 f23:=⟨Tryz.f213.name,by decide,Tryz.func213.trans (congrArg some (by kernel_rfl))⟩
 f24:=⟨Tryz.f214.name,by decide,Tryz.func214.trans (congrArg some (by kernel_rfl))⟩
 f25:=⟨Tryz.f215.name,by decide,Tryz.func215.trans (congrArg some (by kernel_rfl))⟩
 f26:=⟨Tryz.f216.name,by decide,Tryz.func216.trans (congrArg some (by kernel_rfl))⟩
 f27:=⟨Tryz.f217.name,by decide,Tryz.func217.trans (congrArg some (by kernel_rfl))⟩
 f28:=Tryz.func208.trans (congrArg some (by kernel_rfl))
 f29:=Tryz.func209.trans (congrArg some (by kernel_rfl))
 f46:=⟨Tryz.f226.name,by decide,Tryz.func226.trans (congrArg some (by kernel_rfl))⟩
 f47:=Tryz.func222.trans (congrArg some (by kernel_rfl))
 f48:=Tryz.func223.trans (congrArg some (by kernel_rfl))
 f49:=⟨Tryz.f227.name,by decide,Tryz.func227.trans (congrArg some (by kernel_rfl))⟩
 f50:=⟨Tryz.f228.name,by decide,Tryz.func228.trans (congrArg some (by kernel_rfl))⟩
 f57:=⟨Tryz.f230.name,by decide,Tryz.func230.trans (congrArg some (by kernel_rfl))⟩
 t0:=Tryz.underlying0
 a0:=Tryz.isAgg0
 z0:=Tryz.sizeOf0
 v0:=Tryz.zeroValue0
 t3:=Tryz.underlying3
 a3:=Tryz.isAgg3
 z3:=Tryz.sizeOf3
 v3:=Tryz.zeroValue3
 t4:=Tryz.underlying4
 a4:=Tryz.isAgg4
 z4:=Tryz.sizeOf4
 v4:=Tryz.zeroValue4
 t5:=Tryz.underlying5
 a5:=Tryz.isAgg5
 z5:=Tryz.sizeOf5
 v5:=Tryz.zeroValue5
 t9:=Tryz.underlying9
 a9:=Tryz.isAgg9
 z9:=Tryz.sizeOf9
 v9:=Tryz.zeroValue9
 t22:=Tryz.underlying89
 a22:=Tryz.isAgg89
 z22:=Tryz.sizeOf89
 v22:=Tryz.zeroValue89
 a24:=Tryz.isAgg9
 z24:=Tryz.sizeOf9
 t25:=Tryz.underlying209
 a25:=Tryz.isAgg209
 z25:=Tryz.sizeOf209
 v25:=Tryz.zeroValue209
 t39:=Tryz.underlying172
 a39:=Tryz.isAgg172
 z39:=Tryz.sizeOf172
 v39:=Tryz.zeroValue172
 t45:=Tryz.underlying237
 a45:=Tryz.isAgg237
 z45:=Tryz.sizeOf237
 v45:=Tryz.zeroValue237
 t46:=Tryz.underlying238
 a46:=Tryz.isAgg238
 z46:=Tryz.sizeOf238
 v46:=Tryz.zeroValue238
 t50:=Tryz.underlying128
 a50:=Tryz.isAgg128
 z50:=Tryz.sizeOf128
 v50:=Tryz.zeroValue128
 t53:=Tryz.underlying154
 a53:=Tryz.isAgg154
 z53:=Tryz.sizeOf154
 v53:=Tryz.zeroValue154
 t55:=Tryz.underlying190
 a55:=Tryz.isAgg190
 z55:=Tryz.sizeOf190
 v55:=Tryz.zeroValue190
 t66:=Tryz.underlying254
 a66:=Tryz.isAgg254
 z66:=Tryz.sizeOf254
 v66:=Tryz.zeroValue254
 t70:=Tryz.underlying258
 a70:=Tryz.isAgg258
 z70:=Tryz.sizeOf258
 v70:=Tryz.zeroValue258
 t76:=Tryz.underlying262
 a76:=Tryz.isAgg262
 z76:=Tryz.sizeOf262
 v76:=Tryz.zeroValue262
 t77:=Tryz.underlying230
 a77:=Tryz.isAgg230
 z77:=Tryz.sizeOf230
 v77:=Tryz.zeroValue230}
end Go.Proofs

end
section
namespace Go.Proofs
open Go.RowKit Go.Maps Go.Sort Go.Shelf
theorem Tryz.ý(m:Nat):AnyZ.SortsIn Tryz.prog Tryz.vB Fence.wide m:=
 ⟨fun nk off cap ss W hH hblk cz=>callsIn_wide.2 (AnyM.slices_Sort_string Tryz.QI nk off cap ss W hH hblk cz),
  fun p cap W=>callsIn_wide.2 (AnyM.slices_Sort_string_none Tryz.QI p cap W)⟩
theorem Tryz.ED(mb:Option Nat)(W:World):CallsIn Fence.wide 5 Tryz.prog 133 #[.map mb] W fun e w'=>e= .returned (.func (.func 164) #[] #[.pointer (some ⟨W.heap.size,0,none⟩)])∧w'=W.alloc (.cells #[.map mb] 183):=
 AnyZ.keys_in Tryz.QH Fence.wide 5 trivial rfl mb W
set_option maxHeartbeats 1000000 in
theorem Tryz.oL {H:Type}(b nn:Nat)(D0:DataW H)(R:Value→Option (DataW H×List MemPlace))(w:World)(fj:w.ownsMap Tryz.prog 9 R b nn D0)(IN:Maps.size D0≤maxLen)(tZ:Maps.size D0*16≤140737488355328):
  CallsIn Fence.wide 5 Tryz.prog 132 #[.func (.func 164) #[] #[.pointer (some ⟨w.heap.size,0,none⟩)]] (w.alloc (.cells #[.map (some b)] 183)) fun e w'=>∃(v:Value) (ss:List (List UInt8)),e= .returned v∧ss.Perm (strKeys D0)∧
   w'.ownsRow (w.alloc (.cells #[.map (some b)] 183)).heap.size 9 1 v ss.length ((ss.mergeSort (fun x y=>decide (x≤y))).map encStr)∧(v= .slice none 0 0↔ss= [])∧Below (w.alloc (.cells #[.map (some b)] 183)).heap.size (w.alloc (.cells #[.map (some b)] 183)) w':=by
 have tp:=fj.lt
 have aoZ:SeqGives Fence.wide 2 Tryz.prog 164 #[.pointer (some ⟨w.heap.size,0,none⟩)] encStr (fun ss=>ss.Perm (strKeys D0)) (Maps.size D0) (w.alloc (.cells #[.map (some b)] 183)):=
  AnyZ.keys_gives (ρ:=Tryz.zX) {Tryz.QH with} Fence.wide _ trivial rfl (by omega) w.heap.size b nn D0 _ (by simp) (by simp) (by
   obtain⟨es,clock,hb,Ft,hs,hD⟩:=fj
   exact⟨es,clock,(Below.heap_alloc _ _ b tp).trans hb,Ft,hs,hD⟩)
 exact AnyZ.sorted_in Tryz.Sn Fence.wide 5 trivial trivial trivial trivial rfl (by omega) (Tryz.ý _) (enters_of Tryz.func163 (by kernel_rfl) rfl) 164 #[.pointer (some ⟨w.heap.size,0,none⟩)] trivial (enters_of Tryz.func164 (by kernel_rfl) rfl) _ _ IN tZ _ aoZ
end Go.Proofs

end
section
namespace Go.Proofs
open Go.Shelf Go.RowKit Go.Lib Go.Sort
theorem acI {x y:List UInt8}(h:Op.bytesLess x y=true):S.fA x y= -1:=by unfold S.fA;rw [if_pos h]
theorem acJ {x y:List UInt8}(h:Op.bytesLess x y=false)(h2:(!x==y)=true):S.fA x y=1:=by
 have dp:x≠y:=by simpa using h2
 unfold S.fA
 rw [h]
 rcases S.fX x y with t|t|t
 · rw [t] at h;cases h
 · exact absurd t dp
 · rw [t];rfl
theorem acK {x y:List UInt8}(h:Op.bytesLess x y=false)(h2:(!x==y)=false):S.fA x y=0:=by
 have he:x=y:=by simpa using h2
 subst he
 unfold S.fA
 rw [h];rfl
theorem Tryz.MG(x:ByteArray)(w:World):Calls Tryz.prog 186 #[.string x] w fun e w'=>e= .returned (.bool false)∧w'=w:=by
 go_enter Tryz.func186,Tryz.ntmps186
 go_wp2
 go_ret
 exact⟨by simp,rfl⟩
set_option maxHeartbeats 1000000 in
theorem Tryz.Iy(x y:List UInt8)(w:World):Calls Tryz.prog 161 #[Vg.encS x,Vg.encS y] w fun e w'=>e= .returned (.int .i64 (S.fA x y))∧w'=w:=by
 unfold Vg.encS
 go_enter Tryz.func161,Tryz.ntmps161
 go_wp2_with (go_at_call 186;refine(Tryz.MG _ _).mono ?_;rintro e w' ⟨rfl,rfl⟩)
 all_goals go_ret
 all_goals refine⟨?_,rfl⟩
 all_goals first
  |(rw [acI (by assumption)];rfl)
  |(rw [acJ (by assumption) (by assumption)];rfl)
  |(rw [acK (by assumption) (by assumption)];rfl)
theorem Tryz.acM {G:Nat→Option Vg.GD} {F:Vg.Row (Vg.TA.eI [.own 50000, .fn (.func 161) [] []])→Vg.fJ [.row 9 [.str]]→Vg.fe}
  (hF:∀l:List (List UInt8),F () (l,())= {pre:=l.length≤1099511627776,res:= .dc [],heap:= [some (.row 9 [.str] (S.fB l) false)],new:= []}):
  Vg.ca Tryz.prog G 179 (Vg.gp [.own 50000, .fn (.func 161) [] []] [.row 9 [.str]] F):=
 Vg.Am Tryz.aln (enters_of Tryz.func161 (by kernel_rfl) rfl) Tryz.Iy hF
end Go.Proofs

end
section
namespace Go.DM
open Go Go.Vg Go.Maps Go.RowKit Go.ChangeShapes
section
variable {H:Type}
def items:DataW H→List Int
 | .slice ls _=>ls.filterMap fun d=>match d with| .lit (.int _ z)=>some z|_=>none
 |_=> []
theorem KC(zs:List Int):items (H:=H) (.slice (lits .i64 zs) [])=zs:=by
 induction zs with
 |nil=>rfl
 |cons z zs ih=>
  simp only [items,lits,List.map_cons,List.filterMap_cons] at ih ⊢
  rw [ih]
theorem wA {w:World} {base:Nat} {e:TypeId} {v:Value} {zs:List Int}(h:w.ownsInts base e .i64 v zs):items (H:=H) (rowDatum .i64 v zs)=zs:=by
 rcases h.datum (H:=H) with⟨h1,h2⟩|h1
 · rw [h1,h2];rfl
 · rw [h1];exact KC zs
def Repr(D:DataW H)(m:List UInt8→List Int):Prop :=IsMap D∧∀s,items (D.atKey (.string s) .nil)=m s∧(has D (.string s)=true↔m s≠ [])
theorem Repr.empty:Repr (H:=H) (.map []) (fun _=> []):=⟨isMap_empty,fun s=>⟨rfl,by simp [has]⟩⟩
theorem Repr.ext {D:DataW H} {m m':List UInt8→List Int}(h:Repr D m)(e:∀s,m s=m' s):Repr D m':=by
 rw [←funext e];exact h
theorem Repr.put {D:DataW H} {m m':List UInt8→List Int}(h:Repr D m) {t:List UInt8} {w:World} {base:Nat} {e:TypeId} {v:Value} {zs:List Int}(ho:w.ownsInts base e .i64 v zs)(hz:zs≠ [])
  (h1:m' t=zs) (h2:∀s,s≠t→m' s=m s):Repr (D.put (.string t) (rowDatum .i64 v zs)) m':=by
 refine⟨h.1.put _ _,fun s=> ?_⟩
 by_cases hs:s=t
 · subst hs
   refine⟨?_,?_⟩
   · rw [atKey_put_same h.1 (by trivial),wA ho,h1]
   · rw [has_put_same h.1 (by trivial),h1];simp [hz]
 · have dp:Lit.string s≠Lit.string t:=fun hh=>hs (by injection hh)
   rw [atKey_put_other dp,has_put_other dp,h2 s hs]
   exact h.2 s
theorem þ {w:World} {Q:Nat→Prop} {base:Nat} {e:TypeId} {v:Value} {zs:List Int}(h:w.ownsInts base e .i64 v zs)(hq:∀g,v.ownBlock=some g→Q g):Rd w Q (.slice [.int .i64]) v zs:=by
 obtain⟨ho,hw⟩:=h
 have hz:∀z∈zs,lo .i64≤z∧z≤hi .i64:=fun z hz=>by
  have :=hw z hz
  simp [Lit.wf,IntKind.min,IntKind.max,IntKind.signed,IntKind.bits] at this
  simp only [lo,hi];omega
 simp only [Rd]
 rcases ho.2 with⟨rfl,h0⟩|⟨g,cap,cur,rfl,hg,hh,hn,hc,cz,IU⟩
 · have :zs= []:=List.length_eq_zero_iff.1 h0
   subst this
   exact⟨none,0,[],rfl,Nat.le_refl _,Nat.zero_le _,rfl,fun h=>absurd rfl h⟩
 · refine⟨some ⟨g,0,none⟩,cap,zs.map (Value.int .i64),rfl,hn,hc,y9 zs hz,fun _=>⟨g,0,rfl,hq g rfl,fun j v hj=> ?_⟩⟩
   have :=ho.cells (g:=g) rfl j v hj
   rwa [Addr.add_mid] at this
end
end Go.DM
namespace Go.DM
open Go Go.Vg Go.Maps Go.RowKit Go.ChangeShapes
section
variable {H:Type} {P:Program}
theorem yc(w:World)(c:Array Value)(e:TypeId)(o:Obj)(j:Nat):((w.alloc (.cells c e)).alloc o).cell? ⟨w.heap.size,j,none⟩=c[j]? :=by
 have h1:((w.alloc (.cells c e)).alloc o).heap[w.heap.size]? =some (.cells c e (0,0)):=by
  rw [((World.grownBy_alloc (w.alloc (.cells c e)) o none).block w.heap.size (by simp) (by simp))]
  exact(MapKept.heap_alloc w _).1
 simp [World.cell?,h1]
theorem zc {w:World} {base:Nat} {e:TypeId} {size:Nat} {v:Value} {n:Nat} {xs:List Value}(h:w.ownsRow base e size v n xs):∃av cp,v= .slice av n cp∧(0<n→∃g,av=some ⟨g,0,none⟩∧base≤g∧g<w.heap.size):=by
 have hl:=h.lt
 rcases h.2 with⟨rfl,h0⟩|⟨g,cap,cur,rfl,hg,_⟩
 · exact⟨none,0,by rw [h0],fun h=>by omega⟩
 · exact⟨_,cap,rfl,fun _=>⟨g,rfl,hl g rfl⟩⟩
theorem rT {w w':World}(h:Below w.heap.size w w'):w.grownBy w' none:=⟨h.os,h.tape,h.output,h.size,fun i hi _=>h.block i hi⟩
theorem pW {w w':World} {k:TypeId} {base:Nat} {e:TypeId} {q:IntKind} {b n:Nat} {D:DataW H}(h:w.ownsGroups P k base e q b n D)(hb:Below w.heap.size w w'):w'.ownsGroups P k base e q b n D:=
 h.kept (rT hb) (by simp) (fun es clock _ x _=>by cases x.val.ownBlock<;>simp)
theorem MH {w:World} {k:TypeId} {base:Nat} {e:TypeId} {q:IntKind} {b n:Nat} {D:DataW H}(h:w.ownsGroups P k base e q b n D):b<w.heap.size:=by
 obtain⟨es,clock,hb,_⟩:=h
 exact(Array.getElem?_eq_some_iff.1 hb).1
theorem Dk {w w':World} {k:TypeId} {base:Nat} {e:TypeId} {q:IntKind} {b n:Nat} {D:DataW H}(h:w.ownsGroups P k base e q b n D)(hb:Below w.heap.size w w') {No:Nat→Prop}(hn:∀g,No g→w.heap.size≤g):w'.Shuns b No:=by
 have h1:w.Shuns b (fun _=>False):=fun _ _ _ _ _ _ _ hf=>hf
 exact(h1.reno (No':=No) h (fun g hg=> .inr (hn g hg))).kept (rT hb) (MH h) (by simp)
theorem FH {w:World} {base:Nat} {e:TypeId} {g cp:Nat} {n:Nat} {l:List (List UInt8)}(h:w.ownsRow base e 1 (.slice (some ⟨g,0,none⟩) n cp) n (l.map encS)) {j:Nat}(hj:j<l.length):w.cell? ⟨g,0+j,none⟩=some (encS (l.getD j [])):=by
 have :=h.cells (g:=g) rfl j (encS (l.getD j [])) (by rw [List.getElem?_map,List.getElem?_eq_getElem hj,List.getD_eq_getElem?_getD,List.getElem?_eq_getElem hj];rfl)
 rwa [Addr.add_mid] at this
end
end Go.DM
namespace Go.DM
open Go Go.Vg Go.Maps Go.RowKit Go.ChangeShapes
section
variable {H:Type} {P:Program}
theorem KD {w w':World} {row:Option Nat}(h:w.grownBy w' row) {a:Addr} {v:Value}(hl:a.block<w.heap.size)(hn:some a.block≠row)(hc:w.cell? a=some v):w'.cell? a=some v:=
 (World.cell?_of_block (h.block _ hl hn)).trans hc
theorem KE {k:TypeId}(hk:P.underlying k=some .string) {s:List UInt8}(h:s.length≤maxLen):keyOf P k (.string ⟨s.toArray⟩)=some (.string s):=by
 have :=Go.WideMaps.keyOf_string_mk (P:=P) (k:=k) (s:=⟨s.toArray⟩) hk (by simpa [ByteArray.size] using h)
 simpa using this
theorem acN {wr:World} {b g:Nat} {v v':Value} {o:Obj} {n cp:Nat}(Eg:∀No:Nat→Prop,wr.Shuns b No→∀g,v.ownBlock=some g→¬No g)(hs:wr.Shuns b (fun g'=>(Value.slice (some ⟨g,0,none⟩) n cp).ownBlock=some g'))
  (sO:v'.ownBlock=v.ownBlock∨v'.ownBlock=some (wr.alloc o).heap.size) (hg:g<wr.heap.size):∀g',v'.ownBlock=some g'→¬((Value.slice (some ⟨g,0,none⟩) n cp).ownBlock=some g'):=fun g' uG hh=>by
 rcases sO with h|h
 · rw [h] at uG
   exact Eg _ hs g' uG hh
 · rw [h] at uG
   simp only [Value.ownBlock,Option.some.injEq] at uG hh
   simp at uG
   omega
end
end Go.DM
namespace Go.DM
open Go Go.Vg Go.Maps Go.RowKit Go.ChangeShapes
section
variable {H:Type} {P:Program}
theorem Dl {w:World} {k:TypeId} {base:Nat} {e:TypeId} {q:IntKind} {b n:Nat} {D:DataW H}(h:w.ownsGroups P k base e q b n D):w.ownsMap P k (rowElem w base e q) b n D:=by
 obtain⟨es,clock,hb,F,hs,hD,_⟩:=h
 exact⟨es,clock,hb,F,hs,hD⟩
theorem zd {w:World} {k:TypeId} {R:Value→Option (DataW H×List MemPlace)} {b n:Nat} {D:DataW H}(h:w.ownsMap P k R b n D):Maps.size D≤n:=by
 obtain⟨es,clock,hb,F,hs,rfl⟩:=h
 rw [size_eq,length_sorted]
 simpa using hs
theorem MI(docs:List (List UInt8))(a b:Int)(x:List UInt8):x∈S.bP docs a b↔S.rA docs a (b-a).toNat 0 x≠ []:=by
 unfold S.bP
 rw [S.fk,S.wu]
 simp [S.rA]
theorem Sq {w:World} {R:Value→Option (DataW H×List MemPlace)} {k:TypeId} {b n:Nat} {D:DataW H}(h:w.ownsMap P k R b n D)(K:Keyed P k)(hk:P.underlying k=some .string) {docs:List (List UInt8)} {f t:Int}
  (hr:Repr D (S.rA docs f (t-f).toNat 0)) {ss:List (List UInt8)} (hs:ss.Perm (strKeys D)):ss.mergeSort (fun x y=>decide (x≤y))=S.bP docs f t∧ss.length=(S.bP docs f t).length∧(∀s∈S.bP docs f t,s.length≤maxLen)∧(S.bP docs f t).length≤n:=by
 obtain⟨es,hD,hpw,_⟩:=h.entries K
 obtain⟨es',hD',hko⟩:=h.keysOf
 have hle:=strKeys_le h hk
 have cz:=zd h
 obtain rfl :es=es':=by rw [hD] at hD';simpa using hD'
 subst hD
 have hi:S.lp (S.bP docs f t):=S.jt _
 have la:=perm_strKeys hpw (fun p hp=>by obtain⟨v,hv⟩:=hko p hp;obtain⟨x,_,hx,_⟩:=Maps.keyOf_str hk hv;exact⟨x,hx⟩) (S.tA hi) (fun x=>by rw [MI,(hr.2 x).2])
 have EB:=hs.trans la.symm
 have hlen:(S.bP docs f t).length≤n:=by
  rw [la.length_eq]
  simpa [strKeys,size_eq] using cz
 refine⟨?_,EB.length_eq,fun s gg=>hle s (la.subset gg),hlen⟩
 have e1:ss.mergeSort leB=(S.bP docs f t).mergeSort leB:=mergeSort_of_perm EB
 have e2:(S.bP docs f t).mergeSort leB=S.bP docs f t:=by
  refine List.mergeSort_of_pairwise (hi.imp fun {a b} eV=> ?_)
  rw [Go.Proofs.bytesLess_eq] at eV
  simp only [leB,decide_eq_true_eq] at eV ⊢
  exact List.le_of_lt eV
 exact e1.trans e2
end
end Go.DM
namespace Go.DM
open Go Go.Vg Go.Maps Go.RowKit Go.ChangeShapes
section
variable {H:Type} {P:Program}
theorem Bq {w:World} {base:Nat} {e:TypeId} {q:IntKind} {v:Value} {zs:List Int}(h:w.ownsInts base e q v zs):v.oneCell'=true :=by
 rcases h.1.2 with⟨rfl,_⟩|⟨g,cap,cur,rfl,_⟩<;>rfl
theorem Sr {w:World} {Q:Nat→Prop} {s:List UInt8} {v:Value} {zs:List Int}(hs:s.length≤maxLen)(hv:Rd w Q (.slice [.int .i64]) v zs):bg w Q [.str, .slice [.int .i64]] [.string ⟨s.toArray⟩,v] (s,zs):=by
 simp only [bg]
 refine⟨_,[v],rfl,?_,v,[],rfl,hv,rfl⟩
 simp only [Rd]
 exact⟨rfl,hs⟩
theorem FI {α:Type} {R:List Value→α→Prop}:∀(l:List α) (cs:List Value) (c:List Value) (x:α),bW R cs l→R c x→bW R (cs++c) (l++ [x])
 | [],cs,c,x,h,hx=>by
   simp only [bW] at h
   subst h
   exact⟨c,[],by simp,hx,rfl⟩
 |y::l,cs,c,x,⟨c1,c2,hc,h1,h2⟩,hx=>by
  subst hc
  exact⟨c1,c2++c,by simp,h1,FI l c2 c x h2 hx⟩
theorem ÿ {w w':World} {base:Nat} {e:TypeId} {v:Value} {zs:List Int} {Q:Nat→Prop}(h:w'.ownsInts base e .i64 v zs)(hb:Below w.heap.size w w')(hl:∀g,v.ownBlock=some g→g<w.heap.size)(hq:∀g,base≤g→g<w.heap.size→Q g):Rd w Q (.slice [.int .i64]) v zs:=by
 have h':w.ownsInts base e .i64 v zs:=by
  refine⟨⟨h.1.1,?_⟩,h.2⟩
  rcases h.1.2 with hn|⟨g,cap,cur,rfl,hg,hh,rest⟩
  · exact .inl hn
  · exact .inr ⟨g,cap,cur,rfl,hg,(hb.block g (hl g rfl)).symm.trans hh,rest⟩
 exact þ h' (fun g hg=>hq g (h'.1.lt g hg).1 (hl g hg))
theorem Iz(w:World)(a b:Value)(t:TypeId):∀j u,[a,b][j]? =some u→(w.alloc (.cells #[a,b] t)).cell? ((⟨w.heap.size,0,none⟩:Addr).add j)=some u:=by
 intro j u hj
 rw [Addr.add_mid,Nat.zero_add]
 have h1:(w.alloc (.cells #[a,b] t)).heap[w.heap.size]? =some (.cells #[a,b] t (0,0)):=(MapKept.heap_alloc w _).1
 simp only [World.cell?,h1]
 simpa using hj
end
end Go.DM

end
section
namespace Go.Proofs
open Go Go.Vg Go.Maps Go.RowKit Go.ChangeShapes Go.DM Go.WideMaps
theorem Tryz.QJ:Keyed Tryz.prog 9:=string_keyed Tryz.underlying9
theorem Tryz.alo:(Tryz.prog.info? 3).map (fun i=>(i.zero,i.size,i.bytes))=some (some (.int .i64 0),1,8):=by kernel_rfl
theorem Tryz.acO:(Tryz.prog.info? 132).map (fun i=>(i.zero,i.size,i.bytes))=some (some (.agg #[.string ⟨#[]⟩, .slice none 0 0]),2,40):=by kernel_rfl
theorem Tryz.QK(w:World):(zeroValue 77).run Tryz.prog w= .ok (.slice none 0 0) w:=by kernel_rfl
theorem Tryz.Ā(mb:Option Nat)(W:World):Calls Tryz.prog 133 #[.map mb] W fun e w'=>e= .returned (.func (.func 164) #[] #[.pointer (some ⟨W.heap.size,0,none⟩)])∧w'=W.alloc (.cells #[.map mb] 183):=callsIn_wide.1 (Tryz.ED mb W)
set_option maxRecDepth 100000 in
set_option maxHeartbeats 4000000 in
theorem Tryz.MJ {H:Type}(docs:List (List UInt8))(f t:Int)(da:Option Addr)(cap:Nat)(w:World)
  (hp:S.ec docs f t) (h4:∀j,(docs.getD j []).length≤2000) (dv:Nat→Value)
  (hd:∀j,j<docs.length→∃b o aj cj,da=some ⟨b,o,none⟩∧b<w.heap.size∧w.cell? ⟨b,o+j,none⟩=some (dv j)∧dv j= .slice aj (docs.getD j []).length cj)
  (uV:∀(j:Nat) (W:World),j<docs.length→Below w.heap.size w W→Calls Tryz.prog 131 #[dv j] W fun e w'=>∃v,e= .returned v∧w'.ownsRow W.heap.size 9 1 v (S.aaf docs 0 j).length ((S.aaf docs 0 j).map encS)∧Below W.heap.size W w')
  (IA:∀(j:Nat),∀s∈S.aaf docs 0 j,s.length≤maxLen):
  Calls Tryz.prog 96 #[.slice da docs.length cap, .agg #[.int .i64 f, .int .i64 t]] w fun e w'=>∃v xs W1,e= .returned (.tuple #[v, .int .i64 0])∧Below w.heap.size w w'∧Below W1.heap.size W1 w'∧w.heap.size≤W1.heap.size∧
   w'.ownsRow W1.heap.size 132 2 v (S.make docs f t).length xs∧bW (bg W1 (fun b=>w.heap.size≤b∧b<W1.heap.size) [.str, .slice [.int .i64]]) xs (S.make docs f t):=by
 have hmm:= @run_makeMap Tryz.prog
 have h0:0≤f:=hp.1
 have h1:f≤t:=hp.2.1
 have h2:t≤docs.length:=hp.2.2.1
 have h3:docs.length≤1000:=hp.2.2.2.1
 obtain⟨i0,hi,hz0,Ē,hz2⟩:=info_parts Tryz.alo
 obtain⟨i1,hi1,hy0,hy1,hy2⟩:=info_parts Tryz.acO
 go_enter Tryz.func96,Tryz.ntmps96
 go_wp2
 go_loopw [39] (fun i wr=>∃k:Nat,k≤docs.length∧i= .int .i64 k∧wr=w.alloc (.cells #[.int .i64 f, .int .i64 t] 40))
  (fun i _=>docs.length-(intOf i).toNat)
 case atStart=>exact⟨0,Nat.zero_le _,rfl,rfl⟩
 case round=>
  obtain⟨k,hk,rfl,rfl⟩:=hrel
  by_cases dX:k<docs.length
  · obtain⟨b,o,aj,cj,rfl,hb,hc,hv⟩:=hd k dX
    rw [hv] at hc
    have hl:=h4 k
    generalize (docs.getD k []).length=n at hc hl
    have mL:(w.alloc (.cells #[.int .i64 f, .int .i64 t] 40)).cell? ⟨b,o+k,none⟩=some (.slice aj n cj):=by
     rw [←hc];exact World.cell?_of_block ((World.grownBy_alloc w _ none).block b hb (by simp))
    clear hd uV
    go_wp2
    go_roundw
    case rel=>exact⟨k+1,by omega,by go_num,by first|rfl|trivial⟩
    case measure=>simp [intOf];omega
  · have :k=docs.length:=by omega
    subst this
    clear dX
    go_wp2
    go_loopw [9] (fun i wr=>∃k:Nat,i= .int .i64 (f+k)∧f+k≤t∧∃(m:Nat) (D:DataW H),m≤4000*k∧wr.ownsGroups Tryz.prog 9 (w.heap.size+2) 3 .i64 (w.heap.size+1) m D∧Repr D (S.rA docs f k 0)∧
      Below w.heap.size w wr∧wr.cell? ⟨w.heap.size,1,none⟩=some (.int .i64 t)∧w.heap.size+2≤wr.heap.size)
     (fun i _=>(t-intOf i).toNat)
    case atStart=>
     have cz:(w.alloc (.cells #[.int .i64 f, .int .i64 t] 40)).heap.size=w.heap.size+1:=by simp
     have hg:=World.ownsGroups_made (H:=H) (w.alloc (.cells #[.int .i64 f, .int .i64 t] 40)) Tryz.prog 9 3 .i64
     rw [cz] at hg
     refine⟨0,by simp,by simpa using h1,0,_,Nat.le_refl _,hg,Repr.empty.ext (fun s=>(S.af7 docs f s).symm),((Below.refl _ _).alloc (Nat.le_refl _) _).alloc (by simp) _,?_,by simp⟩
     rw [yc];rfl
    case round=>
     obtain⟨k,rfl,hk,m,D,hm,fj,ā,hnx,ao1,hws⟩:=hrel
     by_cases dX:f+k<t
     · obtain⟨n,hn⟩:∃n:Nat,f+(k:Int)=n:=⟨(f+k).toNat,by omega⟩
       have SP:n<docs.length:=by omega
       obtain⟨b,o,aj,cj,rfl,hb,hc,hv⟩:=hd n SP
       have hs:=uV n wr SP hnx
       rw [hv] at hs hc
       have mL:wr.cell? ⟨b,o+n,none⟩=some (.slice aj (docs.getD n []).length cj):=(hnx.cell (by exact hb)).trans hc
       have eL:S.aaf docs 0 n=S.aaf docs f k:=by unfold S.aaf;rw [hn];simp
       rw [eL] at hs
       have AK:=IA n
       rw [eL] at AK
       obtain⟨IC,rfl⟩:∃x,x=wr:=⟨wr,rfl⟩
       have hL:(S.aaf docs f k).length≤4000:=by unfold S.aaf;exact S.tx hp _
       simp only [hn] at hk ⊢
       generalize (docs.getD n []).length=dl at mL hs
       clear hd uV hc hv
       go_wp2_with (first
        |(go_at_call 131;refine hs.mono ?_;rintro e w1 ⟨vs,rfl,jx,LB⟩;obtain⟨av,cp,rfl,Hm⟩:=zc jx)
        |go_in)
       have alp:=pW fj LB
       have ao2:w1.Shuns (w.heap.size+1) (fun g=>(Value.slice av (S.aaf docs f k).length cp).ownBlock=some g):=Dk fj LB (fun g hg=>(jx.lt g hg).1)
       have ao3:Below w.heap.size w w1:=hnx.trans (LB.mono (by omega))
       have alq:w1.cell? ⟨w.heap.size,1,none⟩=some (.int .i64 t):=(LB.cell (by show w.heap.size<IC.heap.size;omega)).trans ao1
       have ao4:IC.heap.size≤w1.heap.size:=LB.size
       clear hs LB mL
       go_loopw [62] (fun i wq=>∃j:Nat,i= .int .i64 j∧j≤(S.aaf docs f k).length∧∃(m2:Nat) (D2:DataW H),m2≤m+j∧wq.ownsGroups Tryz.prog 9 (w.heap.size+2) 3 .i64 (w.heap.size+1) m2 D2∧Repr D2 (S.rA docs f k j)∧
         wq.Shuns (w.heap.size+1) (fun g=>(Value.slice av (S.aaf docs f k).length cp).ownBlock=some g)∧Below w.heap.size w wq∧wq.cell? ⟨w.heap.size,1,none⟩=some (.int .i64 t)∧
         wq.ownsRow IC.heap.size 9 1 (.slice av (S.aaf docs f k).length cp) (S.aaf docs f k).length ((S.aaf docs f k).map encS)∧IC.heap.size≤wq.heap.size)
        (fun i _=>(S.aaf docs f k).length-(intOf i).toNat)
       case atStart=>exact⟨0,rfl,Nat.zero_le _,m,D,by omega,alp,ā,ao2,ao3,alq,jx,ao4⟩
       case round=>
        obtain⟨j,rfl,hj,m2,D2,ī,MM,ID,Ă,ă,Ą,MN,hwq⟩:=hrel
        by_cases rX:j<(S.aaf docs f k).length
        · obtain⟨g,rfl,hg1,ģ⟩:=Hm (by omega)
          have kN:=FH MN rX
          rw [Nat.zero_add] at kN
          have FJ:=KE (P:=Tryz.prog) Tryz.underlying9 (AK _ (S.bQ _ j [] rX))
          have ae3:=S.T9 (docs:=docs) (a:=f) (k:=k) rX
          have ą:=fun s=>S.R1 (docs:=docs) (a:=f) (k:=k) (j:=j) rX (s:=s)
          have alr:=S.Ua docs f k j ((S.aaf docs f k).getD j [])
          unfold Vg.encS at kN
          generalize (S.aaf docs f k).getD j []=sj at kN FJ ae3 ą alr
          have ao5:g<wr.heap.size:=(MN.lt g rfl).2
          have QL:m2<maxLen:=by unfold maxLen;omega
          clear IA AK Hm
          go_wp2_with (first
           |(at_lookup;refine wpList_lookup_groups_shuns _ rfl _ _ 183 rfl 9 77 3 .i64 Tryz.QJ Tryz.underlying183 (Tryz.QK _) (w.heap.size+2) (w.heap.size+1) m2 _ rfl MM QL _ _ rfl FJ ?_;intro v zs Rj v8 Lf Ć Eg)
           |(at_builtin;refine wpList_append_own_at _ rfl _ _ 77 rfl (w.heap.size+2) 3 i0 (.int .i64 0) 1 8 Tryz.underlying77 hi hz0 Ē hz2 rfl (by decide) _ _ _ rfl (v8.1.alloc _) ⟨wr.heap.size,0,none⟩ 1 1 [.int .i64 n] rfl rfl (cell_one_new _ _ _) (ints_oneCell .i64 [(n:Int)]) (by unfold maxLen;omega) (by omega) (by simp;omega) ?_;intro v' w3 ć IE IZ sO)
           |(at_mapUpdate;have vJ:=acN Eg Ă sO ao5;refine wpList_mapUpdate_back_shuns _ rfl _ _ _ 183 rfl Tryz.QJ Tryz.underlying183 FJ MM QL v8 Ă vJ Ć rfl rfl rfl ((World.grownBy_alloc _ _ _).trans IE) (v8.appended ć (WalkArith.wf_i64 (by omega))) (by simp;omega) (sO.imp id (fun h=>⟨_,h,by simp⟩)) ?_;intro w4 als AL ao6)
           |go_in)
          have hX:=(World.grownBy_alloc wr _ _).trans IE
          have hw3:wr.heap.size≤w3.heap.size:=hX.size
          have hvb:∀g',v.ownBlock=some g'→w.heap.size+2≤g':=fun g' uG=>(v8.1.lt g' uG).1
          refine⟨⟨j+1,by go_num,by omega,m2+1,_,by omega,als,?_,ao6,?_,?_,?_,?_⟩,by simp [intOf];omega⟩
          · refine ID.put (v8.appended ć (WalkArith.wf_i64 (by omega))) (by simp) ?_ ą
            rw [ae3,hn]
            have :=wA (H:=H) v8
            rw [←Rj,(ID.2 sj).1] at this
            rw [this]
          · exact ă.groups v8 hX AL ă.size (by omega) (by omega)
          · refine KD AL (by show w.heap.size<w3.heap.size;omega) (by show some w.heap.size≠some (w.heap.size+1);simp) (KD hX (by show w.heap.size<wr.heap.size;omega) ?_ Ą)
            show some w.heap.size≠v.ownBlock
            intro h
            have :=hvb _ h.symm
            omega
          · refine(MN.kept hX (.inr ?_)).kept AL (.inr ?_)
            · intro h
              exact Eg _ Ă g h.symm rfl
            · intro h
              simp only [Value.ownBlock,Option.some.injEq] at h
              omega
          · exact Nat.le_trans hwq (Nat.le_trans hw3 AL.size)
        · have :j=(S.aaf docs f k).length:=by omega
          subst this
          clear rX IA AK
          have alu:=ID.ext (fun s=>S.R2 (docs:=docs) (a:=f) (k:=k) (j:=(S.aaf docs f k).length) (by omega) s)
          clear ID
          go_wp2
          exact⟨⟨k+1,by rw [show f+((k+1:Nat):Int)=(n:Int)+1 by omega],by omega,m2,D2,by omega,MM,alu,ă,Ą,by omega⟩,by simp [intOf];omega⟩
     · have Ħ:t=f+k:=by omega
       have SI:(t-f).toNat=k:=by omega
       have sN:=Dl fj
       have hcS:=callsIn_wide.1 (Tryz.oL (w.heap.size+1) m D _ wr sN (by have :=zd sN;unfold maxLen;omega) (by have :=zd sN;omega))
       have Ss:=fun(ss:List (List UInt8)) (hss:ss.Perm (strKeys D))=>Sq (docs:=docs) (f:=f) (t:=t) sN Tryz.QJ Tryz.underlying9 (by rw [SI];exact ā) hss
       obtain⟨IC,rfl⟩:∃x,x=wr:=⟨wr,rfl⟩
       clear hd uV IA
       subst Ħ
       go_wp2_with (first
        |(go_at_call 133;refine(Tryz.Ā _ _).mono ?_;rintro e w4 ⟨rfl,rfl⟩)
        |(go_at_call 132;refine hcS.mono ?_;rintro e w5 ⟨vs,ss,rfl,hS,jx,IZ,hb5⟩;obtain⟨hk3,hk4,rV,hk6⟩:=Ss ss hS;rw [hk3,hk4] at jx;obtain⟨av,cp,rfl,Hm⟩:=zc jx)
        |go_in)
       have Ĉ:Below IC.heap.size IC w5:=((Below.refl _ IC).alloc (Nat.le_refl _) _).trans (hb5.mono (by simp))
       have ĉ:=pW fj Ĉ
       have apa:Below w.heap.size w w5:=hnx.trans (Ĉ.mono (by omega))
       have arv:IC.heap.size≤w5.heap.size:=Ĉ.size
       clear hcS Ss sN hb5 fj hS IZ hk3
       go_loopw [12,79] (fun d i wq=>∃j:Nat,i= .int .i64 j∧j≤(S.bP docs f (f+k)).length∧∃xs,wq.ownsRow w5.heap.size 132 2 d j xs∧
         bW (bg w5 (fun b=>w.heap.size≤b∧b<w5.heap.size) [.str, .slice [.int .i64]]) xs (S.iC docs f (f+k) j)∧Below w5.heap.size w5 wq)
        (fun _ i _=>(S.bP docs f (f+k)).length-(intOf i).toNat)
       case atStart=>exact⟨0,rfl,Nat.zero_le _,[],World.ownsRow_nil _ _ _ _,rfl,Below.refl _ _⟩
       case round=>
        obtain⟨j,rfl,hj,xs,MP,KG,uD⟩:=hrel
        by_cases rX:j<(S.bP docs f (f+k)).length
        · obtain⟨g,rfl,hg1,ģ⟩:=Hm (by omega)
          have QM:=FH jx rX
          have kN:wr.cell? ⟨g,0+j,none⟩=some (Vg.encS ((S.bP docs f (f+k)).getD j [])):=(uD.cell ģ).trans QM
          rw [Nat.zero_add] at kN
          have Ss:=rV _ (S.bQ _ j [] rX)
          have FJ:=KE (P:=Tryz.prog) Tryz.underlying9 Ss
          have Ċ:=fun tt (ht:(S.bP docs f (f+k)).getD j []=tt)=>S.xL (docs:=docs) (a:=f) (b:=f+k) (k:=j) (j:=k) rX SI.symm ht
          unfold Vg.encS at kN
          have alv:=pW ĉ uD
          have apb:wr.Shuns (w.heap.size+1) (fun g=>w5.heap.size≤g):=Dk ĉ uD (fun g hg=>hg)
          have apc:=fun s=>(ā.2 s).1
          generalize (S.bP docs f (f+k)).getD j []=sj at kN FJ Ss Ċ
          have QL:m<maxLen:=by unfold maxLen;omega
          clear QM rV
          go_wp2_with (first
           |(at_lookup;refine wpList_lookup_groups_shuns _ rfl _ _ 183 rfl 9 77 3 .i64 Tryz.QJ Tryz.underlying183 (Tryz.QK _) (w.heap.size+2) (w.heap.size+1) m _ rfl alv QL _ _ rfl FJ ?_;intro v zs Rj v8 Lf Ć Eg;obtain⟨av2,cp2,rfl,arw⟩:=zc v8.1)
           |(at_builtin;refine wpList_append_own_at _ rfl _ _ 79 rfl w5.heap.size 132 i1 (.agg #[.string ⟨#[]⟩, .slice none 0 0]) 2 40 Tryz.underlying79 hi1 hy0 hy1 hy2 rfl (by decide) _ j xs rfl (MP.alloc _) ⟨wr.heap.size,0,none⟩ 1 1 [.string ⟨sj.toArray⟩, .slice av2 zs.length cp2] rfl rfl (Iz _ _ _ _) (by intro u hu;simp at hu;rcases hu with rfl|rfl<;>rfl) (by unfold maxLen;omega) (by omega) (by have :=uD.size;simp;omega) ?_;intro v' w6 alw IE IZ sO)
           |go_in)
          have pG:Rd w5 (fun b=>w.heap.size≤b∧b<w5.heap.size) (.slice [.int .i64]) (.slice av2 zs.length cp2) zs:=
           ÿ v8 uD (fun g' uG=>by have :=Eg _ apb g' uG;omega) (fun g' h1 h2=>⟨by omega,h2⟩)
          have hz:zs=S.bC docs f sj k:=by
           have e1:=wA (H:=H) v8
           rw [←Rj,apc] at e1
           rw [←e1];simp [S.rA]
          have hX:=(World.grownBy_alloc wr (.cells #[.string ⟨sj.toArray⟩, .slice av2 zs.length cp2] 132) _).trans IE
          refine⟨⟨j+1,by go_num,by omega,xs++ [.string ⟨sj.toArray⟩, .slice av2 zs.length cp2],alw,?_,?_⟩,by simp [intOf];omega⟩
          · rw [←Ċ sj rfl,←hz]
            exact FI _ _ _ _ KG (Sr Ss pG)
          · exact uD.grown hX uD.size (fun g' uG=>(MP.lt g' uG).1)
        · have hje:j=(S.bP docs f (f+k)).length:=by omega
          subst hje
          rw [S.zP (by omega)] at KG
          clear Hm rV
          go_wp2
          go_ret2
          refine⟨_,xs,w5,rfl,apa.trans (uD.mono (by omega)),uD,by omega,?_,KG⟩
          have wW:(S.make docs f (f+k)).length=(S.bP docs f (f+k)).length:=by simp [S.make]
          rw [wW]
          exact MP
set_option maxRecDepth 100000 in
set_option maxHeartbeats 4000000 in
theorem Tryz.MQ(docs:List (List UInt8))(f t:Int)(da:Option Addr)(cap:Nat)(w:World)(hc:1000<docs.length∨f<0∨t<f∨(docs.length:Int)<t):
  Calls Tryz.prog 96 #[.slice da docs.length cap, .agg #[.int .i64 f, .int .i64 t]] w fun e w'=>e= .returned (.tuple #[.slice none 0 0, .int .i64 1])∧Below w.heap.size w w':=by
 generalize docs.length=n at hc
 go_enter Tryz.func96,Tryz.ntmps96
 go_wp2
 all_goals (go_ret2;exact⟨rfl,(Below.refl _ _).alloc (Nat.le_refl _) _⟩)
set_option maxRecDepth 100000 in
set_option maxHeartbeats 4000000 in
theorem Tryz.MR(docs:List (List UInt8))(f t:Int)(da:Option Addr)(cap:Nat)(w:World)(h0:0≤f)(h1:f≤t)(h2:t≤docs.length)(h3:docs.length≤1000)(dv:Nat→Value)
  (hd:∀j,j<docs.length→∃b o aj cj,da=some ⟨b,o,none⟩∧b<w.heap.size∧w.cell? ⟨b,o+j,none⟩=some (dv j)∧dv j= .slice aj (docs.getD j []).length cj)
  (hc:¬∀j,j<docs.length→(docs.getD j []).length≤2000):
  Calls Tryz.prog 96 #[.slice da docs.length cap, .agg #[.int .i64 f, .int .i64 t]] w fun e w'=>e= .returned (.tuple #[.slice none 0 0, .int .i64 1])∧Below w.heap.size w w':=by
 go_enter Tryz.func96,Tryz.ntmps96
 go_wp2
 go_loopw [39] (fun i wr=>∃k:Nat,k≤docs.length∧i= .int .i64 k∧wr=w.alloc (.cells #[.int .i64 f, .int .i64 t] 40)∧∀j,j<k→(docs.getD j []).length≤2000)
  (fun i _=>docs.length-(intOf i).toNat)
 case atStart=>exact⟨0,Nat.zero_le _,rfl,rfl,fun j hj=>by omega⟩
 case round=>
  obtain⟨k,hk,rfl,rfl,hX⟩:=hrel
  by_cases dX:k<docs.length
  · obtain⟨b,o,aj,cj,rfl,hb,fS,hv⟩:=hd k dX
    rw [hv] at fS
    have mL:(w.alloc (.cells #[.int .i64 f, .int .i64 t] 40)).cell? ⟨b,o+k,none⟩=some (.slice aj (docs.getD k []).length cj):=by
     rw [←fS];exact World.cell?_of_block ((World.grownBy_alloc w _ none).block b hb (by simp))
    clear hd fS hv hc
    by_cases hl:(docs.getD k []).length≤2000
    · have Lv:∀j,j<k+1→(docs.getD j []).length≤2000:=fun j hj=>by
       by_cases e:j=k
       · subst e;exact hl
       · exact hX j (by omega)
      clear hX
      generalize (docs.getD k []).length=n at mL hl
      go_wp2
      go_roundw
      case rel=>exact⟨k+1,by omega,by go_num,by first|rfl|trivial,Lv⟩
      case measure=>simp [intOf];omega
    · clear hX
      generalize (docs.getD k []).length=n at mL hl
      go_wp2
      go_ret2
      exact⟨rfl,(Below.refl _ _).alloc (Nat.le_refl _) _⟩
  · exact absurd (fun j hj=>hX j (by omega)) hc
end Go.Proofs

end
section
namespace Go.S
theorem KI {docs:List (List UInt8)} {a:Int} {j:Nat}:∀s∈aaf docs a j,s.length≤maxLen:=fun s hs=>by
 have h1:=(fk _ _).1 hs
 simp only [aS,List.mem_map] at h1
 obtain⟨w,_,rfl⟩:=h1
 have :=uu w [] (by simp)
 unfold c9 maxLen
 omega
theorem Su {docs:List (List UInt8)} {f t:Int}(h:cJ docs f t=true):ec docs f t∧∀j,(docs.getD j []).length≤2000:=by
 simp only [cJ,Bool.and_eq_true,List.all_eq_true,decide_eq_true_eq] at h
 obtain⟨h1,h2,h3,h4,h5⟩:=h
 refine⟨⟨h3,h4,h5,by omega,fun d hd=>by have :=h1 d hd;omega⟩,fun j=> ?_⟩
 by_cases hj:j<docs.length
 · have :=h1 _ (bQ docs j [] hj)
   omega
 · rw [List.getD_eq_getElem?_getD,List.getElem?_eq_none (by omega)];simp
end Go.S
namespace Go.DM
open Go Go.Vg Go.Maps Go.RowKit Go.Proofs
theorem QN {w:World} {A:Nat→Prop} {τ:Ty}:∀(l:List (D τ)) (cs:List Value),bW (bg w A [τ]) cs l→cs.length=l.length∧∀(j:Nat) (x:D τ),l[j]? =some x→Rd w A τ (cs.getD j undef) x
 | [],cs,h=>by simp only [bW] at h;subst h;exact⟨rfl,fun j x hx=>by simp at hx⟩
 |y::l,cs,⟨c1,c2,hc,h1,h2⟩=>by
  subst hc
  simp only [bg] at h1
  obtain⟨v,bX,rfl,hv,rfl⟩:=h1
  obtain⟨g1,g2⟩:=QN l c2 h2
  refine⟨by simp [g1],fun j x hx=> ?_⟩
  cases j with
  |zero=>simp at hx;subst hx;exact hv
  |succ j=>simpa using g2 j x (by simpa using hx)
theorem IF(b:List UInt8):BV [.one (.slice [.int .u8])] [.sl [.int .u8] b]=some b:=rfl
set_option maxRecDepth 100000 in
theorem KJ {G:Nat→Option GD} {Fs:Row (PS.flat [.one (.slice [.int .u8])])→Prop×AV×List AB}(uV:Valid Tryz.prog G 131 (au [.one (.slice [.int .u8])] Fs))
  (hFs:∀b:List UInt8,Fs b=(S.small b, .own 0,[.row 9 [.str] (S.sorted (S.aS b)) false]))
  {F:Row (PS.flat [.one (.slice [.slice [.int .u8]]), .agg [.int .i64, .int .i64]])→Prop×AV×List AB}
  (hF:∀(docs:List (List UInt8)) (f t:Int),F (docs,f,t)=(True, .dc [.sl [.str, .slice [.int .i64]] (S.fK docs f t).1, .int .i64 ((S.fK docs f t).2:Int)],[])):
  Valid Tryz.prog G 96 (au [.one (.slice [.slice [.int .u8]]), .agg [.int .i64, .int .i64]] F):=by
 intro w A β args cd pre res bs hA hG bp hs hp
 unfold au at hs
 split at hs
 · rename_i x hx
   obtain⟨docs,f,t⟩:=x
   change List (List UInt8) at docs
   change Int at f
   change Int at t
   have gg:=hs
   rw [hF docs f t] at gg
   simp only [Option.some.injEq,Prod.mk.injEq] at gg
   obtain⟨rfl,rfl,rfl⟩:=gg
   obtain⟨g1,g2⟩:=qY _ hx bp
   clear hs hp hx bp g2
   change ai w A β args [.sl [.slice [.int .u8]] docs, .agg [.int .i64 f, .int .i64 t]] at g1
   simp only [ai,ae] at g1
   obtain⟨vd,bX,rfl,hvd,va,aoU,rfl,⟨arr,rfl,SV⟩,rfl⟩:=g1
   obtain⟨u1,us,e1,⟨rfl,hf⟩,u2,vG,rfl,⟨rfl,ht⟩,rfl⟩:=SV
   obtain rfl :arr= #[.int .i64 f, .int .i64 t]:=by apply Array.ext';simpa using e1
   simp only [Rd] at hvd
   obtain⟨a,cap,cs,rfl,I0,û,KG,aG⟩:=hvd
   obtain⟨fS,cQ⟩:=QN (τ:= .slice [.int .u8]) docs cs KG
   have hd:∀j,j<docs.length→∃b o aj cj,a=some ⟨b,o,none⟩∧b<w.heap.size∧w.cell? ⟨b,o+j,none⟩=some (cs.getD j undef)∧cs.getD j undef= .slice aj (docs.getD j []).length cj:=by
    intro j hj
    obtain⟨b,o,rfl,wc,hr⟩:=aG (by intro h;rw [h] at fS;simp at fS;omega)
    have h1:=cQ j (docs.getD j []) (by rw [List.getD_eq_getElem?_getD,List.getElem?_eq_getElem hj];rfl)
    simp only [Rd] at h1
    obtain⟨aj,cj,ei,h2,_⟩:=h1
    refine⟨b,o,aj,cj,rfl,hA b wc,hr j _ ?_,h2⟩
    rw [List.getD_eq_getElem?_getD,List.getElem?_eq_getElem (by omega)];rfl
   show Calls Tryz.prog 96 #[.slice a docs.length cap, .agg #[.int .i64 f, .int .i64 t]] w _
   have bad:Calls Tryz.prog 96 #[.slice a docs.length cap, .agg #[.int .i64 f, .int .i64 t]] w (fun e w'=>e= .returned (.tuple #[.slice none 0 0, .int .i64 1])∧Below w.heap.size w w')→S.cJ docs f t=false→
     Calls Tryz.prog 96 #[.slice a docs.length cap, .agg #[.int .i64 f, .int .i64 t]] w (fun e w'=>∃v,e= .returned v∧∃A' aJ,jg w A w' v (.dc [.sl [.str, .slice [.int .i64]] (S.fK docs f t).1, .int .i64 ((S.fK docs f t).2:Int)]) [] A' aJ):=by
    intro hc hb
    refine hc.mono fun e w' ⟨he,tp⟩=>⟨_,he,A,β,{os:=tp.os,tape:=tp.tape,output:=tp.output,size:=tp.size,same:=tp.block,mono:=fun _ h=>h,old:=fun _ _ h=>h,bound:=fun b h=>Nat.lt_of_lt_of_le (hA b h) tp.size,res:= ?_,rows:=fun i ab hi=>by simp at hi,apart:=fun i j b hi=>by simp at hi}⟩
    have e2:S.fK docs f t=([],1):=by unfold S.fK;rw [hb];rfl
    rw [e2]
    simp only [ae,ai]
    refine⟨_,rfl,_,_,rfl,?_,_,_,rfl,⟨rfl,by simp only [lo,hi];omega⟩,rfl⟩
    simp only [Rd]
    exact⟨none,0,[],rfl,Nat.le_refl _,Nat.zero_le _,rfl,fun h=>absurd rfl h⟩
   cases Dm:S.cJ docs f t with
   |false=>
    refine bad ?_ Dm
    by_cases hc:1000<docs.length∨f<0∨t<f∨(docs.length:Int)<t
    · exact Tryz.MQ docs f t a cap w hc
    · refine Tryz.MR docs f t a cap w (by omega) (by omega) (by omega) (by omega) _ hd fun hX=> ?_
      have :S.cJ docs f t=true :=by
       simp only [S.cJ,Bool.and_eq_true,List.all_eq_true,decide_eq_true_eq]
       refine⟨fun d oJ=> ?_,by omega,by omega,by omega,by omega⟩
       obtain⟨i,iE,rfl⟩:=List.getElem_of_mem oJ
       have :=hX i iE
       rw [List.getD_eq_getElem?_getD,List.getElem?_eq_getElem iE] at this
       simp only [Option.getD_some] at this
       omega
      rw [this] at Dm;cases Dm
   |true=>
    obtain⟨hmp,h4⟩:=S.Su Dm
    have alx:∀(j:Nat) (W:World),j<docs.length→Below w.heap.size w W→Calls Tryz.prog 131 #[cs.getD j undef] W fun e w'=>∃v,e= .returned v∧w'.ownsRow W.heap.size 9 1 v (S.aaf docs 0 j).length ((S.aaf docs 0 j).map Vg.encS)∧Below W.heap.size W w':=by
     intro j W hj hW
     have hk:cy w W A A:=fun b hb=>⟨hb,hW.block b (hA b hb)⟩
     have h1:=wP hk _ _ _ (cQ j (docs.getD j []) (by rw [List.getD_eq_getElem?_getD,List.getElem?_eq_getElem hj];rfl))
     have h2:=uV W A β [cs.getD j undef] [.sl [.int .u8] (docs.getD j [])] (S.small (docs.getD j [])) (.own 0) [.row 9 [.str] (S.sorted (S.aS (docs.getD j []))) false]
      (fun b hb=>Nat.lt_of_lt_of_le (hA b hb) hW.size) (fun i d hi=>(hG i d hi).mono hk) (by simp only [ai,ae];exact⟨_,_,rfl,h1,rfl⟩)
      (by unfold au;rw [IF];simp only [hFs]) (by have :=h4 j;unfold S.small;omega)
     refine h2.mono fun e w' ⟨v,he,A',aJ,nT⟩=>⟨v,he,?_,nT.os,nT.tape,nT.output,nT.size,nT.same⟩
     have hr:=nT.res
     simp only [ae] at hr
     obtain⟨⟨xs,ho,pG,_⟩,hblk⟩:=nT.rows 0 _ rfl
     obtain⟨rfl,_⟩:=yb _ xs pG
     have eK:S.aaf docs 0 j=S.sorted (S.aS (docs.getD j [])):=by unfold S.aaf;simp
     rw [eK,hr.1]
     refine⟨ho.1,?_⟩
     rcases ho.2 with hn|⟨g,gx,cur,hv,_,rest⟩
     · exact .inl hn
     · exact .inr ⟨g,gx,cur,hv,hblk g (by rw [hv];rfl),rest⟩
    refine(Tryz.MJ (H:=Unit) docs f t a cap w hmp h4 _ hd alx (fun j s hs=>S.KI s hs)).mono fun e w' ⟨v,xs,W1,he,tp,ae4,hW1,ho,pG⟩=> ?_
    have e2:S.fK docs f t=(S.make docs f t,0):=by unfold S.fK;rw [Dm];rfl
    rw [e2]
    refine⟨_,he,fun b=>A b∨(w.heap.size≤b∧b<w'.heap.size),β,{os:=tp.os,tape:=tp.tape,output:=tp.output,size:=tp.size,same:=tp.block,mono:=fun _ h=> .inl h,old:=fun b hb h=> ?_,bound:=fun b h=> ?_,res:= ?_,rows:=fun i ab hi=>by simp at hi,apart:=fun i j b hi=>by simp at hi}⟩
    · rcases h with h|h
      · exact h
      · omega
    · rcases h with h|h
      · exact Nat.lt_of_lt_of_le (hA b h) tp.size
      · exact h.2
    · simp only [ae,ai]
      refine⟨_,rfl,_,_,rfl,?_,_,_,rfl,⟨rfl,by simp only [lo,hi];omega⟩,rfl⟩
      have hk:cy W1 w' (fun b=>w.heap.size≤b∧b<W1.heap.size) (fun b=>A b∨(w.heap.size≤b∧b<w'.heap.size)):=fun b hb=>⟨.inr ⟨hb.1,Nat.lt_of_lt_of_le hb.2 ae4.size⟩,ae4.block b hb.2⟩
      have ape:=br (fun c x hx=>bt hk _ c x hx) _ _ pG
      simp only [Rd]
      rcases ho.2 with⟨rfl,h0⟩|⟨g,gx,cur,rfl,hg,hh,hn,hc,cz,IU⟩
      · have hm0:S.make docs f t= []:=List.length_eq_zero_iff.1 h0
        rw [hm0]
        exact⟨none,0,[],rfl,Nat.le_refl _,Nat.zero_le _,rfl,fun h=>absurd rfl h⟩
      · refine⟨some ⟨g,0,none⟩,gx,xs,rfl,hn,hc,ape,fun _=>⟨g,0,rfl, .inr ⟨by omega,(Array.getElem?_eq_some_iff.1 hh).1⟩,fun j u hj=> ?_⟩⟩
        have :=ho.cells (g:=g) rfl j u hj
        rwa [Addr.add_mid] at this
 · cases hs
end Go.DM

end
