import Derived.Test.YtfaedenbhlgnpaaGreatDoorPartE
import Derived.Shelf.SlicesG.Clone
import Derived.Shelf.SlSortCmp.NoneTotal
import Derived.Shelf.SlIter.Nil
import Derived.Shelf.SortM.Plain
import Derived.Shelf.SortM.SortNone
import Derived.Test.YtfaedenbhlgnpaaGreatDoorProg
import Derived.Lib.Small
import Derived.Lib.Walk
import Derived.Sort.Walk0
import Derived.Laws.Cover1
import Derived.Maps.GroupsBeside
import Derived.Sort.KeysCollected
import Derived.WalkKit
import Derived.Below
import Derived.Lib.SlBuf
import Derived.Lib.MakeNoZero
import Derived.Lib.SlFresh
import Derived.Shelf.RegionOpenPlain
import Derived.Deep.LoopGhost
import Derived.Deep.Draws
import Derived.Laws.Externs
import Derived.BigCall
import Derived.Deep.RegionHeld3
import Derived.BigGuard
set_option linter.unusedVariables false
set_option linter.unusedSimpArgs false
section
set_option linter.unusedVariables false
namespace Go.J
open Go Vg
def body(f:Func):Code:=f.body.getD .skip
def E0:Env:= {T:=fu,sig:=fun _=>none,lj:=G0}
abbrev adp:List PS:= [.one (.slice [.int .u8])]
def alW:List UInt8→Prop×AV×List AB:=fun x=>match x with
 |b=>(b.length≤140737488355328, .own 0,[.row 5 [.int .u8] (b) false])
def alX:List UInt8→Nat→Option an:=fun _ _=>none
def adq:bP:=aC adp alW
def adr:Env:=Env.cons 83 adq E0
abbrev ads:List TA:= [.own 50000, .jo (.int .i64)]
abbrev adt:List TB:= [.row 5 [.int .u8]]
def alY:Int→((List UInt8)×Unit)→fY:=fun x y=>match x,y with
 |v,(l,())=> {pre:=S.yB l v,res:= .own 60000,heap:= [none],new:= [.row 5 [.int .u8] (l++S.num v) false]}
def alZ:Int→((List UInt8)×Unit)→Nat→Option an:=fun x y=>match x,y with
 |v,(l,())=>fun id=>(match id with
  |0=>some {τ:=List UInt8×Int,aZ:= [(1,fun k=> .int .i64 k.2),(0,fun k=> .own 300)],keys:= [(300,fun k=> .row 5 [.int .u8] k.1 false)],dw:= [(Vg.Loc.slot 0,300)],drop:= [50000],cH:= [],inv:=fun k=>S.nX l v k.1 k.2,ai:=fun k=>k.2.toNat}
  |_=>none)
def adu:gk:=iX ads adt alY
def adv:gk:=adu
def adw:Env:=Env.gE 82 [true,false] adv adr
abbrev adx:List TA:= [.own 50000, .jo (.str)]
abbrev ady:List TB:= [.row 5 [.int .u8]]
def al0:(List UInt8)→((List UInt8)×Unit)→fY:=fun x y=>match x,y with
 |s,(l,())=> {pre:=S.lB l s,res:= .own 60000,heap:= [none],new:= [.row 5 [.int .u8] (l++S.text s) false]}
def al1:(List UInt8)→((List UInt8)×Unit)→Nat→Option an:=fun _ _ _=>none
def adz:gk:=iX adx ady al0
def adA:gk:=adz
def adB:Env:=Env.gE 84 [true,false] adA adw
abbrev adC:List PS:= [.one (.slice [.int .u8]), .one (.int .i64)]
def al2:List UInt8×Int→Prop×AV×List AB:=fun x=>match x with
 |(b,v)=>(b.length≤35184372088832, .cK [.own 0, .int .i64 (((S.iK b v,S.hU v)).2:Int)],[.row 5 [.int .u8] (((S.iK b v,S.hU v)).1) false])
def al3:List UInt8×Int→Nat→Option an:=fun _ _=>none
def adD:bP:=aC adC al2
def adE:Env:=Env.cons 44 adD adB
abbrev adF:List PS:= [.one (.slice [.int .u8]), .one (.str)]
def al4:List UInt8×List UInt8→Prop×AV×List AB:=fun x=>match x with
 |(b,s)=>(S.lB b s, .own 0,[.row 5 [.int .u8] (b++S.text s) false])
def al5:List UInt8×List UInt8→Nat→Option an:=fun _ _=>none
def adG:bP:=aC adF al4
def adH:Env:=Env.cons 45 adG adE
abbrev adI:List PS:= [.agg [.slice [.int .u8], .int .i64, .int .i64]]
def al6:List UInt8×Int×Int→Prop×AV×List AB:=fun x=>match x with
 |(r1,r2,r3)=>(True, .bool (S.inside r1 r2),[])
def al7:List UInt8×Int×Int→Nat→Option an:=fun _ _=>none
def adJ:bP:=aC adI al6
def adK:Env:=Env.cons 131 adJ adH
abbrev adL:List PS:= [.agg [.slice [.int .u8], .int .i64, .int .i64]]
def al8:List UInt8×Int×Int→Prop×AV×List AB:=fun x=>match x with
 |(r1,r2,r3)=>(r1.length≤140737488355328, .agg [.sl [.int .u8] (((r1,r2,S.cU r1 r2 r3)).1), .int .i64 (((r1,r2,S.cU r1 r2 r3)).2.1:Int), .int .i64 (((r1,r2,S.cU r1 r2 r3)).2.2:Int)],[])
def al9:List UInt8×Int×Int→Nat→Option an:=fun _ _=>none
def adM:bP:=aC adL al8
def adN:Env:=Env.cons 118 adM adK
abbrev adO:List PS:= [.one (.slice [.int .u8]), .one (.int .i64)]
def ama:List UInt8×Int→Prop×AV×List AB:=fun x=>match x with
 |(b,p)=>(S.dA b p, .cK [.int .i64 ((S.aJ b p).1:Int), .int .i64 ((S.aJ b p).2.1:Int), .int .i64 ((S.aJ b p).2.2:Int)],[])
def amb:List UInt8×Int→Nat→Option an:=fun x=>match x with
 |(b,p)=>fun id=>(match id with
  |0=>some {τ:=Nat,aZ:= [(7,fun k=> .int .i64 (S.eu b p k)),(8,fun k=> .int .i64 ((k:Nat):Int))],keys:= [],dw:= [],drop:= [],cH:= [],inv:=fun k=>S.gv b p k,ai:=fun k=>S.ai 9 k}
  |_=>none)
def adP:bP:=aC adO ama
def adQ:Env:=Env.cons 119 adP adN
abbrev XN:List PS:= [.one (.slice [.int .u8]), .one (.int .i64), .one (.int .i64)]
def agV:List UInt8×Int×Int→Prop×AV×List AB:=fun x=>match x with
 |(b,p,b9)=>(S.dA b p, .cK [.str ((S.bV b p b9).1), .int .i64 ((S.bV b p b9).2.1:Int), .int .i64 ((S.bV b p b9).2.2:Int)],[])
def agW:List UInt8×Int×Int→Nat→Option an:=fun _ _=>none
def XO:bP:=aC XN agV
def XP:Env:=Env.cons 120 XO adQ
abbrev XQ:List PS:= [.agg [.slice [.int .u8], .int .i64, .int .i64], .one (.int .i64)]
def agX:List UInt8×Int×Int×Int→Prop×AV×List AB:=fun x=>match x with
 |(r1,r2,r3,b9)=>(r1.length≤140737488355328, .cK [.agg [.sl [.int .u8] (((S.bj r1 r2 r3 b9).1).1), .int .i64 (((S.bj r1 r2 r3 b9).1).2.1:Int), .int .i64 (((S.bj r1 r2 r3 b9).1).2.2:Int)], .str ((S.bj r1 r2 r3 b9).2)],[])
def agY:List UInt8×Int×Int×Int→Nat→Option an:=fun _ _=>none
def XR:bP:=aC XQ agX
def XS:Env:=Env.cons 89 XR XP
abbrev XT:List PS:= [.agg [.slice [.int .u8], .int .i64, .int .i64]]
def agZ:List UInt8×Int×Int→Prop×AV×List AB:=fun x=>match x with
 |(r1,r2,r3)=>(r1.length≤140737488355328, .cK [.agg [.sl [.int .u8] (((S.af r1 r2 r3).1).1), .int .i64 (((S.af r1 r2 r3).1).2.1:Int), .int .i64 (((S.af r1 r2 r3).1).2.2:Int)], .int .i64 ((S.af r1 r2 r3).2:Int)],[])
def ag0:List UInt8×Int×Int→Nat→Option an:=fun _ _=>none
def XU:bP:=aC XT agZ
def XV:Env:=Env.cons 88 XU XS
abbrev XW:List PS:= [.one (.int .i64)]
def ag1:Int→Prop×AV×List AB:=fun x=>match x with
 |c=>(True, .bool (S.bn c),[])
def ag2:Int→Nat→Option an:=fun _ _=>none
def XX:bP:=aC XW ag1
def XY:Env:=Env.cons 190 XX XV
abbrev XZ:List PS:= [.one (.int .i64)]
def ag3:Int→Prop×AV×List AB:=fun x=>match x with
 |c=>(True, .int .i64 (S.cY c:Int),[])
def ag4:Int→Nat→Option an:=fun _ _=>none
def X0:bP:=aC XZ ag3
def X1:Env:=Env.cons 191 X0 XY
abbrev X2:List PS:= [.one (.int .i64)]
def ag5:Int→Prop×AV×List AB:=fun x=>match x with
 |c=>(0≤c, .int .u8 ((S.more c).toNat:Int),[])
def ag6:Int→Nat→Option an:=fun _ _=>none
def X3:bP:=aC X2 ag5
def X4:Env:=Env.cons 192 X3 X1
abbrev X5:List PS:= [.one (.int .i64)]
def ag7:Int→Prop×AV×List AB:=fun x=>match x with
 |c=>(True, .cK [.own 0, .int .i64 (((S.fb c,S.sO c)).2:Int)],[.row 5 [.int .u8] (((S.fb c,S.sO c)).1) false])
def ag8:Int→Nat→Option an:=fun _ _=>none
def X6:bP:=aC X5 ag7
def X7:Env:=Env.cons 166 X6 X4
abbrev X8:List PS:= [.one (.slice [.int .u8])]
def ag9:List UInt8→Prop×AV×List AB:=fun x=>match x with
 |b=>(0<b.length, .cK [.int .i64 ((S.aM b).1:Int), .int .i64 ((S.aM b).2:Int)],[])
def aha:List UInt8→Nat→Option an:=fun x=>match x with
 |b=>fun id=>(match id with
  |1=>some {τ:=Nat,aZ:= [(42,fun k=> .int .i64 ((k:Nat):Int)),(4,fun k=> .int .i64 (S.bB b k))],keys:= [],dw:= [],drop:= [],cH:= [],inv:=fun k=>S.kY b k,ai:=fun k=>S.ai 4 k}
  |_=>none)
def X9:bP:=aC X8 ag9
def Ya:Env:=Env.cons 165 X9 X7
abbrev Yb:List PS:= [.one (.slice [.int .u8])]
def ahb:List UInt8→Prop×AV×List AB:=fun x=>match x with
 |b=>(S.small b, .own 0,[.row 3 [.int .i64] (S.decode b) false])
def ahc:List UInt8→Nat→Option an:=fun x=>match x with
 |b=>fun id=>(match id with
  |0=>some {τ:=List UInt8×List Int,aZ:= [(0,fun k=> .sl [.int .u8] k.1),(3,fun k=> .own 300)],keys:= [(300,fun k=> .row 3 [.int .i64] k.2 false)],dw:= [(Vg.Loc.slot 3,300)],drop:= [],cH:= [],inv:=fun k=>S.nY b k.1 k.2,ai:=fun k=>S.len k.1}
  |_=>none)
def Yc:bP:=aC Yb ahb
def Yd:Env:=Env.cons 153 Yc Ya
abbrev Ye:List PS:= [.one (.int .i64)]
def ahd:Int→Prop×AV×List AB:=fun x=>match x with
 |c=>(True, .bool (S.letter c),[])
def ahe:Int→Nat→Option an:=fun x=>match x with
 |c=>fun id=>(match id with
  |0=>some {τ:=Nat,aZ:= [(6,fun k=> .int .i64 ((k:Nat):Int))],keys:= [],dw:= [],drop:= [],cH:= [],inv:=fun k=>S.kX c k,ai:=fun k=>S.ai 9 k}
  |_=>none)
def Yf:bP:=aC Ye ahd
def Yg:Env:=Env.cons 154 Yf Yd
abbrev Yh:List PS:= [.one (.int .i64)]
def ahf:Int→Prop×AV×List AB:=fun x=>match x with
 |c=>(True, .bool (S.digit c),[])
def ahg:Int→Nat→Option an:=fun _ _=>none
def Yi:bP:=aC Yh ahf
def Yj:Env:=Env.cons 155 Yi Yg
abbrev Yk:List PS:= [.one (.int .i64)]
def ahh:Int→Prop×AV×List AB:=fun x=>match x with
 |c=>(True, .int .i64 (S.br c:Int),[])
def ahi:Int→Nat→Option an:=fun x=>match x with
 |c=>fun id=>(match id with
  |0=>some {τ:=Nat,aZ:= [(6,fun k=> .int .i64 ((k:Nat):Int))],keys:= [],dw:= [],drop:= [],cH:= [],inv:=fun k=>S.lC c k,ai:=fun k=>S.ai 7 k}
  |_=>none)
def Yl:bP:=aC Yk ahh
def Ym:Env:=Env.cons 167 Yl Yj
abbrev Yn:List PS:= [.one (.slice [.int .i64])]
def ahj:List Int→Prop×AV×List AB:=fun x=>match x with
 |u=>(S.U4 u, .str (S.fX u),[])
def ahk:List Int→Nat→Option an:=fun x=>match x with
 |u=>fun id=>(match id with
  |0=>some {τ:=Nat×List UInt8,aZ:= [(10,fun k=> .int .i64 ((k.1:Nat):Int)),(3,fun k=> .own 300)],keys:= [(300,fun k=> .row 5 [.int .u8] k.2 false)],dw:= [(Vg.Loc.slot 3,300)],drop:= [],cH:= [],inv:=fun k=>S.lD u k.1 k.2,ai:=fun k=>S.ai (S.len u) k.1}
  |_=>none)
def Yo:bP:=aC Yn ahj
def Yp:Env:=Env.cons 156 Yo Ym
abbrev Yq:List PS:= [.one (.slice [.int .u8])]
def ahl:List UInt8→Prop×AV×List AB:=fun x=>match x with
 |b=>(S.small b, .own 0,[.row 9 [.str] (S.bJ b) false])
def ahm:List UInt8→Nat→Option an:=fun x=>match x with
 |b=>fun id=>(match id with
  |0=>some {τ:=Nat×List (List UInt8)×List Int,aZ:= [(10,fun k=> .int .i64 ((k.1:Nat):Int)),(3,fun k=> .own 300),(4,fun k=> .own 301)],keys:= [(300,fun k=> .row 9 [.str] k.2.1 false),(301,fun k=> .row 3 [.int .i64] k.2.2 false)],dw:= [(Vg.Loc.slot 3,300),(Vg.Loc.slot 4,301)],drop:= [104000,104001,104002,40],cH:= [],inv:=fun k=>S.gO (S.decode b) k.1 k.2.1 k.2.2,ai:=fun k=>S.ai (S.len (S.decode b)) k.1}
  |_=>none)
def Yr:bP:=aC Yq ahl
def Ys:Env:=Env.cons 136 Yr Yp
abbrev Yt:List PS:= [.one (.str)]
def ahn:List UInt8→Prop×AV×List AB:=fun x=>match x with
 |s=>(S.small s, .bool (S.isTerm s),[])
def aho:List UInt8→Nat→Option an:=fun _ _=>none
def Yu:bP:=aC Yt ahn
def Yv:Env:=Env.cons 146 Yu Ys
abbrev Yw:List PS:= [.one (.str)]
def ahp:List UInt8→Prop×AV×List AB:=fun x=>match x with
 |s=>(True, .bool false,[])
def ahq:List UInt8→Nat→Option an:=fun _ _=>none
def Yx:bP:=aC Yw ahp
def Yy:Env:=Env.cons 157 Yx Yv
abbrev Yz:List PS:= [.one (.str), .one (.str)]
def ahr:List UInt8×List UInt8→Prop×AV×List AB:=fun x=>match x with
 |(a,b)=>(True, .int .i64 (S.fU a b:Int),[])
def ahs:List UInt8×List UInt8→Nat→Option an:=fun _ _=>none
def YA:bP:=aC Yz ahr
def YB:Env:=Env.cons 137 YA Yy
abbrev YC:List TA:= [.jo (.str), .jo (.str), .ref 50000 0]
abbrev YD:List TB:= [.cells [.fn (.func 137) [] []]]
def aht:(List UInt8×List UInt8)→(Unit×Unit)→fY:=fun x y=>match x,y with
 |(a,b),((),())=> {pre:=True,res:= .bool (decide (a=b)),heap:= [some (.cells [.fn (.func 137) [] []])],new:= []}
def ahu:(List UInt8×List UInt8)→(Unit×Unit)→Nat→Option an:=fun _ _ _=>none
def YE:gk:=iX YC YD aht
def YF:gk:=YE
def YG:Env:=Env.gE 152 [false,false,true] YF YB
abbrev YH:List TA:= [.own 50000, .fn (.func 152) [] [.ref 50001 0]]
abbrev YI:List TB:= [.row 9 [.str], .cells [.fn (.func 137) [] []]]
def ahv:Unit→((List (List UInt8))×Unit×Unit)→fY:=fun x y=>match x,y with
 |(),(l,((),()))=> {pre:=S.small l,res:= .own 60000,heap:= [none,some (.cells [.fn (.func 137) [] []])],new:= [.row 9 [.str] (S.bN l) false]}
def ahw:Unit→((List (List UInt8))×Unit×Unit)→Nat→Option an:=fun x y=>match x,y with
 |(),(l,((),()))=>fun id=>(match id with
  |0=>some {τ:=Nat,aZ:= [(5,fun k=> .int .i64 ((k:Nat):Int))],keys:= [(50001,fun k=> .cells [.fn (.func 137) [] []])],dw:= [],drop:= [],cH:= [],inv:=fun k=>S.n3 l k,ai:=fun k=>S.ai (S.len l) k}
  |2=>some {τ:=Nat×Nat×List (List UInt8)×Nat,aZ:= [(5,fun k=> .int .i64 ((k.1:Nat):Int)),(7,fun k=> .int .i64 ((k.2.1:Nat):Int))],keys:= [(50000,fun k=> .row 9 [.str] k.2.2.1 false),(50001,fun k=> .cells [.fn (.func 137) [] []])],dw:= [],drop:= [],cH:= [(30,fun k=> .int .i64 ((k.2.2.2:Nat):Int))],inv:=fun k=>S.jq l k.2.2.2 k.1 k.2.1 k.2.2.1,ai:=fun k=>S.ai (S.len l) k.2.1}
  |_=>none)
def YJ:gk:=iX YH YI ahv
def YK:gk:=YJ
def YL:Env:=Env.gE 151 [true,true] YK YG
abbrev ahx:List PS:= [.one (.slice [.str])]
def ahy:List (List UInt8)→Prop×AV×List AB:=fun x=>match x with
 |l=>(S.small l, .own 0,[.row 9 [.str] (l) false])
def YM:bP:=aC ahx ahy
def YN:Env:=Env.cons 149 YM YL
abbrev ahz:List PS:= [.one (.slice [.int .i64])]
def ahA:List Int→Prop×AV×List AB:=fun x=>match x with
 |l=>(S.small l, .own 0,[.row 3 [.int .i64] (l) false])
def YO:bP:=aC ahz ahA
def YP:Env:=Env.cons 99 YO YN
abbrev ahB:List TA:= [.own 50000, .fn (.func 137) [] []]
abbrev ahC:List TB:= [.row 9 [.str]]
def ahD:Unit→((List (List UInt8))×Unit)→fY:=fun x y=>match x,y with
 |(),(l,())=> {pre:=S.small l,res:= .cK [],heap:= [some (.row 9 [.str] (S.fV l) false)],new:= []}
def YQ:gk:=iX ahB ahC ahD
def YR:gk:=YQ
def YS:Env:=Env.gE 150 [true,true] YR YP
abbrev YT:List TA:= [.jo (.slice [.str]), .fn (.func 137) [] []]
abbrev YU:List TB:= []
def ahE:(List (List UInt8))→Unit→fY:=fun x y=>match x,y with
 |l,()=> {pre:=S.small l,res:= .own 60000,heap:= [],new:= [.row 9 [.str] (S.bN (S.fV l)) false]}
def ahF:(List (List UInt8))→Unit→Nat→Option an:=fun _ _ _=>none
def YV:gk:=iX YT YU ahE
def YW:gk:=YV
def YX:Env:=Env.gE 135 [false,true] YW YS
abbrev YY:List PS:= [.one (.slice [.int .u8])]
def ahG:List UInt8→Prop×AV×List AB:=fun x=>match x with
 |b=>(S.small b, .own 0,[.row 9 [.str] (S.sorted (S.bJ b)) false])
def ahH:List UInt8→Nat→Option an:=fun _ _=>none
def YZ:bP:=aC YY ahG
def Y0:Env:=Env.cons 126 YZ YX
abbrev Y1:List PS:= [.one (.slice [.int .i64])]
def ahI:List Int→Prop×AV×List AB:=fun x=>match x with
 |l=>(True, .bool (S.fx l),[])
def ahJ:List Int→Nat→Option an:=fun x=>match x with
 |l=>fun id=>(match id with
  |0=>some {τ:=Nat,aZ:= [(8,fun k=> .int .i64 ((k:Nat):Int)),(3,fun k=> .int .i64 (S.mh l k))],keys:= [],dw:= [],drop:= [],cH:= [],inv:=fun k=>S.kv l k,ai:=fun k=>S.ai (S.len l) k}
  |_=>none)
def Y2:bP:=aC Y1 ahI
def Y3:Env:=Env.cons 145 Y2 Y0
abbrev Y4:List TA:= [.jo (.int .i64), .jo (.bool), .jo (.bool), .ref 50000 0]
abbrev Y5:List TB:= [.cells [.jo (.int .i64), .jo (.int .i64)]]
def ahK:(Int×Bool×Bool)→((Int×Int)×Unit)→fY:=fun x y=>match x,y with
 |(n,p,q),((s1,s2),())=> {pre:=True,res:= .bool (S.ph n s1 s2),heap:= [some (.cells [.int .i64 s1, .int .i64 s2])],new:= []}
def ahL:(Int×Bool×Bool)→((Int×Int)×Unit)→Nat→Option an:=fun _ _ _=>none
def Y6:gk:=iX Y4 Y5 ahK
def Y7:gk:=Y6
def Y8:Env:=Env.gE 148 [false,false,false,true] Y7 Y3
abbrev Y9:List TA:= [.jo (.slice [.int .i64]), .jo (.slice [.int .i64]), .fn (.func 148) [] [.ref 50000 0]]
abbrev Za:List TB:= [.cells [.jo (.int .i64), .jo (.int .i64)]]
def ahM:(List Int×List Int)→((Int×Int)×Unit)→fY:=fun x y=>match x,y with
 |(a,b),((s1,s2),())=> {pre:=b.length=0,res:= .own 60000,heap:= [some (.cells [.int .i64 s1, .int .i64 s2])],new:= [.row 3 [.int .i64] (S.DX a s1 s2) false]}
def ahN:(List Int×List Int)→((Int×Int)×Unit)→Nat→Option an:=fun x y=>match x,y with
 |(a,b),((s1,s2),())=>fun id=>(match id with
  |0=>some {τ:=List Int×List Int,aZ:= [(0,fun k=> .sl [.int .i64] k.1),(1,fun k=> .sl [.int .i64] S.fy),(7,fun k=> .own 300)],keys:= [(300,fun k=> .row 3 [.int .i64] k.2 false),(50000,fun k=> .cells [.int .i64 s1, .int .i64 s2])],dw:= [(Vg.Loc.slot 7,300)],drop:= [],cH:= [],inv:=fun k=>S.jr a s1 s2 k.1 k.2,ai:=fun k=>S.len k.1}
  |_=>none)
def Zb:gk:=iX Y9 Za ahM
def Zc:gk:=Zb
def Zd:Env:=Env.gE 147 [false,false,true] Zc Y8
abbrev Ze:List PS:= [.one (.slice [.int .i64]), .agg [.int .i64, .int .i64]]
def ahO:List Int×Int×Int→Prop×AV×List AB:=fun x=>match x with
 |(l,s1,s2)=>(True, .own 0,[.row 3 [.int .i64] (S.DX l s1 s2) false])
def ahP:List Int×Int×Int→Nat→Option an:=fun _ _=>none
def Zf:bP:=aC Ze ahO
def Zg:Env:=Env.cons 134 Zf Zd
abbrev Zh:List PS:= [.one (.slice [.int .i64]), .one (.slice [.int .i64])]
def ahQ:List Int×List Int→Prop×AV×List AB:=fun x=>match x with
 |(a,b)=>(True, .bool (S.mi a b),[])
def ahR:List Int×List Int→Nat→Option an:=fun x=>match x with
 |(a,b)=>fun id=>(match id with
  |0=>some {τ:=Nat,aZ:= [(5,fun k=> .int .i64 ((k:Nat):Int))],keys:= [],dw:= [],drop:= [],cH:= [],inv:=fun k=>S.p7 a b k,ai:=fun k=>S.ai (S.len a) k}
  |_=>none)
def Zi:bP:=aC Zh ahQ
def Zj:Env:=Env.cons 115 Zi Zg
abbrev Zk:List PS:= [.one (.slice [.str, .slice [.int .i64]])]
def ahS:List (List UInt8×List Int)→Prop×AV×List AB:=fun x=>match x with
 |d=>(S.js d, .bool (S.dF d),[])
def ahT:List (List UInt8×List Int)→Nat→Option an:=fun x=>match x with
 |d=>fun id=>(match id with
  |0=>some {τ:=Nat,aZ:= [(7,fun k=> .int .i64 ((k:Nat):Int))],keys:= [],dw:= [],drop:= [],cH:= [],inv:=fun k=>S.A6 d k,ai:=fun k=>S.ai (S.len d) k}
  |_=>none)
def Zl:bP:=aC Zk ahS
def Zm:Env:=Env.cons 133 Zl Zj
abbrev ahU:List PS:= [.one (.slice [.slice [.int .u8]]), .agg [.int .i64, .int .i64]]
def ahV:List (List UInt8)×Int×Int→Prop×AV×List AB:=fun x=>match x with
 |(docs,s1,s2)=>(True, .cK [.sl [.str, .slice [.int .i64]] ((S.gd docs s1 s2).1), .int .i64 ((S.gd docs s1 s2).2:Int)],[])
def Zn:bP:=aC ahU ahV
def Zo:Env:=Env.cons 107 Zn Zm
abbrev Zp:List PS:= [.one (.slice [.str, .slice [.int .i64]]), .one (.slice [.str, .slice [.int .i64]])]
def ahW:List (List UInt8×List Int)×List (List UInt8×List Int)→Prop×AV×List AB:=fun x=>match x with
 |(a,b)=>(True, .bool (S.fi a b),[])
def ahX:List (List UInt8×List Int)×List (List UInt8×List Int)→Nat→Option an:=fun x=>match x with
 |(a,b)=>fun id=>(match id with
  |0=>some {τ:=Nat,aZ:= [(5,fun k=> .int .i64 ((k:Nat):Int))],keys:= [],dw:= [],drop:= [],cH:= [],inv:=fun k=>S.iL a b k,ai:=fun k=>S.ai (S.len a) k}
  |_=>none)
def Zq:bP:=aC Zp ahW
def Zr:Env:=Env.cons 85 Zq Zo
abbrev Zs:List PS:= [.one (.slice [.slice [.int .u8]]), .one (.slice [.slice [.int .u8]])]
def ahY:List (List UInt8)×List (List UInt8)→Prop×AV×List AB:=fun x=>match x with
 |(a,b)=>(True, .bool (S.kR a b),[])
def ahZ:List (List UInt8)×List (List UInt8)→Nat→Option an:=fun x=>match x with
 |(a,b)=>fun id=>(match id with
  |0=>some {τ:=Nat,aZ:= [(5,fun k=> .int .i64 ((k:Nat):Int))],keys:= [],dw:= [],drop:= [],cH:= [],inv:=fun k=>S.nj a b k,ai:=fun k=>S.ai (S.len a) k}
  |_=>none)
def Zt:bP:=aC Zs ahY
def Zu:Env:=Env.cons 32 Zt Zr
abbrev Zv:List PS:= [.agg [.int .i64, .int .i64]]
def ah0:Int×Int→Prop×AV×List AB:=fun x=>match x with
 |(s1,s2)=>(True, .bool (S.iI s1 s2),[])
def ah1:Int×Int→Nat→Option an:=fun _ _=>none
def Zw:bP:=aC Zv ah0
def Zx:Env:=Env.cons 132 Zw Zu
abbrev Zy:List PS:= [.agg [.int .i64, .int .i64, .slice [.str, .slice [.int .i64]]]]
def ah2:Int×Int×List (List UInt8×List Int)→Prop×AV×List AB:=fun x=>match x with
 |(s1,s2,s3)=>(S.js s3, .bool (S.gP s1 s2 s3),[])
def ah3:Int×Int×List (List UInt8×List Int)→Nat→Option an:=fun x=>match x with
 |(s1,s2,s3)=>fun id=>(match id with
  |0=>some {τ:=Nat,aZ:= [(18,fun k=> .int .i64 ((k:Nat):Int))],keys:= [],dw:= [],drop:= [],cH:= [],inv:=fun k=>S.p9 s1 s2 s3 k,ai:=fun k=>S.ai (S.len s3) k}
  |_=>none)
def Zz:bP:=aC Zy ah2
def ZA:Env:=Env.cons 123 Zz Zx
abbrev ZB:List PS:= [.one (.slice [.slice [.int .u8]]), .agg [.int .i64, .int .i64]]
def ah4:List (List UInt8)×Int×Int→Prop×AV×List AB:=fun x=>match x with
 |(docs,s1,s2)=>(True, .cK [.agg [.int .i64 (((S.cu docs s1 s2).1).1:Int), .int .i64 (((S.cu docs s1 s2).1).2.1:Int), .sl [.str, .slice [.int .i64]] (((S.cu docs s1 s2).1).2.2)], .int .i64 ((S.cu docs s1 s2).2:Int)],[])
def ah5:List (List UInt8)×Int×Int→Nat→Option an:=fun _ _=>none
def ZC:bP:=aC ZB ah4
def ZD:Env:=Env.cons 75 ZC ZA
abbrev ZE:List PS:= [.agg [.int .i64, .int .i64, .slice [.str, .slice [.int .i64]]], .agg [.int .i64, .int .i64, .slice [.str, .slice [.int .i64]]]]
def ah6:Int×Int×List (List UInt8×List Int)×Int×Int×List (List UInt8×List Int)→Prop×AV×List AB:=fun x=>match x with
 |(a1,a2,a3,b1,b2,b3)=>(True, .bool (S.sv a1 a2 a3 b1 b2 b3),[])
def ah7:Int×Int×List (List UInt8×List Int)×Int×Int×List (List UInt8×List Int)→Nat→Option an:=fun _ _=>none
def ZF:bP:=aC ZE ah6
def ZG:Env:=Env.cons 46 ZF ZD
abbrev ZH:List PS:= [.agg [.int .i64, .int .i64, .slice [.str, .slice [.int .i64]]]]
def ah8:Int×Int×List (List UInt8×List Int)→Prop×AV×List AB:=fun x=>match x with
 |(s1,s2,s3)=>(True, .agg [.int .i64 (((s1,s2,s3)).1:Int), .int .i64 (((s1,s2,s3)).2.1:Int), .sl [.str, .slice [.int .i64]] (((s1,s2,s3)).2.2)],[])
def ah9:Int×Int×List (List UInt8×List Int)→Nat→Option an:=fun _ _=>none
def ZI:bP:=aC ZH ah8
def ZJ:Env:=Env.cons 43 ZI ZG
abbrev ZK:List PS:= [.one (.slice [.int .i64, .int .i64, .slice [.str, .slice [.int .i64]]])]
def aia:List (Int×Int×List (List UInt8×List Int))→Prop×AV×List AB:=fun x=>match x with
 |l=>(S.nm l, .sl [.str, .slice [.int .i64]] (S.mL l),[])
def aib:List (Int×Int×List (List UInt8×List Int))→Nat→Option an:=fun x=>match x with
 |l=>fun id=>(match id with
  |0=>some {τ:=Nat,aZ:= [(3,fun k=> .own 300)],keys:= [(300,fun k=> .row 136 [.str, .slice [.int .i64]] (S.cv l k) false),(13,fun k=> .row 3 [.int .i64] (S.aA l k) false)],dw:= [(Vg.Loc.slot 3,300)],drop:= [302],cH:= [],inv:=fun k=>k≤S.uL l,ai:=fun k=>S.ai (S.uL l) k}
  |2=>some {τ:=Nat×Nat,aZ:= [(16,fun k=> .int .i64 ((k.1:Nat):Int)),(5,fun k=> .int .i64 (S.cJ l (S.aA l k.2) k.1))],keys:= [],dw:= [],drop:= [],cH:= [(4,fun k=> .sl [.int .i64] (S.aA l k.2))],inv:=fun k=>k.1≤l.length∧k.2≤S.uL l,ai:=fun k=>S.ai (S.len l) k.1}
  |4=>some {τ:=Nat×Nat,aZ:= [(74,fun k=> .int .i64 ((k.1:Nat):Int))],keys:= [(13,fun k=> .row 3 [.int .i64] (S.aY l k.2 k.1) false),(8,fun k=> .cells [.str (S.lb l k.2), .own 302]),(302,fun k=> .row 3 [.int .i64] (S.cO l (S.lb l k.2) k.1) false)],dw:= [(Vg.Loc.cell 8 1,302)],drop:= [],cH:= [(3,fun k=> .sl [.str, .slice [.int .i64]] (S.cv l k.2))],inv:=fun k=>k.1≤l.length∧k.2<S.uL l,ai:=fun k=>S.ai (S.len l) k.1}
  |_=>none)
def ZL:bP:=aC ZK aia
def ZM:Env:=Env.cons 124 ZL ZJ
abbrev ZN:List PS:= [.one (.slice [.int .i64, .int .i64, .slice [.str, .slice [.int .i64]]])]
def aic:List (Int×Int×List (List UInt8×List Int))→Prop×AV×List AB:=fun x=>match x with
 |l=>(S.rp l, .cK [.agg [.int .i64 (((S.dm l).1).1:Int), .int .i64 (((S.dm l).1).2.1:Int), .sl [.str, .slice [.int .i64]] (((S.dm l).1).2.2)], .int .i64 ((S.dm l).2:Int)],[])
def aid:List (Int×Int×List (List UInt8×List Int))→Nat→Option an:=fun x=>match x with
 |l=>fun id=>(match id with
  |0=>some {τ:=Nat,aZ:= [(14,fun k=> .int .i64 ((k:Nat):Int))],keys:= [],dw:= [],drop:= [],cH:= [],inv:=fun k=>S.oa l k,ai:=fun k=>S.ai (S.len l) k}
  |2=>some {τ:=Nat,aZ:= [(6,fun k=> .int .i64 ((k:Int)+1))],keys:= [],dw:= [],drop:= [],cH:= [],inv:=fun k=>S.qG l k,ai:=fun k=>S.ai (S.len l) k}
  |_=>none)
def ZO:bP:=aC ZN aic
def ZP:Env:=Env.cons 103 ZO ZM
abbrev ZQ:List PS:= [.agg [.int .i64, .int .i64]]
def aie:Int×Int→Prop×AV×List AB:=fun x=>match x with
 |(s1,s2)=>(True, .int .i64 (S.j3 s1 s2:Int),[])
def aif:Int×Int→Nat→Option an:=fun x=>match x with
 |(s1,s2)=>fun id=>(match id with
  |0=>some {τ:=Nat,aZ:= [(4,fun n=> .int .i64 ((n:Nat):Int)),(3,fun n=> .int .i64 (S.lg (s2-s1)-S.lg n))],keys:= [],dw:= [],drop:= [],cH:= [],inv:=fun n=>S.lG s1 s2 n,ai:=fun n=>n}
  |_=>none)
def ZR:bP:=aC ZQ aie
def ZS:Env:=Env.cons 125 ZR ZP
abbrev ZT:List PS:= [.one (.slice [.int .i64, .int .i64])]
def aih:List (Int×Int)→Prop×AV×List AB:=fun x=>match x with
 |l=>(True, .cK [.int .i64 ((S.dC l).1:Int), .bool ((S.dC l).2)],[])
def aii:List (Int×Int)→Nat→Option an:=fun x=>match x with
 |l=>fun id=>(match id with
  |0=>some {τ:=Nat,aZ:= [(4,fun k=> .int .i64 (((S.len l:Nat):Int)-2-(k:Int)))],keys:= [],dw:= [],drop:= [],cH:= [],inv:=fun k=>S.kC l k,ai:=fun k=>S.ai (S.len l) k}
  |_=>none)
def ZU:bP:=aC ZT aih
def ZV:Env:=Env.cons 105 ZU ZS
abbrev ZW:List PS:= [.one (.slice [.int .i64, .int .i64, .slice [.str, .slice [.int .i64]]])]
def aij:List (Int×Int×List (List UInt8×List Int))→Prop×AV×List AB:=fun x=>match x with
 |l=>(S.small l, .sl [.int .i64, .int .i64] (S.cr l),[])
def aik:List (Int×Int×List (List UInt8×List Int))→Nat→Option an:=fun x=>match x with
 |l=>fun id=>(match id with
  |0=>some {τ:=Nat,aZ:= [(8,fun k=> .int .i64 ((k:Nat):Int)),(3,fun k=> .own 300)],keys:= [(300,fun k=> .row 88 [.int .i64, .int .i64] (S.gx l k) false)],dw:= [(Vg.Loc.slot 3,300)],drop:= [],cH:= [],inv:=fun k=>k≤l.length,ai:=fun k=>S.ai (S.len l) k}
  |_=>none)
def ZX:bP:=aC ZW aij
def ZY:Env:=Env.cons 106 ZX ZV
abbrev ZZ:List PS:= [.one (.slice [.int .u8])]
def ail:List UInt8→Prop×AV×List AB:=fun x=>match x with
 |l=>(S.small l, .own 0,[.row 5 [.int .u8] (l) false])
def aim:List UInt8→Nat→Option an:=fun _ _=>none
def Z0:bP:=aC ZZ ail
def Z1:Env:=Env.cons 95 Z0 ZY
abbrev Z2:List PS:= [.one (.slice [.str, .slice [.int .i64]])]
def ain:List (List UInt8×List Int)→Prop×AV×List AB:=fun x=>match x with
 |l=>(S.small l, .own 0,[.row 136 [.str, .slice [.int .i64]] (l) false])
def aio:List (List UInt8×List Int)→Nat→Option an:=fun _ _=>none
def Z3:bP:=aC Z2 ain
def Z4:Env:=Env.cons 98 Z3 Z1
abbrev Z5:List PS:= [.one (.slice [.int .i64]), .one (.slice [.int .i64])]
def aip:List Int×List Int→Prop×AV×List AB:=fun x=>match x with
 |(a,b)=>(True, .bool (S.zW a b),[])
def aiq:List Int×List Int→Nat→Option an:=fun x=>match x with
 |(a,b)=>fun id=>(match id with
  |0=>some {τ:=Nat,aZ:= [(13,fun k=> .int .i64 ((k:Nat):Int))],keys:= [],dw:= [],drop:= [],cH:= [],inv:=fun k=>S.yP a b k,ai:=fun k=>S.ai (S.len a) k}
  |_=>none)
def Z6:bP:=aC Z5 aip
def Z7:Env:=Env.cons 110 Z6 Z4
abbrev Z8:List PS:= [.agg [.str, .slice [.int .i64]], .agg [.str, .slice [.int .i64]]]
def air:List UInt8×List Int×List UInt8×List Int→Prop×AV×List AB:=fun x=>match x with
 |(a1,a2,b1,b2)=>(True, .bool (S.uA a1 a2 b1 b2),[])
def ais:List UInt8×List Int×List UInt8×List Int→Nat→Option an:=fun _ _=>none
def Z9:bP:=aC Z8 air
def À:Env:=Env.cons 109 Z9 Z7
abbrev Á:List TA:= [.jo (.slice [.str, .slice [.int .i64]]), .jo (.slice [.str, .slice [.int .i64]]), .fn (.func 109) [] []]
abbrev Â:List TB:= []
def ait:(List (List UInt8×List Int)×List (List UInt8×List Int))→Unit→fY:=fun x y=>match x,y with
 |(a,b),()=> {pre:=True,res:= .bool (S.fi a b),heap:= [],new:= []}
def aiu:(List (List UInt8×List Int)×List (List UInt8×List Int))→Unit→Nat→Option an:=fun x y=>match x,y with
 |(a,b),()=>fun id=>(match id with
  |0=>some {τ:=Nat,aZ:= [(17,fun k=> .int .i64 ((k:Nat):Int))],keys:= [],dw:= [],drop:= [],cH:= [],inv:=fun k=>S.iL a b k,ai:=fun k=>S.ai (S.len a) k}
  |_=>none)
def Ã:gk:=iX Á Â ait
def Ä:gk:=Ã
def Å:Env:=Env.gE 108 [false,false,true] Ä À
abbrev Æ:List PS:= [.one (.slice [.str, .slice [.int .i64]]), .one (.slice [.str, .slice [.int .i64]])]
def aiv:List (List UInt8×List Int)×List (List UInt8×List Int)→Prop×AV×List AB:=fun x=>match x with
 |(a,b)=>(True, .bool (S.fi a b),[])
def aiw:List (List UInt8×List Int)×List (List UInt8×List Int)→Nat→Option an:=fun _ _=>none
def Ç:bP:=aC Æ aiv
def È:Env:=Env.cons 76 Ç Å
abbrev É:List PS:= [.agg [.slice [.slice [.int .u8]], .slice [.int .i64, .int .i64, .slice [.str, .slice [.int .i64]]]]]
def aix:List (List UInt8)×List (Int×Int×List (List UInt8×List Int))→Prop×AV×List AB:=fun x=>match x with
 |(y1,y2)=>(True, .bool (S.bc y1 y2),[])
def aiy:List (List UInt8)×List (Int×Int×List (List UInt8×List Int))→Nat→Option an:=fun x=>match x with
 |(y1,y2)=>fun id=>(match id with
  |0=>some {τ:=Nat,aZ:= [(23,fun k=> .int .i64 ((k:Nat):Int))],keys:= [],dw:= [],drop:= [],cH:= [],inv:=fun k=>S.Ef y1 y2 k,ai:=fun k=>S.ai (S.len y1) k}
  |2=>some {τ:=Nat,aZ:= [(34,fun k=> .int .i64 ((k:Nat):Int)),(5,fun k=> .int .i64 (S.eP y2 k))],keys:= [],dw:= [],drop:= [],cH:= [],inv:=fun k=>S.uy y1 y2 k,ai:=fun k=>S.ai (S.len y2) k}
  |_=>none)
def Ê:bP:=aC É aix
def Ë:Env:=Env.cons 37 Ê È
abbrev Ì:List PS:= [.agg [.slice [.slice [.int .u8]], .slice [.int .i64, .int .i64, .slice [.str, .slice [.int .i64]]]]]
def aiz:List (List UInt8)×List (Int×Int×List (List UInt8×List Int))→Prop×AV×List AB:=fun x=>match x with
 |(y1,y2)=>(True, .agg [.sl [.slice [.int .u8]] ((S.al y1 y2).1), .sl [.int .i64, .int .i64, .slice [.str, .slice [.int .i64]]] ((S.al y1 y2).2)],[])
def aiA:List (List UInt8)×List (Int×Int×List (List UInt8×List Int))→Nat→Option an:=fun _ _=>none
def Í:bP:=aC Ì aiz
def Î:Env:=Env.cons 100 Í Ë
abbrev Ï:List PS:= [.agg [.slice [.slice [.int .u8]], .slice [.int .i64, .int .i64, .slice [.str, .slice [.int .i64]]]]]
def aiB:List (List UInt8)×List (Int×Int×List (List UInt8×List Int))→Prop×AV×List AB:=fun x=>match x with
 |(y1,y2)=>(True, .int .i64 (S.cm y2:Int),[])
def aiC:List (List UInt8)×List (Int×Int×List (List UInt8×List Int))→Nat→Option an:=fun _ _=>none
def Ð:bP:=aC Ï aiB
def Oz:Env:=Env.cons 102 Ð Î
abbrev Ñ:List PS:= [.agg [.slice [.slice [.int .u8]], .slice [.int .i64, .int .i64, .slice [.str, .slice [.int .i64]]]]]
def aiD:List (List UInt8)×List (Int×Int×List (List UInt8×List Int))→Prop×AV×List AB:=fun x=>match x with
 |(y1,y2)=>(S.mM y1 y2, .agg [.own 0, .own 1],[.row 26 [.slice [.int .u8]] y1 false, .row 91 [.int .i64, .int .i64, .slice [.str, .slice [.int .i64]]] y2 false])
def aiE:List (List UInt8)×List (Int×Int×List (List UInt8×List Int))→Nat→Option an:=fun x=>match x with
 |(y1,y2)=>fun id=>(match id with
  |0=>some {τ:=Nat,aZ:= [(22,fun k=> .int .i64 ((k:Nat):Int))],keys:= [(13,fun k=> .row 26 [.slice [.int .u8]] (S.cV [] y1 k) false)],dw:= [],drop:= [],cH:= [],inv:=fun k=>S.nr y1 k,ai:=fun k=>S.ai (S.len y1) k}
  |2=>some {τ:=Nat,aZ:= [(37,fun k=> .int .i64 ((k:Nat):Int))],keys:= [(17,fun k=> .row 91 [.int .i64, .int .i64, .slice [.str, .slice [.int .i64]]] (S.cV (0,0,[]) y2 k) false)],dw:= [],drop:= [],cH:= [],inv:=fun k=>S.nr y2 k,ai:=fun k=>S.ai (S.len y2) k}
  |4=>some {τ:=Nat×Nat×List S.ax,aZ:= [(55,fun k=> .int .i64 ((k.1:Nat):Int))],keys:= [(17,fun k=> .gj 91 (some 104900) [.int .i64, .int .i64, .slice [.str, .slice [.int .i64]]] k.2.2 k.2.1),(104900,fun k=> .row 136 [.str, .slice [.int .i64]] (S.ar y2 k.2.1).2.2 false)],dw:= [],drop:= [],cH:= [(6,fun k=> .int .i64 ((k.2.1:Nat):Int))],inv:=fun k=>S.qg y2 k.2.2 k.2.1 k.1,ai:=fun k=>S.ai (S.nq y2 k.2.1) k.1}
  |_=>none)
def Ò:bP:=aC Ñ aiD
def Ó:Env:=Env.cons 101 Ò Oz
def aiF:Env:= {Oz with gj:=fun t=>Nat.beq t 91,cls:=fun d=>bif Nat.beq d 73 then some 17 else none,spl:=fun d=>false}
abbrev Ô:List PS:= [.one (.slice [.int .i64, .int .i64, .slice [.str, .slice [.int .i64]]]), .one (.int .i64), .one (.int .i64), .agg [.int .i64, .int .i64, .slice [.str, .slice [.int .i64]]]]
def aiG:List (Int×Int×List (List UInt8×List Int))×Int×Int×Int×Int×List (List UInt8×List Int)→Prop×AV×List AB:=fun x=>match x with
 |(l,i,m,s1,s2,s3)=>(S.rv l i m, .own 0,[.row 91 [.int .i64, .int .i64, .slice [.str, .slice [.int .i64]]] (S.pq l i.toNat m.toNat (s1,s2,s3)) false])
def aiH:List (Int×Int×List (List UInt8×List Int))×Int×Int×Int×Int×List (List UInt8×List Int)→Nat→Option an:=fun _ _=>none
def Õ:bP:=aC Ô aiG
def Ö:Env:=Env.cons 104 Õ Ó
abbrev Ø:List PS:= [.agg [.slice [.slice [.int .u8]], .slice [.int .i64, .int .i64, .slice [.str, .slice [.int .i64]]]], .one (.slice [.int .u8])]
def aiI:List (List UInt8)×List (Int×Int×List (List UInt8×List Int))×List UInt8→Prop×AV×List AB:=fun x=>match x with
 |(y1,y2,d)=>(True, .cK [.agg [.sl [.slice [.int .u8]] (((S.bt y1 y2 d).1).1), .sl [.int .i64, .int .i64, .slice [.str, .slice [.int .i64]]] (((S.bt y1 y2 d).1).2)], .int .i64 ((S.bt y1 y2 d).2:Int)],[])
def aiJ:List (List UInt8)×List (Int×Int×List (List UInt8×List Int))×List UInt8→Nat→Option an:=fun _ _=>none
def Ù:bP:=aC Ø aiI
def Ú:Env:=Env.cons 68 Ù Ö
abbrev Û:List PS:= [.agg [.slice [.slice [.int .u8]], .slice [.int .i64, .int .i64, .slice [.str, .slice [.int .i64]]]]]
def aiK:List (List UInt8)×List (Int×Int×List (List UInt8×List Int))→Prop×AV×List AB:=fun x=>match x with
 |(y1,y2)=>(True, .cK [.agg [.sl [.slice [.int .u8]] (((S.ba y1 y2).1).1), .sl [.int .i64, .int .i64, .slice [.str, .slice [.int .i64]]] (((S.ba y1 y2).1).2)], .int .i64 ((S.ba y1 y2).2:Int)],[])
def aiL:List (List UInt8)×List (Int×Int×List (List UInt8×List Int))→Nat→Option an:=fun _ _=>none
def Ü:bP:=aC Û aiK
def Ý:Env:=Env.cons 70 Ü Ú
abbrev Þ:List PS:= [.agg [.slice [.slice [.int .u8]], .slice [.int .i64, .int .i64, .slice [.str, .slice [.int .i64]]]], .one (.int .i64), .one (.int .i64)]
def aiM:List (List UInt8)×List (Int×Int×List (List UInt8×List Int))×Int×Int→Prop×AV×List AB:=fun x=>match x with
 |(y1,y2,i,m)=>(True, .cK [.agg [.sl [.slice [.int .u8]] (((S.cw y1 y2 i m).1).1), .sl [.int .i64, .int .i64, .slice [.str, .slice [.int .i64]]] (((S.cw y1 y2 i m).1).2)], .int .i64 ((S.cw y1 y2 i m).2:Int)],[])
def aiN:List (List UInt8)×List (Int×Int×List (List UInt8×List Int))×Int×Int→Nat→Option an:=fun _ _=>none
def ß:bP:=aC Þ aiM
def à:Env:=Env.cons 72 ß Ý
abbrev á:List PS:= [.agg [.slice [.slice [.int .u8]], .slice [.int .i64, .int .i64, .slice [.str, .slice [.int .i64]]]]]
def aiO:List (List UInt8)×List (Int×Int×List (List UInt8×List Int))→Prop×AV×List AB:=fun x=>match x with
 |(y1,y2)=>(True, .agg [.sl [.slice [.int .u8]] ((S.di y1 y2).1), .sl [.int .i64, .int .i64, .slice [.str, .slice [.int .i64]]] ((S.di y1 y2).2)],[])
def aiP:List (List UInt8)×List (Int×Int×List (List UInt8×List Int))→Nat→Option an:=fun x=>match x with
 |(y1,y2)=>fun id=>(match id with
  |0=>some {τ:=List (Int×Int),aZ:= [],keys:= [(3,fun L=> .cells [.own 101100, .own 300]),(300,fun L=> .row 91 [.int .i64, .int .i64, .slice [.str, .slice [.int .i64]]] (S.aB (S.al y1 y2).1 L) false)],dw:= [(Vg.Loc.cell 3 1,300)],drop:= [101101],cH:= [],inv:=fun L=>S.mN y1 y2 L,ai:=fun L=>L.length}
  |_=>none)
def â:bP:=aC á aiO
def ã:Env:=Env.cons 74 â à
abbrev Qg:List PS:= [.agg [.slice [.slice [.int .u8]], .slice [.int .i64, .int .i64, .slice [.str, .slice [.int .i64]]]], .agg [.slice [.slice [.int .u8]], .slice [.int .i64, .int .i64, .slice [.str, .slice [.int .i64]]]]]
def aak:List (List UInt8)×List (Int×Int×List (List UInt8×List Int))×List (List UInt8)×List (Int×Int×List (List UInt8×List Int))→Prop×AV×List AB:=fun x=>match x with
 |(a1,a2,b1,b2)=>(True, .bool (S.iQ a1 a2 b1 b2),[])
def aal:List (List UInt8)×List (Int×Int×List (List UInt8×List Int))×List (List UInt8)×List (Int×Int×List (List UInt8×List Int))→Nat→Option an:=fun x=>match x with
 |(a1,a2,b1,b2)=>fun id=>(match id with
  |0=>some {τ:=Nat,aZ:= [(5,fun k=> .int .i64 ((k:Nat):Int))],keys:= [],dw:= [],drop:= [],cH:= [],inv:=fun k=>S.nu a1 a2 b1 b2 k,ai:=fun k=>S.ai (S.len a2) k}
  |_=>none)
def Qh:bP:=aC Qg aak
def Qi:Env:=Env.cons 16 Qh ã
abbrev Qj:List PS:= [.agg [.slice [.slice [.int .u8]], .slice [.int .i64, .int .i64, .slice [.str, .slice [.int .i64]]]]]
def aam:List (List UInt8)×List (Int×Int×List (List UInt8×List Int))→Prop×AV×List AB:=fun x=>match x with
 |(y1,y2)=>(S.small y2, .agg [.sl [.slice [.int .u8]] (((y1,y2)).1), .sl [.int .i64, .int .i64, .slice [.str, .slice [.int .i64]]] (((y1,y2)).2)],[])
def aan:List (List UInt8)×List (Int×Int×List (List UInt8×List Int))→Nat→Option an:=fun x=>match x with
 |(y1,y2)=>fun id=>(match id with
  |0=>some {τ:=Nat,aZ:= [(4,fun k=> .int .i64 ((k:Nat):Int))],keys:= [(3,fun k=> .cells [.sl [.slice [.int .u8]] y1, .own 300]),(300,fun k=> .row 104 [.int .i64, .int .i64, .slice [.str, .slice [.int .i64]]] (y2.take k) false)],dw:= [(Vg.Loc.cell 3 1,300)],drop:= [],cH:= [],inv:=fun k=>S.nr y2 k,ai:=fun k=>S.ai (S.len y2) k}
  |_=>none)
def Qk:bP:=aC Qj aam
def Ql:Env:=Env.cons 13 Qk Qi
abbrev Qm:List PS:= [.one (.slice [.int .u8])]
def aao:List UInt8→Prop×AV×List AB:=fun x=>match x with
 |b=>(True, .own 0,[.row 5 [.int .u8] (S.copied b) false])
def aap:List UInt8→Nat→Option an:=fun _ _=>none
def Qn:bP:=aC Qm aao
def Qo:Env:=Env.cons 92 Qn Ql
abbrev Qp:List PS:= [.one (.int .i64)]
def aaq:Int→Prop×AV×List AB:=fun x=>match x with
 |n=>(S.ry n, .own 0,[.views 26 (some 1) n.toNat n.toNat 64, .row 5 [.int .u8] (S.pt n) false])
def aar:Int→Nat→Option an:=fun x=>match x with
 |n=>fun id=>(match id with
  |0=>some {τ:=Nat,aZ:= [(15,fun k=> .int .i64 ((k:Nat):Int))],keys:= [(12,fun k=> .views 26 (some 10) n.toNat k 64)],dw:= [],drop:= [],cH:= [],inv:=fun k=>S.uE k n.toNat,ai:=fun k=>S.ai n.toNat k}
  |_=>none)
def Qq:bP:=aC Qp aaq
def Qr:Env:=Env.cons 66 Qq Qo
abbrev Qs:List PS:= [.agg [.slice [.slice [.int .u8]], .slice [.int .i64, .slice [.int .u8]]]]
def aas:List (List UInt8)×List (Int×List UInt8)→Prop×AV×List AB:=fun x=>match x with
 |(d1,d2)=>(S.pv d1, .agg [.own 0, .nil],[.views 26 (some 1) (S.len d1) (S.len d1) 64, .row 5 [.int .u8] (S.flat d1) false])
def aat:List (List UInt8)×List (Int×List UInt8)→Nat→Option an:=fun x=>match x with
 |(d1,d2)=>fun id=>(match id with
  |0=>some {τ:=Nat,aZ:= [(14,fun k=> .int .i64 ((k:Nat):Int))],keys:= [(100901,fun k=> .row 5 [.int .u8] (S.fN d1 k) false)],dw:= [],drop:= [],cH:= [],inv:=fun k=>S.fa d1 k,ai:=fun k=>S.ai (S.len d1) k}
  |_=>none)
def Qt:bP:=aC Qs aas
def Qu:Env:=Env.cons 62 Qt Qr
abbrev Qv:List PS:= [.agg [.slice [.slice [.int .u8]], .slice [.int .i64, .slice [.int .u8]]]]
def aau:List (List UInt8)×List (Int×List UInt8)→Prop×AV×List AB:=fun x=>match x with
 |(d1,d2)=>(True, .bool (S.aI d1 d2),[])
def aav:List (List UInt8)×List (Int×List UInt8)→Nat→Option an:=fun x=>match x with
 |(d1,d2)=>fun id=>(match id with
  |0=>some {τ:=Nat,aZ:= [(20,fun k=> .int .i64 ((k:Nat):Int))],keys:= [],dw:= [],drop:= [],cH:= [],inv:=fun k=>S.LB d1 k,ai:=fun k=>S.ai (S.len d1) k}
  |2=>some {τ:=Nat,aZ:= [(31,fun k=> .int .i64 ((k:Nat):Int))],keys:= [],dw:= [],drop:= [],cH:= [],inv:=fun k=>S.LC d1 d2 k,ai:=fun k=>S.ai (S.len d2) k}
  |_=>none)
def Qw:bP:=aC Qv aau
def Qx:Env:=Env.cons 50 Qw Qu
abbrev Qy:List PS:= [.agg [.slice [.slice [.int .u8]], .slice [.int .i64, .slice [.int .u8]]]]
def aaw:List (List UInt8)×List (Int×List UInt8)→Prop×AV×List AB:=fun x=>match x with
 |(d1,d2)=>(True, .agg [.sl [.slice [.int .u8]] (((S.vB d1 d2,S.vW d1 d2)).1), .sl [.int .i64, .slice [.int .u8]] (((S.vB d1 d2,S.vW d1 d2)).2)],[])
def aax:List (List UInt8)×List (Int×List UInt8)→Nat→Option an:=fun _ _=>none
def Qz:bP:=aC Qy aaw
def QA:Env:=Env.cons 61 Qz Qx
abbrev QB:List PS:= [.agg [.slice [.slice [.int .u8]], .slice [.int .i64, .slice [.int .u8]]]]
def aay:List (List UInt8)×List (Int×List UInt8)→Prop×AV×List AB:=fun x=>match x with
 |(d1,d2)=>(True, .int .i64 (S.ko (S.vB d1 d2):Int),[])
def aaz:List (List UInt8)×List (Int×List UInt8)→Nat→Option an:=fun _ _=>none
def QC:bP:=aC QB aay
def QD:Env:=Env.cons 51 QC QA
abbrev QE:List PS:= [.one (.int .i64)]
def aaA:Int→Prop×AV×List AB:=fun x=>match x with
 |n=>(True, .cK [.agg [.sl [.slice [.int .u8]] (S.pw n), .nil], .int .i64 (S.yR n)],[])
def aaB:Int→Nat→Option an:=fun _ _=>none
def QF:bP:=aC QE aaA
def QG:Env:=Env.cons 35 QF QD
abbrev QH:List PS:= [.agg [.slice [.slice [.int .u8]], .slice [.int .i64, .slice [.int .u8]]], .one (.int .i64)]
def aaC:List (List UInt8)×List (Int×List UInt8)×Int→Prop×AV×List AB:=fun x=>match x with
 |(d1,d2,i)=>(True, .cK [.own 0, .int .i64 (((S.dM d1 d2 i,S.fZ d1 d2 i)).2:Int)],[.row 5 [.int .u8] (((S.dM d1 d2 i,S.fZ d1 d2 i)).1) false])
def aaD:List (List UInt8)×List (Int×List UInt8)×Int→Nat→Option an:=fun x=>match x with
 |(d1,d2,i)=>fun id=>(match id with
  |0=>some {τ:=Nat,aZ:= [(28,fun k=> .int .i64 ((k:Nat):Int)),(6,fun k=> .sl [.int .u8] (S.qi (S.vW d1 d2) i (S.bO (S.vB d1 d2) i) k))],keys:= [],dw:= [],drop:= [],cH:= [],inv:=fun k=>S.fa (S.vW d1 d2) k,ai:=fun k=>S.ai (S.len (S.vW d1 d2)) k}
  |_=>none)
def QI:bP:=aC QH aaC
def QJ:Env:=Env.cons 86 QI QG
abbrev QK:List PS:= [.agg [.slice [.slice [.int .u8]], .slice [.int .i64, .slice [.int .u8]]], .one (.int .i64), .one (.slice [.int .u8])]
def aaE:List (List UInt8)×List (Int×List UInt8)×Int×List UInt8→Prop×AV×List AB:=fun x=>match x with
 |(d1,d2,i,b)=>(True, .cK [.agg [.sl [.slice [.int .u8]] (((((S.wB d1 d2,S.wW d1 d2 i b),S.kF d1 d2 i b)).1).1), .sl [.int .i64, .slice [.int .u8]] (((((S.wB d1 d2,S.wW d1 d2 i b),S.kF d1 d2 i b)).1).2)], .int .i64 ((((S.wB d1 d2,S.wW d1 d2 i b),S.kF d1 d2 i b)).2:Int)],[])
def aaF:List (List UInt8)×List (Int×List UInt8)×Int×List UInt8→Nat→Option an:=fun x=>match x with
 |(d1,d2,i,b)=>fun id=>(match id with
  |0=>some {τ:=Nat,aZ:= [(38,fun k=> .int .i64 ((k:Nat):Int))],keys:= [(8,fun k=> .cells [.own 103400, .own 200]),(200,fun k=> .row 129 [.int .i64, .slice [.int .u8]] (S.kE (S.vW d1 d2) k) false)],dw:= [(Vg.Loc.cell 8 1,200)],drop:= [],cH:= [],inv:=fun k=>S.fa (S.vW d1 d2) k,ai:=fun k=>S.ai (S.len (S.vW d1 d2)) k}
  |_=>none)
def QL:bP:=aC QK aaE
def QM:Env:=Env.cons 60 QL QJ
abbrev QN:List PS:= [.agg [.slice [.slice [.int .u8]], .slice [.int .i64, .slice [.int .u8]]]]
def aaG:List (List UInt8)×List (Int×List UInt8)→Prop×AV×List AB:=fun x=>match x with
 |(d1,d2)=>(True, .agg [.sl [.slice [.int .u8]] (S.xr (d1,d2)), .nil],[])
def aaH:List (List UInt8)×List (Int×List UInt8)→Nat→Option an:=fun x=>match x with
 |(d1,d2)=>fun id=>(match id with
  |0=>some {τ:=Nat,aZ:= [(13,fun k=> .int .i64 ((k:Nat):Int))],keys:= [(100901,fun k=> .row 5 [.int .u8] (S.lJ (S.vB d1 d2) (S.vW d1 d2) k) false)],dw:= [],drop:= [],cH:= [],inv:=fun k=>S.fa (S.vW d1 d2) k,ai:=fun k=>S.ai (S.len (S.vW d1 d2)) k}
  |_=>none)
def QO:bP:=aC QN aaG
def QP:Env:=Env.cons 59 QO QM
abbrev QQ:List PS:= [.agg [.slice [.slice [.int .u8]], .slice [.int .i64, .slice [.int .u8]]], .one (.slice [.int .i64])]
def aaI:List (List UInt8)×List (Int×List UInt8)×List Int→Prop×AV×List AB:=fun x=>match x with
 |(d1,d2,keep)=>(True, .agg [.sl [.slice [.int .u8]] (S.eG (d1,d2) keep), .nil],[])
def aaJ:List (List UInt8)×List (Int×List UInt8)×List Int→Nat→Option an:=fun x=>match x with
 |(d1,d2,keep)=>fun id=>(match id with
  |0=>some {τ:=Nat,aZ:= [(16,fun k=> .int .i64 ((k:Nat):Int))],keys:= [(101201,fun k=> .row 5 [.int .u8] (S.jy keep (S.vB d1 d2) (S.vW d1 d2) k) false)],dw:= [],drop:= [],cH:= [],inv:=fun k=>S.fa (S.vW d1 d2) k,ai:=fun k=>S.ai (S.len (S.vW d1 d2)) k}
  |_=>none)
def QR:bP:=aC QQ aaI
def QS:Env:=Env.cons 23 QR QP
abbrev QT:List PS:= [.one (.slice [.int .u8]), .one (.slice [.int .u8])]
def aaK:List UInt8×List UInt8→Prop×AV×List AB:=fun x=>match x with
 |(a,b)=>(True, .bool (S.Jj a b),[])
def aaL:List UInt8×List UInt8→Nat→Option an:=fun _ _=>none
def QU:bP:=aC QT aaK
def QV:Env:=Env.cons 117 QU QS
abbrev aaM:List PS:= [.one (.slice [.int .u8]), .one (.int .i64)]
def aaN:List UInt8×Int→Prop×AV×List AB:=fun x=>match x with
 |(b,n)=>(S.Jk b n, .sl [.int .u8] S.clean,[])
def QW:bP:=aC aaM aaN
def QX:Env:=Env.cons 56 QW QV
abbrev QY:List PS:= [.one (.slice [.int .u8])]
def aaO:List UInt8→Prop×AV×List AB:=fun x=>match x with
 |b=>(S.eQ b, .cK [.int .i64 ((S.eS b).1:Int), .bool ((S.eS b).2)],[])
def aaP:List UInt8→Nat→Option an:=fun x=>match x with
 |b=>fun id=>(match id with
  |0=>some {τ:=Nat,aZ:= [(10,fun k=> .int .i64 ((k:Nat):Int)),(4,fun k=> .int .u64 ((S.dO b k:Nat):Int))],keys:= [],dw:= [],drop:= [],cH:= [],inv:=fun k=>S.nW k 8,ai:=fun k=>S.ai 8 k}
  |_=>none)
def QZ:bP:=aC QY aaO
def Q0:Env:=Env.cons 116 QZ QX
abbrev Q1:List PS:= [.agg [.int .i64, .int .i64]]
def aaQ:Int×Int→Prop×AV×List AB:=fun x=>match x with
 |(m1,m2)=>(S.lN m1 m2, .own 0,[.row 5 [.int .u8] (S.dN m1 m2) false])
def aaR:Int×Int→Nat→Option an:=fun x=>match x with
 |(m1,m2)=>fun id=>(match id with
  |0=>some {τ:=Nat,aZ:= [(10,fun k=> .int .i64 ((k:Nat):Int))],keys:= [(7,fun k=> .row 5 [.int .u8] (S.dW m1 m2 k) false)],dw:= [],drop:= [],cH:= [],inv:=fun k=>S.nW k 8,ai:=fun k=>S.ai 8 k}
  |_=>none)
def Q2:bP:=aC Q1 aaQ
def Q3:Env:=Env.cons 58 Q2 Q0
abbrev Q4:List PS:= [.one (.slice [.int .u8]), .one (.int .i64)]
def aaS:List UInt8×Int→Prop×AV×List AB:=fun x=>match x with
 |(b,m)=>(True, .cK [.agg [.int .i64 (((S.cE b m).1).1:Int), .int .i64 (((S.cE b m).1).2:Int)], .bool ((S.cE b m).2)],[])
def aaT:List UInt8×Int→Nat→Option an:=fun _ _=>none
def Q5:bP:=aC Q4 aaS
def Q6:Env:=Env.cons 87 Q5 Q3
abbrev Q7:List PS:= [.agg [.slice [.slice [.int .u8]], .slice [.int .i64, .slice [.int .u8]]]]
def aaU:List (List UInt8)×List (Int×List UInt8)→Prop×AV×List AB:=fun x=>match x with
 |(d1,d2)=>(True, .int .i64 (S.dE d1 d2:Int),[])
def aaV:List (List UInt8)×List (Int×List UInt8)→Nat→Option an:=fun _ _=>none
def Q8:bP:=aC Q7 aaU
def Q9:Env:=Env.cons 55 Q8 Q6
abbrev Ra:List PS:= [.agg [.slice [.slice [.int .u8]], .slice [.int .i64, .slice [.int .u8]]]]
def aaW:List (List UInt8)×List (Int×List UInt8)→Prop×AV×List AB:=fun x=>match x with
 |(d1,d2)=>(True, .cK [.agg [.int .i64 (((S.fm d1 d2).1).1:Int), .int .i64 (((S.fm d1 d2).1).2:Int)], .bool ((S.fm d1 d2).2)],[])
def aaX:List (List UInt8)×List (Int×List UInt8)→Nat→Option an:=fun x=>match x with
 |(d1,d2)=>fun id=>(match id with
  |0=>some {τ:=Nat,aZ:= [(11,fun k=> .int .i64 ((k:Nat):Int)),(5,fun k=> .bool (S.cZ d1 d2 k).2)],keys:= [(4,fun k=> .cells [.int .i64 (S.cZ d1 d2 k).1.1, .int .i64 (S.cZ d1 d2 k).1.2])],dw:= [],drop:= [],cH:= [],inv:=fun k=>S.nW k 2,ai:=fun k=>S.ai 2 k}
  |_=>none)
def Rb:bP:=aC Ra aaW
def Rc:Env:=Env.cons 52 Rb Q9
abbrev Re:List PS:= [.agg [.slice [.slice [.int .u8]], .slice [.int .i64, .slice [.int .u8]]], .one (.int .i64)]
def aaY:List (List UInt8)×List (Int×List UInt8)×Int→Prop×AV×List AB:=fun x=>match x with
 |(d1,d2,n)=>(S.qk d1 d2 n, .sl [.int .u8] ((S.uJ d1 d2).take n.toNat),[])
def aaZ:List (List UInt8)×List (Int×List UInt8)×Int→Nat→Option an:=fun x=>match x with
 |(d1,d2,n)=>fun id=>(match id with
  |0=>some {τ:=Nat,aZ:= [(6,fun k=> .int .i64 ((k:Int)+2)),(5,fun k=> .own 300)],keys:= [(300,fun k=> .row 5 [.int .u8] (S.dP d1 d2 k) false)],dw:= [(Vg.Loc.slot 5,300)],drop:= [],cH:= [],inv:=fun k=>S.mR d1 d2 n k,ai:=fun k=>S.ai 5000 k}
  |_=>none)
def Rf:bP:=aC Re aaY
def Rg:Env:=Env.cons 53 Rf Rc
abbrev Rh:List PS:= [.agg [.slice [.int .u8], .int .i64, .int .i64]]
def aa0:List UInt8×Int×Int→Prop×AV×List AB:=fun x=>match x with
 |(r1,r2,r3)=>(S.Jl r1, .cK [.agg [.sl [.int .u8] (((((r1,(S.cn r1 r2 r3).1.1,(S.cn r1 r2 r3).1.2),(S.cn r1 r2 r3).2)).1).1), .int .i64 (((((r1,(S.cn r1 r2 r3).1.1,(S.cn r1 r2 r3).1.2),(S.cn r1 r2 r3).2)).1).2.1:Int), .int .i64 (((((r1,(S.cn r1 r2 r3).1.1,(S.cn r1 r2 r3).1.2),(S.cn r1 r2 r3).2)).1).2.2:Int)], .agg [.int .i64 (((((r1,(S.cn r1 r2 r3).1.1,(S.cn r1 r2 r3).1.2),(S.cn r1 r2 r3).2)).2).1:Int), .int .i64 (((((r1,(S.cn r1 r2 r3).1.1,(S.cn r1 r2 r3).1.2),(S.cn r1 r2 r3).2)).2).2.1:Int), .int .i64 (((((r1,(S.cn r1 r2 r3).1.1,(S.cn r1 r2 r3).1.2),(S.cn r1 r2 r3).2)).2).2.2.1:Int), .sl [.int .u8] (((((r1,(S.cn r1 r2 r3).1.1,(S.cn r1 r2 r3).1.2),(S.cn r1 r2 r3).2)).2).2.2.2)]],[])
def aa1:List UInt8×Int×Int→Nat→Option an:=fun _ _=>none
def Ri:bP:=aC Rh aa0
def Rj:Env:=Env.cons 54 Ri Rg
abbrev Rk:List PS:= [.agg [.slice [.slice [.int .u8]], .slice [.int .i64, .int .i64, .slice [.str, .slice [.int .i64]]]], .agg [.int .i64, .int .i64, .int .i64, .slice [.int .u8]]]
def aa2:List (List UInt8)×List (Int×Int×List (List UInt8×List Int))×Int×Int×Int×List UInt8→Prop×AV×List AB:=fun x=>match x with
 |(y1,y2,e1,e2,e3,e4)=>(True, .cK [.agg [.sl [.slice [.int .u8]] (((S.bt y1 y2 e4).1).1), .sl [.int .i64, .int .i64, .slice [.str, .slice [.int .i64]]] (((S.bt y1 y2 e4).1).2)], .int .i64 ((S.bt y1 y2 e4).2:Int)],[])
def aa3:List (List UInt8)×List (Int×Int×List (List UInt8×List Int))×Int×Int×Int×List UInt8→Nat→Option an:=fun _ _=>none
def Rl:bP:=aC Rk aa2
def Rm:Env:=Env.cons 67 Rl Rj
abbrev Rn:List PS:= [.agg [.slice [.slice [.int .u8]], .slice [.int .i64, .int .i64, .slice [.str, .slice [.int .i64]]]], .agg [.int .i64, .int .i64, .int .i64, .slice [.int .u8]]]
def aa4:List (List UInt8)×List (Int×Int×List (List UInt8×List Int))×Int×Int×Int×List UInt8→Prop×AV×List AB:=fun x=>match x with
 |(y1,y2,e1,e2,e3,e4)=>(True, .cK [.agg [.sl [.slice [.int .u8]] (((S.ba y1 y2).1).1), .sl [.int .i64, .int .i64, .slice [.str, .slice [.int .i64]]] (((S.ba y1 y2).1).2)], .int .i64 ((S.ba y1 y2).2:Int)],[])
def aa5:List (List UInt8)×List (Int×Int×List (List UInt8×List Int))×Int×Int×Int×List UInt8→Nat→Option an:=fun _ _=>none
def Ro:bP:=aC Rn aa4
def Rp:Env:=Env.cons 69 Ro Rm
abbrev Rq:List PS:= [.agg [.slice [.slice [.int .u8]], .slice [.int .i64, .int .i64, .slice [.str, .slice [.int .i64]]]], .agg [.int .i64, .int .i64, .int .i64, .slice [.int .u8]]]
def aa6:List (List UInt8)×List (Int×Int×List (List UInt8×List Int))×Int×Int×Int×List UInt8→Prop×AV×List AB:=fun x=>match x with
 |(y1,y2,e1,e2,e3,e4)=>(True, .cK [.agg [.sl [.slice [.int .u8]] (((S.cw y1 y2 e2 e3).1).1), .sl [.int .i64, .int .i64, .slice [.str, .slice [.int .i64]]] (((S.cw y1 y2 e2 e3).1).2)], .int .i64 ((S.cw y1 y2 e2 e3).2:Int)],[])
def aa7:List (List UInt8)×List (Int×Int×List (List UInt8×List Int))×Int×Int×Int×List UInt8→Nat→Option an:=fun _ _=>none
def Rr:bP:=aC Rq aa6
def Rs:Env:=Env.cons 71 Rr Rp
abbrev Rt:List PS:= [.agg [.slice [.slice [.int .u8]], .slice [.int .i64, .int .i64, .slice [.str, .slice [.int .i64]]]], .agg [.int .i64, .int .i64, .int .i64, .slice [.int .u8]]]
def aa8:List (List UInt8)×List (Int×Int×List (List UInt8×List Int))×Int×Int×Int×List UInt8→Prop×AV×List AB:=fun x=>match x with
 |(y1,y2,e1,e2,e3,e4)=>(True, .cK [.agg [.sl [.slice [.int .u8]] ((((S.di y1 y2,0)).1).1), .sl [.int .i64, .int .i64, .slice [.str, .slice [.int .i64]]] ((((S.di y1 y2,0)).1).2)], .int .i64 (((S.di y1 y2,0)).2:Int)],[])
def aa9:List (List UInt8)×List (Int×Int×List (List UInt8×List Int))×Int×Int×Int×List UInt8→Nat→Option an:=fun _ _=>none
def Ru:bP:=aC Rt aa8
def Rv:Env:=Env.cons 73 Ru Rs
abbrev Rw:List PS:= []
def aba:Unit→Prop×AV×List AB:=fun x=>match x with
 |()=>(True, .fP [0,1,2,3] [.fn (.func 67) [] [], .fn (.func 69) [] [], .fn (.func 71) [] [], .fn (.func 73) [] []],[])
def abb:Unit→Nat→Option an:=fun _ _=>none
def Rx:bP:=aC Rw aba
def Ry:Env:=Env.cons 36 Rx Rv
abbrev Rz:List PS:= [.agg [.slice [.slice [.int .u8]], .slice [.int .i64, .int .i64, .slice [.str, .slice [.int .i64]]]], .agg [.int .i64, .int .i64, .int .i64, .slice [.int .u8]]]
def abc:List (List UInt8)×List (Int×Int×List (List UInt8×List Int))×Int×Int×Int×List UInt8→Prop×AV×List AB:=fun x=>match x with
 |(y1,y2,e1,e2,e3,e4)=>(True, .cK [.agg [.sl [.slice [.int .u8]] (((S.c9 y1 y2 e1 e2 e3 e4).1).1), .sl [.int .i64, .int .i64, .slice [.str, .slice [.int .i64]]] (((S.c9 y1 y2 e1 e2 e3 e4).1).2)], .int .i64 ((S.c9 y1 y2 e1 e2 e3 e4).2:Int)],[])
def abd:List (List UInt8)×List (Int×Int×List (List UInt8×List Int))×Int×Int×Int×List UInt8→Nat→Option an:=fun _ _=>none
def RA:bP:=aC Rz abc
def JC:Env:=Env.cons 11 RA Ry
abbrev RB:List PS:= [.agg [.int .i64, .int .i64, .int .i64, .slice [.int .u8]]]
def abe:Int×Int×Int×List UInt8→Prop×AV×List AB:=fun x=>match x with
 |(e1,e2,e3,e4)=>(True, .cK [.sl [.int .u8] ((S.aU e1 e2 e3 e4).1), .int .i64 ((S.aU e1 e2 e3 e4).2:Int)],[])
def abf:Int×Int×Int×List UInt8→Nat→Option an:=fun x=>match x with
 |(e1,e2,e3,e4)=>fun id=>(match id with
  |1=>some {τ:=Nat,aZ:= [(43,fun k=> .int .i64 ((k:Nat):Int)),(4,fun k=> .own 300),(5,fun k=> .int .i64 (S.jB e1 e2 e3 k).2)],keys:= [(300,fun k=> .row 5 [.int .u8] (S.jB e1 e2 e3 k).1 false)],dw:= [(Vg.Loc.slot 4,300)],drop:= [34,103400,103401,103402,101900,101901,101902,19],cH:= [],inv:=fun k=>S.nW k 2,ai:=fun k=>S.ai 2 k}
  |_=>none)
def RC:bP:=aC RB abe
def RD:Env:=Env.cons 15 RC JC
def abg:Env:= {JC with gj:=fun t=>false,cls:=fun d=>none,spl:=fun d=>Nat.beq d 48}
abbrev RE:List PS:= [.agg [.slice [.slice [.int .u8]], .slice [.int .i64, .slice [.int .u8]]]]
def abh:List (List UInt8)×List (Int×List UInt8)→Prop×AV×List AB:=fun x=>match x with
 |(d1,d2)=>(True, .cK [.agg [.int .i64 (((S.au (d1,d2)).1).1:Int), .int .i64 (((S.au (d1,d2)).1).2.1:Int), .sl [.slice [.int .u8]] (((S.au (d1,d2)).1).2.2.1), .sl [.int .i64, .int .i64, .slice [.str, .slice [.int .i64]]] (((S.au (d1,d2)).1).2.2.2)], .int .i64 ((S.au (d1,d2)).2:Int)],[])
def abi:List (List UInt8)×List (Int×List UInt8)→Nat→Option an:=fun x=>match x with
 |(d1,d2)=>fun id=>(match id with
  |0=>some {τ:=Int×List (List UInt8)×List S.ax,aZ:= [],keys:= [(7,fun k=> .cells [.sl [.int .u8] (S.aX d1 d2), .int .i64 k.1, .int .i64 0]),(6,fun k=> .cells [.sl [.slice [.int .u8]] k.2.1, .sl [.int .i64, .int .i64, .slice [.str, .slice [.int .i64]]] k.2.2])],dw:= [],drop:= [],cH:= [],inv:=fun k=>S.pB (S.aX d1 d2) k,ai:=fun k=>((S.aX d1 d2).length-k.1.toNat)}
  |_=>none)
def RF:bP:=aC RE abh
def RG:Env:=Env.cons 20 RF RD
abbrev RH:List PS:= [.agg [.slice [.slice [.int .u8]], .slice [.int .i64, .slice [.int .u8]]], .one (.int .i64), .one (.slice [.int .u8])]
def abj:List (List UInt8)×List (Int×List UInt8)×Int×List UInt8→Prop×AV×List AB:=fun x=>match x with
 |(d1,d2,a,b)=>(S.Jm a b, .sl [.bool, .int .i64, .slice [.int .u8]] (S.lX (S.dV d1 d2 a b)),[])
def abk:List (List UInt8)×List (Int×List UInt8)×Int×List UInt8→Nat→Option an:=fun x=>match x with
 |(d1,d2,a,b)=>fun id=>(match id with
  |0=>some {τ:=Int×List UInt8×S.Ws,aZ:= [(1,fun k=> .int .i64 k.1),(2,fun k=> .sl [.int .u8] k.2.1),(7,fun k=> .own 300)],keys:= [(300,fun k=> .row 96 [.bool, .int .i64, .slice [.int .u8]] (S.lX k.2.2) false)],dw:= [(Vg.Loc.slot 7,300)],drop:= [],cH:= [],inv:=fun k=>S.sF d1 d2 a b k,ai:=fun k=>k.2.1.length}
  |_=>none)
def RJ:bP:=aC RH abj
def RL:Env:=Env.cons 57 RJ RG
abbrev RM:List PS:= [.agg [.slice [.slice [.int .u8]], .slice [.int .i64, .slice [.int .u8]]], .agg [.int .i64, .int .i64, .slice [.slice [.int .u8]], .slice [.int .i64, .int .i64, .slice [.str, .slice [.int .i64]]]], .agg [.int .i64, .int .i64, .int .i64, .slice [.int .u8]]]
def abl:List (List UInt8)×List (Int×List UInt8)×Int×Int×List (List UInt8)×List (Int×Int×List (List UInt8×List Int))×Int×Int×Int×List UInt8→Prop×AV×List AB:=fun x=>match x with
 |(d1,d2,s1,s2,s3,s4,e1,e2,e3,e4)=>(True, .cK [.sl [.bool, .int .i64, .slice [.int .u8]] ((S.bq (d1,d2) (s1,s2,s3,s4) (e1,e2,e3,e4)).1), .agg [.int .i64 (((S.bq (d1,d2) (s1,s2,s3,s4) (e1,e2,e3,e4)).2.1).1:Int), .int .i64 (((S.bq (d1,d2) (s1,s2,s3,s4) (e1,e2,e3,e4)).2.1).2.1:Int), .sl [.slice [.int .u8]] (((S.bq (d1,d2) (s1,s2,s3,s4) (e1,e2,e3,e4)).2.1).2.2.1), .sl [.int .i64, .int .i64, .slice [.str, .slice [.int .i64]]] (((S.bq (d1,d2) (s1,s2,s3,s4) (e1,e2,e3,e4)).2.1).2.2.2)], .int .i64 ((S.bq (d1,d2) (s1,s2,s3,s4) (e1,e2,e3,e4)).2.2:Int)],[])
def abn:List (List UInt8)×List (Int×List UInt8)×Int×Int×List (List UInt8)×List (Int×Int×List (List UInt8×List Int))×Int×Int×Int×List UInt8→Nat→Option an:=fun _ _=>none
def RN:bP:=aC RM abl
def RO:Env:=Env.cons 21 RN RL
abbrev RP:List PS:= [.agg [.slice [.slice [.int .u8]], .slice [.int .i64, .slice [.int .u8]]], .one (.slice [.bool, .int .i64, .slice [.int .u8]]), .one (.int .i64)]
def abo:List (List UInt8)×List (Int×List UInt8)×List (Bool×Int×List UInt8)×Int→Prop×AV×List AB:=fun x=>match x with
 |(d1,d2,l,f)=>(True, .cK [.agg [.sl [.slice [.int .u8]] (((S.gJ (d1,d2) l f).1).1), .sl [.int .i64, .slice [.int .u8]] (((S.gJ (d1,d2) l f).1).2)], .int .i64 ((S.gJ (d1,d2) l f).2:Int)],[])
def abp:List (List UInt8)×List (Int×List UInt8)×List (Bool×Int×List UInt8)×Int→Nat→Option an:=fun x=>match x with
 |(d1,d2,l,f)=>fun id=>(match id with
  |0=>some {τ:=Nat×S.Bs×S.Ws,aZ:= [(14,fun k=> .int .i64 ((k.1:Nat):Int))],keys:= [(3,fun k=> .cells [.sl [.slice [.int .u8]] k.2.1, .sl [.int .i64, .slice [.int .u8]] k.2.2])],dw:= [],drop:= [],cH:= [],inv:=fun k=>S.mu d1 d2 l f k,ai:=fun k=>S.ai (S.len l) k.1}
  |_=>none)
def RQ:bP:=aC RP abo
def RR:Env:=Env.cons 22 RQ RO
abbrev RS:List PS:= []
def abq:Unit→Prop×AV×List AB:=fun x=>match x with
 |()=>(True, .bool true,[])
def abr:Unit→Nat→Option an:=fun _ _=>none
def RT:bP:=aC RS abq
def RU:Env:=Env.cons 10 RT RR
abbrev RV:List PS:= [.agg [.int .i64, .int .i64, .int .i64, .slice [.int .u8]]]
def abt:Int×Int×Int×List UInt8→Prop×AV×List AB:=fun x=>match x with
 |(e1,e2,e3,e4)=>(True, .bool (decide ((S.len e4:Int)≤2500)),[])
def abu:Int×Int×Int×List UInt8→Nat→Option an:=fun _ _=>none
def RW:bP:=aC RV abt
def RX:Env:=Env.cons 9 RW RU
abbrev RY:List PS:= [.one (.int .i64), .one (.slice [.int .i64, .int .i64, .int .i64, .slice [.int .u8]])]
def abv:Int×List (Int×Int×Int×List UInt8)→Prop×AV×List AB:=fun x=>match x with
 |(n,l)=>(S.ig n, .cK [.agg [.sl [.slice [.int .u8]] (((S.aV n l).1).1), .sl [.int .i64, .slice [.int .u8]] (((S.aV n l).1).2)], .bool ((S.aV n l).2)],[])
def abw:Int×List (Int×Int×Int×List UInt8)→Nat→Option an:=fun x=>match x with
 |(n,l)=>fun id=>(match id with
  |0=>some {τ:=Nat,aZ:= [(8,fun k=> .int .i64 ((k:Nat):Int))],keys:= [(6,fun k=> .cells [.sl [.slice [.int .u8]] (S.bo n l k), .sl [.int .i64, .slice [.int .u8]] S.ny])],dw:= [],drop:= [],cH:= [],inv:=fun k=>k≤S.kL l,ai:=fun k=>S.ai (S.kL l) k}
  |_=>none)
def RZ:bP:=aC RY abv
def abx:Env:=Env.cons 19 RZ RX
abbrev JD:List PS:= [.one (.slice [.int .i64, .int .i64, .int .i64, .slice [.int .u8]])]
def aby:List (Int×Int×Int×List UInt8)→Prop×AV×List AB:=fun x=>match x with
 |l=>(True, .bool true,[])
def abz:List (Int×Int×Int×List UInt8)→Nat→Option an:=fun x=>match x with
 |l=>fun id=>(match id with
  |0=>some {τ:=Nat,aZ:= [(5,fun k=> .int .i64 ((k:Nat):Int)),(4,fun k=> .int .i64 (S.aS l k).2)],keys:= [(3,fun k=> .cells [.sl [.slice [.int .u8]] (S.aS l k).1.1, .sl [.int .i64, .int .i64, .slice [.str, .slice [.int .i64]]] (S.aS l k).1.2])],dw:= [],drop:= [],cH:= [],inv:=fun k=>S.qj l k,ai:=fun k=>S.ai (S.kL l) k}
  |_=>none)
def abA:bP:=aC JD aby
end Go.J

end
section
namespace Go.Vg
open Go Go.Shelf Go.RowKit Go.Proofs
def encS(s:List UInt8):Value:= .string ⟨s.toArray⟩
section
variable {w w':World} {A:Nat→Prop} {G:Nat→Option GD}
theorem zb:∀(l:List (List UInt8)) (cs:List Value),bZ (bh w A [.str]) cs l→cs=l.map encS∧∀s∈l,s.length≤maxLen
 | [],cs,h=>by simp only [bZ] at h;simp [h]
 |s::l,cs,⟨c1,c2,hc,h1,h2⟩=>by
  subst hc
  simp only [bh] at h1
  obtain⟨v,bI,rfl,hv,rfl⟩:=h1
  simp only [Rd] at hv
  obtain⟨g1,g2⟩:=zb l c2 h2
  obtain⟨rfl,hl⟩:=hv
  refine⟨by rw [g1];rfl,fun s' gC=> ?_⟩
  rcases List.mem_cons.1 gC with rfl|gC
  · exact hl
  · exact g2 s' gC
theorem Ag:∀(l:List (List UInt8)),(∀s∈l,s.length≤maxLen)→bZ (bh w A [.str]) (l.map encS) l
 | [],_=>rfl
 |s::l,h=>⟨[encS s],l.map encS,rfl,by
   simp only [bh]
   exact⟨_,[],rfl,by simp only [Rd];exact⟨rfl,h s (by simp)⟩,rfl⟩,Ag l fun s' gC=>h s' (by simp [gC])⟩
theorem LY:∀(l:List Int) (cs:List Value),bZ (bh w A [.int .i64]) cs l→cs=l.map (Value.int .i64)∧∀z∈l,lo .i64≤z∧z≤hi .i64
 | [],cs,h=>by simp only [bZ] at h;simp [h]
 |s::l,cs,⟨c1,c2,hc,h1,h2⟩=>by
  subst hc
  simp only [bh] at h1
  obtain⟨v,bI,rfl,hv,rfl⟩:=h1
  simp only [Rd] at hv
  obtain⟨g1,g2⟩:=LY l c2 h2
  obtain⟨rfl,hl⟩:=hv
  refine⟨by rw [g1];rfl,fun s' gC=> ?_⟩
  rcases List.mem_cons.1 gC with rfl|gC
  · exact hl
  · exact g2 s' gC
theorem Ah:∀(l:List Int),(∀z∈l,lo .i64≤z∧z≤hi .i64)→bZ (bh w A [.int .i64]) (l.map (Value.int .i64)) l
 | [],_=>rfl
 |s::l,h=>⟨[.int .i64 s],l.map (Value.int .i64),rfl,by
   simp only [bh]
   exact⟨_,[],rfl,by simp only [Rd];exact⟨rfl,h s (by simp)⟩,rfl⟩,Ah l fun s' gC=>h s' (by simp [gC])⟩
theorem G5 {e:Nat} {row:List Ty} {l:List (Row row)} {v:Value} {xs:List Value}(hA:∀b,A b→b<w.heap.size)(hb:Below w.heap.size w w')(ho:w'.ownsRow w.heap.size e row.length v l.length xs)(hr:bZ (bh w' A row) xs l):
  ∃A' aH,jJ w A w' v (.own 0) [.row e row l false] A' aH:=by
 have hblk:∀b,aw v=some b→w.heap.size≤b:=by
  intro b bz
  rcases ho.2 with⟨rfl,_⟩|⟨g,cap,cur,rfl,hg,_⟩
  · cases bz
  · simp only [aw,Option.some.injEq] at bz;omega
 have h1:v.oneCell'=true :=by
  rcases ho.2 with⟨rfl,_⟩|⟨g,cap,cur,rfl,hg,_⟩<;>rfl
 have ho0:w'.ownsRow 0 e row.length v l.length xs:=by
  refine⟨ho.1,?_⟩
  rcases ho.2 with h|⟨g,cap,cur,g1,g2,g3⟩
  · exact .inl h
  · exact .inr ⟨g,cap,cur,g1,Nat.zero_le _,g3⟩
 refine⟨A,fun _=>v,{os:=hb.os,tape:=hb.tape,output:=hb.output,size:=hb.size,same:=hb.block,mono:=fun _ h=>h,j6:=fun _ _ h=>h,bound:=fun b h=>Nat.lt_of_lt_of_le (hA b h) hb.size,res:= ?_,rows:= ?_,apart:= ?_}⟩
 · simp only [aa];exact⟨trivial,h1⟩
 · intro i ab hi
   match i,hi with
   |0,hi=>
    simp only [List.getElem?_cons_zero,Option.some.injEq] at hi
    subst hi
    refine⟨⟨xs,ho0,hr,fun b bz=> ?_⟩,hblk⟩
    simp only [Bool.false_eq_true,if_false]
    intro vN
    have :=hA b vN
    have :=hblk b bz
    omega
   |i+1,hi=>simp at hi
 · intro i j b hi hj _ _
   simp at hi hj;omega
end
theorem JE {α γ:Type}(f:α→γ)(l:List α)(j:Nat)(d:γ)(hj:j<l.length):(l.map f).getD j d=f l[j]:=by
 rw [List.getD_eq_getElem?_getD,List.getElem?_map,List.getElem?_eq_getElem hj];rfl
theorem wA {P:Program} {f:FuncId} {args:Array Value} {w:World} {A:Nat→Prop} {e:Nat} {row:List Ty}(hA:∀b,A b→b<w.heap.size)
  (h:Calls P f args w fun e w'=>e= .returned (.slice none 0 0)∧w'=w):Calls P f args w fun ex w'=>∃v,ex= .returned v∧∃A' aH,jJ w A w' v (.own 0) [.row e row [] false] A' aH:=
 h.mono fun ex w' ⟨he,hw⟩=>by
  subst hw
  exact⟨_,he,G5 (xs:= []) hA (Below.refl _ _) ⟨by simp, .inl ⟨rfl,rfl⟩⟩ rfl⟩
theorem mS {P:Program} {f:FuncId} {args:Array Value} {w:World} {A:Nat→Prop} {e:Nat} {row:List Ty} {l:List (Row row)} {xs:List Value}(hA:∀b,A b→b<w.heap.size)
  (hr:∀w',bZ (bh w' A row) xs l)
  (h:Calls P f args w fun ex w'=>∃v',ex= .returned v'∧w'.ownsRow w.heap.size e row.length v' l.length xs∧v'≠ .slice none 0 0∧Below w.heap.size w w'):
  Calls P f args w fun ex w'=>∃v,ex= .returned v∧∃A' aH,jJ w A w' v (.own 0) [.row e row l false] A' aH:=
 h.mono fun ex w' ⟨v',he,ho,_,hb⟩=>⟨v',he,G5 hA hb ho (hr w')⟩
theorem G6 {w:World} {A:Nat→Prop} {β:Nat→Value} {row:List Ty} {args:List Value} {l:List (Row row)}(h:ae w A β args [.sl row l]):∃a cap cs,args= [.slice a l.length cap]∧l.length≤cap∧cap≤maxLen∧bZ (bh w A row) cs l∧
  (cs≠ []→∃b o,a=some ⟨b,o,none⟩∧A b∧w.rangeAt b o cs):=by
 simp only [ae] at h
 obtain⟨v,bI,rfl,hv,rfl⟩:=h
 simp only [aa,Rd] at hv
 obtain⟨a,cap,cs,rfl,h1,h2,h3,h4⟩:=hv
 exact⟨a,cap,cs,rfl,h1,h2,h3,h4⟩
theorem Ai {P:Program} {ρ:Ren} {G:Nat→Option GD}(L:SlLaysN.n42 P ρ) {F:Row (PS.flat [.one (.slice [.str])])→Prop×AV×List AB}
  (hF:∀l:List (List UInt8),F l=(l.length≤1099511627776, .own 0,[.row (ρ.t 26) [.str] l false])):Valid P G (ρ.f 42) (aC [.one (.slice [.str])] F):=by
 intro w A β args cC pre res bs hA hG bA hs hp
 unfold aC at hs
 split at hs
 · rename_i x hx
   change List (List UInt8) at x
   have gC:=hs
   rw [hF x] at gC
   simp only [Option.some.injEq,Prod.mk.injEq] at gC
   obtain⟨rfl,rfl,rfl⟩:=gC
   obtain⟨g1,g2⟩:=oX _ hx bA
   obtain⟨a,cap,cs,rfl,h1,h2,h3,h4⟩:=G6 (row:= [.str]) (l:=x) g1
   obtain⟨rfl,hl⟩:=zb x cs h3
   cases x with
   |nil=>cases a with
    |none=>exact wA hA (AnyG.slices_Clone_string_nil L 0 cap w)
    |some ad=>exact mS (xs:= []) hA (fun _=>rfl) (AnyG.slices_Clone_string_zero L ad cap w)
   |cons s x=>
    obtain⟨b,o,rfl,vN,hr⟩:=h4 (by simp)
    refine mS (xs:=(s::x).map encS) hA (fun _=>Ag _ hl) ?_
    have :=AnyG.slices_Clone_string L b o (s::x).length cap ((s::x).map fun s=>⟨s.toArray⟩) w (by simp) (by omega) (fun j hj=>by
     refine hr j _ ?_
     simp only [List.length_map] at hj
     rw [JE _ _ _ _ hj,List.getElem?_map,List.getElem?_eq_getElem hj]
     rfl)
    have e1:(((s::x).map fun s=>(⟨s.toArray⟩:ByteArray)).take (s::x).length).map Value.string=(s::x).map encS:=by
     rw [List.take_of_length_le (by simp),List.map_map];rfl
    rw [e1] at this
    exact this
 · cases hs
theorem Aj {P:Program} {ρ:Ren} {G:Nat→Option GD}(L:SlLaysN.n41 P ρ) {F:Row (PS.flat [.one (.slice [.int .i64])])→Prop×AV×List AB}
  (hF:∀l:List Int,F l=(l.length≤1099511627776, .own 0,[.row (ρ.t 23) [.int .i64] l false])):Valid P G (ρ.f 41) (aC [.one (.slice [.int .i64])] F):=by
 intro w A β args cC pre res bs hA hG bA hs hp
 unfold aC at hs
 split at hs
 · rename_i x hx
   change List Int at x
   have gC:=hs
   rw [hF x] at gC
   simp only [Option.some.injEq,Prod.mk.injEq] at gC
   obtain⟨rfl,rfl,rfl⟩:=gC
   obtain⟨g1,g2⟩:=oX _ hx bA
   obtain⟨a,cap,cs,rfl,h1,h2,h3,h4⟩:=G6 (row:= [.int .i64]) (l:=x) g1
   obtain⟨rfl,hl⟩:=LY x cs h3
   cases x with
   |nil=>cases a with
    |none=>exact wA hA (AnyG.slices_Clone_int_nil L 0 cap w)
    |some ad=>exact mS (xs:= []) hA (fun _=>rfl) (AnyG.slices_Clone_int_zero L ad cap w)
   |cons s x=>
    obtain⟨b,o,rfl,vN,hr⟩:=h4 (by simp)
    refine mS (xs:=(s::x).map (Value.int .i64)) hA (fun _=>Ah _ hl) ?_
    have :=AnyG.slices_Clone_int L b o (s::x).length cap (s::x) w (by simp) (by omega) (fun j hj=>by
     refine hr j _ ?_
     rw [List.getElem?_map,List.getElem?_eq_getElem hj]
     simp [List.getD,List.getElem?_eq_getElem hj])
    rw [List.take_of_length_le (by simp)] at this
    exact this
 · cases hs
end Go.Vg

end
section
namespace Go.Vg
open Go Go.Shelf Go.RowKit Go.Proofs Go.Sort Go.Lib
theorem uU(a b:List UInt8):ltOf S.fU a b=Op.bytesLess a b:=by
 unfold ltOf S.fU
 by_cases h:Op.bytesLess a b
 · simp [h]
 · simp only [h]
   by_cases h2:Op.bytesLess b a<;>simp [h2]
theorem TK:SWO (ltOf S.fU) where
 irrefl x:=by rw [uU];exact S.bU x
 trans x y z h1 h2:=by rw [uU] at *;exact S.jS _ _ _ h1 h2
 ntrans x y z h1 h2:=by
  rw [uU] at *
  cases h:Op.bytesLess x z with
  |false=>rfl
  |true=>
   rcases S.gw x y with t|t|t
   · rw [t] at h1;cases h1
   · subst t;rw [h] at h2;cases h2
   · rw [S.jS _ _ _ t h] at h2;cases h2
theorem LZ(x y:List UInt8)(h1:ltOf S.fU x y=false)(h2:ltOf S.fU y x=false):x=y:=by
 rw [uU] at *
 rcases S.gw x y with t|t|t
 · rw [t] at h1;cases h1
 · exact t
 · rw [t] at h2;cases h2
theorem JF {α:Type} [Inhabited α](enc:α→Value)(w:World)(DV off:Nat)(d:Array α) {c:Array Value} {e:TypeId} {fr:Nat×Nat}(h:w.heap[DV]? =some (.cells c e fr)):
  (putRow enc w DV off d).heap[DV]? =some (.cells (putCells enc off d c) e fr):=by
 unfold putRow mapBlock
 simp [Array.getElem?_modify,h,onCells]
theorem BN {α:Type} [Inhabited α](enc:α→Value)(w:World)(DV off k:Nat)(d:Array α)(h:k≠DV):(putRow enc w DV off d).heap[k]? =w.heap[k]? :=by
 unfold putRow mapBlock
 simp [Array.getElem?_modify,Ne.symm h]
theorem size_putRow {α:Type} [Inhabited α](enc:α→Value)(w:World)(DV off:Nat)(d:Array α):(putRow enc w DV off d).heap.size=w.heap.size:=by
 unfold putRow mapBlock
 simp
theorem EO(l:List (List UInt8))(c:Array Value)(h:l.length≤c.size):(putCells encS 0 l.toArray c).toList.take l.length=l.map encS:=by
 apply List.ext_getElem?
 intro k
 rw [List.getElem?_take]
 by_cases hk:k<l.length
 · rw [if_pos hk,List.getElem?_map,List.getElem?_eq_getElem hk,Array.getElem?_toList]
   simp only [putCells,Array.getElem?_mapIdx,Array.getElem?_eq_getElem (show k<c.size by omega),Option.map_some]
   rw [if_pos ⟨Nat.zero_le _,by simpa using hk⟩]
   simp [hk]
 · rw [if_neg hk,List.getElem?_eq_none (by simp;omega)]
theorem EP {α:Type} [Inhabited α](enc:α→Value)(d:Array α)(c:Array Value):(putCells enc 0 d c).size=c.size:=by simp [putCells]
theorem BO {P:Program} {ρ:Ren} {G:Nat→Option GD}(L:SlLaysF.n6 P ρ) {g e:Nat}(eg:∀args w,(callFunc g args).run P w= .ok (.enter g args) w)
  (amc:∀(x y:List UInt8) (w:World),Calls P g #[encS x,encS y] w fun e w'=>e= .returned (.int .i64 (S.fU x y))∧w'=w)
  {F:Row (TA.fH [.own 50000, .fn (.func g) [] []])→gD [.row e [.str]]→fY}
  (hF:∀l:List (List UInt8),F () (l,())= {pre:=l.length≤1099511627776,res:= .cK [],heap:= [some (.row e [.str] (S.fV l) false)],new:= []}):
  cS P G (ρ.f 6) (iX [.own 50000, .fn (.func g) [] []] [.row e [.str]] F):=by
 intro w A β args cC hs r hA hG bA fK BH nF hp hlen DE
 unfold iX at nF
 split at nF
 · rename_i cs c7
   split at nF
   · rename_i x y hx hy
     obtain⟨l,u⟩:=y
     simp only [Option.some.injEq] at nF
     have hxu:x=():=rfl
     subst hxu
     rw [hF l] at nF
     subst nF
     obtain⟨g1,g2⟩:=zG c7 hx bA
     obtain⟨q1,q2,q3⟩:=DG (w:=w) (A:=A) (β:=β) [.row e [.str]] hs (l,u) 50000 hy fK
     have hb:=q2 0 (.row e [.str] l false) rfl
     have aiQ:hs.length=1:=by rw [←q1];rfl
     simp only [TA.rh,TA.put,ae] at g1
     obtain⟨v0,bI,rfl,ä,v1,adR,rfl,JP,rfl⟩:=g1
     simp only [aa] at ä JP
     obtain⟨ä,gG⟩:=ä
     obtain⟨a1,a2,rfl,ha1,ha2⟩:=JP
     simp only [TA.rh,ae,List.drop_nil,List.take_nil] at ha1 ha2
     have ea1:a1= #[]:=by apply Array.ext';simpa using ha1
     have ea2:a2= #[]:=by apply Array.ext';simpa using ha2
     subst ea1;subst ea2
     obtain⟨xs,ho,qv,jb⟩:=hb
     obtain⟨rfl,hl⟩:=zb l xs qv
     have mZ:∀s∈S.fV l,s.length≤maxLen:=fun s gC=>hl s ((List.mergeSort_perm l _).subset gC)
     have å:(S.fV l).length=l.length:=(List.mergeSort_perm l _).length_eq
     simp only [Bool.false_eq_true,if_false] at jb
     rcases ho.2 with⟨Sb,hn2⟩|⟨g0,cap,cur,hv,_,hg0,Gi,OA,cR,Bw⟩
     ·
      have Mi:l= []:=List.length_eq_zero_iff.1 hn2
      subst Mi
      rw [ä,Sb]
      have Sf:S.fV []= []:=List.length_eq_zero_iff.1 å
      rw [Sf]
      refine(AnyF.slices_SortFunc_none {L with} none 0 (.func (.func g) #[] #[]) w).mono fun ex w' ⟨he,hw⟩=> ?_
      subst hw
      refine⟨_,he,A,β,{os:=rfl,tape:=rfl,output:=rfl,size:=Nat.le_refl _,same:=fun _ _ _=>rfl,mono:=fun b h=>⟨h,rfl⟩,j6:=fun _ _ h=> .inl h,bound:=hA,res:=by simp only [aa];exact⟨#[],rfl,by simp [ae]⟩,kept:= ?_,rows:= ?_,apart:= ?_}⟩
      · intro i ab hi
        match i,hi with
        |0,hi=>
         simp only [List.getElem?_cons_zero,Option.some.injEq] at hi
         subst hi
         exact⟨⟨_,ho,qv,by simpa using jb⟩,rfl⟩
        |i+1,hi=>simp at hi
      · intro j ab hj;simp at hj
      · intro k k' b hk c6 _ _
        rcases hk with⟨i,ab,rfl,_,hi⟩|⟨j,_,hj⟩
        · rcases c6 with⟨i',Cp,rfl,_,gI⟩|⟨j,_,hj⟩
          · match i,i',hi,gI with
            |0,0,_,_=>rfl
            |i+1,_,hi,_=>simp at hi
            |0,i+1,_,gI=>simp at gI
          · simp at hj
        · simp at hj
     · have æ:g0<w.heap.size:=(Array.getElem?_eq_some_iff.1 hg0).1
       simp only [List.length_cons,List.length_nil,Nat.zero_add,Nat.mul_one] at cR Bw
       have amf:∀j,j<l.length→cur[j]? =some (encS (l.toArray)[j]!):=fun j hj=>by
        have h1:(cur.toList.take l.length)[j]? =some (encS l[j]):=by rw [Bw,List.getElem?_map,List.getElem?_eq_getElem hj];rfl
        rw [List.getElem?_take,if_pos hj,Array.getElem?_toList] at h1
        rw [h1];simp [hj]
       have hH:Holds encS w g0 0 l.toArray:=fun j hj=>by
        have eA:j<l.length:=by simpa using hj
        refine⟨?_,?_⟩
        · simp only [World.cell?,hg0]
          simpa using amf j eA
        · simp only [World.frozen?,hg0]
          simp
       rw [ä,hv]
       have hc:=Any.slices_SortFunc_total L encS (fun _=>rfl) S.fU TK g #[] g0 0 cap l.toArray w eg (fun m os dk _ x y=>(amc x y _).mono fun ex w' ⟨he,hw⟩=>⟨he,0, #[],by rw [hw];rfl⟩) hH æ (by simp only [List.size_toArray];omega) LZ
       have e1:(l.toArray.toList.mergeSort fun x y=> !(ltOf S.fU) y x)=S.fV l:=by
        unfold S.fV
        simp only [List.toList_toArray,uU]
       rw [e1] at hc
       refine hc.mono fun ex w' ⟨he,n,os,hw⟩=> ?_
       have hw0:(putRow encS (Go.Sort.ahead w n) g0 0 (S.fV l).toArray).heap[g0]? =some (.cells (putCells encS 0 (S.fV l).toArray cur) e (0,0)):=JF encS (Go.Sort.ahead w n) g0 0 _ hg0
       have hg1:w'.heap[g0]? =some (.cells (putCells encS 0 (S.fV l).toArray cur) e (0,0)):=by
        rw [hw];unfold sortWorld grow
        simp only
        rw [Array.getElem?_append_left (by rw [size_putRow];exact æ)]
        exact hw0
       have wG:∀b,b<w.heap.size→b≠g0→w'.heap[b]? =w.heap[b]? :=fun b hb dH=>by
        rw [hw];unfold sortWorld grow
        simp only
        rw [Array.getElem?_append_left (by rw [size_putRow];exact hb),BN encS (Go.Sort.ahead w n) g0 0 b _ dH]
        rfl
       have nB:w.heap.size≤w'.heap.size:=by
        rw [hw];unfold sortWorld grow
        simp only [Array.size_append,size_putRow]
        exact Nat.le_add_right _ _
       have Ċ:HM β 1 g0:=⟨0,by omega,by rw [show β (50000+0)=β 50000 from rfl,hv];rfl⟩
       have amg:¬A g0:=jb g0 (by rw [hv];rfl)
       refine⟨_,he,A,β,{os:=by rw [hw];rfl,tape:=by rw [hw];rfl,output:=by rw [hw];rfl,size:=nB,same:= ?_,mono:= ?_,j6:=fun _ _ h=> .inl h,bound:=fun b h=>Nat.lt_of_lt_of_le (hA b h) nB,res:=by simp only [aa];exact⟨#[],rfl,by simp [ae]⟩,kept:= ?_,rows:= ?_,apart:= ?_}⟩
       · intro b hb dH
         rw [aiQ] at dH
         exact wG b hb (fun h=>dH (h▸Ċ))
       · intro b vN
         exact⟨vN,wG b (hA b vN) (fun h=>amg (h▸vN))⟩
       · intro i ab hi
         match i,hi with
         |0,hi=>
          simp only [List.getElem?_cons_zero,Option.some.injEq] at hi
          subst hi
          refine⟨⟨(S.fV l).map encS,⟨by simp, .inr ⟨g0,cap,_,?_,Nat.zero_le _,hg1,by omega,OA,by rw [EP];simpa using cR,?_⟩⟩,Ag _ mZ,by simpa using jb⟩,rfl⟩
          · rw [å];exact hv
          · have :=EO (S.fV l) cur (by omega)
            simpa using this
         |i+1,hi=>simp at hi
       · intro j ab hj;simp at hj
       · intro k k' b hk c6 _ _
         rcases hk with⟨i,ab,rfl,_,hi⟩|⟨j,_,hj⟩
         · rcases c6 with⟨i',Cp,rfl,_,gI⟩|⟨j,_,hj⟩
           · match i,i',hi,gI with
             |0,0,_,_=>rfl
             |i+1,_,hi,_=>simp at hi
             |0,i+1,_,gI=>simp at gI
           · simp at hj
         · simp at hj
   · cases nF
 · cases nF
end Go.Vg

end
section
namespace Go.Proofs
open Go.Shelf
def Tryz.Bq:Go.Shelf.Ren:=⟨fun|7=>128|10=>140|n=>n,fun|23=>196|26=>9|3=>50|28=>201|0=>0|27=>200|33=>210|4=>4|n=>n,fun|n=>n⟩
theorem Tryz.R0:Go.Proofs.SlLaysZ.n7 Tryz.prog Tryz.Bq:= {
 mixed:=by kernel_rfl
 f7:=⟨Tryz.f128.name,by decide,Tryz.func128.trans (congrArg some (by kernel_rfl))⟩
 f10:=⟨Tryz.f140.name,by decide,Tryz.func140.trans (congrArg some (by kernel_rfl))⟩
 t0:=Tryz.underlying0
 a0:=Tryz.isAgg0
 z0:=Tryz.sizeOf0
 v0:=Tryz.zeroValue0
 t4:=Tryz.underlying4
 a4:=Tryz.isAgg4
 z4:=Tryz.sizeOf4
 v4:=Tryz.zeroValue4
 t23:=Tryz.underlying196
 a23:=Tryz.isAgg196
 z23:=Tryz.sizeOf196
 v23:=Tryz.zeroValue196
 t26:=Tryz.underlying9
 a26:=Tryz.isAgg9
 z26:=Tryz.sizeOf9
 v26:=Tryz.zeroValue9
 t27:=Tryz.underlying200
 a27:=Tryz.isAgg200
 z27:=Tryz.sizeOf200
 v27:=Tryz.zeroValue200
 t28:=Tryz.underlying201
 a28:=Tryz.isAgg201
 z28:=Tryz.sizeOf201
 v28:=Tryz.zeroValue201
 t33:=Tryz.underlying210
 a33:=Tryz.isAgg210
 z33:=Tryz.sizeOf210
 v33:=Tryz.zeroValue210}
def Tryz.wC:Go.Shelf.Ren:=⟨fun|6=>127|8=>138|9=>139|11=>158|13=>160|12=>159|23=>177|24=>178|14=>168|15=>169|16=>170|17=>171|18=>172|19=>173|20=>174|21=>175|22=>176|25=>193|26=>194|27=>195|28=>196|29=>197|30=>157|31=>207|n=>n,fun|26=>9|28=>201|24=>197|0=>0|3=>3|37=>158|48=>188|50=>161|4=>4|40=>236|39=>235|45=>171|5=>5|9=>9|51=>252|55=>256|57=>262|58=>228|33=>210|n=>n,fun|n=>n⟩
theorem Tryz.TL:Go.Proofs.SlLaysZ.n6 Tryz.prog Tryz.wC:= {
 mixed:=by kernel_rfl
 f6:=⟨Tryz.f127.name,by decide,Tryz.func127.trans (congrArg some (by kernel_rfl))⟩
 f8:=⟨Tryz.f138.name,by decide,Tryz.func138.trans (congrArg some (by kernel_rfl))⟩
 f11:=⟨Tryz.f158.name,by decide,Tryz.func158.trans (congrArg some (by kernel_rfl))⟩
 t0:=Tryz.underlying0
 a0:=Tryz.isAgg0
 z0:=Tryz.sizeOf0
 v0:=Tryz.zeroValue0
 t24:=Tryz.underlying197
 a24:=Tryz.isAgg197
 z24:=Tryz.sizeOf197
 v24:=Tryz.zeroValue197
 t26:=Tryz.underlying9
 a26:=Tryz.isAgg9
 z26:=Tryz.sizeOf9
 v26:=Tryz.zeroValue9
 t28:=Tryz.underlying201
 a28:=Tryz.isAgg201
 z28:=Tryz.sizeOf201
 v28:=Tryz.zeroValue201
 i26:=by kernel_rfl}
def Tryz.L0:Go.Shelf.Ren:=⟨fun|6=>139|8=>160|9=>159|19=>177|20=>178|21=>168|22=>169|23=>170|24=>171|25=>172|26=>173|27=>174|28=>175|29=>176|36=>193|31=>194|32=>195|37=>196|38=>197|39=>157|41=>207|n=>n,fun|27=>197|29=>9|3=>3|32=>158|26=>197|0=>0|44=>188|46=>161|4=>4|36=>236|35=>235|41=>171|5=>5|9=>9|53=>252|57=>256|63=>262|64=>228|n=>n,fun|n=>n⟩
theorem Tryz.R1:Go.Proofs.SlLaysM.n6 Tryz.prog Tryz.L0:= {
 mixed:=by kernel_rfl
 f6:=⟨Tryz.f139.name,by decide,Tryz.func139.trans (congrArg some (by kernel_rfl))⟩
 f8:=Tryz.func160.trans (congrArg some (by kernel_rfl))
 f9:=⟨Tryz.f159.name,by decide,Tryz.func159.trans (congrArg some (by kernel_rfl))⟩
 f19:=Tryz.func177.trans (congrArg some (by kernel_rfl))
 f20:=Tryz.func178.trans (congrArg some (by kernel_rfl))
 f21:=⟨Tryz.f168.name,by decide,Tryz.func168.trans (congrArg some (by kernel_rfl))⟩
 f22:=⟨Tryz.f169.name,by decide,Tryz.func169.trans (congrArg some (by kernel_rfl))⟩
 f23:=⟨Tryz.f170.name,by decide,Tryz.func170.trans (congrArg some (by kernel_rfl))⟩
 f24:=⟨Tryz.f171.name,by decide,Tryz.func171.trans (congrArg some (by kernel_rfl))⟩
 f25:=⟨Tryz.f172.name,by decide,Tryz.func172.trans (congrArg some (by kernel_rfl))⟩
 f26:=⟨Tryz.f173.name,by decide,Tryz.func173.trans (congrArg some (by kernel_rfl))⟩
 f27:=⟨Tryz.f174.name,by decide,Tryz.func174.trans (congrArg some (by kernel_rfl))⟩
 f28:=⟨Tryz.f175.name,by decide,Tryz.func175.trans (congrArg some (by kernel_rfl))⟩
 f29:=⟨Tryz.f176.name,by decide,Tryz.func176.trans (congrArg some (by kernel_rfl))⟩
 f31:=Tryz.func194.trans (congrArg some (by kernel_rfl))
 f32:=Tryz.func195.trans (congrArg some (by kernel_rfl))
 f36:=⟨Tryz.f193.name,by decide,Tryz.func193.trans (congrArg some (by kernel_rfl))⟩
 f37:=⟨Tryz.f196.name,by decide,Tryz.func196.trans (congrArg some (by kernel_rfl))⟩
 f38:=⟨Tryz.f197.name,by decide,Tryz.func197.trans (congrArg some (by kernel_rfl))⟩
 f39:=⟨Tryz.f157.name,by decide,Tryz.func157.trans (congrArg some (by kernel_rfl))⟩
 f41:=⟨Tryz.f207.name,by decide,Tryz.func207.trans (congrArg some (by kernel_rfl))⟩
 t0:=Tryz.underlying0
 a0:=Tryz.isAgg0
 z0:=Tryz.sizeOf0
 v0:=Tryz.zeroValue0
 t3:=Tryz.underlying3
 a3:=Tryz.isAgg3
 z3:=Tryz.sizeOf3
 v3:=Tryz.zeroValue3
 t4:=Tryz.underlying4
 a4:=Tryz.isAgg4
 z4:=Tryz.sizeOf4
 v4:=Tryz.zeroValue4
 t5:=Tryz.underlying5
 a5:=Tryz.isAgg5
 z5:=Tryz.sizeOf5
 v5:=Tryz.zeroValue5
 t9:=Tryz.underlying9
 a9:=Tryz.isAgg9
 z9:=Tryz.sizeOf9
 v9:=Tryz.zeroValue9
 t26:=Tryz.underlying197
 a26:=Tryz.isAgg197
 z26:=Tryz.sizeOf197
 v26:=Tryz.zeroValue197
 t27:=Tryz.underlying197
 a27:=Tryz.isAgg197
 z27:=Tryz.sizeOf197
 v27:=Tryz.zeroValue197
 t29:=Tryz.underlying9
 a29:=Tryz.isAgg9
 z29:=Tryz.sizeOf9
 v29:=Tryz.zeroValue9
 t32:=Tryz.underlying158
 a32:=Tryz.isAgg158
 z32:=Tryz.sizeOf158
 v32:=Tryz.zeroValue158
 t35:=Tryz.underlying235
 a35:=Tryz.isAgg235
 z35:=Tryz.sizeOf235
 v35:=Tryz.zeroValue235
 t36:=Tryz.underlying236
 a36:=Tryz.isAgg236
 z36:=Tryz.sizeOf236
 v36:=Tryz.zeroValue236
 t41:=Tryz.underlying171
 a41:=Tryz.isAgg171
 z41:=Tryz.sizeOf171
 v41:=Tryz.zeroValue171
 t44:=Tryz.underlying188
 a44:=Tryz.isAgg188
 z44:=Tryz.sizeOf188
 v44:=Tryz.zeroValue188
 t46:=Tryz.underlying161
 a46:=Tryz.isAgg161
 z46:=Tryz.sizeOf161
 v46:=Tryz.zeroValue161
 t53:=Tryz.underlying252
 a53:=Tryz.isAgg252
 z53:=Tryz.sizeOf252
 v53:=Tryz.zeroValue252
 t57:=Tryz.underlying256
 a57:=Tryz.isAgg256
 z57:=Tryz.sizeOf256
 v57:=Tryz.zeroValue256
 t63:=Tryz.underlying262
 a63:=Tryz.isAgg262
 z63:=Tryz.sizeOf262
 v63:=Tryz.zeroValue262
 t64:=Tryz.underlying228
 a64:=Tryz.isAgg228
 z64:=Tryz.sizeOf228
 v64:=Tryz.zeroValue228}
def Tryz.ER:Go.Shelf.Ren:=⟨fun|42=>149|n=>n,fun|25=>197|26=>9|4=>4|n=>n,fun|n=>n⟩
theorem Tryz.OB:Go.Proofs.SlLaysN.n42 Tryz.prog Tryz.ER:= {
 mixed:=by kernel_rfl
 f42:=⟨Tryz.f149.name,by decide,Tryz.func149.trans (congrArg some (by kernel_rfl))⟩
 t4:=Tryz.underlying4
 a4:=Tryz.isAgg4
 z4:=Tryz.sizeOf4
 v4:=Tryz.zeroValue4
 t25:=Tryz.underlying197
 a25:=Tryz.isAgg197
 z25:=Tryz.sizeOf197
 v25:=Tryz.zeroValue197
 t26:=Tryz.underlying9
 a26:=Tryz.isAgg9
 z26:=Tryz.sizeOf9
 v26:=Tryz.zeroValue9
 i26:=by kernel_rfl}
def Tryz.ES:Go.Shelf.Ren:=⟨fun|41=>99|n=>n,fun|22=>50|23=>3|4=>4|n=>n,fun|n=>n⟩
theorem Tryz.OC:Go.Proofs.SlLaysN.n41 Tryz.prog Tryz.ES:= {
 mixed:=by kernel_rfl
 f41:=⟨Tryz.f99.name,by decide,Tryz.func99.trans (congrArg some (by kernel_rfl))⟩
 t4:=Tryz.underlying4
 a4:=Tryz.isAgg4
 z4:=Tryz.sizeOf4
 v4:=Tryz.zeroValue4
 t22:=Tryz.underlying50
 a22:=Tryz.isAgg50
 z22:=Tryz.sizeOf50
 v22:=Tryz.zeroValue50
 t23:=Tryz.underlying3
 a23:=Tryz.isAgg3
 z23:=Tryz.sizeOf3
 v23:=Tryz.zeroValue3
 i23:=by kernel_rfl}
def Tryz.OD:Go.Shelf.Ren:=⟨fun|6=>150|15=>160|14=>164|28=>177|29=>178|20=>182|21=>183|22=>184|23=>185|24=>186|25=>187|26=>188|27=>189|46=>204|47=>194|48=>195|49=>205|50=>206|57=>209|n=>n,fun|22=>197|24=>9|25=>208|3=>3|39=>158|0=>0|53=>188|55=>161|4=>4|46=>236|45=>235|50=>171|5=>5|9=>9|66=>252|70=>256|76=>262|77=>228|n=>n,fun|n=>n⟩
theorem Tryz.aiS:Go.Proofs.SlLaysF.n6 Tryz.prog Tryz.OD:= {
 mixed:=by kernel_rfl
 f6:=⟨Tryz.f150.name,by decide,Tryz.func150.trans (congrArg some (by kernel_rfl))⟩
 f14:=⟨Tryz.f164.name,by decide,Tryz.func164.trans (congrArg some (by kernel_rfl))⟩
 f15:=Tryz.func160.trans (congrArg some (by kernel_rfl))
 f20:=⟨Tryz.f182.name,by decide,Tryz.func182.trans (congrArg some (by kernel_rfl))⟩
 f21:=⟨Tryz.f183.name,by decide,Tryz.func183.trans (congrArg some (by kernel_rfl))⟩
 f22:=⟨Tryz.f184.name,by decide,Tryz.func184.trans (congrArg some (by kernel_rfl))⟩
 f23:=⟨Tryz.f185.name,by decide,Tryz.func185.trans (congrArg some (by kernel_rfl))⟩
 f24:=⟨Tryz.f186.name,by decide,Tryz.func186.trans (congrArg some (by kernel_rfl))⟩
 f25:=⟨Tryz.f187.name,by decide,Tryz.func187.trans (congrArg some (by kernel_rfl))⟩
 f26:=⟨Tryz.f188.name,by decide,Tryz.func188.trans (congrArg some (by kernel_rfl))⟩
 f27:=⟨Tryz.f189.name,by decide,Tryz.func189.trans (congrArg some (by kernel_rfl))⟩
 f28:=Tryz.func177.trans (congrArg some (by kernel_rfl))
 f29:=Tryz.func178.trans (congrArg some (by kernel_rfl))
 f46:=⟨Tryz.f204.name,by decide,Tryz.func204.trans (congrArg some (by kernel_rfl))⟩
 f47:=Tryz.func194.trans (congrArg some (by kernel_rfl))
 f48:=Tryz.func195.trans (congrArg some (by kernel_rfl))
 f49:=⟨Tryz.f205.name,by decide,Tryz.func205.trans (congrArg some (by kernel_rfl))⟩
 f50:=⟨Tryz.f206.name,by decide,Tryz.func206.trans (congrArg some (by kernel_rfl))⟩
 f57:=⟨Tryz.f209.name,by decide,Tryz.func209.trans (congrArg some (by kernel_rfl))⟩
 t0:=Tryz.underlying0
 a0:=Tryz.isAgg0
 z0:=Tryz.sizeOf0
 v0:=Tryz.zeroValue0
 t3:=Tryz.underlying3
 a3:=Tryz.isAgg3
 z3:=Tryz.sizeOf3
 v3:=Tryz.zeroValue3
 t4:=Tryz.underlying4
 a4:=Tryz.isAgg4
 z4:=Tryz.sizeOf4
 v4:=Tryz.zeroValue4
 t5:=Tryz.underlying5
 a5:=Tryz.isAgg5
 z5:=Tryz.sizeOf5
 v5:=Tryz.zeroValue5
 t9:=Tryz.underlying9
 a9:=Tryz.isAgg9
 z9:=Tryz.sizeOf9
 v9:=Tryz.zeroValue9
 t22:=Tryz.underlying197
 a22:=Tryz.isAgg197
 z22:=Tryz.sizeOf197
 v22:=Tryz.zeroValue197
 a24:=Tryz.isAgg9
 z24:=Tryz.sizeOf9
 t25:=Tryz.underlying208
 a25:=Tryz.isAgg208
 z25:=Tryz.sizeOf208
 v25:=Tryz.zeroValue208
 t39:=Tryz.underlying158
 a39:=Tryz.isAgg158
 z39:=Tryz.sizeOf158
 v39:=Tryz.zeroValue158
 t45:=Tryz.underlying235
 a45:=Tryz.isAgg235
 z45:=Tryz.sizeOf235
 v45:=Tryz.zeroValue235
 t46:=Tryz.underlying236
 a46:=Tryz.isAgg236
 z46:=Tryz.sizeOf236
 v46:=Tryz.zeroValue236
 t50:=Tryz.underlying171
 a50:=Tryz.isAgg171
 z50:=Tryz.sizeOf171
 v50:=Tryz.zeroValue171
 t53:=Tryz.underlying188
 a53:=Tryz.isAgg188
 z53:=Tryz.sizeOf188
 v53:=Tryz.zeroValue188
 t55:=Tryz.underlying161
 a55:=Tryz.isAgg161
 z55:=Tryz.sizeOf161
 v55:=Tryz.zeroValue161
 t66:=Tryz.underlying252
 a66:=Tryz.isAgg252
 z66:=Tryz.sizeOf252
 v66:=Tryz.zeroValue252
 t70:=Tryz.underlying256
 a70:=Tryz.isAgg256
 z70:=Tryz.sizeOf256
 v70:=Tryz.zeroValue256
 t76:=Tryz.underlying262
 a76:=Tryz.isAgg262
 z76:=Tryz.sizeOf262
 v76:=Tryz.zeroValue262
 t77:=Tryz.underlying228
 a77:=Tryz.isAgg228
 z77:=Tryz.sizeOf228
 v77:=Tryz.zeroValue228}
end Go.Proofs

end
section
namespace Go.Proofs
open Go.RowKit Go.Maps Go.Sort Go.Shelf
theorem Tryz.ç(m:Nat):AnyZ.SortsIn Tryz.prog Tryz.wC Fence.wide m:=
 ⟨fun DV off cap ss W hH hblk cR=>callsIn_wide.2 (AnyM.slices_Sort_string Tryz.R1 DV off cap ss W hH hblk cR),
  fun p cap W=>callsIn_wide.2 (AnyM.slices_Sort_string_none Tryz.R1 p cap W)⟩
theorem Tryz.F5(mb:Option Nat)(W:World):CallsIn Fence.wide 5 Tryz.prog 128 #[.map mb] W fun e w'=>e= .returned (.func (.func 140) #[] #[.pointer (some ⟨W.heap.size,0,none⟩)])∧w'=W.alloc (.cells #[.map mb] 196):=
 AnyZ.keys_in Tryz.R0 Fence.wide 5 trivial rfl mb W
set_option maxHeartbeats 1000000 in
theorem Tryz.pE {H:Type}(b nn:Nat)(D0:DataW H)(R:Value→Option (DataW H×List MemPlace))(w:World)(fG:w.ownsMap Tryz.prog 9 R b nn D0)(JV:Maps.size D0≤maxLen)(uX:Maps.size D0*16≤140737488355328):
  CallsIn Fence.wide 5 Tryz.prog 127 #[.func (.func 140) #[] #[.pointer (some ⟨w.heap.size,0,none⟩)]] (w.alloc (.cells #[.map (some b)] 196)) fun e w'=>∃(v:Value) (ss:List (List UInt8)),e= .returned v∧ss.Perm (strKeys D0)∧
   w'.ownsRow (w.alloc (.cells #[.map (some b)] 196)).heap.size 9 1 v ss.length ((ss.mergeSort (fun x y=>decide (x≤y))).map encStr)∧(v= .slice none 0 0↔ss= [])∧Below (w.alloc (.cells #[.map (some b)] 196)).heap.size (w.alloc (.cells #[.map (some b)] 196)) w':=by
 have n0:=fG.lt
 have amh:SeqGives Fence.wide 2 Tryz.prog 140 #[.pointer (some ⟨w.heap.size,0,none⟩)] encStr (fun ss=>ss.Perm (strKeys D0)) (Maps.size D0) (w.alloc (.cells #[.map (some b)] 196)):=
  AnyZ.keys_gives (ρ:=Tryz.Bq) {Tryz.R0 with} Fence.wide _ trivial rfl (by omega) w.heap.size b nn D0 _ (by simp) (by simp) (by
   obtain⟨es,clock,hb,Ft,hs,hD⟩:=fG
   exact⟨es,clock,(Below.heap_alloc _ _ b n0).trans hb,Ft,hs,hD⟩)
 exact AnyZ.sorted_in Tryz.TL Fence.wide 5 trivial trivial trivial trivial rfl (by omega) (Tryz.ç _) (enters_of Tryz.func139 (by kernel_rfl) rfl) 140 #[.pointer (some ⟨w.heap.size,0,none⟩)] trivial (enters_of Tryz.func140 (by kernel_rfl) rfl) _ _ JV uX _ amh
end Go.Proofs

end
section
namespace Go.Proofs
open Go.Shelf Go.RowKit Go.Lib Go.Sort
theorem abC {x y:List UInt8}(h:Op.bytesLess x y=true):S.fU x y= -1:=by unfold S.fU;rw [if_pos h]
theorem abD {x y:List UInt8}(h:Op.bytesLess x y=false)(h2:(!x==y)=true):S.fU x y=1:=by
 have dH:x≠y:=by simpa using h2
 unfold S.fU
 rw [h]
 rcases S.gw x y with t|t|t
 · rw [t] at h;cases h
 · exact absurd t dH
 · rw [t];rfl
theorem abE {x y:List UInt8}(h:Op.bytesLess x y=false)(h2:(!x==y)=false):S.fU x y=0:=by
 have he:x=y:=by simpa using h2
 subst he
 unfold S.fU
 rw [h];rfl
theorem Tryz.OE(x:ByteArray)(w:World):Calls Tryz.prog 157 #[.string x] w fun e w'=>e= .returned (.bool false)∧w'=w:=by
 go_enter Tryz.func157,Tryz.ntmps157
 go_wp2
 go_ret
 exact⟨by simp,rfl⟩
set_option maxHeartbeats 1000000 in
theorem Tryz.JG(x y:List UInt8)(w:World):Calls Tryz.prog 137 #[Vg.encS x,Vg.encS y] w fun e w'=>e= .returned (.int .i64 (S.fU x y))∧w'=w:=by
 unfold Vg.encS
 go_enter Tryz.func137,Tryz.ntmps137
 go_wp2_with (go_at_call 157;refine(Tryz.OE _ _).mono ?_;rintro e w' ⟨rfl,rfl⟩)
 all_goals go_ret
 all_goals refine⟨?_,rfl⟩
 all_goals first
  |(rw [abC (by assumption)];rfl)
  |(rw [abD (by assumption) (by assumption)];rfl)
  |(rw [abE (by assumption) (by assumption)];rfl)
theorem Tryz.abF {G:Nat→Option Vg.GD} {F:Vg.Row (Vg.TA.fH [.own 50000, .fn (.func 137) [] []])→Vg.gD [.row 9 [.str]]→Vg.fY}
  (hF:∀l:List (List UInt8),F () (l,())= {pre:=l.length≤1099511627776,res:= .cK [],heap:= [some (.row 9 [.str] (S.fV l) false)],new:= []}):
  Vg.cS Tryz.prog G 150 (Vg.iX [.own 50000, .fn (.func 137) [] []] [.row 9 [.str]] F):=
 Vg.BO Tryz.aiS (enters_of Tryz.func137 (by kernel_rfl) rfl) Tryz.JG hF
end Go.Proofs

end
section
namespace Go.DM
open Go Go.Vg Go.Maps Go.RowKit Go.ChangeShapes
section
variable {H:Type}
def items:DataW H→List Int
 | .slice ls _=>ls.filterMap fun d=>match d with| .lit (.int _ z)=>some z|_=>none
 |_=> []
theorem L1(zs:List Int):items (H:=H) (.slice (lits .i64 zs) [])=zs:=by
 induction zs with
 |nil=>rfl
 |cons z zs ih=>
  simp only [items,lits,List.map_cons,List.filterMap_cons] at ih ⊢
  rw [ih]
theorem xy {w:World} {base:Nat} {e:TypeId} {v:Value} {zs:List Int}(h:w.ownsInts base e .i64 v zs):items (H:=H) (rowDatum .i64 v zs)=zs:=by
 rcases h.datum (H:=H) with⟨h1,h2⟩|h1
 · rw [h1,h2];rfl
 · rw [h1];exact L1 zs
def Repr(D:DataW H)(m:List UInt8→List Int):Prop :=IsMap D∧∀s,items (D.atKey (.string s) .nil)=m s∧(has D (.string s)=true↔m s≠ [])
theorem Repr.empty:Repr (H:=H) (.map []) (fun _=> []):=⟨isMap_empty,fun s=>⟨rfl,by simp [has]⟩⟩
theorem Repr.ext {D:DataW H} {m m':List UInt8→List Int}(h:Repr D m)(e:∀s,m s=m' s):Repr D m':=by
 rw [←funext e];exact h
theorem Repr.put {D:DataW H} {m m':List UInt8→List Int}(h:Repr D m) {t:List UInt8} {w:World} {base:Nat} {e:TypeId} {v:Value} {zs:List Int}(ho:w.ownsInts base e .i64 v zs)(hz:zs≠ [])
  (h1:m' t=zs) (h2:∀s,s≠t→m' s=m s):Repr (D.put (.string t) (rowDatum .i64 v zs)) m':=by
 refine⟨h.1.put _ _,fun s=> ?_⟩
 by_cases hs:s=t
 · subst hs
   refine⟨?_,?_⟩
   · rw [atKey_put_same h.1 (by trivial),xy ho,h1]
   · rw [has_put_same h.1 (by trivial),h1];simp [hz]
 · have dH:Lit.string s≠Lit.string t:=fun hh=>hs (by injection hh)
   rw [atKey_put_other dH,has_put_other dH,h2 s hs]
   exact h.2 s
theorem è {w:World} {Q:Nat→Prop} {base:Nat} {e:TypeId} {v:Value} {zs:List Int}(h:w.ownsInts base e .i64 v zs)(hq:∀g,v.ownBlock=some g→Q g):Rd w Q (.slice [.int .i64]) v zs:=by
 obtain⟨ho,hw⟩:=h
 have hz:∀z∈zs,lo .i64≤z∧z≤hi .i64:=fun z hz=>by
  have :=hw z hz
  simp [Lit.wf,IntKind.min,IntKind.max,IntKind.signed,IntKind.bits] at this
  simp only [lo,hi];omega
 simp only [Rd]
 rcases ho.2 with⟨rfl,h0⟩|⟨g,cap,cur,rfl,hg,hh,hn,hc,cR,Bw⟩
 · have :zs= []:=List.length_eq_zero_iff.1 h0
   subst this
   exact⟨none,0,[],rfl,Nat.le_refl _,Nat.zero_le _,rfl,fun h=>absurd rfl h⟩
 · refine⟨some ⟨g,0,none⟩,cap,zs.map (Value.int .i64),rfl,hn,hc,Ah zs hz,fun _=>⟨g,0,rfl,hq g rfl,fun j v hj=> ?_⟩⟩
   have :=ho.cells (g:=g) rfl j v hj
   rwa [Addr.add_mid] at this
end
end Go.DM
namespace Go.DM
open Go Go.Vg Go.Maps Go.RowKit Go.ChangeShapes
section
variable {H:Type} {P:Program}
theorem zc(w:World)(c:Array Value)(e:TypeId)(o:Obj)(j:Nat):((w.alloc (.cells c e)).alloc o).cell? ⟨w.heap.size,j,none⟩=c[j]? :=by
 have h1:((w.alloc (.cells c e)).alloc o).heap[w.heap.size]? =some (.cells c e (0,0)):=by
  rw [((World.grownBy_alloc (w.alloc (.cells c e)) o none).block w.heap.size (by simp) (by simp))]
  exact(MapKept.heap_alloc w _).1
 simp [World.cell?,h1]
theorem Ak {w:World} {base:Nat} {e:TypeId} {size:Nat} {v:Value} {n:Nat} {xs:List Value}(h:w.ownsRow base e size v n xs):∃av cp,v= .slice av n cp∧(0<n→∃g,av=some ⟨g,0,none⟩∧base≤g∧g<w.heap.size):=by
 have hl:=h.lt
 rcases h.2 with⟨rfl,h0⟩|⟨g,cap,cur,rfl,hg,_⟩
 · exact⟨none,0,by rw [h0],fun h=>by omega⟩
 · exact⟨_,cap,rfl,fun _=>⟨g,rfl,hl g rfl⟩⟩
theorem sQ {w w':World}(h:Below w.heap.size w w'):w.grownBy w' none:=⟨h.os,h.tape,h.output,h.size,fun i hi _=>h.block i hi⟩
theorem qP {w w':World} {k:TypeId} {base:Nat} {e:TypeId} {q:IntKind} {b n:Nat} {D:DataW H}(h:w.ownsGroups P k base e q b n D)(hb:Below w.heap.size w w'):w'.ownsGroups P k base e q b n D:=
 h.kept (sQ hb) (by simp) (fun es clock _ x _=>by cases x.val.ownBlock<;>simp)
theorem OF {w:World} {k:TypeId} {base:Nat} {e:TypeId} {q:IntKind} {b n:Nat} {D:DataW H}(h:w.ownsGroups P k base e q b n D):b<w.heap.size:=by
 obtain⟨es,clock,hb,_⟩:=h
 exact(Array.getElem?_eq_some_iff.1 hb).1
theorem ET {w w':World} {k:TypeId} {base:Nat} {e:TypeId} {q:IntKind} {b n:Nat} {D:DataW H}(h:w.ownsGroups P k base e q b n D)(hb:Below w.heap.size w w') {No:Nat→Prop}(hn:∀g,No g→w.heap.size≤g):w'.Shuns b No:=by
 have h1:w.Shuns b (fun _=>False):=fun _ _ _ _ _ _ _ hf=>hf
 exact(h1.reno (No':=No) h (fun g hg=> .inr (hn g hg))).kept (sQ hb) (OF h) (by simp)
theorem G7 {w:World} {base:Nat} {e:TypeId} {g cp:Nat} {n:Nat} {l:List (List UInt8)}(h:w.ownsRow base e 1 (.slice (some ⟨g,0,none⟩) n cp) n (l.map encS)) {j:Nat}(hj:j<l.length):w.cell? ⟨g,0+j,none⟩=some (encS (l.getD j [])):=by
 have :=h.cells (g:=g) rfl j (encS (l.getD j [])) (by rw [List.getElem?_map,List.getElem?_eq_getElem hj,List.getD_eq_getElem?_getD,List.getElem?_eq_getElem hj];rfl)
 rwa [Addr.add_mid] at this
end
end Go.DM
namespace Go.DM
open Go Go.Vg Go.Maps Go.RowKit Go.ChangeShapes
section
variable {H:Type} {P:Program}
theorem L2 {w w':World} {row:Option Nat}(h:w.grownBy w' row) {a:Addr} {v:Value}(hl:a.block<w.heap.size)(hn:some a.block≠row)(hc:w.cell? a=some v):w'.cell? a=some v:=
 (World.cell?_of_block (h.block _ hl hn)).trans hc
theorem L3 {k:TypeId}(hk:P.underlying k=some .string) {s:List UInt8}(h:s.length≤maxLen):keyOf P k (.string ⟨s.toArray⟩)=some (.string s):=by
 have :=Go.WideMaps.keyOf_string_mk (P:=P) (k:=k) (s:=⟨s.toArray⟩) hk (by simpa [ByteArray.size] using h)
 simpa using this
theorem abG {wr:World} {b g:Nat} {v v':Value} {o:Obj} {n cp:Nat}(FI:∀No:Nat→Prop,wr.Shuns b No→∀g,v.ownBlock=some g→¬No g)(hs:wr.Shuns b (fun g'=>(Value.slice (some ⟨g,0,none⟩) n cp).ownBlock=some g'))
  (tT:v'.ownBlock=v.ownBlock∨v'.ownBlock=some (wr.alloc o).heap.size) (hg:g<wr.heap.size):∀g',v'.ownBlock=some g'→¬((Value.slice (some ⟨g,0,none⟩) n cp).ownBlock=some g'):=fun g' vL hh=>by
 rcases tT with h|h
 · rw [h] at vL
   exact FI _ hs g' vL hh
 · rw [h] at vL
   simp only [Value.ownBlock,Option.some.injEq] at vL hh
   simp at vL
   omega
end
end Go.DM
namespace Go.DM
open Go Go.Vg Go.Maps Go.RowKit Go.ChangeShapes
section
variable {H:Type} {P:Program}
theorem EU {w:World} {k:TypeId} {base:Nat} {e:TypeId} {q:IntKind} {b n:Nat} {D:DataW H}(h:w.ownsGroups P k base e q b n D):w.ownsMap P k (rowElem w base e q) b n D:=by
 obtain⟨es,clock,hb,F,hs,hD,_⟩:=h
 exact⟨es,clock,hb,F,hs,hD⟩
theorem Al {w:World} {k:TypeId} {R:Value→Option (DataW H×List MemPlace)} {b n:Nat} {D:DataW H}(h:w.ownsMap P k R b n D):Maps.size D≤n:=by
 obtain⟨es,clock,hb,F,hs,rfl⟩:=h
 rw [size_eq,length_sorted]
 simpa using hs
theorem OG(docs:List (List UInt8))(a b:Int)(x:List UInt8):x∈S.cD docs a b↔S.su docs a (b-a).toNat 0 x≠ []:=by
 unfold S.cD
 rw [S.fJ,S.xg]
 simp [S.su]
theorem TM {w:World} {R:Value→Option (DataW H×List MemPlace)} {k:TypeId} {b n:Nat} {D:DataW H}(h:w.ownsMap P k R b n D)(K:Keyed P k)(hk:P.underlying k=some .string) {docs:List (List UInt8)} {f t:Int}
  (hr:Repr D (S.su docs f (t-f).toNat 0)) {ss:List (List UInt8)} (hs:ss.Perm (strKeys D)):ss.mergeSort (fun x y=>decide (x≤y))=S.cD docs f t∧ss.length=(S.cD docs f t).length∧(∀s∈S.cD docs f t,s.length≤maxLen)∧(S.cD docs f t).length≤n:=by
 obtain⟨es,hD,hpw,_⟩:=h.entries K
 obtain⟨MN,hD',hko⟩:=h.keysOf
 have hle:=strKeys_le h hk
 have cR:=Al h
 obtain rfl :es=MN:=by rw [hD] at hD';simpa using hD'
 subst hD
 have hi:S.lW (S.cD docs f t):=S.jT _
 have sU:=perm_strKeys hpw (fun p hp=>by obtain⟨v,hv⟩:=hko p hp;obtain⟨x,_,hx,_⟩:=Maps.keyOf_str hk hv;exact⟨x,hx⟩) (S.ur hi) (fun x=>by rw [OG,(hr.2 x).2])
 have XC:=hs.trans sU.symm
 have hlen:(S.cD docs f t).length≤n:=by
  rw [sU.length_eq]
  simpa [strKeys,size_eq] using cR
 refine⟨?_,XC.length_eq,fun s gC=>hle s (sU.subset gC),hlen⟩
 have e1:ss.mergeSort leB=(S.cD docs f t).mergeSort leB:=mergeSort_of_perm XC
 have e2:(S.cD docs f t).mergeSort leB=S.cD docs f t:=by
  refine List.mergeSort_of_pairwise (hi.imp fun {a b} fk=> ?_)
  rw [Go.Proofs.bytesLess_eq] at fk
  simp only [leB,decide_eq_true_eq] at fk ⊢
  exact List.le_of_lt fk
 exact e1.trans e2
end
end Go.DM
namespace Go.DM
open Go Go.Vg Go.Maps Go.RowKit Go.ChangeShapes
section
variable {H:Type} {P:Program}
theorem CV {w:World} {base:Nat} {e:TypeId} {q:IntKind} {v:Value} {zs:List Int}(h:w.ownsInts base e q v zs):v.oneCell'=true :=by
 rcases h.1.2 with⟨rfl,_⟩|⟨g,cap,cur,rfl,_⟩<;>rfl
theorem TN {w:World} {Q:Nat→Prop} {s:List UInt8} {v:Value} {zs:List Int}(hs:s.length≤maxLen)(hv:Rd w Q (.slice [.int .i64]) v zs):bh w Q [.str, .slice [.int .i64]] [.string ⟨s.toArray⟩,v] (s,zs):=by
 simp only [bh]
 refine⟨_,[v],rfl,?_,v,[],rfl,hv,rfl⟩
 simp only [Rd]
 exact⟨rfl,hs⟩
theorem G8 {α:Type} {R:List Value→α→Prop}:∀(l:List α) (cs:List Value) (c:List Value) (x:α),bZ R cs l→R c x→bZ R (cs++c) (l++ [x])
 | [],cs,c,x,h,hx=>by
   simp only [bZ] at h
   subst h
   exact⟨c,[],by simp,hx,rfl⟩
 |y::l,cs,c,x,⟨c1,c2,hc,h1,h2⟩,hx=>by
  subst hc
  exact⟨c1,c2++c,by simp,h1,G8 l c2 c x h2 hx⟩
theorem é {w w':World} {base:Nat} {e:TypeId} {v:Value} {zs:List Int} {Q:Nat→Prop}(h:w'.ownsInts base e .i64 v zs)(hb:Below w.heap.size w w')(hl:∀g,v.ownBlock=some g→g<w.heap.size)(hq:∀g,base≤g→g<w.heap.size→Q g):Rd w Q (.slice [.int .i64]) v zs:=by
 have h':w.ownsInts base e .i64 v zs:=by
  refine⟨⟨h.1.1,?_⟩,h.2⟩
  rcases h.1.2 with hn|⟨g,cap,cur,rfl,hg,hh,rest⟩
  · exact .inl hn
  · exact .inr ⟨g,cap,cur,rfl,hg,(hb.block g (hl g rfl)).symm.trans hh,rest⟩
 exact è h' (fun g hg=>hq g (h'.1.lt g hg).1 (hl g hg))
theorem JH(w:World)(a b:Value)(t:TypeId):∀j u,[a,b][j]? =some u→(w.alloc (.cells #[a,b] t)).cell? ((⟨w.heap.size,0,none⟩:Addr).add j)=some u:=by
 intro j u hj
 rw [Addr.add_mid,Nat.zero_add]
 have h1:(w.alloc (.cells #[a,b] t)).heap[w.heap.size]? =some (.cells #[a,b] t (0,0)):=(MapKept.heap_alloc w _).1
 simp only [World.cell?,h1]
 simpa using hj
end
end Go.DM

end
section
namespace Go.Proofs
open Go Go.Vg Go.Maps Go.RowKit Go.ChangeShapes Go.DM Go.WideMaps
theorem Tryz.R2:Keyed Tryz.prog 9:=string_keyed Tryz.underlying9
theorem Tryz.aiT:(Tryz.prog.info? 3).map (fun i=>(i.zero,i.size,i.bytes))=some (some (.int .i64 0),1,8):=by kernel_rfl
theorem Tryz.abH:(Tryz.prog.info? 136).map (fun i=>(i.zero,i.size,i.bytes))=some (some (.agg #[.string ⟨#[]⟩, .slice none 0 0]),2,40):=by kernel_rfl
theorem Tryz.R3(w:World):(zeroValue 50).run Tryz.prog w= .ok (.slice none 0 0) w:=by kernel_rfl
theorem Tryz.ê(mb:Option Nat)(W:World):Calls Tryz.prog 128 #[.map mb] W fun e w'=>e= .returned (.func (.func 140) #[] #[.pointer (some ⟨W.heap.size,0,none⟩)])∧w'=W.alloc (.cells #[.map mb] 196):=callsIn_wide.1 (Tryz.F5 mb W)
set_option maxRecDepth 100000 in
set_option maxHeartbeats 4000000 in
theorem Tryz.OH {H:Type}(docs:List (List UInt8))(f t:Int)(da:Option Addr)(cap:Nat)(w:World)
  (hp:S.kz docs f t) (h4:∀j,(docs.getD j []).length≤2000) (dv:Nat→Value)
  (hd:∀j,j<docs.length→∃b o aj cj,da=some ⟨b,o,none⟩∧b<w.heap.size∧w.cell? ⟨b,o+j,none⟩=some (dv j)∧dv j= .slice aj (docs.getD j []).length cj)
  (sJ:∀(j:Nat) (W:World),j<docs.length→Below w.heap.size w W→Calls Tryz.prog 126 #[dv j] W fun e w'=>∃v,e= .returned v∧w'.ownsRow W.heap.size 9 1 v (S.eH docs 0 j).length ((S.eH docs 0 j).map encS)∧Below W.heap.size W w')
  (JI:∀(j:Nat),∀s∈S.eH docs 0 j,s.length≤maxLen):
  Calls Tryz.prog 107 #[.slice da docs.length cap, .agg #[.int .i64 f, .int .i64 t]] w fun e w'=>∃v xs W1,e= .returned (.tuple #[v, .int .i64 0])∧Below w.heap.size w w'∧Below W1.heap.size W1 w'∧w.heap.size≤W1.heap.size∧
   w'.ownsRow W1.heap.size 136 2 v (S.make docs f t).length xs∧bZ (bh W1 (fun b=>w.heap.size≤b∧b<W1.heap.size) [.str, .slice [.int .i64]]) xs (S.make docs f t):=by
 have hmm:= @run_makeMap Tryz.prog
 have h0:0≤f:=hp.1
 have h1:f≤t:=hp.2.1
 have h2:t≤docs.length:=hp.2.2.1
 have h3:docs.length≤1000:=hp.2.2.2.1
 obtain⟨i0,hi,hz0,ý,hz2⟩:=info_parts Tryz.aiT
 obtain⟨i1,hi1,hy0,hy1,hy2⟩:=info_parts Tryz.abH
 go_enter Tryz.func107,Tryz.ntmps107
 go_wp2
 go_loopw [39] (fun i wr=>∃k:Nat,k≤docs.length∧i= .int .i64 k∧wr=w.alloc (.cells #[.int .i64 f, .int .i64 t] 88))
  (fun i _=>docs.length-(intOf i).toNat)
 case atStart=>exact⟨0,Nat.zero_le _,rfl,rfl⟩
 case round=>
  obtain⟨k,hk,rfl,rfl⟩:=hrel
  by_cases eB:k<docs.length
  · obtain⟨b,o,aj,cj,rfl,hb,hc,hv⟩:=hd k eB
    rw [hv] at hc
    have hl:=h4 k
    generalize (docs.getD k []).length=n at hc hl
    have nE:(w.alloc (.cells #[.int .i64 f, .int .i64 t] 88)).cell? ⟨b,o+k,none⟩=some (.slice aj n cj):=by
     rw [←hc];exact World.cell?_of_block ((World.grownBy_alloc w _ none).block b hb (by simp))
    clear hd sJ
    go_wp2
    go_roundw
    case rel=>exact⟨k+1,by omega,by go_num,by first|rfl|trivial⟩
    case measure=>simp [intOf];omega
  · have :k=docs.length:=by omega
    subst this
    clear eB
    go_wp2
    go_loopw [9] (fun i wr=>∃k:Nat,i= .int .i64 (f+k)∧f+k≤t∧∃(m:Nat) (D:DataW H),m≤4000*k∧wr.ownsGroups Tryz.prog 9 (w.heap.size+2) 3 .i64 (w.heap.size+1) m D∧Repr D (S.su docs f k 0)∧
      Below w.heap.size w wr∧wr.cell? ⟨w.heap.size,1,none⟩=some (.int .i64 t)∧w.heap.size+2≤wr.heap.size)
     (fun i _=>(t-intOf i).toNat)
    case atStart=>
     have cR:(w.alloc (.cells #[.int .i64 f, .int .i64 t] 88)).heap.size=w.heap.size+1:=by simp
     have hg:=World.ownsGroups_made (H:=H) (w.alloc (.cells #[.int .i64 f, .int .i64 t] 88)) Tryz.prog 9 3 .i64
     rw [cR] at hg
     refine⟨0,by simp,by simpa using h1,0,_,Nat.le_refl _,hg,Repr.empty.ext (fun s=>(S.ae0 docs f s).symm),((Below.refl _ _).alloc (Nat.le_refl _) _).alloc (by simp) _,?_,by simp⟩
     rw [zc];rfl
    case round=>
     obtain⟨k,rfl,hk,m,D,hm,fG,ë,hnx,amj,hws⟩:=hrel
     by_cases eB:f+k<t
     · obtain⟨n,hn⟩:∃n:Nat,f+(k:Int)=n:=⟨(f+k).toNat,by omega⟩
       have T4:n<docs.length:=by omega
       obtain⟨b,o,aj,cj,rfl,hb,hc,hv⟩:=hd n T4
       have hs:=sJ n wr T4 hnx
       rw [hv] at hs hc
       have nE:wr.cell? ⟨b,o+n,none⟩=some (.slice aj (docs.getD n []).length cj):=(hnx.cell (by exact hb)).trans hc
       have eL:S.eH docs 0 n=S.eH docs f k:=by unfold S.eH;rw [hn];simp
       rw [eL] at hs
       have Cg:=JI n
       rw [eL] at Cg
       obtain⟨JJ,rfl⟩:∃x,x=wr:=⟨wr,rfl⟩
       have hL:(S.eH docs f k).length≤4000:=by unfold S.eH;exact S.K3 hp _
       simp only [hn] at hk ⊢
       generalize (docs.getD n []).length=dl at nE hs
       clear hd sJ hc hv
       go_wp2_with (first
        |(go_at_call 126;refine hs.mono ?_;rintro e w1 ⟨vs,rfl,jV,MY⟩;obtain⟨av,cp,rfl,Is⟩:=Ak jV)
        |go_in)
       have aiU:=qP fG MY
       have amk:w1.Shuns (w.heap.size+1) (fun g=>(Value.slice av (S.eH docs f k).length cp).ownBlock=some g):=ET fG MY (fun g hg=>(jV.lt g hg).1)
       have aml:Below w.heap.size w w1:=hnx.trans (MY.mono (by omega))
       have aiV:w1.cell? ⟨w.heap.size,1,none⟩=some (.int .i64 t):=(MY.cell (by show w.heap.size<JJ.heap.size;omega)).trans amj
       have amm:JJ.heap.size≤w1.heap.size:=MY.size
       clear hs MY nE
       go_loopw [62] (fun i wq=>∃j:Nat,i= .int .i64 j∧j≤(S.eH docs f k).length∧∃(m2:Nat) (D2:DataW H),m2≤m+j∧wq.ownsGroups Tryz.prog 9 (w.heap.size+2) 3 .i64 (w.heap.size+1) m2 D2∧Repr D2 (S.su docs f k j)∧
         wq.Shuns (w.heap.size+1) (fun g=>(Value.slice av (S.eH docs f k).length cp).ownBlock=some g)∧Below w.heap.size w wq∧wq.cell? ⟨w.heap.size,1,none⟩=some (.int .i64 t)∧
         wq.ownsRow JJ.heap.size 9 1 (.slice av (S.eH docs f k).length cp) (S.eH docs f k).length ((S.eH docs f k).map encS)∧JJ.heap.size≤wq.heap.size)
        (fun i _=>(S.eH docs f k).length-(intOf i).toNat)
       case atStart=>exact⟨0,rfl,Nat.zero_le _,m,D,by omega,aiU,ë,amk,aml,aiV,jV,amm⟩
       case round=>
        obtain⟨j,rfl,hj,m2,D2,ĕ,OI,JK,ì,í,î,OJ,hwq⟩:=hrel
        by_cases sb:j<(S.eH docs f k).length
        · obtain⟨g,rfl,hg1,Č⟩:=Is (by omega)
          have j1:=G7 OJ sb
          rw [Nat.zero_add] at j1
          have G9:=L3 (P:=Tryz.prog) Tryz.underlying9 (Cg _ (S.bu _ j [] sb))
          have adS:=S.Vk (docs:=docs) (a:=f) (k:=k) sb
          have ï:=fun s=>S.S9 (docs:=docs) (a:=f) (k:=k) (j:=j) sb (s:=s)
          have aiW:=S.Vl docs f k j ((S.eH docs f k).getD j [])
          unfold Vg.encS at j1
          generalize (S.eH docs f k).getD j []=sj at j1 G9 adS ï aiW
          have amn:g<wr.heap.size:=(OJ.lt g rfl).2
          have R4:m2<maxLen:=by unfold maxLen;omega
          clear JI Cg Is
          go_wp2_with (first
           |(at_lookup;refine wpList_lookup_groups_shuns _ rfl _ _ 196 rfl 9 50 3 .i64 Tryz.R2 Tryz.underlying196 (Tryz.R3 _) (w.heap.size+2) (w.heap.size+1) m2 _ rfl OI R4 _ _ rfl G9 ?_;intro v zs KL xa Mz ð FI)
           |(at_builtin;refine wpList_append_own_at _ rfl _ _ 50 rfl (w.heap.size+2) 3 i0 (.int .i64 0) 1 8 Tryz.underlying50 hi hz0 ý hz2 rfl (by decide) _ _ _ rfl (xa.1.alloc _) ⟨wr.heap.size,0,none⟩ 1 1 [.int .i64 n] rfl rfl (cell_one_new _ _ _) (ints_oneCell .i64 [(n:Int)]) (by unfold maxLen;omega) (by omega) (by simp;omega) ?_;intro v' w3 ñ JL J5 tT)
           |(at_mapUpdate;have wM:=abG FI ì tT amn;refine wpList_mapUpdate_back_shuns _ rfl _ _ _ 196 rfl Tryz.R2 Tryz.underlying196 G9 OI R4 xa ì wM ð rfl rfl rfl ((World.grownBy_alloc _ _ _).trans JL) (xa.appended ñ (WalkArith.wf_i64 (by omega))) (by simp;omega) (tT.imp id (fun h=>⟨_,h,by simp⟩)) ?_;intro w4 aiX Ch amo)
           |go_in)
          have jk:=(World.grownBy_alloc wr _ _).trans JL
          have hw3:wr.heap.size≤w3.heap.size:=jk.size
          have hvb:∀g',v.ownBlock=some g'→w.heap.size+2≤g':=fun g' vL=>(xa.1.lt g' vL).1
          refine⟨⟨j+1,by go_num,by omega,m2+1,_,by omega,aiX,?_,amo,?_,?_,?_,?_⟩,by simp [intOf];omega⟩
          · refine JK.put (xa.appended ñ (WalkArith.wf_i64 (by omega))) (by simp) ?_ ï
            rw [adS,hn]
            have :=xy (H:=H) xa
            rw [←KL,(JK.2 sj).1] at this
            rw [this]
          · exact í.groups xa jk Ch í.size (by omega) (by omega)
          · refine L2 Ch (by show w.heap.size<w3.heap.size;omega) (by show some w.heap.size≠some (w.heap.size+1);simp) (L2 jk (by show w.heap.size<wr.heap.size;omega) ?_ î)
            show some w.heap.size≠v.ownBlock
            intro h
            have :=hvb _ h.symm
            omega
          · refine(OJ.kept jk (.inr ?_)).kept Ch (.inr ?_)
            · intro h
              exact FI _ ì g h.symm rfl
            · intro h
              simp only [Value.ownBlock,Option.some.injEq] at h
              omega
          · exact Nat.le_trans hwq (Nat.le_trans hw3 Ch.size)
        · have :j=(S.eH docs f k).length:=by omega
          subst this
          clear sb JI Cg
          have aiY:=JK.ext (fun s=>S.Ta (docs:=docs) (a:=f) (k:=k) (j:=(S.eH docs f k).length) (by omega) s)
          clear JK
          go_wp2
          exact⟨⟨k+1,by rw [show f+((k+1:Nat):Int)=(n:Int)+1 by omega],by omega,m2,D2,by omega,OI,aiY,í,î,by omega⟩,by simp [intOf];omega⟩
     · have IF:t=f+k:=by omega
       have Sc:(t-f).toNat=k:=by omega
       have tS:=EU fG
       have hcS:=callsIn_wide.1 (Tryz.pE (w.heap.size+1) m D _ wr tS (by have :=Al tS;unfold maxLen;omega) (by have :=Al tS;omega))
       have Ej:=fun(ss:List (List UInt8)) (hss:ss.Perm (strKeys D))=>TM (docs:=docs) (f:=f) (t:=t) tS Tryz.R2 Tryz.underlying9 (by rw [Sc];exact ë) hss
       obtain⟨JJ,rfl⟩:∃x,x=wr:=⟨wr,rfl⟩
       clear hd sJ JI
       subst IF
       go_wp2_with (first
        |(go_at_call 128;refine(Tryz.ê _ _).mono ?_;rintro e w4 ⟨rfl,rfl⟩)
        |(go_at_call 127;refine hcS.mono ?_;rintro e w5 ⟨vs,ss,rfl,hS,jV,J5,hb5⟩;obtain⟨hk3,hk4,sR,hk6⟩:=Ej ss hS;rw [hk3,hk4] at jV;obtain⟨av,cp,rfl,Is⟩:=Ak jV)
        |go_in)
       have ò:Below JJ.heap.size JJ w5:=((Below.refl _ JJ).alloc (Nat.le_refl _) _).trans (hb5.mono (by simp))
       have ó:=qP fG ò
       have ams:Below w.heap.size w w5:=hnx.trans (ò.mono (by omega))
       have ao1:JJ.heap.size≤w5.heap.size:=ò.size
       clear hcS Ej tS hb5 fG hS J5 hk3
       go_loopw [12,79] (fun d i wq=>∃j:Nat,i= .int .i64 j∧j≤(S.cD docs f (f+k)).length∧∃xs,wq.ownsRow w5.heap.size 136 2 d j xs∧
         bZ (bh w5 (fun b=>w.heap.size≤b∧b<w5.heap.size) [.str, .slice [.int .i64]]) xs (S.vv docs f (f+k) j)∧Below w5.heap.size w5 wq)
        (fun _ i _=>(S.cD docs f (f+k)).length-(intOf i).toNat)
       case atStart=>exact⟨0,rfl,Nat.zero_le _,[],World.ownsRow_nil _ _ _ _,rfl,Below.refl _ _⟩
       case round=>
        obtain⟨j,rfl,hj,xs,OK,Br,vI⟩:=hrel
        by_cases sb:j<(S.cD docs f (f+k)).length
        · obtain⟨g,rfl,hg1,Č⟩:=Is (by omega)
          have R5:=G7 jV sb
          have j1:wr.cell? ⟨g,0+j,none⟩=some (Vg.encS ((S.cD docs f (f+k)).getD j [])):=(vI.cell Č).trans R5
          rw [Nat.zero_add] at j1
          have Ej:=sR _ (S.bu _ j [] sb)
          have G9:=L3 (P:=Tryz.prog) Tryz.underlying9 Ej
          have ô:=fun tt (ht:(S.cD docs f (f+k)).getD j []=tt)=>S.I5 (docs:=docs) (a:=f) (b:=f+k) (k:=j) (j:=k) sb Sc.symm ht
          unfold Vg.encS at j1
          have aiZ:=qP ó vI
          have amt:wr.Shuns (w.heap.size+1) (fun g=>w5.heap.size≤g):=ET ó vI (fun g hg=>hg)
          have amu:=fun s=>(ë.2 s).1
          generalize (S.cD docs f (f+k)).getD j []=sj at j1 G9 Ej ô
          have R4:m<maxLen:=by unfold maxLen;omega
          clear R5 sR
          go_wp2_with (first
           |(at_lookup;refine wpList_lookup_groups_shuns _ rfl _ _ 196 rfl 9 50 3 .i64 Tryz.R2 Tryz.underlying196 (Tryz.R3 _) (w.heap.size+2) (w.heap.size+1) m _ rfl aiZ R4 _ _ rfl G9 ?_;intro v zs KL xa Mz ð FI;obtain⟨av2,cp2,rfl,ao2⟩:=Ak xa.1)
           |(at_builtin;refine wpList_append_own_at _ rfl _ _ 89 rfl w5.heap.size 136 i1 (.agg #[.string ⟨#[]⟩, .slice none 0 0]) 2 40 Tryz.underlying89 hi1 hy0 hy1 hy2 rfl (by decide) _ j xs rfl (OK.alloc _) ⟨wr.heap.size,0,none⟩ 1 1 [.string ⟨sj.toArray⟩, .slice av2 zs.length cp2] rfl rfl (JH _ _ _ _) (by intro u hu;simp at hu;rcases hu with rfl|rfl<;>rfl) (by unfold maxLen;omega) (by omega) (by have :=vI.size;simp;omega) ?_;intro v' w6 ai0 JL J5 tT)
           |go_in)
          have qv:Rd w5 (fun b=>w.heap.size≤b∧b<w5.heap.size) (.slice [.int .i64]) (.slice av2 zs.length cp2) zs:=
           é xa vI (fun g' vL=>by have :=FI _ amt g' vL;omega) (fun g' h1 h2=>⟨by omega,h2⟩)
          have hz:zs=S.cB docs f sj k:=by
           have e1:=xy (H:=H) xa
           rw [←KL,amu] at e1
           rw [←e1];simp [S.su]
          have jk:=(World.grownBy_alloc wr (.cells #[.string ⟨sj.toArray⟩, .slice av2 zs.length cp2] 136) _).trans JL
          refine⟨⟨j+1,by go_num,by omega,xs++ [.string ⟨sj.toArray⟩, .slice av2 zs.length cp2],ai0,?_,?_⟩,by simp [intOf];omega⟩
          · rw [←ô sj rfl,←hz]
            exact G8 _ _ _ _ Br (TN Ej qv)
          · exact vI.grown jk vI.size (fun g' vL=>(OK.lt g' vL).1)
        · have hje:j=(S.cD docs f (f+k)).length:=by omega
          subst hje
          rw [S.K5 (by omega)] at Br
          clear Is sR
          go_wp2
          go_ret2
          refine⟨_,xs,w5,rfl,ams.trans (vI.mono (by omega)),vI,by omega,?_,Br⟩
          have xU:(S.make docs f (f+k)).length=(S.cD docs f (f+k)).length:=by simp [S.make]
          rw [xU]
          exact OK
set_option maxRecDepth 100000 in
set_option maxHeartbeats 4000000 in
theorem Tryz.OL(docs:List (List UInt8))(f t:Int)(da:Option Addr)(cap:Nat)(w:World)(hc:1000<docs.length∨f<0∨t<f∨(docs.length:Int)<t):
  Calls Tryz.prog 107 #[.slice da docs.length cap, .agg #[.int .i64 f, .int .i64 t]] w fun e w'=>e= .returned (.tuple #[.slice none 0 0, .int .i64 1])∧Below w.heap.size w w':=by
 generalize docs.length=n at hc
 go_enter Tryz.func107,Tryz.ntmps107
 go_wp2
 all_goals (go_ret2;exact⟨rfl,(Below.refl _ _).alloc (Nat.le_refl _) _⟩)
set_option maxRecDepth 100000 in
set_option maxHeartbeats 4000000 in
theorem Tryz.OM(docs:List (List UInt8))(f t:Int)(da:Option Addr)(cap:Nat)(w:World)(h0:0≤f)(h1:f≤t)(h2:t≤docs.length)(h3:docs.length≤1000)(dv:Nat→Value)
  (hd:∀j,j<docs.length→∃b o aj cj,da=some ⟨b,o,none⟩∧b<w.heap.size∧w.cell? ⟨b,o+j,none⟩=some (dv j)∧dv j= .slice aj (docs.getD j []).length cj)
  (hc:¬∀j,j<docs.length→(docs.getD j []).length≤2000):
  Calls Tryz.prog 107 #[.slice da docs.length cap, .agg #[.int .i64 f, .int .i64 t]] w fun e w'=>e= .returned (.tuple #[.slice none 0 0, .int .i64 1])∧Below w.heap.size w w':=by
 go_enter Tryz.func107,Tryz.ntmps107
 go_wp2
 go_loopw [39] (fun i wr=>∃k:Nat,k≤docs.length∧i= .int .i64 k∧wr=w.alloc (.cells #[.int .i64 f, .int .i64 t] 88)∧∀j,j<k→(docs.getD j []).length≤2000)
  (fun i _=>docs.length-(intOf i).toNat)
 case atStart=>exact⟨0,Nat.zero_le _,rfl,rfl,fun j hj=>by omega⟩
 case round=>
  obtain⟨k,hk,rfl,rfl,jk⟩:=hrel
  by_cases eB:k<docs.length
  · obtain⟨b,o,aj,cj,rfl,hb,gn,hv⟩:=hd k eB
    rw [hv] at gn
    have nE:(w.alloc (.cells #[.int .i64 f, .int .i64 t] 88)).cell? ⟨b,o+k,none⟩=some (.slice aj (docs.getD k []).length cj):=by
     rw [←gn];exact World.cell?_of_block ((World.grownBy_alloc w _ none).block b hb (by simp))
    clear hd gn hv hc
    by_cases hl:(docs.getD k []).length≤2000
    · have MS:∀j,j<k+1→(docs.getD j []).length≤2000:=fun j hj=>by
       by_cases e:j=k
       · subst e;exact hl
       · exact jk j (by omega)
      clear jk
      generalize (docs.getD k []).length=n at nE hl
      go_wp2
      go_roundw
      case rel=>exact⟨k+1,by omega,by go_num,by first|rfl|trivial,MS⟩
      case measure=>simp [intOf];omega
    · clear jk
      generalize (docs.getD k []).length=n at nE hl
      go_wp2
      go_ret2
      exact⟨rfl,(Below.refl _ _).alloc (Nat.le_refl _) _⟩
  · exact absurd (fun j hj=>jk j (by omega)) hc
end Go.Proofs

end
section
namespace Go.S
theorem L4 {docs:List (List UInt8)} {a:Int} {j:Nat}:∀s∈eH docs a j,s.length≤maxLen:=fun s hs=>by
 have h1:=(fJ _ _).1 hs
 simp only [bJ,List.mem_map] at h1
 obtain⟨w,_,rfl⟩:=h1
 have :=vt w [] (by simp)
 unfold fX maxLen
 omega
theorem TO {docs:List (List UInt8)} {f t:Int}(h:dB docs f t=true):kz docs f t∧∀j,(docs.getD j []).length≤2000:=by
 simp only [dB,Bool.and_eq_true,List.all_eq_true,decide_eq_true_eq] at h
 obtain⟨h1,h2,h3,h4,h5⟩:=h
 refine⟨⟨h3,h4,h5,by omega,fun d hd=>by have :=h1 d hd;omega⟩,fun j=> ?_⟩
 by_cases hj:j<docs.length
 · have :=h1 _ (bu docs j [] hj)
   omega
 · rw [List.getD_eq_getElem?_getD,List.getElem?_eq_none (by omega)];simp
end Go.S
namespace Go.DM
open Go Go.Vg Go.Maps Go.RowKit Go.Proofs
theorem R6 {w:World} {A:Nat→Prop} {τ:Ty}:∀(l:List (D τ)) (cs:List Value),bZ (bh w A [τ]) cs l→cs.length=l.length∧∀(j:Nat) (x:D τ),l[j]? =some x→Rd w A τ (cs.getD j undef) x
 | [],cs,h=>by simp only [bZ] at h;subst h;exact⟨rfl,fun j x hx=>by simp at hx⟩
 |y::l,cs,⟨c1,c2,hc,h1,h2⟩=>by
  subst hc
  simp only [bh] at h1
  obtain⟨v,bI,rfl,hv,rfl⟩:=h1
  obtain⟨g1,g2⟩:=R6 l c2 h2
  refine⟨by simp [g1],fun j x hx=> ?_⟩
  cases j with
  |zero=>simp at hx;subst hx;exact hv
  |succ j=>simpa using g2 j x (by simpa using hx)
theorem JM(b:List UInt8):Ds [.one (.slice [.int .u8])] [.sl [.int .u8] b]=some b:=rfl
set_option maxRecDepth 100000 in
theorem L5 {G:Nat→Option GD} {Fs:Row (PS.flat [.one (.slice [.int .u8])])→Prop×AV×List AB}(sJ:Valid Tryz.prog G 126 (aC [.one (.slice [.int .u8])] Fs))
  (hFs:∀b:List UInt8,Fs b=(S.small b, .own 0,[.row 9 [.str] (S.sorted (S.bJ b)) false]))
  {F:Row (PS.flat [.one (.slice [.slice [.int .u8]]), .agg [.int .i64, .int .i64]])→Prop×AV×List AB}
  (hF:∀(docs:List (List UInt8)) (f t:Int),F (docs,f,t)=(True, .cK [.sl [.str, .slice [.int .i64]] (S.gd docs f t).1, .int .i64 ((S.gd docs f t).2:Int)],[])):
  Valid Tryz.prog G 107 (aC [.one (.slice [.slice [.int .u8]]), .agg [.int .i64, .int .i64]] F):=by
 intro w A β args cC pre res bs hA hG bA hs hp
 unfold aC at hs
 split at hs
 · rename_i x hx
   obtain⟨docs,f,t⟩:=x
   change List (List UInt8) at docs
   change Int at f
   change Int at t
   have gC:=hs
   rw [hF docs f t] at gC
   simp only [Option.some.injEq,Prod.mk.injEq] at gC
   obtain⟨rfl,rfl,rfl⟩:=gC
   obtain⟨g1,g2⟩:=oX _ hx bA
   clear hs hp hx bA g2
   change ae w A β args [.sl [.slice [.int .u8]] docs, .agg [.int .i64 f, .int .i64 t]] at g1
   simp only [ae,aa] at g1
   obtain⟨vd,bI,rfl,hvd,va,adR,rfl,⟨arr,rfl,T9⟩,rfl⟩:=g1
   obtain⟨u1,us,e1,⟨rfl,hf⟩,u2,wJ,rfl,⟨rfl,ht⟩,rfl⟩:=T9
   obtain rfl :arr= #[.int .i64 f, .int .i64 t]:=by apply Array.ext';simpa using e1
   simp only [Rd] at hvd
   obtain⟨a,cap,cs,rfl,Gi,OA,Br,aE⟩:=hvd
   obtain⟨gn,c7⟩:=R6 (τ:= .slice [.int .u8]) docs cs Br
   have hd:∀j,j<docs.length→∃b o aj cj,a=some ⟨b,o,none⟩∧b<w.heap.size∧w.cell? ⟨b,o+j,none⟩=some (cs.getD j undef)∧cs.getD j undef= .slice aj (docs.getD j []).length cj:=by
    intro j hj
    obtain⟨b,o,rfl,vN,hr⟩:=aE (by intro h;rw [h] at gn;simp at gn;omega)
    have h1:=c7 j (docs.getD j []) (by rw [List.getD_eq_getElem?_getD,List.getElem?_eq_getElem hj];rfl)
    simp only [Rd] at h1
    obtain⟨aj,cj,eN,h2,_⟩:=h1
    refine⟨b,o,aj,cj,rfl,hA b vN,hr j _ ?_,h2⟩
    rw [List.getD_eq_getElem?_getD,List.getElem?_eq_getElem (by omega)];rfl
   show Calls Tryz.prog 107 #[.slice a docs.length cap, .agg #[.int .i64 f, .int .i64 t]] w _
   have bad:Calls Tryz.prog 107 #[.slice a docs.length cap, .agg #[.int .i64 f, .int .i64 t]] w (fun e w'=>e= .returned (.tuple #[.slice none 0 0, .int .i64 1])∧Below w.heap.size w w')→S.dB docs f t=false→
     Calls Tryz.prog 107 #[.slice a docs.length cap, .agg #[.int .i64 f, .int .i64 t]] w (fun e w'=>∃v,e= .returned v∧∃A' aH,jJ w A w' v (.cK [.sl [.str, .slice [.int .i64]] (S.gd docs f t).1, .int .i64 ((S.gd docs f t).2:Int)]) [] A' aH):=by
    intro hc hb
    refine hc.mono fun e w' ⟨he,n0⟩=>⟨_,he,A,β,{os:=n0.os,tape:=n0.tape,output:=n0.output,size:=n0.size,same:=n0.block,mono:=fun _ h=>h,j6:=fun _ _ h=>h,bound:=fun b h=>Nat.lt_of_lt_of_le (hA b h) n0.size,res:= ?_,rows:=fun i ab hi=>by simp at hi,apart:=fun i j b hi=>by simp at hi}⟩
    have e2:S.gd docs f t=([],1):=by unfold S.gd;rw [hb];rfl
    rw [e2]
    simp only [aa,ae]
    refine⟨_,rfl,_,_,rfl,?_,_,_,rfl,⟨rfl,by simp only [lo,hi];omega⟩,rfl⟩
    simp only [Rd]
    exact⟨none,0,[],rfl,Nat.le_refl _,Nat.zero_le _,rfl,fun h=>absurd rfl h⟩
   cases EV:S.dB docs f t with
   |false=>
    refine bad ?_ EV
    by_cases hc:1000<docs.length∨f<0∨t<f∨(docs.length:Int)<t
    · exact Tryz.OL docs f t a cap w hc
    · refine Tryz.OM docs f t a cap w (by omega) (by omega) (by omega) (by omega) _ hd fun jk=> ?_
      have :S.dB docs f t=true :=by
       simp only [S.dB,Bool.and_eq_true,List.all_eq_true,decide_eq_true_eq]
       refine⟨fun d Cy=> ?_,by omega,by omega,by omega,by omega⟩
       obtain⟨i,gI,rfl⟩:=List.getElem_of_mem Cy
       have :=jk i gI
       rw [List.getD_eq_getElem?_getD,List.getElem?_eq_getElem gI] at this
       simp only [Option.getD_some] at this
       omega
      rw [this] at EV;cases EV
   |true=>
    obtain⟨hmp,h4⟩:=S.TO EV
    have ai1:∀(j:Nat) (W:World),j<docs.length→Below w.heap.size w W→Calls Tryz.prog 126 #[cs.getD j undef] W fun e w'=>∃v,e= .returned v∧w'.ownsRow W.heap.size 9 1 v (S.eH docs 0 j).length ((S.eH docs 0 j).map Vg.encS)∧Below W.heap.size W w':=by
     intro j W hj hW
     have hk:cM w W A A:=fun b hb=>⟨hb,hW.block b (hA b hb)⟩
     have h1:=xM hk _ _ _ (c7 j (docs.getD j []) (by rw [List.getD_eq_getElem?_getD,List.getElem?_eq_getElem hj];rfl))
     have h2:=sJ W A β [cs.getD j undef] [.sl [.int .u8] (docs.getD j [])] (S.small (docs.getD j [])) (.own 0) [.row 9 [.str] (S.sorted (S.bJ (docs.getD j []))) false]
      (fun b hb=>Nat.lt_of_lt_of_le (hA b hb) hW.size) (fun i d hi=>(hG i d hi).mono hk) (by simp only [ae,aa];exact⟨_,_,rfl,h1,rfl⟩)
      (by unfold aC;rw [JM];simp only [hFs]) (by have :=h4 j;unfold S.small;omega)
     refine h2.mono fun e w' ⟨v,he,A',aH,oM⟩=>⟨v,he,?_,oM.os,oM.tape,oM.output,oM.size,oM.same⟩
     have hr:=oM.res
     simp only [aa] at hr
     obtain⟨⟨xs,ho,qv,_⟩,hblk⟩:=oM.rows 0 _ rfl
     obtain⟨rfl,_⟩:=zb _ xs qv
     have eK:S.eH docs 0 j=S.sorted (S.bJ (docs.getD j [])):=by unfold S.eH;simp
     rw [eK,hr.1]
     refine⟨ho.1,?_⟩
     rcases ho.2 with hn|⟨g,gT,cur,hv,_,rest⟩
     · exact .inl hn
     · exact .inr ⟨g,gT,cur,hv,hblk g (by rw [hv];rfl),rest⟩
    refine(Tryz.OH (H:=Unit) docs f t a cap w hmp h4 _ hd ai1 (fun j s hs=>S.L4 s hs)).mono fun e w' ⟨v,xs,W1,he,n0,adT,hW1,ho,qv⟩=> ?_
    have e2:S.gd docs f t=(S.make docs f t,0):=by unfold S.gd;rw [EV];rfl
    rw [e2]
    refine⟨_,he,fun b=>A b∨(w.heap.size≤b∧b<w'.heap.size),β,{os:=n0.os,tape:=n0.tape,output:=n0.output,size:=n0.size,same:=n0.block,mono:=fun _ h=> .inl h,j6:=fun b hb h=> ?_,bound:=fun b h=> ?_,res:= ?_,rows:=fun i ab hi=>by simp at hi,apart:=fun i j b hi=>by simp at hi}⟩
    · rcases h with h|h
      · exact h
      · omega
    · rcases h with h|h
      · exact Nat.lt_of_lt_of_le (hA b h) n0.size
      · exact h.2
    · simp only [aa,ae]
      refine⟨_,rfl,_,_,rfl,?_,_,_,rfl,⟨rfl,by simp only [lo,hi];omega⟩,rfl⟩
      have hk:cM W1 w' (fun b=>w.heap.size≤b∧b<W1.heap.size) (fun b=>A b∨(w.heap.size≤b∧b<w'.heap.size)):=fun b hb=>⟨.inr ⟨hb.1,Nat.lt_of_lt_of_le hb.2 adT.size⟩,adT.block b hb.2⟩
      have amw:=bC (fun c x hx=>bD hk _ c x hx) _ _ qv
      simp only [Rd]
      rcases ho.2 with⟨rfl,h0⟩|⟨g,gT,cur,rfl,hg,hh,hn,hc,cR,Bw⟩
      · have hm0:S.make docs f t= []:=List.length_eq_zero_iff.1 h0
        rw [hm0]
        exact⟨none,0,[],rfl,Nat.le_refl _,Nat.zero_le _,rfl,fun h=>absurd rfl h⟩
      · refine⟨some ⟨g,0,none⟩,gT,xs,rfl,hn,hc,amw,fun _=>⟨g,0,rfl, .inr ⟨by omega,(Array.getElem?_eq_some_iff.1 hh).1⟩,fun j u hj=> ?_⟩⟩
        have :=ho.cells (g:=g) rfl j u hj
        rwa [Addr.add_mid] at this
 · cases hs
end Go.DM

end
section
namespace Go.Proofs
open Go Go.RowKit Go.ChangeShapes Go.Lib
set_option maxRecDepth 100000 in
set_option maxHeartbeats 4000000 in
theorem Tryz.õ(w:World):Calls Tryz.prog 122 #[.int .u64 1, .int .u64 64] w fun e w'=>e= .returned (.tuple #[.int .u64 0, .int .u64 64])∧w'=w:=by
 go_enter Tryz.func122,Tryz.ntmps122
 go_wp2
 go_ret2
 exact⟨by kernel_rfl,rfl⟩
set_option maxRecDepth 100000 in
set_option maxHeartbeats 4000000 in
theorem Tryz.ai2(w:World):Calls Tryz.prog 90 #[.int .u64 1, .int .u64 64] w fun e w'=>e= .returned (.tuple #[.int .u64 0, .int .u64 64])∧w'=w:=by
 go_enter Tryz.func90,Tryz.ntmps90
 go_wp2_with (go_at_call 122;refine(Tryz.õ _).mono ?_;rintro e w1 ⟨rfl,rfl⟩)
 go_ret2
 exact⟨by kernel_rfl,rfl⟩
theorem Lib.ON {P:Program}(w0 wr:World)(h N:Nat)(acc:List UInt8)(k:Nat)(cap:Nat)(t ty e:TypeId)(hu:P.underlying t=some (.slice e))(hs:(P.info? e).map (·.size)=some 1)
  (hb:Buf w0 wr h N acc) (hk:k≤acc.length) (hk0:0<k) (oD:acc.length+k≤N):
  ∃wr',(Builtin.copy_ #[t,t] ty #[tailV h N acc.length, .slice (some ⟨h,0,none⟩) k cap]).run P wr= .ok (.int .i64 (k:Int)) wr'∧Buf w0 wr' h N (acc++acc.take k):=by
 obtain⟨l,hl⟩:∃l,l=acc.take k:=⟨_,rfl⟩
 have JZ:l.length=k:=by rw [hl,List.length_take];omega
 have dH:¬N=acc.length:=by omega
 have hr:=run_copy_cells (P:=P) wr t t ty e h acc.length (N-acc.length) (N-acc.length) ⟨h,0,none⟩ l.length cap (l.map fun x=>Value.int .u8 (x.toNat:Int)) hu hs (by rw [List.length_map];exact(Nat.min_eq_left (by omega)).symm)
  (fun j u hj=>by
    rw [List.getElem?_map] at hj
    obtain⟨x,hx,rfl⟩:=Option.map_eq_some_iff.1 hj
    have sb:=(List.getElem?_eq_some_iff.1 hx).1
    rw [hl,List.getElem?_take_of_lt (by omega)] at hx
    have :=hb.holds j x hx
    have e:(⟨h,0,none⟩:Addr).add j=⟨h,j,none⟩:=by unfold Addr.add;split<;>simp_all
    rw [e];exact this)
  (fun j hj=>by rw [List.length_map] at hj;exact hb.there _ (by omega)) (fun j hj=>by rw [List.length_map] at hj;exact hb.free _ (by omega))
  (fun u zq=>by obtain⟨x,_,rfl⟩:=List.mem_map.1 zq;rfl)
 rw [List.length_map] at hr
 refine⟨_,by unfold tailV;rw [if_neg dH,←JZ];exact hr,?_⟩
 have Ud:=World.cell?_setCells_in h (l.map fun x=>Value.int .u8 (x.toNat:Int)) acc.length wr (fun j hj=>by rw [List.length_map] at hj;exact hb.there _ (by omega))
 have mX:=World.cell?_setCells_out h (l.map fun x=>Value.int .u8 (x.toNat:Int)) acc.length wr
 rw [←hl]
 refine⟨?_,?_,?_,?_,by rw [List.length_append];omega⟩
 · exact below_setCells h (Nat.le_refl _) _ _ hb.below
 · intro j hj
   by_cases h1:acc.length≤j∧j<acc.length+l.length
   · obtain⟨d,rfl⟩:∃d,j=acc.length+d:=⟨j-acc.length,by omega⟩
     rw [Ud d (by rw [List.length_map];omega)]
     rfl
   · rw [mX ⟨h,j,none⟩ (fun _ _=>by rw [List.length_map];show j<_∨_≤j;omega)]
     exact hb.there j hj
 · intro j hj
   rw [World.frozen?_setCells]
   exact hb.free j hj
 · intro j x hx
   by_cases h1:j<acc.length
   · rw [List.getElem?_append_left h1] at hx
     rw [mX ⟨h,j,none⟩ (fun _ _=>Or.inl h1)]
     exact hb.holds j x hx
   · rw [List.getElem?_append_right (by omega)] at hx
     obtain⟨d,rfl⟩:∃d,j=acc.length+d:=⟨j-acc.length,by omega⟩
     rw [Nat.add_sub_cancel_left] at hx
     have hd:d<l.length:=(List.getElem?_eq_some_iff.1 hx).1
     rw [Ud d (by rw [List.length_map];exact hd)]
     simp [List.getElem_map,(List.getElem?_eq_some_iff.1 hx).2]
theorem Tryz.R7:(Tryz.prog.info? 5).map (·.size)=some 1:=by kernel_rfl
theorem Tryz.abM(w:World):(Go.sizeOf 5).run Tryz.prog w= .ok 1 w:=by kernel_rfl
set_option maxRecDepth 100000 in
set_option maxHeartbeats 4000000 in
theorem Tryz.JN(b o c:Nat)(w:World)(j1:w.cell? ⟨b,o,none⟩=some (.int .u8 255)):
  Calls Tryz.prog 56 #[.slice (some ⟨b,o,none⟩) 1 c, .int .i64 64] w fun e w'=>∃v',e= .returned v'∧FreshBytes w.heap.size w' v' (List.replicate 64 255)∧Below w.heap.size w w':=by
 have mixed:Tryz.prog.follows .mixedOrders=true :=by kernel_rfl
 obtain⟨cs,ö,hle,_⟩:=Lib.run_makeNoZero (P:=Tryz.prog) w #[3] 26 5 Tryz.underlying26 64 (by omega)
 have qx:(callFunc 91 #[.int .i64 64]).run Tryz.prog w= .ok (.value (.slice (some ⟨w.heap.size,0,none⟩) 64 cs.size)) ((w.alloc (.cells cs 5)).drewN 2):=by
  rw [run_callFunc_extern Tryz.func91 (by kernel_rfl) (by kernel_rfl) (by kernel_rfl) (e:=Extern.BytealgMakeNoZero.makeNoZero #[3] #[26]) (by kernel_rfl)]
  have :(Extern.BytealgMakeNoZero.makeNoZero #[3] #[26] #[.int .i64 64]).run Tryz.prog w=_:=ö
  rw [this];rfl
 clear ö
 have i1:(64:Int)≤(cs.size:Int):=by omega
 have B0:=Lib.Buf.start w cs 5 64 2 hle
 have hH:HoldsBytes w (.slice (some ⟨b,o,none⟩) 1 c) [255]:=by
  refine⟨some ⟨b,o,none⟩,c,rfl,fun h=>(by cases h),?_⟩
  intro a ha j x hx
  simp only [Option.some.injEq] at ha
  subst ha
  have hj:j=0:=by
   have :=(List.getElem?_eq_some_iff.1 hx).1
   simp at this;omega
  subst hj
  simp only [List.getElem?_cons_zero,Option.some.injEq] at hx
  subst hx
  simpa [Addr.add] using j1
 obtain⟨w1,UB,B1⟩:=Lib.copy_part (P:=Tryz.prog) w _ w.heap.size 64 [] [255] (.slice (some ⟨b,o,none⟩) 1 c) 26 3 5 Tryz.underlying26 Tryz.R7 (Nat.le_refl _) B0 hH (by simp)
 rw [List.length_nil,Lib.tailV_zero] at UB
 rw [List.nil_append] at B1
 go_enter Tryz.func56,Tryz.ntmps56
 go_wp2_with (first
  |(go_at_call 90;refine(Tryz.ai2 _).mono ?_;rintro e w2 ⟨rfl,rfl⟩)
  |(at_builtin;refine Lib.wpList_copy_run _ rfl _ _ 26 26 rfl _ _ rfl rfl UB ?_))
 have HB1:Aside (Lib.Buf w2 w1 w2.heap.size 64 [255]):=B1
 clear B1 B0 UB qx hH
 go_loopw [10,11] (fun s10 _ wr=>∃k:Nat,(k=1∨k=2∨k=4∨k=8∨k=16∨k=32∨k=64)∧s10= .int .i64 k∧Aside (Lib.Buf w2 wr w2.heap.size 64 (List.replicate k 255)))
  (fun s10 _ _=>64-(RowKit.intOf s10).toNat)
 case atStart=>exact⟨1,by omega,rfl,HB1⟩
 case round=>
  obtain⟨k,hk,rfl,HB⟩:=hrel
  by_cases eB:k<64
  · have IF:k+k≤64:=by omega
    have xS:0<k:=by omega
    have Sc:k+k=2∨k+k=4∨k+k=8∨k+k=16∨k+k=32∨k+k=64:=by omega
    clear hk
    have ao3:∀W,(Instr.slice 26 (.slice (some ⟨w2.heap.size,0,none⟩) 64 64) (some (.int .i64 (k:Int))) none none).run Tryz.prog W= .ok (Lib.tailV w2.heap.size 64 k) W:=fun W=>Lib.run_slice_tailV W 26 5 Tryz.underlying26 Tryz.abM _ 64 k (by omega)
    have HBd:Lib.Buf w2 wr.drew w2.heap.size 64 (List.replicate k 255):=⟨⟨HB.below.os,HB.below.tape,HB.below.output,HB.below.size,HB.below.block⟩,HB.there,HB.free,HB.holds,HB.fits⟩
    have XM:(k:Int)≤64:=by omega
    obtain⟨w3,hr3,B3⟩:=Lib.ON (P:=Tryz.prog) w2 wr.drew w2.heap.size 64 (List.replicate k 255) k 64 26 3 5 Tryz.underlying26 Tryz.R7 HBd (by simp) xS (by simp;omega)
    rw [List.length_replicate] at hr3
    have e3:List.replicate k (255:UInt8)++(List.replicate k 255).take k=List.replicate (k+k) 255:=by
     rw [List.take_of_length_le (by simp),List.replicate_append_replicate]
    rw [e3] at B3
    have HB3:Aside (Lib.Buf w2 w3 w2.heap.size 64 (List.replicate (k+k) 255)):=B3
    clear B3 e3
    have OQ:min (k:Int) 64=(k:Int):=by omega
    go_wp2
    go_region_held3 (fun _=>True) (trivial) (first|(refine Lib.wp_copy_run _ (.tmp 70) (.tmp 73) 26 26 rfl _ _ rfl rfl hr3 ?_))
    go_roundw
    case rel=>
     have hw:IntKind.i64.wrap ((k:Int)+(k:Int))=((k+k:Nat):Int):=by rw [IntKind.wrap_i64];omega
     exact⟨_,_,_,_,_,_,_,_,_,_,_,_,_,_,_,_,_,⟨k+k,by omega,by rw [hw],HB3⟩,rfl⟩
    case measure=>
     have hw:IntKind.i64.wrap ((k:Int)+(k:Int))=((k+k:Nat):Int):=by rw [IntKind.wrap_i64];omega
     simp [RowKit.intOf,hw];omega
  · have XM:k=64:=by omega
    subst XM
    go_wp2
    go_ret
    exact⟨_,rfl,HB.fresh (by simp) (by unfold maxLen;omega),HB.below⟩
end Go.Proofs

end
section
namespace Go.Proofs
open Go Go.Vg Go.Lib
theorem abN {w:World} {Q:Nat→Prop} {B:Nat} {v:Value} {l:List UInt8}(h:FreshBytes B w v l)(hl:l≠ [])(hq:∀b,B≤b→b<w.heap.size→Q b):Rd w Q (.slice [.int .u8]) v l:=by
 obtain⟨g,cap,zs,rfl,hB,hle,qW,hz,hr,hb,hc,_⟩:=h
 have hlen:(zs.take l.length).length=l.length:=by rw [List.length_take];omega
 have gq:∀(j:Nat) (x:UInt8),l[j]? =some x→w.cell? ⟨g,j,none⟩=some (.int .u8 (x.toNat:Int)):=by
  intro j x hx
  have hj:=(List.getElem?_eq_some_iff.1 hx).1
  rw [hc j (by omega)]
  have e:(bytesOf (zs.take l.length))[j]? =some x:=by rw [hb];exact hx
  unfold bytesOf at e
  rw [List.getElem?_map,List.getElem?_take_of_lt hj] at e
  obtain⟨y,hy,e2⟩:=Option.map_eq_some_iff.1 e
  have hm:=hr y (List.mem_of_getElem? hy)
  rw [List.getD_eq_getElem?_getD,hy]
  simp only [Option.getD_some]
  congr 2
  rw [←e2]
  simp only [UInt8.toNat_ofNat']
  omega
 simp only [Rd]
 refine⟨some ⟨g,0,none⟩,cap,l.map fun x=>Value.int .u8 (x.toNat:Int),rfl,hle,qW,?_,fun _=>⟨g,0,rfl,?_,fun j u hj=> ?_⟩⟩
 · clear gq hlen hb hle hl
   induction l with
   |nil=>simp [bZ]
   |cons x l ih=>
    simp only [List.map_cons,bZ]
    refine⟨[Value.int .u8 (x.toNat:Int)],l.map fun x=>Value.int .u8 (x.toNat:Int),rfl,?_,ih⟩
    simp only [bh]
    refine⟨_,[],rfl,?_,rfl⟩
    simp only [Rd]
    have :=x.toNat_lt
    refine⟨rfl,?_,?_⟩
    · simp only [lo,DI.toInt];exact Int.natCast_nonneg _
    · simp only [hi,DI.toInt,Row.hd];omega
 · have h0:0<l.length:=List.length_pos_iff.2 hl
   exact hq g hB (World.block_lt_of_cell? w _ (gq 0 _ (List.getElem?_eq_getElem h0)))
 · rw [List.getElem?_map] at hj
   obtain⟨x,hx,rfl⟩:=Option.map_eq_some_iff.1 hj
   rw [Nat.zero_add]
   exact gq j x hx
theorem Tryz.F6 {G:Nat→Option GD} {F:Row (PS.flat [.one (.slice [.int .u8]), .one (.int .i64)])→Prop×AV×List AB}
  (hF:∀(b:List UInt8) (n:Int),F (b,n)=(S.Jk b n, .sl [.int .u8] S.clean,[])):
  Valid Tryz.prog G 56 (aC [.one (.slice [.int .u8]), .one (.int .i64)] F):=by
 intro w A β args cC pre res bs hA hG bA hs hp
 unfold aC at hs
 split at hs
 · rename_i x hx
   obtain⟨b,n⟩:=x
   change List UInt8 at b
   change Int at n
   rw [hF b n] at hs
   simp only [Option.some.injEq,Prod.mk.injEq] at hs
   obtain⟨rfl,rfl,rfl⟩:=hs
   obtain⟨g1,g2⟩:=oX _ hx bA
   clear hx bA g2
   change ae w A β args [.sl [.int .u8] b, .int .i64 n] at g1
   obtain⟨rfl,rfl⟩:=hp
   simp only [ae,aa] at g1
   obtain⟨vb,bI,rfl,hvb,vn,adR,rfl,⟨rfl,_⟩,rfl⟩:=g1
   simp only [Rd] at hvb
   obtain⟨a,cap,cs,rfl,Gi,OA,Br,aE⟩:=hvb
   simp only [bZ,bh] at Br
   obtain⟨c1,c2,rfl,⟨v,bI,rfl,hv,rfl⟩,rfl⟩:=Br
   simp only [Rd] at hv
   obtain⟨bb,o,rfl,vN,R8⟩:=aE (by simp)
   have hc:=R8 0 v rfl
   rw [hv.1,Nat.add_zero] at hc
   refine(Tryz.JN bb o cap w hc).mono fun e w' ⟨v',he,hf,n0⟩=>⟨v',he,fun b=>A b∨(w.heap.size≤b∧b<w'.heap.size),β,
    {os:=n0.os,tape:=n0.tape,output:=n0.output,size:=n0.size,same:=n0.block,mono:=fun _ h=> .inl h,j6:=fun b hb h=> ?_,bound:=fun b h=> ?_,res:= ?_,rows:=fun i ab hi=>by simp at hi,apart:=fun i j b hi=>by simp at hi}⟩
   · rcases h with h|h
     · exact h
     · omega
   · rcases h with h|h
     · exact Nat.lt_of_lt_of_le (hA b h) n0.size
     · exact h.2
   · simp only [aa]
     exact abN (l:=S.clean) hf (by unfold S.clean;simp) fun b h1 h2=> .inr ⟨h1,h2⟩
 · cases hs
end Go.Proofs

end
