import Derived.Test.YtimebdkngdbpkaaGreatDoorPartE
import Derived.Shelf.SlicesG.Clone
import Derived.Shelf.SlSortCmp.NoneTotal
import Derived.Shelf.SortM.Plain
import Derived.Shelf.SortM.SortNone
import Derived.Shelf.SlicesG.ReverseS
import Derived.Shelf.SlIter.Nil
import Derived.Test.YtimebdkngdbpkaaGreatDoorProg
import Derived.Lib.Small
import Derived.Lib.Walk
import Derived.Sort.Walk0
import Derived.Laws.Cover1
import Derived.Maps.GroupsBeside
import Derived.Sort.KeysCollected
import Derived.WalkKit
import Derived.Deep.LoopGhost
set_option linter.unusedVariables false
set_option linter.unusedSimpArgs false
set_option linter.unusedSectionVars false
set_option linter.defProp false
section
namespace Go.J
open Go Vg
def E0:Env:={T:=eA,sig:=λ_=>none,fQ:=G0}
abbrev FR:=Prop×AV×List AB
abbrev LR:=Nat->Option bq
def iN(k:Nat):AV:=.int .i64 (k:Int)
def aCl:aBT->FR:=λ(x,k)=>(S.iS x k,.int .u32 (S.rotl x k:Int),[])
def atX:Env:=cS 317 q0p aCl E0
def aCm:atb->FR:=λ_=>(True,.agg [.int .u32 1779033703,.int .u32 3144134277,.int .u32 1013904242,.int .u32 2773480762,.int .u32 1359893119,.int .u32 2600822924,.int .u32 528734635,.int .u32 1541459225,.nil,.int .i64 0],[])
def atY:Env:=cS 236 q1p aCm atX
def aCn:ain->FR:=λ(s1,s2,s3,s4,s5,s6,s7,s8,s9,cD)=>(True,.bool (S.oV s9 cD),[])
def atZ:Env:=cS 291 q2p aCn atY
def aCo:Ĭ->FR:=λ(u1,u2,u3,u4,u5,u6,u7,u8,p)=>(S.RL (u1,u2,u3,u4,u5,u6,u7,u8) p,.agg (aF [.int .u32,.int .u32,.int .u32,.int .u32,.int .u32,.int .u32,.int .u32,.int .u32] (S.block (u1,u2,u3,u4,u5,u6,u7,u8) p)),[])
def aCp:Ĭ->LR:=λ(u1,u2,u3,u4,u5,u6,u7,u8,p)=>λ
    |0=>some ⟨Nat,[(26,iN)],[(5,λk=>.arr [.int .u32] (S.aI p k))],[],[],[],λk=>S.fe k 16,λk=>S.al 16 k⟩
    |2=>some ⟨Nat,[(7,iN)],[(5,λk=>.arr [.int .u32] (S.aI p k))],[],[],[],λk=>16<=k/\k<=64,λk=>S.al 64 k⟩
    |4=>some ⟨Nat,[(124,iN),(12,λk=>.int .u32 (S.bW (S.sched p 64) (u1,u2,u3,u4,u5,u6,u7,u8) k).1),(13,λk=>.int .u32 (S.bW (S.sched p 64) (u1,u2,u3,u4,u5,u6,u7,u8) k).2.1),(14,λk=>.int .u32 (S.bW (S.sched p 64) (u1,u2,u3,u4,u5,u6,u7,u8) k).2.2.1),(15,λk=>.int .u32 (S.bW (S.sched p 64) (u1,u2,u3,u4,u5,u6,u7,u8) k).2.2.2.1),(16,λk=>.int .u32 (S.bW (S.sched p 64) (u1,u2,u3,u4,u5,u6,u7,u8) k).2.2.2.2.1),(17,λk=>.int .u32 (S.bW (S.sched p 64) (u1,u2,u3,u4,u5,u6,u7,u8) k).2.2.2.2.2.1),(18,λk=>.int .u32 (S.bW (S.sched p 64) (u1,u2,u3,u4,u5,u6,u7,u8) k).2.2.2.2.2.2.1),(19,λk=>.int .u32 (S.bW (S.sched p 64) (u1,u2,u3,u4,u5,u6,u7,u8) k).2.2.2.2.2.2.2)],[],[],[],[],λk=>S.fe k 64,λk=>S.al 64 k⟩
    |_=>none
def at0:Env:=cS 313 q3p aCo atZ
def ax8:Ĭ->FR:=λ(u1,u2,u3,u4,u5,u6,u7,u8,b)=>(S.vZ (u1,u2,u3,u4,u5,u6,u7,u8),.bn [.agg (aF [.int .u32,.int .u32,.int .u32,.int .u32,.int .u32,.int .u32,.int .u32,.int .u32] (((S.aE (u1,u2,u3,u4,u5,u6,u7,u8) b,S.jo b)).1)),.sl [.int .u8] (((S.aE (u1,u2,u3,u4,u5,u6,u7,u8) b,S.jo b)).2)],[])
def ax9:Ĭ->LR:=λ(u1,u2,u3,u4,u5,u6,u7,u8,b)=>λ
    |0=>some ⟨Nat,[(1,λk=>.sl [.int .u8] (S.gg b k))],[(2,λk=>.cells [.int .u32 (S.proc (u1,u2,u3,u4,u5,u6,u7,u8) b k).1,.int .u32 (S.proc (u1,u2,u3,u4,u5,u6,u7,u8) b k).2.1,.int .u32 (S.proc (u1,u2,u3,u4,u5,u6,u7,u8) b k).2.2.1,.int .u32 (S.proc (u1,u2,u3,u4,u5,u6,u7,u8) b k).2.2.2.1,.int .u32 (S.proc (u1,u2,u3,u4,u5,u6,u7,u8) b k).2.2.2.2.1,.int .u32 (S.proc (u1,u2,u3,u4,u5,u6,u7,u8) b k).2.2.2.2.2.1,.int .u32 (S.proc (u1,u2,u3,u4,u5,u6,u7,u8) b k).2.2.2.2.2.2.1,.int .u32 (S.proc (u1,u2,u3,u4,u5,u6,u7,u8) b k).2.2.2.2.2.2.2])],[],[],[],λk=>64*k<=b.length,λk=>S.al (S.blocks b) k⟩
    |_=>none
def ajh:Env:=cS 292 q3p ax8 at0
def aya:aBV->FR:=λ(s1,s2,s3,s4,s5,s6,s7,s8,s9,cD,b)=>(S.RK (s1,s2,s3,s4,s5,s6,s7,s8) s9 cD b,.agg [.int .u32 (S.aE (s1,s2,s3,s4,s5,s6,s7,s8) b).1,.int .u32 (S.aE (s1,s2,s3,s4,s5,s6,s7,s8) b).2.1,.int .u32 (S.aE (s1,s2,s3,s4,s5,s6,s7,s8) b).2.2.1,.int .u32 (S.aE (s1,s2,s3,s4,s5,s6,s7,s8) b).2.2.2.1,.int .u32 (S.aE (s1,s2,s3,s4,s5,s6,s7,s8) b).2.2.2.2.1,.int .u32 (S.aE (s1,s2,s3,s4,s5,s6,s7,s8) b).2.2.2.2.2.1,.int .u32 (S.aE (s1,s2,s3,s4,s5,s6,s7,s8) b).2.2.2.2.2.2.1,.int .u32 (S.aE (s1,s2,s3,s4,s5,s6,s7,s8) b).2.2.2.2.2.2.2,.sl [.int .u8] (S.jo b),.int .i64 (S.B2 b)],[])
def aji:Env:=cS 235 q4p aya ajh
def ayb:ain->FR:=λ(s1,s2,s3,s4,s5,s6,s7,s8,s9,cD)=>(S.Jt (s1,s2,s3,s4,s5,s6,s7,s8) s9 cD,.str (S.dig (S.aE (s1,s2,s3,s4,s5,s6,s7,s8) (S.tail s9 cD))),[])
def ayc:ain->LR:=λ(s1,s2,s3,s4,s5,s6,s7,s8,s9,cD)=>λ
    |0=>some ⟨Nat,[(3,λk=>.own 300)],[(300,λk=>.row 5 [.int .u8] (S.j6 s9 k) false)],[(Vg.Loc.slot 3,300)],[101700,101701,101702,43,104300,102000,17,102001,102002,20,104301,104302,301],[],λk=>S.fb s9 k,λk=>S.al (S.lf (S.len s9)) k⟩
    |2=>some ⟨Nat,[(32,iN),(3,λk=>.own 301)],[(301,λk=>.row 5 [.int .u8] (S.jd s9 cD k) false)],[(Vg.Loc.slot 3,301)],[300,101700,101701,101702,102700,102701,102702,102000,17,102001,102002,20,27],[],λk=>S.fe k 8,λk=>S.al 8 k⟩
    |4=>some ⟨Nat,[(54,iN),(8,λk=>.own 302)],[(302,λk=>.row 5 [.int .u8] (S.vY (S.aE (s1,s2,s3,s4,s5,s6,s7,s8) (S.tail s9 cD)) k) false)],[(Vg.Loc.slot 8,302)],[52],[],λk=>S.fe k 8,λk=>S.al 8 k⟩
    |_=>none
def ajj:Env:=cS 234 q2p ayb aji
def ayd:gS->FR:=λb=>(S.small b,.str (S.sum b),[])
def ajk:Env:=cS 153 fv ayd ajj
def aye:gS->FR:=λb=>(b.length<=140737488355328,.own 0,[.row 5 [.int .u8] (b) false])
def ajl:Env:=cS 268 fv aye ajk
def ayf:atc->aio->bk:=λv (l,())=>⟨S.EW l v,.own 60000,[none],[.row 5 [.int .u8] (l++S.num v) false]⟩
def ayg:atc->aio->LR:=λv (l,())=>λ
    |0=>some ⟨B8×Int,[(1,λk=>.int .i64 k.2),(0,λk=>.own 300)],[(300,λk=>.row 5 [.int .u8] k.1 false)],[(Vg.Loc.slot 0,300)],[50000],[],λk=>S.rP l v k.1 k.2,λk=>k.2.toNat⟩
    |_=>none
def ajm:Env:=cH 289 [true,false] q6p q0q ayf ajl
def ayh:aBY->aio->bk:=λs (l,())=>⟨S.nB l s,.own 60000,[none],[.row 5 [.int .u8] (l++S.text s) false]⟩
def ajn:Env:=cH 267 [true,false] q7p q0q ayh ajm
def ayi:aip->FR:=λ(b,v)=>(b.length<=35184372088832,.bn [.own 0,.int .i64 (((S.lh b v,S.v7 v)).2:Int)],[.row 5 [.int .u8] (((S.lh b v,S.v7 v)).1) false])
def ajo:Env:=cS 225 q8p ayi ajn
def ayj:aB0->FR:=λ(b,s)=>(S.nB b s,.own 0,[.row 5 [.int .u8] (b++S.text s) false])
def ajp:Env:=cS 186 q9p ayj ajo
def ayk:MB->FR:=λ(r1,r2,r3)=>(True,.bool (S.inside r1 r2),[])
def ajq:Env:=cS 166 Cg ayk ajp
def ayl:MB->FR:=λ(r1,r2,r3)=>(r1.length<=140737488355328,.agg (aF [.slice [.int .u8],.int .i64,.int .i64] ((r1,r2,S.bU r1 r2 r3))),[])
def ajr:Env:=cS 246 Cg ayl ajq
def aym:aip->FR:=λ(b,p)=>(S.dy b p,.bn (aF [.int .i64,.int .i64,.int .i64] (S.aD b p)),[])
def ayn:aip->LR:=λ(b,p)=>λ
    |0=>some ⟨Nat,[(7,λk=>.int .i64 (S.fA b p k)),(8,iN)],[],[],[],[],λk=>S.jq b p k,λk=>S.al 9 k⟩
    |_=>none
def ajs:Env:=cS 247 q8p aym ajr
def ayo:avZ->FR:=λ(b,p,dg)=>(S.dy b p,.bn (aF [.str,.int .i64,.int .i64] (S.cM b p dg)),[])
def ajt:Env:=cS 248 atd ayo ajs
def ayp:av0->FR:=λ(r1,r2,r3,dg)=>(r1.length<=140737488355328,.bn [.agg (aF [.slice [.int .u8],.int .i64,.int .i64] ((S.ai r1 r2 r3 dg).1)),.str ((S.ai r1 r2 r3 dg).2)],[])
def aju:Env:=cS 168 ate ayp ajt
def ayq:MB->FR:=λ(r1,r2,r3)=>(r1.length<=140737488355328,.bn [.agg (aF [.slice [.int .u8],.int .i64,.int .i64] ((S.af r1 r2 r3).1)),.int .i64 ((S.af r1 r2 r3).2:Int)],[])
def ajv:Env:=cS 167 Cg ayq aju
def ayr:MB->FR:=λ(r1,r2,r3)=>(r1.length<=140737488355328,.bn [.agg (aF [.slice [.int .u8],.int .i64,.int .i64] ((S.an r1 r2 r3).1)),.str ((S.an r1 r2 r3).2)],[])
def ajw:Env:=cS 169 Cg ayr ajv
def ays:MB->FR:=λ(r1,r2,r3)=>(True,.int .i64 (S.done r1 r2 r3:Int),[])
def ajx:Env:=cS 83 Cg ays ajw
def ayt:aiq->FR:=λ(kind,parts)=>(S.nC parts,.own 0,[.row 5 [.int .u8] (S.fM kind parts) false])
def ayu:aiq->LR:=λ(kind,parts)=>λ
    |0=>some ⟨Nat,[(12,iN),(5,λk=>.own 300)],[(300,λk=>.row 5 [.int .u8] (S.mN kind parts k) false)],[(Vg.Loc.slot 5,300)],[9],[],λk=>S.ud parts k,λk=>S.al (S.len parts) k⟩
    |_=>none
def ajy:Env:=cS 237 atf ayt ajx
def ayv:gS->FR:=λb=>(S.bQ b,.own 0,[.row 5 [.int .u8] (S.nd 0 b) false])
def ajz:Env:=cS 154 fv ayv ajy
def ayw:G7->FR:=λ(l,r)=>(S.bQ (l++r),.own 0,[.row 5 [.int .u8] (S.nd 1 (l++r)) false])
def ajA:Env:=cS 290 yh ayw ajz
def ayx:gS->FR:=λb=>(S.bQ b,.own 0,[.row 5 [.int .u8] (S.nd 2 b) false])
def ajB:Env:=cS 269 fv ayx ajA
def ayy:gS->FR:=λb=>(S.bQ b,.own 0,[.row 5 [.int .u8] (S.nd 3 b) false])
def ajC:Env:=cS 227 fv ayy ajB
def ayz:gS->FR:=λb=>(S.bQ b,.str (S.leaf b),[])
def ajD:Env:=cS 69 fv ayz ajC
def ayA:G7->FR:=λ(l,r)=>(True,.bn (aF [.str,.int .i64] ((S.bc l r,S.qc l r))),[])
def ajE:Env:=cS 233 yh ayA ajD
def ayB:gS->FR:=λb=>(S.bQ b,.str (S.lB 2 b),[])
def ajF:Env:=cS 189 fv ayB ajE
def ayC:gS->FR:=λb=>(S.bQ b,.str (S.lB 3 b),[])
def ajG:Env:=cS 133 fv ayC ajF
def ayD:tp->FR:=λc=>(True,.bool (S.cq c),[])
def ajH:Env:=cS 252 rD ayD ajG
def ayE:tp->FR:=λc=>(True,.int .i64 (S.dY c:Int),[])
def ajI:Env:=cS 253 rD ayE ajH
def ayF:tp->FR:=λc=>(0<=c,.int .u8 ((S.more c).toNat:Int),[])
def ajJ:Env:=cS 254 rD ayF ajI
def ayG:tp->FR:=λc=>(True,.bn [.own 0,.int .i64 (((S.gN c,S.yf c)).2:Int)],[.row 5 [.int .u8] (((S.gN c,S.yf c)).1) false])
def ajK:Env:=cS 181 rD ayG ajJ
def ayH:gS->FR:=λb=>(0<b.length,.bn (aF [.int .i64,.int .i64] (S.aL b)),[])
def ayI:gS->LR:=λb=>λ
    |1=>some ⟨Nat,[(42,iN),(4,λk=>.int .i64 (S.bX b k))],[],[],[],[],λk=>S.pI b k,λk=>S.al 4 k⟩
    |_=>none
def ajL:Env:=cS 251 fv ayH ajK
def ayJ:gS->FR:=λb=>(S.small b,.own 0,[.row 3 [.int .i64] (S.decode b) false])
def ayK:gS->LR:=λb=>λ
    |0=>some ⟨B8×List Int,[(0,λk=>.sl [.int .u8] k.1),(3,λk=>.own 300)],[(300,λk=>.row 3 [.int .i64] k.2 false)],[(Vg.Loc.slot 3,300)],[],[],λk=>S.rQ b k.1 k.2,λk=>S.len k.1⟩
    |_=>none
def ajM:Env:=cS 178 fv ayJ ajL
def ayL:tp->FR:=λc=>(True,.bool (S.letter c),[])
def ayM:tp->LR:=λc=>λ
    |0=>some ⟨Nat,[(6,iN)],[],[],[],[],λk=>S.ot c k,λk=>S.al 9 k⟩
    |_=>none
def ajN:Env:=cS 179 rD ayL ajM
def ayN:tp->FR:=λc=>(True,.bool (S.digit c),[])
def ajO:Env:=cS 180 rD ayN ajN
def ayO:tp->FR:=λc=>(True,.int .i64 (S.bJ c:Int),[])
def ayP:tp->LR:=λc=>λ
    |0=>some ⟨Nat,[(6,iN)],[],[],[],[],λk=>S.oX c k,λk=>S.al 7 k⟩
    |_=>none
def ajP:Env:=cS 297 rD ayO ajO
def aNG:Am->FR:=λ(c,a,b)=>(True,.bool (S.fW c a b),[])
def aKv:Env:=cS 214 FB aNG ajP
def aNH:tp->FR:=λc=>(True,.bool (S.Jv c),[])
def aKw:Env:=cS 210 rD aNH aKv
def aNI:tp->FR:=λc=>(0<=c/\c<=1114111,.own 0,[.row 5 [.int .u8] (S.enc c) false])
def aKx:Env:=cS 211 rD aNI aKw
def aNJ:Yq->FR:=λ(a,b)=>(True,.int .i64 (S.aBO a b:Int),[])
def aKy:Env:=cS 212 P9 aNJ aKx
def aNK:tp->FR:=λc=>(True,.bool (S.letter c),[])
def aKz:Env:=cS 213 rD aNK aKy
def aNL:tp->FR:=λc=>(True,.int .i64 (S.bJ c:Int),[])
def aKA:Env:=cS 121 rD aNL aKz
def aNM:aip->FR:=λ(b,n)=>(S.aD5 b n,.int .i64 (S.dZ b n:Int),[])
def aNN:aip->LR:=λ(b,n)=>λ
    |0=>some ⟨Nat,[(7,iN),(6,λk=>.int .i64 (S.asR b n (k-1)))],[],[],[],[],λk=>S.aCW b n k,λk=>S.al n.toNat k⟩
    |_=>none
def aKB:Env:=cS 209 q8p aNM aKA
def aNO:gS->FR:=λb=>(S.small b,.own 0,[.row 3 [.int .i64] (S.decode b) false])
def aNP:gS->LR:=λb=>λ
    |0=>some ⟨Nat×List Int,[(4,λk=>.int .i64 ((k.1:Nat):Int)),(3,λk=>.own 300)],[(300,λk=>.row 3 [.int .i64] k.2 false)],[(Vg.Loc.slot 3,300)],[],[],λk=>S.rQ b (b.drop k.1) k.2/\k.1<=b.length,λk=>S.al (S.len b) k.1⟩
    |2=>some ⟨Nat×Nat,[(7,λk=>.int .i64 ((k.1+1:Nat):Int)),(5,λk=>.int .i64 (S.uY (b.drop k.2) k.1).1),(6,λk=>.int .i64 (S.uY (b.drop k.2) k.1).2)],[],[],[],[(4,λk=>.int .i64 ((k.2:Nat):Int))],λk=>k.1<=4,λk=>S.al 4 k.1⟩
    |_=>none
def aKC:Env:=cS 119 fv aNO aKB
def ayQ:av1->FR:=λu=>(S.okC u,.str (S.iT u),[])
def ayR:av1->LR:=λu=>λ
    |0=>some ⟨Nat×B8,[(10,λk=>.int .i64 ((k.1:Nat):Int)),(3,λk=>.own 300)],[(300,λk=>.row 5 [.int .u8] k.2 false)],[(Vg.Loc.slot 3,300)],[],[],λk=>S.oY u k.1 k.2,λk=>S.al (S.len u) k.1⟩
    |_=>none
def ajQ:Env:=cS 256 atg ayQ aKC
def ayS:gS->FR:=λb=>(S.small b,.own 0,[.row 9 [.str] (S.bK b) false])
def ayT:gS->LR:=λb=>λ
    |0=>some ⟨Nat×List B8×List Int,[(10,λk=>.int .i64 ((k.1:Nat):Int)),(3,λk=>.own 300),(4,λk=>.own 301)],[(300,λk=>.row 9 [.str] k.2.1 false),(301,λk=>.row 3 [.int .i64] k.2.2 false)],[(Vg.Loc.slot 3,300),(Vg.Loc.slot 4,301)],[104000,104001,104002,40],[],λk=>S.jL (S.decode b) k.1 k.2.1 k.2.2,λk=>S.al (S.len (S.decode b)) k.1⟩
    |_=>none
def ajR:Env:=cS 183 fv ayS ajQ
def ayU:air->FR:=λs=>(S.small s,.bool (S.isTerm s),[])
def ajS:Env:=cS 96 ath ayU ajR
def aNQ:tp->FR:=λc=>(True,.bool (S.kM c),[])
def aKD:Env:=cS 120 rD aNQ ajS
def aNR:air->FR:=λs=>(S.small s,.bool (S.XA s),[])
def aNS:air->LR:=λs=>λ
    |0=>some ⟨Nat,[(4,iN)],[],[],[],[],λk=>S.aCY (S.decode s) k,λk=>S.al (S.len (S.decode s)) k⟩
    |_=>none
def aKE:Env:=cS 50 ath aNR aKD
def ayV:air->FR:=λs=>(True,.bool false,[])
def ajT:Env:=cS 270 ath ayV aKE
def ayW:G7->FR:=λ(a,b)=>(True,.int .i64 (S.iF a b:Int),[])
def ajU:Env:=cS 282 yh ayW ajT
def ayX:G8->aB2->bk:=λ(a,b) ((),())=>⟨True,.bool (decide (a=b)),[some (.cells [.fn (.func 282) [] []])],[]⟩
def ajV:Env:=cH 309 [false,false,true] MC q1q ayX ajU
def ayY:av3->ati->bk:=λ_ (l,((),()))=>⟨S.small l,.own 60000,[none,some (.cells [.fn (.func 282) [] []])],[.row 9 [.str] (S.bR l) false]⟩
def ayZ:av3->ati->LR:=λ_ (l,((),()))=>λ
    |0=>some ⟨Nat,[(5,iN)],[(50001,λk=>.cells [.fn (.func 282) [] []])],[],[],[],λk=>S.mR l k,λk=>S.al (S.len l) k⟩
    |2=>some ⟨Nat×Nat×List B8×Nat,[(5,λk=>.int .i64 ((k.1:Nat):Int)),(7,λk=>.int .i64 ((k.2.1:Nat):Int))],[(50000,λk=>.row 9 [.str] k.2.2.1 false),(50001,λk=>.cells [.fn (.func 282) [] []])],[],[],[(30,λk=>.int .i64 ((k.2.2.2:Nat):Int))],λk=>S.iG l k.2.2.2 k.1 k.2.1 k.2.2.1,λk=>S.al (S.len l) k.2.1⟩
    |_=>none
def ajW:Env:=cH 308 [true,true] aB4 q2q ayY ajV
def ay0:av4->FR:=λl=>(S.small l,.own 0,[.row 9 [.str] (l) false])
def ajX:Env:=cS 306 atj ay0 ajW
def ay1:av1->FR:=λl=>(S.small l,.own 0,[.row 3 [.int .i64] (l) false])
def ajY:Env:=cS 105 atg ay1 ajX
def ay2:MD->Qa->bk:=λ_ (l,())=>⟨S.small l,.bn [],[some (.row 9 [.str] (S.eD l) false)],[]⟩
def ajZ:Env:=cH 307 [true,true] Qb Yr ay2 ajY
def ay3:ais->wB->bk:=λl ()=>⟨S.small l,.own 60000,[],[.row 9 [.str] (S.bR (S.eD l)) false]⟩
def aj0:Env:=cH 281 [false,true] atk ql ay3 ajZ
def aj1:gS->FR:=λb=>(S.small b,.own 0,[.row 9 [.str] (S.sorted (S.bK b)) false])
def aj2:Env:=cS 216 fv aj1 aj0
def ay4:av4->FR:=λl=>(True,.bool (S.cY l),[])
def ay5:av4->LR:=λl=>λ
    |0=>some ⟨Nat,[(7,iN)],[],[],[],[],λk=>S.iH l k,λk=>S.al (S.len l) k⟩
    |_=>none
def aj3:Env:=cS 151 atj ay4 aj2
def ay6:G7->FR:=λ(a,b)=>(True,.str (S.bc a b),[])
def aj4:Env:=cS 152 yh ay6 aj3
def ay7:ait->Qa->bk:=λ_ (s,())=>⟨S.we s,.own 60000,[none],[.row 9 [.str] (S.comb s) false]⟩
def aj5:Env:=cH 250 [true] atl Yr ay7 aj4
def ay8:av5->FR:=λl=>(S.kQ l,.own 0,[.row 9 [.str] (S.leaves l) false])
def ay9:av5->LR:=λl=>λ
    |0=>some ⟨Nat,[(8,iN),(3,λk=>.own 300)],[(300,λk=>.row 9 [.str] (S.iu l k) false)],[(Vg.Loc.slot 3,300)],[],[],λk=>S.ud l k,λk=>S.al (S.len l) k⟩
    |_=>none
def aj6:Env:=cS 89 atm ay8 aj5
def aza:av4->FR:=λl=>(S.j9 l,.str (S.root l),[])
def azb:av4->LR:=λl=>λ
    |0=>some ⟨Nat×List B8,[(12,λk=>.int .i64 ((k.1:Nat):Int)),(3,λk=>.own 300)],[(300,λk=>.row 9 [.str] k.2 false)],[(Vg.Loc.slot 3,300)],[302,35,103500,103501,103502,304],[],λk=>S.o0 l k.1 k.2,λk=>S.al (S.len l) k.1⟩
    |2=>some ⟨Nat×Nat×List B8×Nat,[(5,λk=>.int .i64 ((k.2.1:Nat):Int)),(3,λk=>.own 302)],[(302,λk=>.row 9 [.str] k.2.2.1 false)],[(Vg.Loc.slot 3,302)],[35,103500,103501,103502,102100,102101,21,102102,300,304],[(4,λk=>.int .i64 ((k.2.2.2:Nat):Int))],λk=>S.nN l k.2.2.2 k.1 k.2.1 k.2.2.1,λk=>k.2.1⟩
    |4=>some ⟨List B8,[(3,λk=>.own 304)],[(304,λk=>.row 9 [.str] k false)],[(Vg.Loc.slot 3,304)],[102100,102101,21,102102,102901,102900,102902,29,300,302],[],λk=>S.o8 l k,λk=>S.len k⟩
    |_=>none
def aj7:Env:=cS 173 atj aza aj6
def azc:av4->FR:=λl=>(S.small l,.bn (aF [.str,.int .i64] ((S.sU l,S.ae2 l))),[])
def aj8:Env:=cS 130 atj azc aj7
def azd:tp->FR:=λn=>(True,.int .i64 (S.split n:Int),[])
def aze:tp->LR:=λn=>λ
    |0=>some ⟨Nat×Int,[(3,λk=>.int .i64 k.2)],[],[],[],[],λk=>S.mS n k.2 k.1,λk=>(n-k.2).toNat⟩
    |_=>none
def aj9:Env:=cS 172 rD azd aj8
def azf:ait->Qa->bk:=λ_ (l,())=>⟨S.small l,.bn [],[some (.row 9 [.str] (S.L6 l) false)],[]⟩
def aka:Env:=cH 174 [true] atl Yr azf aj9
def azg:aix->FR:=λ(l,i)=>(S.dz l,.bn (aF [.slice [.str],.int .i64] ((S.qh l i,S.Ad l i))),[])
def azh:aix->LR:=λ(l,i)=>λ
    |0=>some ⟨List B8×Int×List B8,[(0,λk=>.sl [.str] k.1),(1,λk=>.int .i64 k.2.1),(6,λk=>.own 300)],[(300,λk=>.row 9 [.str] k.2.2 false)],[(Vg.Loc.slot 6,300)],[],[],λk=>S.fp l i k,λk=>S.len k.1⟩
    |_=>none
def akb:Env:=cS 91 aiw azg aka
def azi:av1->FR:=λl=>(True,.bool (S.bF l),[])
def azj:av1->LR:=λl=>λ
    |0=>some ⟨Nat,[(8,iN),(3,λk=>.int .i64 (S.fo l k))],[],[],[],[],λk=>S.lj l k,λk=>S.al (S.len l) k⟩
    |_=>none
def akc:Env:=cS 102 atg azi akb
def azk:av1->FR:=λl=>(True,.bn [.own 0,.int .i64 (((S.pa l,S.aIr l)).2:Int)],[.row 5 [.int .u8] (((S.pa l,S.aIr l)).1) false])
def azl:av1->LR:=λl=>λ
    |0=>some ⟨Nat,[(22,iN),(6,λk=>.int .i64 (S.fo l k)),(4,λk=>.own 300)],[(300,λk=>.row 5 [.int .u8] (S.gY l k) false)],[(Vg.Loc.slot 4,300)],[101700,101701,101702,17],[],λk=>k<=l.length,λk=>S.al (S.len l) k⟩
    |_=>none
def akd:Env:=cS 137 atg azk akc
def azm:av1->FR:=λl=>(True,.bn (aF [.str,.int .i64] ((S.u9 l,S.aIr l))),[])
def ake:Env:=cS 229 atg azm akd
def azn:av6->aiv->bk:=λ(n,p,q) ((s1,s2),())=>⟨True,.bool (S.vc n s1 s2),[some (.cells [.int .i64 s1,.int .i64 s2])],[]⟩
def akf:Env:=cH 311 [false,false,false,true] atn q5q azn ake
def azo:Dn->aiv->bk:=λ(a,b) ((s1,s2),())=>⟨b.length=0,.own 60000,[some (.cells [.int .i64 s1,.int .i64 s2])],[.row 3 [.int .i64] (S.LJ a s1 s2) false]⟩
def azp:Dn->aiv->LR:=λ(a,b) ((s1,s2),())=>λ
    |0=>some ⟨List Int×List Int,[(0,λk=>.sl [.int .i64] k.1),(1,λk=>.sl [.int .i64] S.qC),(7,λk=>.own 300)],[(300,λk=>.row 3 [.int .i64] k.2 false),(50000,λk=>.cells [.int .i64 s1,.int .i64 s2])],[(Vg.Loc.slot 7,300)],[],[],λk=>S.mi a s1 s2 k.1 k.2,λk=>S.len k.1⟩
    |_=>none
def akg:cX:=bH Ch q5q azo
def YG:cX:=akg
def akh:Env:=Env.bE 196 [false,false,true] YG akf
def azq:G9->FR:=λ(l,s1,s2)=>(True,.own 0,[.row 3 [.int .i64] (S.LJ l s1 s2) false])
def aki:Env:=cS 286 IK azq akh
def azr:av7->FR:=λ(a,b)=>(True,.bool (S.q9 a b),[])
def azs:av7->LR:=λ(a,b)=>λ
    |0=>some ⟨Nat,[(5,iN)],[],[],[],[],λk=>S.ui a b k,λk=>S.al (S.len a) k⟩
    |_=>none
def akj:Env:=cS 16 ato azr aki
def azt:Sz->FR:=λd=>(S.bh d,.bool (S.aY d),[])
def azu:Sz->LR:=λd=>λ
    |0=>some ⟨Nat,[(7,iN)],[],[],[],[],λk=>S.Ip d k,λk=>S.al (S.len d) k⟩
    |_=>none
def akk:Env:=cS 228 Qc azt akj
def api:aiz->FR:=λ(l1,l2,l3)=>(True,.bn (aF [.slice [.int .u8],.int .i64] ((S.ke l1 l2 l3,S.rb l1 l2 l3))),[])
def ļ:Env:=cS 100 aiy api akk
def apj:gS->FR:=λb=>(b.length<=140737488355328,.bn [.agg (aF [.str,.str,.str] ((S.bf b).1)),.int .i64 ((S.bf b).2:Int)],[])
def Ľ:Env:=cS 136 fv apj ļ
def apk:Sz->FR:=λd=>(S.bh d,.bn [.own 0,.int .i64 (((S.bP d,S.dE d)).2:Int)],[.row 23 [.slice [.int .u8]] (((S.bP d,S.dE d)).1) false])
def apl:Sz->LR:=λd=>λ
    |0=>some ⟨Nat,[(16,iN),(4,λk=>.own 300)],[(300,λk=>.row 23 [.slice [.int .u8]] (S.gO d k) false)],[(Vg.Loc.slot 4,300)],[],[],λk=>k<=d.length+1,λk=>S.al (S.len d+1) k⟩
    |_=>none
def ľ:Env:=cS 134 Qc apk Ľ
def apm:Sz->FR:=λd=>(S.bh d,.bn (aF [.str,.int .i64] ((S.zQ d,S.dE d))),[])
def Ŀ:Env:=cS 287 Qc apm ľ
def apn:av8->FR:=λ(d,t)=>(S.bh d,.bn (aF [.int .i64,.bool] ((S.bp d t,S.jN d t))),[])
def apo:av8->LR:=λ(d,t)=>λ
    |0=>some ⟨Nat,[(14,iN),(6,λk=>.int .i64 (S.dF d t k))],[],[],[],[],λk=>k<=d.length,λk=>S.al (S.len d) k⟩
    |_=>none
def ŀ:Env:=cS 135 atp apn Ŀ
def apq:av8->FR:=λ(d,t)=>(S.bh d,.sl [.int .i64] (S.pc d t),[])
def Ł:Env:=cS 138 atp apq ŀ
def apr:Ys->FR:=λ(docs,s1,s2)=>(True,.bn (aF [.slice [.str,.slice [.int .i64]],.int .i64] (S.kg docs s1 s2)),[])
def ł:Env:=cS 123 ĭ apr Ł
def aLP:av9->FR:=λ(a,b)=>(True,.bool (S.aCF a b),[])
def aLQ:av9->LR:=λ(a,b)=>λ
    |0=>some ⟨Nat,[(5,iN)],[],[],[],[],λk=>S.aCZ a b k,λk=>S.al (S.len a) k⟩
    |_=>none
def aH7:Env:=cS 24 atq aLP ł
def aps:aiA->FR:=λ(s1,s2)=>(True,.bool (S.kT s1 s2),[])
def Ń:Env:=cS 285 atr aps aH7
def apt:awa->FR:=λ(s1,s2,s3)=>(S.bh s3,.bool (S.ec s1 s2 s3),[])
def apu:awa->LR:=λ(s1,s2,s3)=>λ
    |0=>some ⟨Nat,[(18,iN)],[],[],[],[],λk=>S.uk s1 s2 s3 k,λk=>S.al (S.len s3) k⟩
    |_=>none
def ń:Env:=cS 219 ats apt Ń
def apv:awa->FR:=λ(s1,s2,s3)=>(S.bh s3,.bn [.agg (aF [.int .i64,.int .i64,.int .i64,.str] ((S.rf s1 s2 s3).1)),.int .i64 ((S.rf s1 s2 s3).2:Int)],[])
def Ņ:Env:=cS 222 ats apv ń
def apw:aiB->FR:=λ(s1,s2,s3,s4)=>(True,.bool (S.ng s1 s2 s3 s4),[])
def ņ:Env:=cS 312 aB5 apw Ņ
def apx:Ys->FR:=λ(docs,s1,s2)=>(True,.bn [.agg (aF [.int .i64,.int .i64,.slice [.str,.slice [.int .i64]]] ((S.b8 docs s1 s2).1)),.int .i64 ((S.b8 docs s1 s2).2:Int)],[])
def Ň:Env:=cS 53 ĭ apx ņ
def apy:awb->FR:=λ(l,n)=>(True,.bool (S.pK l n),[])
def apz:awb->LR:=λ(l,n)=>λ
    |0=>some ⟨Nat,[(14,iN),(5,λk=>.int .i64 (S.rowAt l k:Int))],[],[],[],[],λk=>S.vW l k,λk=>S.al (S.len l) k⟩
    |_=>none
def ň:Env:=cS 288 att apy Ň
def aLR:rj->FR:=λl=>(S.aC0 l,.sl [.str,.slice [.int .i64]] (S.R5 l),[])
def aLS:rj->LR:=λl=>λ
    |0=>some ⟨Nat,[(3,λk=>.own 300)],[(300,λk=>.row 228 [.str,.slice [.int .i64]] (S.aca l k) false),(13,λk=>.row 3 [.int .i64] (S.Pg l k) false)],[(Vg.Loc.slot 3,300)],[302],[],λk=>k<=S.uL l,λk=>S.al (S.uL l) k⟩
    |2=>some ⟨Nat×Nat,[(16,λk=>.int .i64 ((k.1:Nat):Int)),(5,λk=>.int .i64 (S.axt l (S.Pg l k.2) k.1))],[],[],[],[(4,λk=>.sl [.int .i64] (S.Pg l k.2))],λk=>k.1<=l.length/\k.2<=S.uL l,λk=>S.al (S.len l) k.1⟩
    |4=>some ⟨Nat×Nat,[(74,λk=>.int .i64 ((k.1:Nat):Int))],[(13,λk=>.row 3 [.int .i64] (S.abJ l k.2 k.1) false),(8,λk=>.cells [.str (S.uAt l k.2),.own 302]),(302,λk=>.row 3 [.int .i64] (S.afs l (S.uAt l k.2) k.1) false)],[(Vg.Loc.cell 8 1,302)],[],[(3,λk=>.sl [.str,.slice [.int .i64]] (S.aca l k.2))],λk=>k.1<=l.length/\k.2<S.uL l,λk=>S.al (S.len l) k.1⟩
    |_=>none
def aH8:Env:=cS 220 pO aLR ň
def aLT:rj->FR:=λl=>(S.agM l,.bn [.agg (aF [.int .i64,.int .i64,.slice [.str,.slice [.int .i64]]] ((S.ø l).1)),.int .i64 ((S.ø l).2:Int)],[])
def aLU:rj->LR:=λl=>λ
    |0=>some ⟨Nat,[(14,iN)],[],[],[],[],λk=>S.aDb l k,λk=>S.al (S.len l) k⟩
    |2=>some ⟨Nat,[(6,λk=>.int .i64 ((k:Int)+1))],[],[],[],[],λk=>S.aDm l k,λk=>S.al (S.len l) k⟩
    |_=>none
def aH9:Env:=cS 125 pO aLT aH8
def aLV:aiA->FR:=λ(s1,s2)=>(True,.int .i64 (S.avj s1 s2:Int),[])
def aLW:aiA->LR:=λ(s1,s2)=>λ
    |0=>some ⟨Nat,[(4,iN),(3,λn=>.int .i64 (S.lg (s2-s1)-S.lg n))],[],[],[],[],λn=>S.aB3 s1 s2 n,λn=>n⟩
    |_=>none
def aIa:Env:=cS 221 atr aLV aH9
def aLX:awc->FR:=λl=>(True,.bn (aF [.int .i64,.bool] (S.xD l)),[])
def aLY:awc->LR:=λl=>λ
    |0=>some ⟨Nat,[(4,λk=>.int .i64 (((S.len l:Nat):Int)-2-(k:Int)))],[],[],[],[],λk=>S.aBJ l k,λk=>S.al (S.len l) k⟩
    |_=>none
def aIb:Env:=cS 127 atu aLX aIa
def aLZ:rj->FR:=λl=>(S.small l,.sl [.int .i64,.int .i64] (S.eY l),[])
def aL0:rj->LR:=λl=>λ
    |0=>some ⟨Nat,[(8,iN),(3,λk=>.own 300)],[(300,λk=>.row 98 [.int .i64,.int .i64] (S.aAs l k) false)],[(Vg.Loc.slot 3,300)],[],[],λk=>k<=l.length,λk=>S.al (S.len l) k⟩
    |_=>none
def aIc:Env:=cS 128 pO aLZ aIb
def apA:gS->FR:=λl=>(S.small l,.own 0,[.row 5 [.int .u8] (l) false])
def ŉ:Env:=cS 55 fv apA aIc
def apB:Sz->FR:=λl=>(S.small l,.own 0,[.row 228 [.str,.slice [.int .i64]] (l) false])
def Ŋ:Env:=cS 124 Qc apB ŉ
def apC:av7->FR:=λ(a,b)=>(True,.bool (S.GO a b),[])
def apD:av7->LR:=λ(a,b)=>λ
    |0=>some ⟨Nat,[(13,iN)],[],[],[],[],λk=>S.Fk a b k,λk=>S.al (S.len a) k⟩
    |_=>none
def ŋ:Env:=cS 280 ato apC Ŋ
def apE:SA->FR:=λ(a1,a2,b1,b2)=>(True,.bool (S.Ab a1 a2 b1 b2),[])
def Ō:Env:=cS 279 Qd apE ŋ
def apF:aiC->wB->bk:=λ(a,b) ()=>⟨True,.bool (S.re a b),[],[]⟩
def apG:aiC->wB->LR:=λ(a,b) ()=>λ
    |0=>some ⟨Nat,[(17,iN)],[],[],[],[],λk=>S.E9 a b k,λk=>S.al (S.len a) k⟩
    |_=>none
def ō:Env:=cH 278 [false,false,true] Qe ql apF Ō
def apH:awf->FR:=λ(a,b)=>(True,.bool (S.re a b),[])
def Ŏ:Env:=cS 215 atv apH ō
def apI:rk->FR:=λ(y1,y2)=>(True,.bool (S.bD y1 y2),[])
def apJ:rk->LR:=λ(y1,y2)=>λ
    |0=>some ⟨Nat,[(23,iN)],[],[],[],[],λk=>S.L0 y1 y2 k,λk=>S.al (S.len y1) k⟩
    |2=>some ⟨Nat,[(34,iN),(5,λk=>.int .i64 (S.gi y2 k))],[],[],[],[],λk=>S.z8 y1 y2 k,λk=>S.al (S.len y2) k⟩
    |_=>none
def ŏ:Env:=cS 122 lr apI Ŏ
def apK:rk->FR:=λ(y1,y2)=>(True,.agg (aF [.slice [.slice [.int .u8]],.slice [.int .i64,.int .i64,.slice [.str,.slice [.int .i64]]]] (S.ak y1 y2)),[])
def Ő:Env:=cS 51 lr apK ŏ
def apL:rk->FR:=λ(y1,y2)=>(True,.int .i64 (S.cz y2:Int),[])
def ő:Env:=cS 52 lr apL Ő
def apM:rk->FR:=λ(y1,y2)=>(S.uu y1 y2,.agg [.own 0,.own 1],[.row 23 [.slice [.int .u8]] y1 false,.row 128 [.int .i64,.int .i64,.slice [.str,.slice [.int .i64]]] y2 false])
def apN:rk->LR:=λ(y1,y2)=>λ
    |0=>some ⟨Nat,[(22,iN)],[(13,λk=>.row 23 [.slice [.int .u8]] (S.dG [] y1 k) false)],[],[],[],λk=>S.gP y1 k,λk=>S.al (S.len y1) k⟩
    |2=>some ⟨Nat,[(37,iN)],[(17,λk=>.row 128 [.int .i64,.int .i64,.slice [.str,.slice [.int .i64]]] (S.dG (0,0,[]) y2 k) false)],[],[],[],λk=>S.gP y2 k,λk=>S.al (S.len y2) k⟩
    |4=>some ⟨Nat×Nat×List S.aT,[(55,λk=>.int .i64 ((k.1:Nat):Int))],[(17,λk=>.gG 128 (some 104900) [.int .i64,.int .i64,.slice [.str,.slice [.int .i64]]] k.2.2 k.2.1),(104900,λk=>.row 228 [.str,.slice [.int .i64]] (S.aV y2 k.2.1).2.2 false)],[],[],[(6,λk=>.int .i64 ((k.2.1:Nat):Int))],λk=>S.uv y2 k.2.2 k.2.1 k.1,λk=>S.al (S.rB y2 k.2.1) k.1⟩
    |_=>none
def Œ:Env:=cS 54 lr apM ő
def aL1:awg->FR:=λ(l,i,m,s1,s2,s3)=>(S.aDA l i m,.own 0,[.row 128 [.int .i64,.int .i64,.slice [.str,.slice [.int .i64]]] (S.LV l i.toNat m.toNat (s1,s2,s3)) false])
def aId:Env:=cS 126 atw aL1 Œ
def apO:rk->FR:=λ(y1,y2)=>(True,.int .i64 (S.kW y1 y2:Int),[])
def œ:Env:=cS 129 lr apO aId
def apP:Ha->FR:=λ(y1,y2,d)=>(True,.bn [.agg (aF [.slice [.slice [.int .u8]],.slice [.int .i64,.int .i64,.slice [.str,.slice [.int .i64]]]] ((S.cA y1 y2 d).1)),.int .i64 ((S.cA y1 y2 d).2:Int)],[])
def Ŕ:Env:=cS 20 Qf apP œ
def apQ:rk->FR:=λ(y1,y2)=>(True,.bn [.agg (aF [.slice [.slice [.int .u8]],.slice [.int .i64,.int .i64,.slice [.str,.slice [.int .i64]]]] ((S.bV y1 y2).1)),.int .i64 ((S.bV y1 y2).2:Int)],[])
def ŕ:Env:=cS 19 lr apQ Ŕ
def aL2:awi->FR:=λ(y1,y2,i,m)=>(True,.bn [.agg (aF [.slice [.slice [.int .u8]],.slice [.int .i64,.int .i64,.slice [.str,.slice [.int .i64]]]] ((S.Bd y1 y2 i m).1)),.int .i64 ((S.Bd y1 y2 i m).2:Int)],[])
def aIe:Env:=cS 56 atx aL2 ŕ
def aL3:rk->FR:=λ(y1,y2)=>(True,.agg (aF [.slice [.slice [.int .u8]],.slice [.int .i64,.int .i64,.slice [.str,.slice [.int .i64]]]] (S.wu y1 y2)),[])
def aL4:rk->LR:=λ(y1,y2)=>λ
    |0=>some ⟨List (Int×Int),[],[(3,λL=>.cells [.own 101100,.own 300]),(300,λL=>.row 128 [.int .i64,.int .i64,.slice [.str,.slice [.int .i64]]] (S.bC (S.ak y1 y2).1 L) false)],[(Vg.Loc.cell 3 1,300)],[101101],[],λL=>S.aCX y1 y2 L,λL=>L.length⟩
    |_=>none
def aIf:Env:=cS 57 lr aL3 aIe
def apR:rk->FR:=λ(y1,y2)=>(True,.sl [.int .i64,.int .i64,.int .i64,.str] (S.cL y1 y2),[])
def apS:rk->LR:=λ(y1,y2)=>λ
    |0=>some ⟨Nat,[(17,iN),(3,λk=>.own 300)],[(300,λk=>.row 100 [.int .i64,.int .i64,.int .i64,.str] (S.kh y1 y2 k) false)],[(Vg.Loc.slot 3,300)],[13],[],λk=>k<=S.gL y1 y2,λk=>S.al (S.gL y1 y2) k⟩
    |_=>none
def Ŗ:Env:=cS 131 lr apR aIf
def aL5:Ao->FR:=λ(y1,y2,a1,a2,a3,a4)=>(True,.bn [.agg (aF [.slice [.slice [.int .u8]],.slice [.int .i64,.int .i64,.slice [.str,.slice [.int .i64]]]] ((S.oa y1 y2 a1 a2 a3 a4).1)),.int .i64 ((S.oa y1 y2 a1 a2 a3 a4).2:Int)],[])
def aIg:Env:=cS 21 yi aL5 Ŗ
def aL6:awl->FR:=λl=>(True,.agg (aF [.slice [.slice [.int .u8]],.slice [.int .i64,.int .i64,.slice [.str,.slice [.int .i64]]]] (S.eG l)),[])
def aL7:awl->LR:=λl=>λ
    |0=>some ⟨Nat,[(4,iN)],[(3,λk=>.cells [.sl [.slice [.int .u8]] (S.mU ([],[]) l k).1,.sl [.int .i64,.int .i64,.slice [.str,.slice [.int .i64]]] (S.mU ([],[]) l k).2])],[],[],[],λk=>S.aEC l k,λk=>S.al (S.len l) k⟩
    |_=>none
def aIh:Env:=cS 18 atA aL6 aIg
def apT:awm->FR:=λ(y1,y2,y3)=>(True,.bool (S.dO y1 y2 y3),[])
def ŗ:Env:=cS 223 atB apT aIh
def apU:rk->FR:=λ(y1,y2)=>(True,.bn [.agg (aF [.int .i64,.str,.slice [.int .i64,.int .i64,.int .i64,.str]] ((S.iK y1 y2).1)),.int .i64 ((S.iK y1 y2).2:Int)],[])
def Ř:Env:=cS 58 lr apU ŗ
def apV:aiD->aB6->bk:=λv (q,((),()))=>⟨S.fD v=false/\q=0,.bn [],[some (.cells [.int .i64 0]),some (.cells [.own 60000])],[.row 5 [.int .u8] (S.num v) false]⟩
def ř:cX:=bH atC q6q apV
def SN:cX:=ř
def Ś:Env:=Env.bE 224 [false,true,true] SN Ř
def apW:aiD->aB7->bk:=λv (q,((),(l,())))=>⟨S.fD v=false/\q=0/\l.length<=35184372088832,.bn [],[some (.cells [.int .i64 0]),some (.cells [.own 60000]),none],[.row 5 [.int .u8] (l++S.num v) false]⟩
def ś:cX:=bH atC q7q apW
def Ŝ:cX:=mL ś SN
def ŝ:Env:=Env.bE 224 [false,true,true] Ŝ Ś
def apX:awn->aB9->bk:=λd ((),(l,()))=>⟨l.length<=35184372088832/\d.length<=35184372088832,.bn [],[some (.cells [.own 60000]),none],[.row 5 [.int .u8] (l++d) false]⟩
def Ş:Env:=cH 226 [false,true] atD q8q apX ŝ
def apY:awm->FR:=λ(y1,y2,y3)=>(True,.bn [.own 0,.int .i64 ((S.hW y1 y2 y3).2:Int)],[.row 5 [.int .u8] ((S.hW y1 y2 y3).1) false])
def apZ:awm->LR:=λ(y1,y2,y3)=>λ
    |0=>some ⟨Nat,[(31,iN)],[(4,λk=>.cells [.own 300]),(300,λk=>.row 5 [.int .u8] (S.Ac y1 y2 y3 k) false),(5,λk=>.cells [.int .i64 0])],[(Vg.Loc.cell 4 0,300)],[102700],[],λk=>S.PT y1 y2 y3 k,λk=>S.al (S.len y3) k⟩
    |_=>none
def ş:Env:=cS 132 atB apY Ş
def ap0:SB->Ci->bk:=λ_ ((r1,r2,r3),())=>⟨r1.length<=140737488355328,.int .i64 (S.af r1 r2 r3).2,[some (.cells [.sl [.int .u8] r1,.int .i64 (S.af r1 r2 r3).1.2.1,.int .i64 (S.af r1 r2 r3).1.2.2])],[]⟩
def Š:Env:=cH 243 [true] aiE yy ap0 ş
def ap1:SB->Ci->bk:=λ_ ((r1,r2,r3),())=>⟨r1.length<=140737488355328,.str (S.an r1 r2 r3).2,[some (.cells [.sl [.int .u8] r1,.int .i64 (S.an r1 r2 r3).1.2.1,.int .i64 (S.an r1 r2 r3).1.2.2])],[]⟩
def š:Env:=cH 244 [true] aiE yy ap1 Š
def ap2:aiF->awh->bk:=λ_ (a,((),((),((r1,r2,r3),()))))=>⟨r1.length<=140737488355328,.agg [.int .i64 a,.int .i64 (S.rV r1 r2 r3 a).2.2.1,.int .i64 (S.rV r1 r2 r3 a).2.2.2.1,.str (S.rV r1 r2 r3 a).2.2.2.2],[some (.cells [.int .i64 (S.rV r1 r2 r3 a).2.2.1]),some (.cells [.fn (.func 243) [] [.ref 50003 0]]),some (.cells [.fn (.func 244) [] [.ref 50003 0]]),some (.cells [.sl [.int .u8] r1,.int .i64 (S.rV r1 r2 r3 a).1.1,.int .i64 (S.rV r1 r2 r3 a).1.2])],[]⟩
def Ţ:Env:=cH 245 [true,true,true] yj aCa ap2 š
def ap3:gS->FR:=λb=>(b.length<=140737488355328,.bn [.agg (aF [.int .i64,.str,.slice [.int .i64,.int .i64,.int .i64,.str]] ((S.hR b).1)),.int .i64 ((S.hR b).2:Int)],[])
def ap4:gS->LR:=λb=>λ
    |0=>some ⟨Nat,[(29,iN)],[(4,λk=>.cells [.sl [.int .u8] b,.int .i64 (S.iL b k).1.1,.int .i64 (S.iL b k).1.2]),(7,λk=>.cells [.int .i64 (S.iL b k).2.1]),(5,λk=>.cells [.fn (.func 243) [] [.ref 4 0]]),(6,λk=>.cells [.fn (.func 244) [] [.ref 4 0]]),(9,λk=>.cells [.int .i64 (S.gn b).1.1,.str (S.gn b).1.2.1,.own 300]),(300,λk=>.row 100 [.int .i64,.int .i64,.int .i64,.str] (S.iL b k).2.2 false)],[(Vg.Loc.cell 9 2,300)],[],[],λk=>k<=S.pN b/\(S.gn b).1.2.2<=64,λk=>S.al (S.pN b) k⟩
    |_=>none
def ţ:Env:=cS 164 fv ap3 Ţ
def ap5:av8->FR:=λ(d,t)=>(S.bh d/\S.small t,.bn [.agg (aF [.int .i64,.str,.str,.str,.slice [.str],.slice [.int .u8]] ((S.gj d t).1)),.int .i64 ((S.gj d t).2:Int)],[])
def Ť:Env:=cS 62 atp ap5 ţ
def ap6:ait->Qa->bk:=λ_ (l,())=>⟨S.small l,.bn [],[some (.row 9 [.str] (S.eD l) false)],[]⟩
def ť:Env:=cH 97 [true] atl Yr ap6 Ť
def ap7:ait->Qa->bk:=λ_ (l,())=>⟨S.small l,.own 60000,[none],[.row 9 [.str] (S.bR l) false]⟩
def ap8:ait->Qa->LR:=λ_ (l,())=>λ
    |0=>some ⟨Nat,[(3,iN)],[],[],[],[],λk=>S.mR l k,λk=>S.al (S.len l) k⟩
    |2=>some ⟨Nat×Nat×List B8×Nat,[(3,λk=>.int .i64 ((k.1:Nat):Int)),(5,λk=>.int .i64 ((k.2.1:Nat):Int))],[(50000,λk=>.row 9 [.str] k.2.2.1 false)],[],[],[(27,λk=>.int .i64 ((k.2.2.2:Nat):Int))],λk=>S.iG l k.2.2.2 k.1 k.2.1 k.2.2.1,λk=>S.al (S.len l) k.2.1⟩
    |_=>none
def Ŧ:Env:=cH 98 [true] atl Yr ap7 ť
def ap9:aiG->FR:=λl=>(S.eR l,.bool (S.bL l),[])
def aqa:aiG->LR:=λl=>λ
    |0=>some ⟨Nat,[(9,iN),(3,λk=>.int .i64 (S.iv l k)),(4,λk=>.int .i64 (S.nW l k))],[],[],[],[],λk=>S.nh l k,λk=>S.al (S.len l) k⟩
    |_=>none
def ŧ:Env:=cS 37 Qg ap9 Ŧ
def aqb:aiG->FR:=λl=>(S.small l,.sl [.str] (S.aA l),[])
def aqc:aiG->LR:=λl=>λ
    |0=>some ⟨Nat,[(8,iN),(3,λk=>.own 300)],[(300,λk=>.row 9 [.str] (S.bO l k) false)],[(Vg.Loc.slot 3,300)],[],[],λk=>S.gP l k,λk=>S.al (S.len l) k⟩
    |_=>none
def Ũ:Env:=cS 38 Qg aqb ŧ
def aqd:gS->FR:=λb=>(S.small b,.str (S.hdT (S.bK b)),[])
def ũ:Env:=cS 177 fv aqd Ũ
def aqe:aiI->awj->bk:=λ_ (st,((),(bb,(at_,()))))=>⟨st=0/\bb=S.xK/\at_=3,.bn [],[some (.cells [.int .i64 (-1)]),some (.cells [.own 60000]),some (.cells [.sl [.int .u8] bb]),some (.cells [.int .i64 at_])],[.row 183 [.int .i64,.int .i64,.str] S.kE1 false]⟩
def Ū:Env:=cH 176 [true,true,true,true] atF aty aqe ũ
def aqf:gS->FR:=λb=>(b=S.xK,.sl [.int .i64,.int .i64,.str] S.kE,[])
def aqg:gS->LR:=λb=>λ
    |0=>some ⟨Nat,[(15,iN)],[(1,λk=>.cells [.sl [.int .u8] b]),(3,λk=>.cells [.nil]),(4,λk=>.cells [.int .i64 ((k:Nat):Int)]),(5,λk=>.cells [.int .i64 (S.rW k)])],[],[],[],λk=>S.fe k 3,λk=>S.al 3 k⟩
    |_=>none
def ū:Env:=cS 93 fv aqf Ū
def aqh:SB->Hb->bk:=λ_ ((e,n,w),())=>⟨0<=n/\n<e.length,.agg [.int .i64 (S.tI e n).1,.int .i64 (S.tI e n).2.1,.str (S.tI e n).2.2],[some (.cells [.sl [.int .i64,.int .i64,.str] e,.int .i64 n,.int .i64 w,.nil])],[]⟩
def Ŭ:cX:=bH aiE FC aqh
def SO:cX:=Ŭ
def ŭ:Env:=Env.bE 95 [true] SO ū
def aqi:SB->awk->bk:=λ_ ((e,n,w),(l,()))=>⟨0<=n/\n<e.length,.agg [.int .i64 (S.tI e n).1,.int .i64 (S.tI e n).2.1,.str (S.tI e n).2.2],[some (.cells [.sl [.int .i64,.int .i64,.str] e,.int .i64 n,.int .i64 w,.own 50001]),some (.row 90 [.int .i64,.str] l false)],[]⟩
def Ů:cX:=bH aiE atz aqi
def ů:cX:=mL Ů SO
def Ű:Env:=Env.bE 95 [true] ů ŭ
def aqj:SC->Hb->bk:=λd ((e,n,w),())=>⟨e=S.kE/\n=0/\w=0,.int .i64 0,[some (.cells [.sl [.int .i64,.int .i64,.str] e,.int .i64 1,.int .i64 1,.own 60000])],[.row 90 [.int .i64,.str] S.eO false]⟩
def ű:Env:=cH 255 [true,false] aiK FC aqj Ű
def aqk:SC->Hb->bk:=λd ((e,n,w),())=>⟨e=S.kE/\n=0/\w=0,.int .i64 0,[some (.cells [.sl [.int .i64,.int .i64,.str] e,.int .i64 1,.int .i64 1,.own 60000])],[.row 90 [.int .i64,.str] S.eO false]⟩
def aql:SC->Hb->LR:=λd ((e,n,w),())=>λ
    |0=>some ⟨Nat,[],[(50000,λk=>.cells [.sl [.int .i64,.int .i64,.str] e,.int .i64 1,.int .i64 1,.own 300]),(300,λk=>.row 90 [.int .i64,.str] S.eO false)],[(Vg.Loc.cell 50000 3,300)],[101000],[],λk=>k=0,λk=>k⟩
    |_=>none
def Ų:Env:=cH 182 [true,false] aiK FC aqk ű
def aqm:SC->Hb->bk:=λd ((e,n,w),())=>⟨e=S.kE/\n=0/\w=0,.int .i64 0,[some (.cells [.sl [.int .i64,.int .i64,.str] e,.int .i64 1,.int .i64 1,.own 60000])],[.row 90 [.int .i64,.str] S.eO false]⟩
def aqn:SC->Hb->LR:=λd ((e,n,w),())=>λ
    |0=>some ⟨Nat,[],[(50000,λk=>.cells [.sl [.int .i64,.int .i64,.str] e,.int .i64 1,.int .i64 1,.own 300]),(300,λk=>.row 90 [.int .i64,.str] S.eO false)],[(Vg.Loc.cell 50000 3,300)],[100900],[],λk=>k=0,λk=>k⟩
    |_=>none
def ų:Env:=cH 94 [true,false] aiK FC aqm Ų
def aqo:gS->FR:=λb=>(b=S.xK,.bn (aF [.slice [.int .i64,.str],.int .i64,.int .i64] ((S.eO,0,0))),[])
def Ŵ:Env:=cS 36 fv aqo ų
def aL8:aiG->FR:=λl=>(S.eR l,.bool (S.bL l),[])
def aL9:aiG->LR:=λl=>λ
    |0=>some ⟨Nat,[(4,iN),(3,λk=>.int .i64 (S.nW l k))],[],[],[],[],λk=>S.nh l k,λk=>S.al (S.len l) k⟩
    |_=>none
def aIi:Env:=cS 17 Qg aL8 Ŵ
def aMa:aiG->FR:=λl=>(S.aIl l,.sl [.int .i64,.str] l,[])
def aMb:aiG->LR:=λl=>λ
    |0=>some ⟨Nat,[(4,iN),(3,λk=>.own 300)],[(300,λk=>.row 122 [.int .i64,.str] (l.take k) false)],[(Vg.Loc.slot 3,300)],[],[],λk=>S.gP l k,λk=>S.al (S.len l) k⟩
    |_=>none
def aIj:Env:=cS 15 Qg aMa aIi
def aqp:aiG->FR:=λl=>(True,.bool (S.nO l),[])
def aqq:aiG->LR:=λl=>λ
    |0=>some ⟨Nat,[(3,iN)],[],[],[],[],λk=>S.Dc l k,λk=>S.al (S.len l) k⟩
    |_=>none
def ŵ:Env:=cS 11 Qg aqp aIj
def aqr:SC->Ap->bk:=λv (d,(l,()))=>⟨l.length<=35184372088832,.bn [],[some (.cells [.own 60000,.bool (S.qi d (S.lp v))]),none],[.row 5 [.int .u8] (l++S.bytesOf (S.lp v)) false]⟩
def Ŷ:Env:=cH 140 [true,false] aiK tq aqr ŵ
def aqs:aiL->Ap->bk:=λ(b,m) (d,(l,()))=>⟨l.length<=35184372088832/\b.length<=1099511627776,.bn [],[some (.cells [.own 60000,.bool (S.qi d (S.gk b m))]),none],[.row 5 [.int .u8] (l++S.bytesOf (S.gk b m)) false]⟩
def ŷ:Env:=cH 175 [true,false,false] atH tq aqs Ŷ
def aqt:aiM->Ap->bk:=λ(y1,y2,y3) (d,(l,()))=>⟨l.length<=35184372088832,.bn [],[some (.cells [.own 60000,.bool (S.qi d (S.pg y1 y2 y3))]),none],[.row 5 [.int .u8] (l++S.bytesOf (S.pg y1 y2 y3)) false]⟩
def Ÿ:Env:=cH 139 [true,false] atI tq aqt ŷ
def aqu:Yt->Ap->bk:=λp (d,(l,()))=>⟨l.length<=17592186044416,.bn [],[some (.cells [.own 60000,.bool (S.qi d (S.jB p))]),none],[.row 5 [.int .u8] (l++S.bytesOf (S.jB p)) false]⟩
def aqv:Yt->Ap->LR:=λp (d,(l,()))=>λ
    |0=>some ⟨Nat,[(18,iN)],[(50000,λk=>.cells [.own 300,.bool d]),(300,λk=>.row 5 [.int .u8] (l++S.gl p k) false)],[(Vg.Loc.cell 50000 0,300)],[101500],[],λk=>S.ly p k,λk=>S.al (S.len p) k⟩
    |_=>none
def Ź:Env:=cH 171 [true,false] Qh tq aqu Ÿ
def aqw:aiO->Ap->bk:=λ(p1,p2,p3,p4,p5,p6) (d,(l,()))=>⟨l.length<=8796093022208/\p6.length<=1099511627776,.bn [],[some (.cells [.own 60000,.bool (S.qi d (S.jP (p1,p2,p3,p4,p5,p6)))]),none],[.row 5 [.int .u8] (l++S.bytesOf (S.jP (p1,p2,p3,p4,p5,p6))) false]⟩
def ź:Env:=cH 141 [true,false] aiN tq aqw Ź
def aqx:SB->Ap->bk:=λ_ (d,(l,()))=>⟨True,.bn [.sl [.int .u8] (S.Fo (l,d)),.int .i64 (S.Fp (l,d))],[none,none],[]⟩
def Ż:cX:=bH aiE tq aqx
def SP:cX:=Ż
def ż:Env:=Env.bE 142 [true] SP ź
def aqy:aiQ->FR:=λ(a1,a2,a3,a4)=>(S.ti a4,.bn (aF [.slice [.int .u8],.int .i64] (S.nG a1 a2 a3 a4)),[])
def aqz:aiQ->LR:=λ(a1,a2,a3,a4)=>λ
    |0=>some ⟨Nat,[(25,iN)],[(4,λk=>.cells [.own 300,.bool (S.lS (S.eS a1 a2 a3 a4 k))]),(300,λk=>.row 5 [.int .u8] (S.bytesOf (S.eS a1 a2 a3 a4 k)) false)],[(Vg.Loc.cell 4 0,300)],[101300,302],[],λk=>S.mo a3 a4 k,λk=>S.al (S.len a4) k⟩
    |2=>some ⟨Nat×Nat,[(37,λk=>.int .i64 ((k.1:Nat):Int))],[(4,λk=>.cells [.own 302,.bool (S.lS (S.fq a1 a2 a3 a4 k.2 k.1))]),(302,λk=>.row 5 [.int .u8] (S.bytesOf (S.fq a1 a2 a3 a4 k.2 k.1)) false)],[(Vg.Loc.cell 4 0,302)],[103400,300],[(25,λk=>.int .i64 ((k.2:Nat):Int))],λk=>S.kn a3 a4 k.2 k.1,λk=>S.al (S.len (S.iO a4 k.2)) k.1⟩
    |_=>none
def Ž:Env:=cS 63 aiP aqy ż
def JM:aiS->wB->bk:=λ(b,c) ()=>⟨S.eZ b c=0,.bn [.ref 60000 0,.int .i64 0],[],[.cells [.sl [.int .u8] b,.int .i64 1,.int .i64 0]]⟩
def ž:cX:=bH aiR ql JM
def SQ:cX:=ž
def ſ:Env:=Env.bE 79 [false,false] SQ Ž
def JN:aiS->wB->bk:=λ(b,c) ()=>⟨¬S.eZ b c=0,.bn [.jQ,.int .i64 (S.eZ b c)],[],[]⟩
def aaa:cX:=bH aiR ql JN
def aab:cX:=mL aaa SQ
def aac:Env:=Env.bE 79 [false,false] aab ſ
def aqA:SB->Ci->bk:=λ_ ((r1,r2,r3),())=>⟨r1.length<=140737488355328,.int .i64 (S.af r1 r2 r3).2,[some (.cells [.sl [.int .u8] r1,.int .i64 (S.af r1 r2 r3).1.2.1,.int .i64 (S.af r1 r2 r3).1.2.2])],[]⟩
def aad:Env:=cH 84 [true] aiE yy aqA aac
def aqB:SC->Ci->bk:=λm ((r1,r2,r3),())=>⟨r1.length<=140737488355328,.str (S.ai r1 r2 r3 m).2,[some (.cells [.sl [.int .u8] r1,.int .i64 (S.ai r1 r2 r3 m).1.2.1,.int .i64 (S.ai r1 r2 r3 m).1.2.2])],[]⟩
def aae:Env:=cH 85 [true,false] aiK yy aqB aad
def aqC:SC->Ci->bk:=λm ((r1,r2,r3),())=>⟨r1.length<=140737488355328,.int .i64 (S.dP r1 r2 r3 m).2,[some (.cells [.sl [.int .u8] r1,.int .i64 (S.dP r1 r2 r3 m).1.1,.int .i64 (S.dP r1 r2 r3 m).1.2])],[]⟩
def aaf:Env:=cH 81 [true,false] aiK yy aqC aae
def aqD:SB->Ci->bk:=λ_ ((r1,r2,r3),())=>⟨r1.length<=140737488355328,.agg [.int .i64 (S.cC r1 r2 r3).2.1,.str (S.cC r1 r2 r3).2.2.1,.sl [.int .i64,.int .i64,.int .i64,.str] (S.cC r1 r2 r3).2.2.2],[some (.cells [.sl [.int .u8] r1,.int .i64 (S.cC r1 r2 r3).1.1,.int .i64 (S.cC r1 r2 r3).1.2])],[]⟩
def aag:Env:=cH 80 [true] aiE yy aqD aaf
def aqE:SB->Ci->bk:=λ_ ((r1,r2,r3),())=>⟨r1.length<=140737488355328,.agg [.str (S.jC r1 r2 r3).2.1,.str (S.jC r1 r2 r3).2.2.1,.str (S.jC r1 r2 r3).2.2.2],[some (.cells [.sl [.int .u8] r1,.int .i64 (S.jC r1 r2 r3).1.1,.int .i64 (S.jC r1 r2 r3).1.2])],[]⟩
def aah:Env:=cH 165 [true] aiE yy aqE aag
def aqF:SB->Ci->bk:=λ_ ((r1,r2,r3),())=>⟨r1.length<=140737488355328,.sl [.str] (S.jD r1 r2 r3).2,[some (.cells [.sl [.int .u8] r1,.int .i64 (S.jD r1 r2 r3).1.1,.int .i64 (S.jD r1 r2 r3).1.2])],[]⟩
def aqG:SB->Ci->LR:=λ_ ((r1,r2,r3),())=>λ
    |0=>some ⟨Nat,[(7,iN),(3,λk=>.own 300)],[(300,λk=>.row 9 [.str] (S.dh r1 r2 r3 k).2 false),(50000,λk=>.cells [.sl [.int .u8] r1,.int .i64 (S.dh r1 r2 r3 k).1.1,.int .i64 (S.dh r1 r2 r3 k).1.2])],[(Vg.Loc.slot 3,300)],[],[],λk=>S.fe k (S.ph r1 r2 r3),λk=>S.al (S.ph r1 r2 r3) k⟩
    |_=>none
def aai:Env:=cH 86 [true] aiE yy aqF aah
def aqH:SB->Ci->bk:=λ_ ((r1,r2,r3),())=>⟨r1.length<=140737488355328,.agg [.int .i64 (S.gw r1 r2 r3).2.1,.str (S.gw r1 r2 r3).2.2.1,.str (S.gw r1 r2 r3).2.2.2.1,.str (S.gw r1 r2 r3).2.2.2.2.1,.sl [.str] (S.gw r1 r2 r3).2.2.2.2.2.1,.sl [.int .u8] (S.gw r1 r2 r3).2.2.2.2.2.2],[some (.cells [.sl [.int .u8] r1,.int .i64 (S.gw r1 r2 r3).1.1,.int .i64 (S.gw r1 r2 r3).1.2])],[]⟩
def JO:Env:=cH 82 [true] aiE yy aqH aai
def aqI:gS->FR:=λb=>(b.length<=140737488355328/\S.eZ b 1=0,.bn [.agg (aF [.int .i64,.str,.slice [.int .i64,.int .i64,.int .i64,.str],.slice [.slice [.int .i64,.str,.str,.str,.slice [.str],.slice [.int .u8]]]] ((S.ba b).1)),.int .i64 ((S.ba b).2:Int)],[])
def aqJ:gS->LR:=λb=>λ
    |0=>some ⟨Nat,[(25,iN)],[(101100,λk=>.cells [.sl [.int .u8] b,.int .i64 (S.gR b k).1.1,.int .i64 (S.gR b k).1.2]),(6,λk=>.cells [.int .i64 (S.aH b).2.1,.str (S.aH b).2.2.1,.sl [.int .i64,.int .i64,.int .i64,.str] (S.aH b).2.2.2,.own 300]),(300,λk=>.row 101 [.slice [.int .i64,.str,.str,.str,.slice [.str],.slice [.int .u8]]] (S.gR b k).2 false)],[(Vg.Loc.cell 6 3,300)],[301],[],λk=>S.fe k (S.aN b),λk=>S.al (S.aN b) k⟩
    |2=>some ⟨Nat×Nat,[(29,λk=>.int .i64 ((k.1:Nat):Int)),(7,λk=>.own 301)],[(301,λk=>.row 106 [.int .i64,.str,.str,.str,.slice [.str],.slice [.int .u8]] (S.Af b k.2 k.1).2 false),(101100,λk=>.cells [.sl [.int .u8] b,.int .i64 (S.Af b k.2 k.1).1.1,.int .i64 (S.Af b k.2 k.1).1.2]),(6,λk=>.cells [.int .i64 (S.aH b).2.1,.str (S.aH b).2.2.1,.sl [.int .i64,.int .i64,.int .i64,.str] (S.aH b).2.2.2,.own 300]),(300,λk=>.row 101 [.slice [.int .i64,.str,.str,.str,.slice [.str],.slice [.int .u8]]] (S.gR b k.2).2 false)],[(Vg.Loc.slot 7,301)],[],[(25,λk=>.int .i64 ((k.2:Nat):Int))],λk=>S.fe k.1 (S.pj b k.2)/\k.2+1<=S.aN b,λk=>S.al (S.pj b k.2) k.1⟩
    |_=>none
def aqK:Env:=Env.bE 79 [false,false] (bH aiR ql JM) JO
def aqL:gS->FR:=λb=>(¬S.eZ b 1=0,.bn [.agg (aF [.int .i64,.str,.slice [.int .i64,.int .i64,.int .i64,.str],.slice [.slice [.int .i64,.str,.str,.str,.slice [.str],.slice [.int .u8]]]] ((S.ba b).1)),.int .i64 ((S.ba b).2:Int)],[])
def aqM:Env:=Env.bE 79 [false,false] (bH aiR ql JN) JO
def aqN:gS->FR:=λb=>(b.length<=140737488355328,.bn [.agg (aF [.int .i64,.str,.slice [.int .i64,.int .i64,.int .i64,.str],.slice [.slice [.int .i64,.str,.str,.str,.slice [.str],.slice [.int .u8]]]] ((S.ba b).1)),.int .i64 ((S.ba b).2:Int)],[])
def JP:Env:=cS 31 fv aqN JO
def aqY:awm->FR:=λ(y1,y2,y3)=>(True,.bn (aF [.str,.int .i64] (S.ik y1 y2 y3)),[])
def aak:Env:=cS 59 atB aqY JP
def aqZ:rk->FR:=λ(y1,y2)=>(True,.bn (aF [.str,.int .i64] (S.lC y1 y2)),[])
def aal:Env:=cS 22 lr aqZ aak
def aq0:aiT->awo->bk:=λt (dd,(er,((),())))=>⟨S.bh dd/\S.aY dd=true/\S.isTerm t=true/\er=0,.bn [],[some (.cells [.sl [.str,.slice [.int .i64]] dd]),some (.cells [.int .i64 0]),some (.cells [.own 60000])],[.row 106 [.int .i64,.str,.str,.str,.slice [.str],.slice [.int .u8]] [S.jO dd t] false]⟩
def aam:cX:=bH atJ aiH aq0
def SR:cX:=aam
def aan:Env:=Env.bE 61 [false,true,true,true] SR aal
def aq1:aiT->awp->bk:=λt (dd,(er,((),(l,()))))=>⟨S.bh dd/\S.aY dd=true/\S.isTerm t=true/\er=0/\l.length<=100000,.bn [],[some (.cells [.sl [.str,.slice [.int .i64]] dd]),some (.cells [.int .i64 0]),some (.cells [.own 60000]),none],[.row 106 [.int .i64,.str,.str,.str,.slice [.str],.slice [.int .u8]] (l++[S.jO dd t]) false]⟩
def aao:cX:=bH atJ atE aq1
def aap:cX:=mL aao SR
def aaq:Env:=Env.bE 61 [false,true,true,true] aap aan
def aq2:awq->aiJ->bk:=λd (er,(ts,()))=>⟨S.Mf d ts/\er=0,.sl [.int .i64,.str,.str,.str,.slice [.str],.slice [.int .u8]] (S.Od d ts),[some (.cells [.int .i64 0]),some (.cells [.sl [.str] ts])],[]⟩
def aq3:awq->aiJ->LR:=λd (er,(ts,()))=>λ
    |0=>some ⟨Nat,[(12,iN)],[(3,λk=>.cells [.sl [.str,.slice [.int .i64]] d]),(5,λk=>.cells [.own 300]),(300,λk=>.row 106 [.int .i64,.str,.str,.str,.slice [.str],.slice [.int .u8]] (S.qj d ts k) false),(50000,λk=>.cells [.int .i64 0]),(50001,λk=>.cells [.sl [.str] ts])],[(Vg.Loc.cell 5 0,300)],[],[],λk=>S.gP ts k,λk=>S.al (S.len ts) k⟩
    |_=>none
def aar:Env:=cH 60 [false,true,true] atK atG aq2 aaq
def aq4:SD->FR:=λ(y1,y2,l)=>(S.eR l,.bn (aF [.slice [.int .u8],.int .i64] (S.abP y1 y2 l)),[])
def aq5:SD->LR:=λ(y1,y2,l)=>λ
    |0=>some ⟨Nat,[(31,iN)],[(7,λk=>.cells [.int .i64 0]),(8,λk=>.cells [.sl [.str] (S.aA l)]),(10,λk=>.cells [.int .i64 ((S.len y1:Nat):Int),.str (S.root (S.leaves y1)),.sl [.int .i64,.int .i64,.int .i64,.str] (S.cL y1 y2),.own 300]),(300,λk=>.row 101 [.slice [.int .i64,.str,.str,.str,.slice [.str],.slice [.int .u8]]] (S.lD y2 (S.aA l) k) false)],[(Vg.Loc.cell 10 3,300)],[],[],λk=>S.gP y2 k/\S.gC y1 y2=true/\S.bL l=true,λk=>S.al (S.len y2) k⟩
    |_=>none
def aas:Env:=cS 23 Aq aq4 aar
def aq6:Yq->FR:=λ(i,n)=>(S.mW i n,.own 0,[.row 4 [.bool] (S.bl i n) false])
def aq7:Yq->LR:=λ(i,n)=>λ
    |0=>some ⟨Int×Int×List Bool,[(0,λk=>.int .i64 k.1),(1,λk=>.int .i64 k.2.1),(5,λk=>.own 300)],[(300,λk=>.row 4 [.bool] k.2.2 false)],[(Vg.Loc.slot 5,300)],[],[],λk=>S.jf i n k,λk=>k.2.1.toNat⟩
    |_=>none
def aat:Env:=cS 150 P9 aq6 aas
def aq8:aiX->FR:=λ(d,i,n,p)=>(S.dz p,.bn (aF [.str,.int .i64] ((S.mV d i n p,S.fc d i n p))),[])
def aq9:aiX->LR:=λ(d,i,n,p)=>λ
    |0=>some ⟨Nat,[(49,iN),(11,λk=>.str (S.gQ d i n p k))],[],[],[],[],λk=>S.fc d i n p=0/\k<=(S.len p:Nat),λk=>S.al (S.len p) k⟩
    |_=>none
def aau:Env:=cS 68 atM aq8 aat
def aDC:gS->FR:=λb=>(b.length<=140737488355328,.bn (aF [.slice [.int .i64],.int .i64] (S.JI b)),[])
def aDD:gS->LR:=λb=>λ
    |0=>some ⟨Nat×Int×Int×Int×List Int,[(24,λk=>.int .i64 ((k.1:Nat):Int)),(7,λk=>.int .i64 k.2.2.2.1),(6,λk=>.own 300)],[(300,λk=>.row 3 [.int .i64] k.2.2.2.2 false),(4,λk=>.cells [.sl [.int .u8] b,.int .i64 k.2.1,.int .i64 k.2.2.1])],[(Vg.Loc.slot 6,300)],[],[],λk=>S.afq b k.1 k.2,λk=>S.al 1000 k.1⟩
    |_=>none
def awE:Env:=cS 187 fv aDC aau
def ara:aiY->FR:=λ(n,p,q)=>(True,.bool (S.Cd p q),[])
def aav:Env:=cS 197 atN ara awE
def arb:aiY->FR:=λ(n,p,q)=>(True,.bool (S.Oe p q),[])
def aaw:Env:=cS 198 atN arb aav
def arc:aiY->FR:=λ(n,p,q)=>(True,.bool (S.Ce p q),[])
def aax:Env:=cS 199 atN arc aaw
def ard:ME->wB->bk:=λ(a,b) ()=>⟨True,.own 60000,[],[.row 3 [.int .i64] (S.Dg a b) false]⟩
def are:ME->wB->LR:=λ(a,b) ()=>λ
    |0=>some ⟨List Int×List Int×List Int,[(0,λk=>.sl [.int .i64] k.1),(1,λk=>.sl [.int .i64] k.2.1),(7,λk=>.own 300)],[(300,λk=>.row 3 [.int .i64] k.2.2 false)],[(Vg.Loc.slot 7,300)],[],[],λk=>S.kp S.Cd a b k,λk=>S.gZ k⟩
    |_=>none
def aay:cX:=bH Qi ql ard
def SS:cX:=mL aay YG
def aaz:Env:=Env.bE 196 [false,false,true] SS aax
def arf:awv->wB->bk:=λ(a,b) ()=>⟨True,.own 60000,[],[.row 3 [.int .i64] (S.tm a b) false]⟩
def arh:awv->wB->LR:=λ(a,b) ()=>λ
    |0=>some ⟨List Int×List Int×List Int,[(0,λk=>.sl [.int .i64] k.1),(1,λk=>.sl [.int .i64] k.2.1),(7,λk=>.own 300)],[(300,λk=>.row 3 [.int .i64] k.2.2 false)],[(Vg.Loc.slot 7,300)],[],[],λk=>S.kp S.Oe a b k,λk=>S.gZ k⟩
    |_=>none
def aaA:cX:=bH atO ql arf
def SU:cX:=mL aaA SS
def aaB:Env:=Env.bE 196 [false,false,true] SU aaz
def ari:aww->wB->bk:=λ(a,b) ()=>⟨True,.own 60000,[],[.row 3 [.int .i64] (S.Mi a b) false]⟩
def arj:aww->wB->LR:=λ(a,b) ()=>λ
    |0=>some ⟨List Int×List Int×List Int,[(0,λk=>.sl [.int .i64] k.1),(1,λk=>.sl [.int .i64] k.2.1),(7,λk=>.own 300)],[(300,λk=>.row 3 [.int .i64] k.2.2 false)],[(Vg.Loc.slot 7,300)],[],[],λk=>S.kp S.Ce a b k,λk=>S.gZ k⟩
    |_=>none
def aaC:cX:=bH atP ql ari
def aaD:cX:=mL aaC SU
def aaE:Env:=Env.bE 196 [false,false,true] aaD aaB
def ark:av7->FR:=λ(a,b)=>(True,.own 0,[.row 3 [.int .i64] (S.Dg a b) false])
def aaF:Env:=cS 107 ato ark aaE
def arl:av7->FR:=λ(a,b)=>(True,.own 0,[.row 3 [.int .i64] (S.tm a b) false])
def aaG:Env:=cS 108 ato arl aaF
def arn:av7->FR:=λ(a,b)=>(True,.own 0,[.row 3 [.int .i64] (S.Mi a b) false])
def aaH:Env:=cS 109 ato arn aaG
def aro:air->FR:=λs=>(True,.bool false,[])
def aaI:Env:=cS 192 ath aro aaH
def arp:G7->FR:=λ(a,b)=>(True,.bool (Op.bytesLess a b),[])
def aaJ:Env:=cS 191 yh arp aaI
def arq:awx->FR:=λ(x,t)=>(S.vj x,.bn (aF [.int .i64,.bool] (((S.ni x t:Int),S.Ag x t))),[])
def ars:awx->LR:=λ(x,t)=>λ
    |0=>some ⟨Int×Int,[(7,λk=>.int .i64 k.1),(8,λk=>.int .i64 k.2)],[],[],[],[],λk=>S.qk x t k.1 k.2,λk=>(k.2-k.1).toNat⟩
    |_=>none
def aaK:Env:=cS 104 atQ arq aaJ
def art:aiZ->FR:=λ(s,t,f)=>(S.Ah t f,.sl [.int .i64] (S.lE t f s),[])
def aaL:Env:=cS 103 Į art aaK
def aru:awy->awr->bk:=λs ((),((),(l,())))=>⟨S.qD l,.bn [],[some (.cells [.own 60000]),some (.cells [.fn (.func 107) [] []]),none],[.row 27 [.slice [.int .i64]] (S.vk 1 l) false]⟩
def aaM:cX:=bH atS aiU aru
def SV:cX:=aaM
def aaN:Env:=Env.bE 194 [false,true,true] SV aaL
def arv:awy->aws->bk:=λs ((),((),(l,())))=>⟨S.qD l,.bn [],[some (.cells [.own 60000]),some (.cells [.fn (.func 108) [] []]),none],[.row 27 [.slice [.int .i64]] (S.vk 2 l) false]⟩
def aaO:cX:=bH atS aiV arv
def SX:cX:=mL aaO SV
def aaP:Env:=Env.bE 194 [false,true,true] SX aaN
def arw:awy->awt->bk:=λs ((),((),(l,())))=>⟨S.qD l,.bn [],[some (.cells [.own 60000]),some (.cells [.fn (.func 109) [] []]),none],[.row 27 [.slice [.int .i64]] (S.vk 3 l) false]⟩
def aaQ:cX:=bH atS aiW arw
def aaR:cX:=mL aaQ SX
def aaS:Env:=Env.bE 194 [false,true,true] aaR aaP
def arx:awy->awu->bk:=λs ((),((t,f),(l,())))=>⟨S.Ah t f/\S.small l,.bn [],[some (.cells [.own 60000]),some (.cells [.fn (.func 103) [] [.cN [.slice [.str]] t 0,.cN [.slice [.slice [.int .i64]]] f 0],.fn (.func 107) [] [],.fn (.func 108) [] [],.fn (.func 109) [] []]),none],[.row 27 [.slice [.int .i64]] (S.Fv l (S.lE t f s)) false]⟩
def aaT:Env:=cH 195 [false,true,true] atS atL arx aaS
def ary:Yu->wB->bk:=λ(l,t,f) ()=>⟨S.Dh l t f,.sl [.int .i64] (S.Mj l t f),[],[]⟩
def arz:Yu->wB->LR:=λ(l,t,f) ()=>λ
    |0=>some ⟨Nat,[(28,iN)],[(5,λk=>.cells [.own 300]),(300,λk=>.row 27 [.slice [.int .i64]] (S.fy (S.lE t f) l k) false),(3,λk=>.cells [.fn (.func 103) [] [.cN [.slice [.str]] t 0,.cN [.slice [.slice [.int .i64]]] f 0],.fn (.func 107) [] [],.fn (.func 108) [] [],.fn (.func 109) [] []]),(16,λk=>.cells [.fn (.func 107) [] []]),(20,λk=>.cells [.fn (.func 108) [] []]),(24,λk=>.cells [.fn (.func 109) [] []])],[(Vg.Loc.cell 5 0,300)],[],[],λk=>S.ob l (S.fy (S.lE t f) l k) k,λk=>S.al (S.len l) k⟩
    |_=>none
def aaU:Env:=cH 106 [false,true] MF ql ary aaT
def arA:awz->FR:=λ(l,f)=>(S.eR l,.bn (aF [.slice [.int .i64],.int .i64] (S.kZ l f)),[])
def arB:awz->LR:=λ(l,f)=>λ
    |0=>some ⟨Nat,[(22,iN)],[],[],[],[],λk=>S.Di f k,λk=>S.al (S.len f) k⟩
    |_=>none
def aaV:Env:=cS 45 atU arA aaU
def aDE:ai0->FR:=λ(p1,p2,p3,p4,p5,p6,t,e)=>(S.bQ p6,.bool (S.aBB t e p2 p4 p6),[])
def axk:Env:=cS 188 atV aDE aaV
def aDF:awA->FR:=λ(p1,p2,p3,p4,p5,p6,t)=>(True,.bool (S.aBC t p2 p3 p6),[])
def axl:Env:=cS 190 ai1 aDF axk
def aDG:ai3->wB->bk:=λ(t,p1,p2,p3,p4,p5,p6) ()=>⟨p6.length<=140737488355328,.own 60000,[],[.aX 191 2 2 [.fn (.func 188) [] [.cN [.str] t 0,.cN [.int .i64] (S.JI p6).2 0],.sl [.int .i64] (S.JI p6).1,.fn (.func 190) [] [.cN [.str] t 0],.nil]]⟩
def axm:Env:=cH 101 [false,false] į ql aDG axl
def aDH:ai4->FR:=λ(root,n,t,p1,p2,p3,p4,p5,p6)=>(S.Mk t p5 p6,.bn (aF [.slice [.int .i64],.int .i64] (S.IG root n t (p1,p2,p3,p4,p5,p6))),[])
def aDI:ai4->LR:=λ(root,n,t,p1,p2,p3,p4,p5,p6)=>λ
    |0=>some ⟨Nat,[(61,iN)],[],[],[],[],λk=>S.acr root n t (p1,p2,p3,p4,p5,p6) k,λk=>S.al 2 k⟩
    |_=>none
def axn:Env:=cS 42 İ aDH axm
def arI:awC->FR:=λ(h1,h2,h3,root)=>(True,.bool (S.tj h1 h2 h3 root),[])
def aa0:Env:=cS 99 ı arI axn
def arJ:aE3->FR:=λ(h1,h2,h3,root)=>(True,.fn (.func 99) [] [.cN [.int .i64,.str,.slice [.int .i64,.int .i64,.int .i64,.str]] (h1,h2,h3) 0,.cN [.str] root 0],[])
def aa1:Env:=cS 39 aBX arJ aa0
def arK:aBZ->FR:=λ(a1,a2,a3,a4,i,t)=>(0<=i/\i<(S.len a4:Nat),.bool (S.pn a4 i t),[])
def aa2:Env:=cS 40 avh arK aa1
def aDJ:G9->FR:=λ(l,s1,s2)=>(True,.bool (S.IE l s1 s2),[])
def aDK:G9->LR:=λ(l,s1,s2)=>λ
    |0=>some ⟨Nat,[(9,iN)],[],[],[],[],λk=>S.afc l s1 s2 k/\k<=(S.len l:Nat),λk=>S.al (S.len l) k⟩
    |_=>none
def axo:Env:=cS 43 IK aDJ aa2
def aa5:Env:=Env.bE 44 [true] (EU 3) axo
def SY:aB1->Yv->bk:=λ(g1,g2,g3,g4,w,a1,a2,a3,a4,i,j) ((),((xs,q),(l,())))=>⟨S.Mo w a4 i j/\S.P4 j q xs.length l/\S.rC (g1,g2,g3,g4) w a4 i j=true,.bool true,[some (.cells [.own 50001]),some (.dM 27 (some 60000) xs q),none],[.row 3 [.int .i64] (S.P5 l (S.wA (g1,g2,g3,g4) w a4 i j).1) false]⟩
def SZ:cX:=bH avp MG SY
def S0:cX:=SZ
def aa7:Env:=Env.bE 41 [false,false,false,false,false,true] S0 aa5
def S3:aB1->Yv->bk:=λ(g1,g2,g3,g4,w,a1,a2,a3,a4,i,j) ((),((xs,q),(l,())))=>⟨S.Mo w a4 i j/\S.P4 j q xs.length l/\S.rC (g1,g2,g3,g4) w a4 i j=false,.bool false,[some (.cells [.own 50001]),some (.dM 27 (some 50002) xs q),some (.row 3 [.int .i64] l false)],[]⟩
def S4:cX:=bH avp MG S3
def aa8:cX:=mL S4 S0
def aa9:Env:=Env.bE 41 [false,false,false,false,false,true] aa8 aa7
def aba:aE4->CF:=λ(g1,g2,g3,g4,w,a1,a2,a3,a4,i,j)=>S.Aj 27 3 (g1,g2,g3,g4) w a4 i j
def abb:Env:=Env.jc 41 (zE avO aba) aa9
def arO:aKr->FR:=λ(root,l,b)=>(b.length<1099511627776/\S.eR l,.bn (aF [.slice [.int .i64],.int .i64] (((S.ep root l b).1,(S.ep root l b).2))),[])
def arP:aKr->LR:=λ(root,l,b)=>λ
    |0=>some ⟨Nat,[(48,iN),(12,λk=>.own 300)],[(300,λk=>.eE 26 (some 11) (S.conds 27 3 root (S.ba b).1.1 (S.ba b).1.2.1 (S.ba b).1.2.2.1 (S.ba b).1.2.2.2 (S.aA l) k))],[(Vg.Loc.slot 12,300)],[43,301],[],λk=>S.ġ b k,λk=>S.al (S.len (S.ba b).1.2.2.1) k⟩
    |2=>some ⟨Nat×Nat,[(59,λk=>.int .i64 ((k.2:Nat):Int)),(12,λk=>.own 301)],[(301,λk=>.eE 26 (some 11) (S.mq 27 3 root (S.ba b).1.1 (S.ba b).1.2.1 (S.ba b).1.2.2.1 (S.ba b).1.2.2.2 (S.aA l) k.1 k.2))],[(Vg.Loc.slot 12,301)],[105600,105601,105602,43,56,300],[(48,λk=>.int .i64 ((k.1:Nat):Int))],λk=>S.Sv b (S.aA l) k.1 k.2,λk=>S.al (S.len (S.aA l)) k.2⟩
    |_=>none
def abc:Env:=cS 13 aMo arO abb
def aEd:SB->Ap->bk:=λ_ (d,(l,()))=>⟨True,.bn [.own 60000,.int .i64 (S.Fp (l,d))],[none,none],[.row 5 [.int .u8] (S.Fo (l,d)) false]⟩
def aAa:cX:=bH aiE tq aEd
def aAb:cX:=mL aAa SP
def aAc:Env:=Env.bE 142 [true] aAb abc
def aEe:aiQ->FR:=λ(a1,a2,a3,a4)=>(S.ti a4,.bn [.own 0,.int .i64 ((((S.nG a1 a2 a3 a4).1,(S.nG a1 a2 a3 a4).2)).2:Int)],[.row 5 [.int .u8] ((((S.nG a1 a2 a3 a4).1,(S.nG a1 a2 a3 a4).2)).1) false])
def aEg:aiQ->LR:=λ(a1,a2,a3,a4)=>λ
    |0=>some ⟨Nat,[(25,iN)],[(4,λk=>.cells [.own 300,.bool (S.lS (S.eS a1 a2 a3 a4 k))]),(300,λk=>.row 5 [.int .u8] (S.bytesOf (S.eS a1 a2 a3 a4 k)) false)],[(Vg.Loc.cell 4 0,300)],[101300,302],[],λk=>S.mo a3 a4 k,λk=>S.al (S.len a4) k⟩
    |2=>some ⟨Nat×Nat,[(37,λk=>.int .i64 ((k.1:Nat):Int))],[(4,λk=>.cells [.own 302,.bool (S.lS (S.fq a1 a2 a3 a4 k.2 k.1))]),(302,λk=>.row 5 [.int .u8] (S.bytesOf (S.fq a1 a2 a3 a4 k.2 k.1)) false)],[(Vg.Loc.cell 4 0,302)],[103400,300],[(25,λk=>.int .i64 ((k.2:Nat):Int))],λk=>S.kn a3 a4 k.2 k.1,λk=>S.al (S.len (S.iO a4 k.2)) k.1⟩
    |_=>none
def aAd:Env:=cS 63 aiP aEe aAc
def aEh:SD->FR:=λ(y1,y2,l)=>(S.eR l,.bn [.own 0,.int .i64 ((((S.abP y1 y2 l).1,(S.abP y1 y2 l).2)).2:Int)],[.row 5 [.int .u8] ((((S.abP y1 y2 l).1,(S.abP y1 y2 l).2)).1) false])
def aEi:SD->LR:=λ(y1,y2,l)=>λ
    |0=>some ⟨Nat,[(31,iN)],[(7,λk=>.cells [.int .i64 0]),(8,λk=>.cells [.sl [.str] (S.aA l)]),(10,λk=>.cells [.int .i64 ((S.len y1:Nat):Int),.str (S.root (S.leaves y1)),.sl [.int .i64,.int .i64,.int .i64,.str] (S.cL y1 y2),.own 300]),(300,λk=>.row 101 [.slice [.int .i64,.str,.str,.str,.slice [.str],.slice [.int .u8]]] (S.lD y2 (S.aA l) k) false)],[(Vg.Loc.cell 10 3,300)],[],[],λk=>S.gP y2 k/\S.gC y1 y2=true/\S.bL l=true,λk=>S.al (S.len y2) k⟩
    |_=>none
def aAg:Env:=cS 23 Aq aEh aAd
def aEq:atb->FR:=λ_=>(True,.bool true,[])
def aAj:Env:=cS 12 q1p aEq aAg
def aIk:aKs->FR:=λ(l,m,q)=>(True,.bool true,[])
def aMc:aKs->LR:=λ(l,m,q)=>λ
    |0=>some ⟨Nat,[(9,iN)],[(8,λk=>.cells [.sl [.slice [.int .u8]] (S.abH l m k).1,.sl [.int .i64,.int .i64,.slice [.str,.slice [.int .i64]]] (S.abH l m k).2])],[],[],[],λk=>S.aDN l k,λk=>S.al (S.pD l) k⟩
    |_=>none
def aMd:Env:=cS 4 aH1 aIk aAj
end Go.J

end
section
namespace Go.Vg
open Go Go.Shelf Go.RowKit Go.Proofs
variable [HP]
def encS(s:B8):Value:=.string ⟨s.toArray⟩
section
variable {w w':World} {A:Nat->Prop} {G:Nat->Option GD}
def Ay:∀(l:List B8) (cs:List Value),dc (br w A [.str]) cs l->cs=l.map encS/\∀s∈l,s.length<=maxLen
 |[],cs,h=>by grind[dc]
 |s::l,cs,⟨c1,c2,hc,h1,h2⟩=>by
  subst hc;obtain⟨v,bS,rfl,hv,rfl⟩:=h1;obtain⟨g1,g2⟩:=Ay l c2 h2;obtain⟨rfl,hl⟩:=hv;refine⟨by rw [g1];rfl,λs' jb=>?_⟩;rcases N!.1 jb with rfl|jb
  . exact hl
  grind
def Bo:∀(l:List B8),(∀s∈l,s.length<=maxLen)->dc (br w A [.str]) (l.map encS) l
 |[],_=>rfl
 |s::l,h=>⟨[encS s],l.map encS,rfl,by
   exact⟨_,[],rfl,by exact⟨rfl,h s z!⟩,rfl⟩,Bo l λs' jb=>h s' x!⟩
def VZ:∀(l:List Int) (cs:List Value),dc (br w A [.int .i64]) cs l->cs=l.map (Value.int .i64)/\∀z∈l,lo .i64<=z/\z<=hi .i64
 |[],cs,h=>by grind[dc]
 |s::l,cs,⟨c1,c2,hc,h1,h2⟩=>by
  subst hc;obtain⟨v,bS,rfl,hv,rfl⟩:=h1;obtain⟨g1,g2⟩:=VZ l c2 h2;obtain⟨rfl,hl⟩:=hv;refine⟨by rw [g1];rfl,λs' jb=>?_⟩;rcases N!.1 jb with rfl|jb
  . exact hl
  grind
def Hr:∀(l:List Int),(∀z∈l,lo .i64<=z/\z<=hi .i64)->dc (br w A [.int .i64]) (l.map (Value.int .i64)) l
 |[],_=>rfl
 |s::l,h=>⟨[.int .i64 s],l.map (Value.int .i64),rfl,by
   exact⟨_,[],rfl,by exact⟨rfl,h s z!⟩,rfl⟩,Hr l λs' jb=>h s' x!⟩
def Qo {e:Nat}{row:List Ty}{l:List (Row row)}{v:Value}{xs:List Value}(hA:∀b,A b->b<w.heap.size)(hb:Below w.heap.size w w')(ho:w'.ownsRow w.heap.size e row.length v l.length xs)(hr:dc (br w' A row) xs l):
  ∃A' aw,jX w A w' v (.own 0) [.row e row l false] A' aw:=by
 have hblk:∀b,ag v=some b->w.heap.size<=b:=by
  intro b ek;rcases ho.2 with⟨rfl,_⟩|⟨g,cap,cur,rfl,hg,_⟩
  . cases ek
  grind[ag,Option.some.injEq]
 have h1:v.oneCell'=true:=by
  rcases ho.2 with⟨rfl,_⟩|⟨g,cap,cur,rfl,hg,_⟩<;>rfl
 have ho0:w'.ownsRow 0 e row.length v l.length xs:=by
  refine⟨ho.1,?_⟩;rcases ho.2 with h|⟨g,cap,cur,g1,g2,g3⟩
  . grind
  grind
 refine⟨A,λ_=>v,{os:=hb.os,tape:=hb.tape,output:=hb.output,size:=hb.size,same:=hb.block,mono:=λ_ h=>h,gH:=λ_ _ h=>h,bound:=λb h=>N? (hA b h) hb.size,res:= ?_,rows:= ?_,apart:= ?_}⟩
 . simp_all[aa,trivial]
 . intro i ab hi;match i,hi with
   |0,hi=>
    simp at hi;subst hi;refine⟨⟨xs,ho0,hr,λb ek=>?_⟩,hblk⟩;grind
   |i+1,hi=>grind
 grind
end
def S6 {α γ:Type}(f:α->γ)(l:List α)(j:Nat)(d:γ)(hj:j<l.length):(l.map f).getD j d=f l[j]:=by
 grind
def Cm {P:Program}{f:FuncId}{args:Array Value}{w:World}{A:Nat->Prop}{e:Nat}{row:List Ty}(hA:∀b,A b->b<w.heap.size)
  (h:Calls P f args w λe w'=>e= .returned (.slice none 0 0)/\w'=w):Calls P f args w λex w'=>∃v,ex= .returned v/\∃A' aw,jX w A w' v (.own 0) [.row e row [] false] A' aw:=
 h.mono λex w' ⟨he,hw⟩=>by
  subst hw;exact⟨_,he,Qo (xs:=[]) hA (Below.refl _ _) ⟨z!,.inl ⟨rfl,rfl⟩⟩ rfl⟩
def qF {P:Program}{f:FuncId}{args:Array Value}{w:World}{A:Nat->Prop}{e:Nat}{row:List Ty}{l:List (Row row)}{xs:List Value}(hA:∀b,A b->b<w.heap.size)
  (hr:∀w',dc (br w' A row) xs l)
  (h:Calls P f args w λex w'=>∃v',ex= .returned v'/\w'.ownsRow w.heap.size e row.length v' l.length xs/\v'≠ .slice none 0 0/\Below w.heap.size w w'):
  Calls P f args w λex w'=>∃v,ex= .returned v/\∃A' aw,jX w A w' v (.own 0) [.row e row l false] A' aw:=
 h.mono λex w' ⟨v',he,ho,_,hb⟩=>⟨v',he,Qo hA hb ho (hr w')⟩
def Qp {w:World}{A:Nat->Prop}{β:Nat->Value}{row:List Ty}{args:List Value}{l:List (Row row)}(h:ae w A β args [.sl row l]):∃a cap cs,args=[.slice a l.length cap]/\l.length<=cap/\cap<=maxLen/\dc (br w A row) cs l/\
  (cs≠ []->∃b o,a=some ⟨b,o,none⟩/\A b/\w.rangeAt b o cs):=by
 simp [ae] at h;grind[aa,Rd]
def Ht {P:Program}{ρ:Ren}{G:Nat->Option GD}(L:SlLaysN.n42 P ρ){F:Row (PS.flat [.one (.slice [.str])])->Prop×AV×List AB}
  (hF:∀l:List B8,F l=(l.length<=1099511627776,.own 0,[.row (ρ.t 26) [.str] l false])):Valid P G (ρ.f 42) (eM [.one (.slice [.str])] F):=by
 intro w A β args aX pre res bs hA hG bj hs hp;unfold eM at hs;split at hs
 . rename_i x hx;have jb:=hs;rw [hF x] at jb;obtain⟨rfl,rfl,rfl⟩:=jb;obtain⟨g1,g2⟩:=qb _ hx bj;obtain⟨a,cap,cs,rfl,h1,h2,h3,h4⟩:=Qp (row:=[.str]) (l:=x) g1;obtain⟨rfl,hl⟩:=Ay x cs h3;cases x with
   |nil=>cases a with
    |none=>simp_all[Cm,AnyG.slices_Clone_string_nil]
    |some ad=>exact qF (xs:=[]) hA (λ_=>rfl) (AnyG.slices_Clone_string_zero L ad cap w)
   |cons s x=>
    obtain⟨b,o,rfl,Jb,hr⟩:=h4 z!;refine qF (xs:=(s::x).map encS) hA (λ_=>Bo _ hl) ?_
    have:=AnyG.slices_Clone_string L b o (s::x).length cap ((s::x).map λs=>⟨s.toArray⟩) w z! w! (λj hj=>by
     refine hr j _ ?_;simp at hj;rw [S6 _ _ _ _ hj,E?,D! hj];rfl)
    have e1:(((s::x).map λs=>(⟨s.toArray⟩:ByteArray)).take (s::x).length).map Value.string=(s::x).map encS:=by
     rw [l? z!,List.map_map];rfl
    grind
 grind
def Hu {P:Program}{ρ:Ren}{G:Nat->Option GD}(L:SlLaysN.n41 P ρ){F:Row (PS.flat [.one (.slice [.int .i64])])->Prop×AV×List AB}
  (hF:∀l:List Int,F l=(l.length<=1099511627776,.own 0,[.row (ρ.t 23) [.int .i64] l false])):Valid P G (ρ.f 41) (eM [.one (.slice [.int .i64])] F):=by
 intro w A β args aX pre res bs hA hG bj hs hp;unfold eM at hs;split at hs
 . rename_i x hx;have jb:=hs;rw [hF x] at jb;obtain⟨rfl,rfl,rfl⟩:=jb;obtain⟨g1,g2⟩:=qb _ hx bj;obtain⟨a,cap,cs,rfl,h1,h2,h3,h4⟩:=Qp (row:=[.int .i64]) (l:=x) g1;obtain⟨rfl,hl⟩:=VZ x cs h3;cases x with
   |nil=>cases a with
    |none=>simp_all[Cm,AnyG.slices_Clone_int_nil]
    |some ad=>exact qF (xs:=[]) hA (λ_=>rfl) (AnyG.slices_Clone_int_zero L ad cap w)
   |cons s x=>
    obtain⟨b,o,rfl,Jb,hr⟩:=h4 z!;refine qF (xs:=(s::x).map (Value.int .i64)) hA (λ_=>Hr _ hl) ?_
    have:=AnyG.slices_Clone_int L b o (s::x).length cap (s::x) w z! w! (λj hj=>by
     refine hr j _ ?_;grind)
    grind
 grind
end Go.Vg

end
section
namespace Go.Vg
open Go Go.Shelf Go.RowKit Go.Proofs Go.Sort Go.Lib
variable [HP]
theorem Az(a b:B8):ltOf S.iF a b=Op.bytesLess a b:=by
 grind[ltOf,S.iF,Op.bytesLess]
def adD:SWO (ltOf S.iF) where
 irrefl x:=by grind[Az,S.cJ]
 trans x y z h1 h2:=by grind[Az,S.lx]
 ntrans x y z h1 h2:=by
  grind[Az,S.jM,S.lx]
def V0(x y:B8)(h1:ltOf S.iF x y=false)(h2:ltOf S.iF y x=false):x=y:=by
 grind[Az,S.jM]
def FM {α:Type}[Inhabited α](enc:α->Value)(w:World)(rS off:Nat)(d:Array α){c:Array Value}{e:TypeId}{fr:Nat×Nat}(h:w.heap[rS]? =some (.cells c e fr)):
  (putRow enc w rS off d).heap[rS]? =some (.cells (putCells enc off d c) e fr):=by
 grind[putRow,mapBlock,onCells]
theorem ym {α:Type}[Inhabited α](enc:α->Value)(w:World)(rS off k:Nat)(d:Array α)(h:k≠rS):(putRow enc w rS off d).heap[k]? =w.heap[k]? :=by
 simp_all[putRow,mapBlock,Array.getElem?_modify,Ne.symm]
theorem size_putRow {α:Type}[Inhabited α](enc:α->Value)(w:World)(rS off:Nat)(d:Array α):(putRow enc w rS off d).heap.size=w.heap.size:=by
 simp_all
theorem AA(l:List B8)(c:Array Value)(h:l.length<=c.size):(putCells encS 0 l.toArray c).toList.take l.length=l.map encS:=by
 apply List.ext_getElem?;intro k;by_cases hk:k<l.length
 . grind[putCells,Array.getElem?_eq_getElem]
 grind
def AD {α:Type}[Inhabited α](enc:α->Value)(d:Array α)(c:Array Value):(putCells enc 0 d c).size=c.size:=by simp [putCells]
def Jf {P:Program}{ρ:Ren}{G:Nat->Option GD}(L:SlLaysF.n6 P ρ){g e:Nat}(eg:∀args w,(callFunc g args).run P w= .ok (.enter g args) w)
  (aCq:∀(x y:B8) (w:World),Calls P g #[encS x,encS y] w λe w'=>e= .returned (.int .i64 (S.iF x y))/\w'=w)
  {F:Row (TA.du [.own 50000,.fn (.func g) [] []])->bT [.row e [.str]]->bk}
  (hF:∀l:List B8,F () (l,())= {pre:=l.length<=1099511627776,res:=.bn [],heap:=[some (.row e [.str] (S.eD l) false)],new:=[]}):
  ay P G (ρ.f 6) (bH [.own 50000,.fn (.func g) [] []] [.row e [.str]] F):=by
 intro w A β args aX hs r hA hG bj eu tF mK hp hlen B1;unfold bH at mK;split at mK
 . rename_i cs dm;split at mK
   . rename_i x y hx hy;obtain⟨l,u⟩:=y;simp only [Option.some.injEq] at mK;have hxu:x=():=rfl;subst hxu;rw [hF l] at mK;subst mK;obtain⟨g1,g2⟩:=A4 dm hx bj;obtain⟨q1,q2,q3⟩:=ET (w:=w) (A:=A) (β:=β) [.row e [.str]] hs (l,u) 50000 hy eu;have hb:=q2 0 (.row e [.str] l false) rfl;have akl:hs.length=1:=by grind
     simp only [TA.pG,TA.put,ae] at g1;obtain⟨v0,bS,rfl,YH,v1,aCr,rfl,hv1,rfl⟩:=g1;simp only [aa] at YH hv1;obtain⟨YH,jF⟩:=YH;obtain⟨a1,a2,rfl,ha1,ha2⟩:=hv1;simp only [TA.pG,ae,List.drop_nil,List.take_nil] at ha1 ha2;have ea1:a1= #[]:=by grind
     have ea2:a2= #[]:=by grind
     subst ea1;subst ea2;obtain⟨xs,ho,qK,kD⟩:=hb;obtain⟨rfl,hl⟩:=Ay l xs qK;have Eh:∀s∈S.eD l,s.length<=maxLen:=λs jb=>hl s ((List.mergeSort_perm l _).subset jb);have M7:(S.eD l).length=l.length:=(List.mergeSort_perm l _).length_eq;simp only [O?,w?] at kD;rcases ho.2 with⟨Ts,hn2⟩|⟨g0,cap,cur,hv,_,S7,Ox,S8,cZ,yR⟩
     . 
      have QD:l=[]:=i?.1 hn2;subst QD;rw [YH,Ts];have Ww:S.eD []=[]:=i?.1 M7;rw [Ww];refine(AnyF.slices_SortFunc_none {L with} none 0 (.func (.func g) #[] #[]) w).mono λex w' ⟨he,hw⟩=>?_;subst hw;refine⟨_,he,A,β,{os:=rfl,tape:=rfl,output:=rfl,size:=S! _,same:=λ_ _ _=>rfl,mono:=λb h=>⟨h,rfl⟩,gH:=λ_ _ h=>.inl h,bound:=hA,res:=by simp only [aa];exact⟨#[],rfl,by rfl⟩,kept:= ?_,rows:= ?_,apart:= ?_}⟩
      . intro i ab hi;match i,hi with
        |0,hi=>
         simp only [List.getElem?_cons_zero,Option.some.injEq] at hi;subst hi;exact⟨⟨_,ho,qK,x!⟩,rfl⟩
        |i+1,hi=>simp at hi
      . grind
      . intro k k' b hk ew _ _;rcases hk with⟨i,ab,rfl,_,hi⟩|⟨j,_,hj⟩
        . rcases ew with⟨i',Bp,rfl,_,e7⟩|⟨j,_,hj⟩
          . grind
          grind
        . simp at hj
     . have S9:g0<w.heap.size:=(O!.1 S7).1;simp only [G?,List.length_nil,q?,Nat.mul_one] at cZ yR
       have Kt:∀j,j<l.length->cur[j]? =some (encS (l.toArray)[j]!):=λj hj=>by
        have h1:(cur.toList.take l.length)[j]? =some (encS l[j]):=by rw [yR,E?,D! hj];rfl
        rw [v?,R! hj,U?] at h1;rw [h1];simp [hj]
       have hH:Holds encS w g0 0 l.toArray:=λj hj=>by
        have fk:j<l.length:=by simpa using hj
        refine⟨?_,?_⟩
        . simp only [World.cell?,S7];simpa using Kt j fk
        . simp only [World.frozen?,S7];simp
       rw [YH,hv];have hc:=Any.slices_SortFunc_total L encS (λ_=>rfl) S.iF adD g #[] g0 0 cap l.toArray w eg (λm os dk _ x y=>(aCq x y _).mono λex w' ⟨he,hw⟩=>⟨he,0, #[],by rw [hw];rfl⟩) hH S9 x! V0
       have e1:(l.toArray.toList.mergeSort λx y=>!(ltOf S.iF) y x)=S.eD l:=by
        unfold S.eD;simp only [List.toList_toArray,Az]
       rw [e1] at hc;refine hc.mono λex w' ⟨he,n,os,hw⟩=>?_;have hw0:(putRow encS (Go.Sort.ahead w n) g0 0 (S.eD l).toArray).heap[g0]? =some (.cells (putCells encS 0 (S.eD l).toArray cur) e (0,0)):=FM encS (Go.Sort.ahead w n) g0 0 _ S7
       have hg1:w'.heap[g0]? =some (.cells (putCells encS 0 (S.eD l).toArray cur) e (0,0)):=by
        grind[sortWorld,grow,Array.getElem?_append_left,size_putRow]
       have yI:∀b,b<w.heap.size->b≠g0->w'.heap[b]? =w.heap[b]? :=λb hb dU=>by
        grind[sortWorld,grow,Array.getElem?_append_left,size_putRow,ym,encS,Go.Sort.ahead]
       have nb:w.heap.size<=w'.heap.size:=by
        rw [hw];unfold sortWorld grow;simp only [Array.size_append,size_putRow];exact Nat.le_add_right _ _
       have hHM:HM β 1 g0:=⟨0,w!,by rw [show β (50000+0)=β 50000 from rfl,hv];rfl⟩;have at1:¬A g0:=kD g0 (by rw [hv];rfl);refine⟨_,he,A,β,{os:=by rw [hw];rfl,tape:=by rw [hw];rfl,output:=by rw [hw];rfl,size:=nb,same:= ?_,mono:= ?_,gH:=λ_ _ h=>.inl h,bound:=λb h=>N? (hA b h) nb,res:=by simp only [aa];exact⟨#[],rfl,by rfl⟩,kept:= ?_,rows:= ?_,apart:= ?_}⟩
       . grind
       . grind
       . intro i ab hi;match i,hi with
         |0,hi=>
          simp only [a?,A!] at hi;subst hi;refine⟨⟨(S.eD l).map encS,⟨z!,.inr ⟨g0,cap,_,?_,T! _,hg1,w!,S8,by rw [AD];simpa using cZ,?_⟩⟩,Bo _ Eh,by simpa using kD⟩,rfl⟩
          . rw [M7];exact hv
          grind[AA]
         |i+1,hi=>simp at hi
       . intro j ab hj;simp at hj
       . intro k k' b hk ew _ _;rcases hk with⟨i,ab,rfl,_,hi⟩|⟨j,_,hj⟩
         . rcases ew with⟨i',Bp,rfl,_,e7⟩|⟨j,_,hj⟩
           . match i,i',hi,e7 with
             |0,0,_,_=>rfl
             |i+1,_,hi,_=>simp at hi
             |0,i+1,_,e7=>simp at e7
           . simp at hj
         . simp at hj
   grind
 grind
end Go.Vg

end
section
namespace Go.Vg
open Go Go.Shelf Go.RowKit Go.Proofs Go.Sort Go.Lib
variable [HP]
def YI {P:Program}{f:FuncId}{args:Array Value}{w:World}{A:Nat->Prop}{β:Nat->Value}{e nn:Nat}{l m:List B8}(hm:m.Perm l)(hA:∀b,A b->b<w.heap.size)(hn:nn=1)
  (hb:BR w A β 50000 (.row e [.str] l false)) (hlen:l.length<=1099511627776)
  (pX:β 50000= .slice none 0 0->l=[]->Calls P f args w λex w'=>ex= .returned (.tuple #[])/\w'=w)
  (akn:∀g0 cap,β 50000= .slice (some ⟨g0,0,none⟩) l.length cap->Holds encS w g0 0 l.toArray->g0<w.heap.size->l.length<4611686018427387904->Calls P f args w λex w'=>ex= .returned (.tuple #[])/\∃n os,w'=grow (putRow encS (Go.Sort.ahead w n) g0 0 m.toArray) os):
  Calls P f args w λex w'=>∃v,ex= .returned v/\∃A' aw,Gf w A β nn w' v {pre:=l.length<=1099511627776,res:=.bn [],heap:=[some (.row e [.str] m false)],new:=[]} A' aw:=by
 obtain⟨xs,ho,qK,kD⟩:=hb;obtain⟨rfl,hl⟩:=Ay l xs qK;have Eh:∀s∈m,s.length<=maxLen:=λs jb=>hl s (hm.subset jb);have M7:m.length=l.length:=hm.length_eq;simp only [O?,w?] at kD;rcases ho.2 with⟨Ts,hn2⟩|⟨g0,cap,cur,hv,_,S7,Ox,S8,cZ,yR⟩
 . 
  have QD:l=[]:=i?.1 hn2;subst QD;have Ww:m=[]:=i?.1 M7;rw [Ww];refine(pX Ts rfl).mono λex w' ⟨he,hw⟩=>?_;subst hw;refine⟨_,he,A,β,{os:=rfl,tape:=rfl,output:=rfl,size:=S! _,same:=λ_ _ _=>rfl,mono:=λb h=>⟨h,rfl⟩,gH:=λ_ _ h=>.inl h,bound:=hA,res:=by simp only [aa];exact⟨#[],rfl,by rfl⟩,kept:= ?_,rows:= ?_,apart:= ?_}⟩
  . intro i ab hi;match i,hi with
    |0,hi=>
     simp only [List.getElem?_cons_zero,Option.some.injEq] at hi;subst hi;exact⟨⟨_,ho,qK,x!⟩,rfl⟩
    |i+1,hi=>grind
  . grind
  . intro k k' b hk ew _ _;rcases hk with⟨i,ab,rfl,_,hi⟩|⟨j,_,hj⟩
    . rcases ew with⟨i',Bp,rfl,_,e7⟩|⟨j,_,hj⟩
      . match i,i',hi,e7 with
        |0,0,_,_=>rfl
        |i+1,_,hi,_=>simp at hi
        |0,i+1,_,e7=>simp at e7
      . simp at hj
    grind
 . have S9:g0<w.heap.size:=(O!.1 S7).1;simp only [G?,List.length_nil,q?,Nat.mul_one] at cZ yR
   have Kt:∀j,j<l.length->cur[j]? =some (encS (l.toArray)[j]!):=λj hj=>by
    have h1:(cur.toList.take l.length)[j]? =some (encS l[j]):=by rw [yR,E?,D! hj];rfl
    rw [v?,R! hj,U?] at h1;rw [h1];simp [hj]
   have hH:Holds encS w g0 0 l.toArray:=λj hj=>by
    have fk:j<l.length:=by simpa using hj
    refine⟨?_,?_⟩
    . simp only [World.cell?,S7];simpa using Kt j fk
    . simp only [World.frozen?,S7];simp
   refine(akn g0 cap hv hH S9 w!).mono λex w' ⟨he,n,os,hw⟩=>?_;have hw0:(putRow encS (Go.Sort.ahead w n) g0 0 m.toArray).heap[g0]? =some (.cells (putCells encS 0 m.toArray cur) e (0,0)):=FM encS (Go.Sort.ahead w n) g0 0 _ S7
   have hg1:w'.heap[g0]? =some (.cells (putCells encS 0 m.toArray cur) e (0,0)):=by
    rw [hw];unfold grow;simp only;rw [Array.getElem?_append_left (by rw [size_putRow];exact S9)];exact hw0
   have yI:∀b,b<w.heap.size->b≠g0->w'.heap[b]? =w.heap[b]? :=λb hb dU=>by
    rw [hw];unfold grow;simp only;rw [Array.getElem?_append_left (by rw [size_putRow];exact hb),ym encS (Go.Sort.ahead w n) g0 0 b _ dU];rfl
   have nb:w.heap.size<=w'.heap.size:=by
    rw [hw];unfold grow;simp only [Array.size_append,size_putRow];exact Nat.le_add_right _ _
   have hHM:HM β 1 g0:=⟨0,w!,by rw [show β (50000+0)=β 50000 from rfl,hv];rfl⟩;have at1:¬A g0:=kD g0 (by rw [hv];rfl);refine⟨_,he,A,β,{os:=by rw [hw];rfl,tape:=by rw [hw];rfl,output:=by rw [hw];rfl,size:=nb,same:= ?_,mono:= ?_,gH:=λ_ _ h=>.inl h,bound:=λb h=>N? (hA b h) nb,res:=by simp only [aa];exact⟨#[],rfl,by simp [ae]⟩,kept:= ?_,rows:= ?_,apart:= ?_}⟩
   . intro b hb dU;rw [hn] at dU;exact yI b hb (λh=>dU (h▸hHM))
   . intro b Jb;exact⟨Jb,yI b (hA b Jb) (λh=>at1 (h▸Jb))⟩
   . intro i ab hi;match i,hi with
     |0,hi=>
      simp only [a?,A!] at hi;subst hi;refine⟨⟨m.map encS,⟨z!,.inr ⟨g0,cap,_,?_,T! _,hg1,w!,S8,by rw [AD];simpa using cZ,?_⟩⟩,Bo _ Eh,by simpa using kD⟩,rfl⟩
      . rw [M7];exact hv
      . have:=AA m cur w!;simpa using this
     |i+1,hi=>simp at hi
   . intro j ab hj;simp at hj
   . intro k k' b hk ew _ _;rcases hk with⟨i,ab,rfl,_,hi⟩|⟨j,_,hj⟩
     . rcases ew with⟨i',Bp,rfl,_,e7⟩|⟨j,_,hj⟩
       . match i,i',hi,e7 with
         |0,0,_,_=>rfl
         |i+1,_,hi,_=>simp at hi
         |0,i+1,_,e7=>simp at e7
       . simp at hj
     . simp at hj
def IW {P:Program}{f:FuncId}{G:Nat->Option GD}{e:Nat}{m:List B8->List B8}(hm:∀l,(m l).Perm l)
  {F:Row (TA.du [.own 50000])->bT [.row e [.str]]->bk}
  (hF:∀l:List B8,F () (l,())= {pre:=l.length<=1099511627776,res:=.bn [],heap:=[some (.row e [.str] (m l) false)],new:=[]})
  (pX:∀w,Calls P f #[.slice none 0 0] w λex w'=>ex= .returned (.tuple #[])/\w'=w)
  (akn:∀(l:List B8) w g0 cap,Holds encS w g0 0 l.toArray->g0<w.heap.size->l.length<4611686018427387904->Calls P f #[.slice (some ⟨g0,0,none⟩) l.length cap] w λex w'=>ex= .returned (.tuple #[])/\∃n os,w'=grow (putRow encS (Go.Sort.ahead w n) g0 0 (m l).toArray) os):
  ay P G f (bH [.own 50000] [.row e [.str]] F):=by
 intro w A β args aX hs r hA hG bj eu tF mK hp hlen B1;unfold bH at mK;split at mK
 . rename_i cs dm;split at mK
   . rename_i x y hx hy;obtain⟨l,u⟩:=y;simp only [Option.some.injEq] at mK;have hxu:x=():=rfl;subst hxu;rw [hF l] at mK;subst mK;obtain⟨g1,g2⟩:=A4 dm hx bj;obtain⟨q1,q2,q3⟩:=ET (w:=w) (A:=A) (β:=β) [.row e [.str]] hs (l,u) 50000 hy eu;have hb:=q2 0 (.row e [.str] l false) rfl;have akl:hs.length=1:=by grind
     simp only [TA.pG,TA.put,ae] at g1;obtain⟨v0,bS,rfl,YH,rfl⟩:=g1;simp [aa] at YH;refine YI (hm l) hA akl hb hp (λTs _=>?_) (λg0 cap hv hH hg hl=>?_)
     . grind
     grind
   grind
 grind
def adE(l:List B8):(l.mergeSort λx y=>decide (x<=y))=S.eD l:=by
 grind[S.eD,bytesLess_eq,decide_eq_true,decide_eq_false]
def Jg {P:Program}{ρ:Ren}{G:Nat->Option GD}(L:SlLaysM.n6 P ρ){e:Nat}{F:Row (TA.du [.own 50000])->bT [.row e [.str]]->bk}
  (hF:∀l:List B8,F () (l,())= {pre:=l.length<=1099511627776,res:=.bn [],heap:=[some (.row e [.str] (S.eD l) false)],new:=[]}):
  ay P G (ρ.f 6) (bH [.own 50000] [.row e [.str]] F):=
 IW S.zL hF (AnyM.slices_Sort_string_none L none 0) (λl w g0 cap hH hg hl=>by
  have hc:=AnyM.slices_Sort_string L g0 0 cap l w hH hg hl;rw [adE] at hc;exact hc)
def M8 {P:Program}{ρ:Ren}{G:Nat->Option GD}(L:SlLaysN.n36 P ρ){e:Nat}{F:Row (TA.du [.own 50000])->bT [.row e [.str]]->bk}
  (hF:∀l:List B8,F () (l,())= {pre:=l.length<=1099511627776,res:=.bn [],heap:=[some (.row e [.str] (S.L6 l) false)],new:=[]}):
  ay P G (ρ.f 36) (bH [.own 50000] [.row e [.str]] F):=
 IW List.reverse_perm hF (AnyG.slices_Reverse_string_empty L none 0) (λl w g0 cap hH hg hl=>
  (AnyG.slices_Reverse_string L g0 0 cap l w hH w!).mono λex w' ⟨he,n,hw⟩=>⟨he,n, #[],by rw [hw];rfl⟩)
end Go.Vg

end
section
namespace Go.Proofs
open Go.Shelf
def Tryz.IX:Go.Shelf.Ren:=⟨λ|7=>218|10=>284|n=>n,λ|23=>305|26=>9|3=>27|28=>308|0=>0|27=>307|33=>123|4=>4|n=>n,λ|n=>n⟩
def Tryz.abu:Go.Proofs.SlLaysZ.n7 Tryz.prog Tryz.IX:={
 mixed:=by kernel_rfl
 f7:=⟨Tryz.f218.name,by decide,Tryz.func218.trans (congrArg some y!)⟩
 f10:=⟨Tryz.f284.name,by decide,Tryz.func284.trans (congrArg some y!)⟩
 t0:=Tryz.underlying0
 a0:=Tryz.isAgg0
 z0:=Tryz.sizeOf0
 v0:=Tryz.zeroValue0
 t4:=Tryz.underlying4
 a4:=Tryz.isAgg4
 z4:=Tryz.sizeOf4
 v4:=Tryz.zeroValue4
 t23:=Tryz.underlying305
 a23:=Tryz.isAgg305
 z23:=Tryz.sizeOf305
 v23:=Tryz.zeroValue305
 t26:=Tryz.underlying9
 a26:=Tryz.isAgg9
 z26:=Tryz.sizeOf9
 v26:=Tryz.zeroValue9
 t27:=Tryz.underlying307
 a27:=Tryz.isAgg307
 z27:=Tryz.sizeOf307
 v27:=Tryz.zeroValue307
 t28:=Tryz.underlying308
 a28:=Tryz.isAgg308
 z28:=Tryz.sizeOf308
 v28:=Tryz.zeroValue308
 t33:=Tryz.underlying123
 a33:=Tryz.isAgg123
 z33:=Tryz.sizeOf123
 v33:=Tryz.zeroValue123}
def Tryz.Cn:Go.Shelf.Ren:=⟨λ|6=>217|8=>283|9=>97|11=>310|13=>185|12=>184|23=>265|24=>266|14=>257|15=>258|16=>259|17=>260|18=>261|19=>262|20=>191|21=>263|22=>264|25=>298|26=>299|27=>300|28=>301|29=>302|30=>270|31=>314|n=>n,λ|26=>9|28=>308|24=>56|0=>0|3=>3|37=>283|48=>323|50=>357|4=>4|40=>350|39=>349|45=>193|5=>5|9=>9|51=>380|55=>384|57=>396|58=>341|33=>123|n=>n,λ|n=>n⟩
def Tryz.adF:Go.Proofs.SlLaysZ.n6 Tryz.prog Tryz.Cn:={
 mixed:=by kernel_rfl
 f6:=⟨Tryz.f217.name,by decide,Tryz.func217.trans (congrArg some y!)⟩
 f8:=⟨Tryz.f283.name,by decide,Tryz.func283.trans (congrArg some y!)⟩
 f11:=⟨Tryz.f310.name,by decide,Tryz.func310.trans (congrArg some y!)⟩
 t0:=Tryz.underlying0
 a0:=Tryz.isAgg0
 z0:=Tryz.sizeOf0
 v0:=Tryz.zeroValue0
 t24:=Tryz.underlying56
 a24:=Tryz.isAgg56
 z24:=Tryz.sizeOf56
 v24:=Tryz.zeroValue56
 t26:=Tryz.underlying9
 a26:=Tryz.isAgg9
 z26:=Tryz.sizeOf9
 v26:=Tryz.zeroValue9
 t28:=Tryz.underlying308
 a28:=Tryz.isAgg308
 z28:=Tryz.sizeOf308
 v28:=Tryz.zeroValue308
 i26:=by kernel_rfl}
def Tryz.V1:Go.Shelf.Ren:=⟨λ|6=>97|8=>185|9=>184|19=>265|20=>266|21=>257|22=>258|23=>259|24=>260|25=>261|26=>262|27=>191|28=>263|29=>264|36=>298|31=>299|32=>300|37=>301|38=>302|39=>270|41=>314|n=>n,λ|27=>56|29=>9|3=>3|32=>283|26=>56|0=>0|44=>323|46=>357|4=>4|36=>350|35=>349|41=>193|5=>5|9=>9|53=>380|57=>384|63=>396|64=>341|n=>n,λ|n=>n⟩
def Tryz.Ta:Go.Proofs.SlLaysM.n6 Tryz.prog Tryz.V1:={
 mixed:=by kernel_rfl
 f6:=⟨Tryz.f97.name,by decide,Tryz.func97.trans (congrArg some y!)⟩
 f8:=Tryz.func185.trans (congrArg some y!)
 f9:=⟨Tryz.f184.name,by decide,Tryz.func184.trans (congrArg some y!)⟩
 f19:=Tryz.func265.trans (congrArg some y!)
 f20:=Tryz.func266.trans (congrArg some y!)
 f21:=⟨Tryz.f257.name,by decide,Tryz.func257.trans (congrArg some y!)⟩
 f22:=⟨Tryz.f258.name,by decide,Tryz.func258.trans (congrArg some y!)⟩
 f23:=⟨Tryz.f259.name,by decide,Tryz.func259.trans (congrArg some y!)⟩
 f24:=⟨Tryz.f260.name,by decide,Tryz.func260.trans (congrArg some y!)⟩
 f25:=⟨Tryz.f261.name,by decide,Tryz.func261.trans (congrArg some y!)⟩
 f26:=⟨Tryz.f262.name,by decide,Tryz.func262.trans (congrArg some y!)⟩
 f27:=⟨Tryz.f191.name,by decide,Tryz.func191.trans (congrArg some y!)⟩
 f28:=⟨Tryz.f263.name,by decide,Tryz.func263.trans (congrArg some y!)⟩
 f29:=⟨Tryz.f264.name,by decide,Tryz.func264.trans (congrArg some y!)⟩
 f31:=Tryz.func299.trans (congrArg some y!)
 f32:=Tryz.func300.trans (congrArg some y!)
 f36:=⟨Tryz.f298.name,by decide,Tryz.func298.trans (congrArg some y!)⟩
 f37:=⟨Tryz.f301.name,by decide,Tryz.func301.trans (congrArg some y!)⟩
 f38:=⟨Tryz.f302.name,by decide,Tryz.func302.trans (congrArg some y!)⟩
 f39:=⟨Tryz.f270.name,by decide,Tryz.func270.trans (congrArg some y!)⟩
 f41:=⟨Tryz.f314.name,by decide,Tryz.func314.trans (congrArg some y!)⟩
 t0:=Tryz.underlying0
 a0:=Tryz.isAgg0
 z0:=Tryz.sizeOf0
 v0:=Tryz.zeroValue0
 t3:=Tryz.underlying3
 a3:=Tryz.isAgg3
 z3:=Tryz.sizeOf3
 v3:=Tryz.zeroValue3
 t4:=Tryz.underlying4
 a4:=Tryz.isAgg4
 z4:=Tryz.sizeOf4
 v4:=Tryz.zeroValue4
 t5:=Tryz.underlying5
 a5:=Tryz.isAgg5
 z5:=Tryz.sizeOf5
 v5:=Tryz.zeroValue5
 t9:=Tryz.underlying9
 a9:=Tryz.isAgg9
 z9:=Tryz.sizeOf9
 v9:=Tryz.zeroValue9
 t26:=Tryz.underlying56
 a26:=Tryz.isAgg56
 z26:=Tryz.sizeOf56
 v26:=Tryz.zeroValue56
 t27:=Tryz.underlying56
 a27:=Tryz.isAgg56
 z27:=Tryz.sizeOf56
 v27:=Tryz.zeroValue56
 t29:=Tryz.underlying9
 a29:=Tryz.isAgg9
 z29:=Tryz.sizeOf9
 v29:=Tryz.zeroValue9
 t32:=Tryz.underlying283
 a32:=Tryz.isAgg283
 z32:=Tryz.sizeOf283
 v32:=Tryz.zeroValue283
 t35:=Tryz.underlying349
 a35:=Tryz.isAgg349
 z35:=Tryz.sizeOf349
 v35:=Tryz.zeroValue349
 t36:=Tryz.underlying350
 a36:=Tryz.isAgg350
 z36:=Tryz.sizeOf350
 v36:=Tryz.zeroValue350
 t41:=Tryz.underlying193
 a41:=Tryz.isAgg193
 z41:=Tryz.sizeOf193
 v41:=Tryz.zeroValue193
 t44:=Tryz.underlying323
 a44:=Tryz.isAgg323
 z44:=Tryz.sizeOf323
 v44:=Tryz.zeroValue323
 t46:=Tryz.underlying357
 a46:=Tryz.isAgg357
 z46:=Tryz.sizeOf357
 v46:=Tryz.zeroValue357
 t53:=Tryz.underlying380
 a53:=Tryz.isAgg380
 z53:=Tryz.sizeOf380
 v53:=Tryz.zeroValue380
 t57:=Tryz.underlying384
 a57:=Tryz.isAgg384
 z57:=Tryz.sizeOf384
 v57:=Tryz.zeroValue384
 t63:=Tryz.underlying396
 a63:=Tryz.isAgg396
 z63:=Tryz.sizeOf396
 v63:=Tryz.zeroValue396
 t64:=Tryz.underlying341
 a64:=Tryz.isAgg341
 z64:=Tryz.sizeOf341
 v64:=Tryz.zeroValue341}
def Tryz.M9:Go.Shelf.Ren:=⟨λ|42=>306|n=>n,λ|25=>56|26=>9|4=>4|n=>n,λ|n=>n⟩
def Tryz.YJ:Go.Proofs.SlLaysN.n42 Tryz.prog Tryz.M9:={
 mixed:=by kernel_rfl
 f42:=⟨Tryz.f306.name,by decide,Tryz.func306.trans (congrArg some y!)⟩
 t4:=Tryz.underlying4
 a4:=Tryz.isAgg4
 z4:=Tryz.sizeOf4
 v4:=Tryz.zeroValue4
 t25:=Tryz.underlying56
 a25:=Tryz.isAgg56
 z25:=Tryz.sizeOf56
 v25:=Tryz.zeroValue56
 t26:=Tryz.underlying9
 a26:=Tryz.isAgg9
 z26:=Tryz.sizeOf9
 v26:=Tryz.zeroValue9
 i26:=by kernel_rfl}
def Tryz.Na:Go.Shelf.Ren:=⟨λ|41=>105|n=>n,λ|22=>27|23=>3|4=>4|n=>n,λ|n=>n⟩
def Tryz.YK:Go.Proofs.SlLaysN.n41 Tryz.prog Tryz.Na:={
 mixed:=by kernel_rfl
 f41:=⟨Tryz.f105.name,by decide,Tryz.func105.trans (congrArg some y!)⟩
 t4:=Tryz.underlying4
 a4:=Tryz.isAgg4
 z4:=Tryz.sizeOf4
 v4:=Tryz.zeroValue4
 t22:=Tryz.underlying27
 a22:=Tryz.isAgg27
 z22:=Tryz.sizeOf27
 v22:=Tryz.zeroValue27
 t23:=Tryz.underlying3
 a23:=Tryz.isAgg3
 z23:=Tryz.sizeOf3
 v23:=Tryz.zeroValue3
 i23:=by kernel_rfl}
def Tryz.YL:Go.Shelf.Ren:=⟨λ|6=>307|15=>185|14=>316|28=>265|29=>266|20=>319|21=>320|22=>321|23=>322|24=>323|25=>324|26=>325|27=>326|46=>327|47=>299|48=>300|49=>328|50=>329|57=>330|n=>n,λ|22=>56|24=>9|25=>368|3=>3|39=>283|0=>0|53=>323|55=>357|4=>4|46=>350|45=>349|50=>193|5=>5|9=>9|66=>380|70=>384|76=>396|77=>341|n=>n,λ|n=>n⟩
def Tryz.azx:Go.Proofs.SlLaysF.n6 Tryz.prog Tryz.YL:={
 mixed:=by kernel_rfl
 f6:=⟨Tryz.f307.name,by decide,Tryz.func307.trans (congrArg some y!)⟩
 f14:=⟨Tryz.f316.name,by decide,Tryz.func316.trans (congrArg some y!)⟩
 f15:=Tryz.func185.trans (congrArg some y!)
 f20:=⟨Tryz.f319.name,by decide,Tryz.func319.trans (congrArg some y!)⟩
 f21:=⟨Tryz.f320.name,by decide,Tryz.func320.trans (congrArg some y!)⟩
 f22:=⟨Tryz.f321.name,by decide,Tryz.func321.trans (congrArg some y!)⟩
 f23:=⟨Tryz.f322.name,by decide,Tryz.func322.trans (congrArg some y!)⟩
 f24:=⟨Tryz.f323.name,by decide,Tryz.func323.trans (congrArg some y!)⟩
 f25:=⟨Tryz.f324.name,by decide,Tryz.func324.trans (congrArg some y!)⟩
 f26:=⟨Tryz.f325.name,by decide,Tryz.func325.trans (congrArg some y!)⟩
 f27:=⟨Tryz.f326.name,by decide,Tryz.func326.trans (congrArg some y!)⟩
 f28:=Tryz.func265.trans (congrArg some y!)
 f29:=Tryz.func266.trans (congrArg some y!)
 f46:=⟨Tryz.f327.name,by decide,Tryz.func327.trans (congrArg some y!)⟩
 f47:=Tryz.func299.trans (congrArg some y!)
 f48:=Tryz.func300.trans (congrArg some y!)
 f49:=⟨Tryz.f328.name,by decide,Tryz.func328.trans (congrArg some y!)⟩
 f50:=⟨Tryz.f329.name,by decide,Tryz.func329.trans (congrArg some y!)⟩
 f57:=⟨Tryz.f330.name,by decide,Tryz.func330.trans (congrArg some y!)⟩
 t0:=Tryz.underlying0
 a0:=Tryz.isAgg0
 z0:=Tryz.sizeOf0
 v0:=Tryz.zeroValue0
 t3:=Tryz.underlying3
 a3:=Tryz.isAgg3
 z3:=Tryz.sizeOf3
 v3:=Tryz.zeroValue3
 t4:=Tryz.underlying4
 a4:=Tryz.isAgg4
 z4:=Tryz.sizeOf4
 v4:=Tryz.zeroValue4
 t5:=Tryz.underlying5
 a5:=Tryz.isAgg5
 z5:=Tryz.sizeOf5
 v5:=Tryz.zeroValue5
 t9:=Tryz.underlying9
 a9:=Tryz.isAgg9
 z9:=Tryz.sizeOf9
 v9:=Tryz.zeroValue9
 t22:=Tryz.underlying56
 a22:=Tryz.isAgg56
 z22:=Tryz.sizeOf56
 v22:=Tryz.zeroValue56
 a24:=Tryz.isAgg9
 z24:=Tryz.sizeOf9
 t25:=Tryz.underlying368
 a25:=Tryz.isAgg368
 z25:=Tryz.sizeOf368
 v25:=Tryz.zeroValue368
 t39:=Tryz.underlying283
 a39:=Tryz.isAgg283
 z39:=Tryz.sizeOf283
 v39:=Tryz.zeroValue283
 t45:=Tryz.underlying349
 a45:=Tryz.isAgg349
 z45:=Tryz.sizeOf349
 v45:=Tryz.zeroValue349
 t46:=Tryz.underlying350
 a46:=Tryz.isAgg350
 z46:=Tryz.sizeOf350
 v46:=Tryz.zeroValue350
 t50:=Tryz.underlying193
 a50:=Tryz.isAgg193
 z50:=Tryz.sizeOf193
 v50:=Tryz.zeroValue193
 t53:=Tryz.underlying323
 a53:=Tryz.isAgg323
 z53:=Tryz.sizeOf323
 v53:=Tryz.zeroValue323
 t55:=Tryz.underlying357
 a55:=Tryz.isAgg357
 z55:=Tryz.sizeOf357
 v55:=Tryz.zeroValue357
 t66:=Tryz.underlying380
 a66:=Tryz.isAgg380
 z66:=Tryz.sizeOf380
 v66:=Tryz.zeroValue380
 t70:=Tryz.underlying384
 a70:=Tryz.isAgg384
 z70:=Tryz.sizeOf384
 v70:=Tryz.zeroValue384
 t76:=Tryz.underlying396
 a76:=Tryz.isAgg396
 z76:=Tryz.sizeOf396
 v76:=Tryz.zeroValue396
 t77:=Tryz.underlying341
 a77:=Tryz.isAgg341
 z77:=Tryz.sizeOf341
 v77:=Tryz.zeroValue341}
def Tryz.V2:Go.Shelf.Ren:=⟨λ|36=>174|n=>n,λ|25=>56|26=>9|3=>3|4=>4|0=>0|n=>n,λ|n=>n⟩
def Tryz.ar0:Go.Proofs.SlLaysN.n36 Tryz.prog Tryz.V2:={
 mixed:=by kernel_rfl
 f36:=⟨Tryz.f174.name,by decide,Tryz.func174.trans (congrArg some y!)⟩
 t0:=Tryz.underlying0
 a0:=Tryz.isAgg0
 z0:=Tryz.sizeOf0
 v0:=Tryz.zeroValue0
 t3:=Tryz.underlying3
 a3:=Tryz.isAgg3
 z3:=Tryz.sizeOf3
 v3:=Tryz.zeroValue3
 t4:=Tryz.underlying4
 a4:=Tryz.isAgg4
 z4:=Tryz.sizeOf4
 v4:=Tryz.zeroValue4
 t25:=Tryz.underlying56
 a25:=Tryz.isAgg56
 z25:=Tryz.sizeOf56
 v25:=Tryz.zeroValue56
 t26:=Tryz.underlying9
 a26:=Tryz.isAgg9
 z26:=Tryz.sizeOf9
 v26:=Tryz.zeroValue9}
end Go.Proofs

end
section
namespace Go.Proofs
open Go.RowKit Go.Maps Go.Sort Go.Shelf
def Tryz.ako(m:Nat):AnyZ.SortsIn Tryz.prog Tryz.Cn Fence.wide m:=
 ⟨λrS off cap ss W hH hblk cZ=>callsIn_wide.2 (AnyM.slices_Sort_string Tryz.Ta rS off cap ss W hH hblk cZ),
  λp cap W=>callsIn_wide.2 (AnyM.slices_Sort_string_none Tryz.Ta p cap W)⟩
def Tryz.Oh(mb:Option Nat)(W:World):CallsIn Fence.wide 5 Tryz.prog 218 #[.map mb] W λe w'=>e= .returned (.func (.func 284) #[] #[.pointer (some ⟨W.heap.size,0,none⟩)])/\w'=W.alloc (.cells #[.map mb] 305):=
 AnyZ.keys_in Tryz.abu Fence.wide 5 trivial rfl mb W
set_option maxHeartbeats 1000000 in
theorem Tryz.tJ {H:Type}(b nn:Nat)(D0:DataW H)(R:Value->Option (DataW H×List MemPlace))(w:World)(ib:w.ownsMap Tryz.prog 9 R b nn D0)(Ü:Maps.size D0<=maxLen)(AK:Maps.size D0*16<=140737488355328):
  CallsIn Fence.wide 5 Tryz.prog 217 #[.func (.func 284) #[] #[.pointer (some ⟨w.heap.size,0,none⟩)]] (w.alloc (.cells #[.map (some b)] 305)) λe w'=>∃(v:Value) (ss:List B8),e= .returned v/\ss.Perm (strKeys D0)/\
   w'.ownsRow (w.alloc (.cells #[.map (some b)] 305)).heap.size 9 1 v ss.length ((ss.mergeSort (λx y=>decide (x<=y))).map encStr)/\(v= .slice none 0 0↔ss=[])/\Below (w.alloc (.cells #[.map (some b)] 305)).heap.size (w.alloc (.cells #[.map (some b)] 305)) w':=by
 have xi:=ib.lt
 have OS:SeqGives Fence.wide 2 Tryz.prog 284 #[.pointer (some ⟨w.heap.size,0,none⟩)] encStr (λss=>ss.Perm (strKeys D0)) (Maps.size D0) (w.alloc (.cells #[.map (some b)] 305)):=
  AnyZ.keys_gives (ρ:=Tryz.IX) {Tryz.abu with} Fence.wide _ trivial rfl w! w.heap.size b nn D0 _ z! z! (by
   obtain⟨es,clock,hb,Ft,hs,hD⟩:=ib;exact⟨es,clock,(Below.heap_alloc _ _ b xi).trans hb,Ft,hs,hD⟩)
 exact AnyZ.sorted_in Tryz.adF Fence.wide 5 trivial trivial trivial trivial rfl w! (Tryz.ako _) (enters_of Tryz.func97 y! rfl) 284 #[.pointer (some ⟨w.heap.size,0,none⟩)] trivial (enters_of Tryz.func284 y! rfl) _ _ Ü AK _ OS
end Go.Proofs

end
section
namespace Go.Proofs
open Go.Shelf Go.RowKit Go.Lib Go.Sort
theorem ar1 {x y:B8}(h:Op.bytesLess x y=true):S.iF x y= -1:=by unfold S.iF;rw [if_pos h]
def ar2 {x y:B8}(h:Op.bytesLess x y=false)(h2:(!x==y)=true):S.iF x y=1:=by
 have dU:x≠y:=by simpa using h2
 unfold S.iF;rw [h];rcases S.jM x y with t|t|t
 . rw [t] at h;cases h
 . exact absurd t dU
 . rw [t];rfl
def ar3 {x y:B8}(h:Op.bytesLess x y=false)(h2:(!x==y)=false):S.iF x y=0:=by
 have he:x=y:=by simpa using h2
 subst he;unfold S.iF;rw [h];rfl
def Tryz.YM(x:ByteArray)(w:World):Calls Tryz.prog 270 #[.string x] w λe w'=>e= .returned (.bool false)/\w'=w:=by
 go_enter Tryz.func270,Tryz.ntmps270
 go_wp2
 go_ret
 exact⟨z!,rfl⟩
set_option maxHeartbeats 1000000 in
def Tryz.Tb(x y:B8)(w:World):Calls Tryz.prog 282 #[Vg.encS x,Vg.encS y] w λe w'=>e= .returned (.int .i64 (S.iF x y))/\w'=w:=by
 unfold Vg.encS;go_enter Tryz.func282,Tryz.ntmps282
 go_wp2_with (go_at_call 270;refine(Tryz.YM _ _).mono ?_;rintro e w' ⟨rfl,rfl⟩)
 all_goals go_ret
 all_goals refine⟨?_,rfl⟩
 all_goals first
  |(rw [ar1 (by assumption)];rfl)
  |(rw [ar2 (by assumption) (by assumption)];rfl)
  |(rw [ar3 (by assumption) (by assumption)];rfl)
def Tryz.ar4 {G:Nat->Option Vg.GD}{F:Vg.Row (Vg.TA.du [.own 50000,.fn (.func 282) [] []])->Vg.bT [.row 9 [.str]]->Vg.bk}
  (hF:∀l:List B8,F () (l,())= {pre:=l.length<=1099511627776,res:=.bn [],heap:=[some (.row 9 [.str] (S.eD l) false)],new:=[]}):
  Vg.ay Tryz.prog G 307 (Vg.bH [.own 50000,.fn (.func 282) [] []] [.row 9 [.str]] F):=
 Vg.Jf Tryz.azx (enters_of Tryz.func282 y! rfl) Tryz.Tb hF
end Go.Proofs

end
section
namespace Go.Proofs
open Go.Shelf Go.RowKit Go.Lib Go.Sort
def Tryz.akp {G:Nat->Option Vg.GD}{F:Vg.Row (Vg.TA.du [.own 50000])->Vg.bT [.row 9 [.str]]->Vg.bk}
 (hF:∀l:List B8,F () (l,())= {pre:=l.length<=1099511627776,res:=.bn [],heap:=[some (.row 9 [.str] (S.eD l) false)],new:=[]}):
 Vg.ay Tryz.prog G 97 (Vg.bH [.own 50000] [.row 9 [.str]] F):=Vg.Jg Tryz.Ta hF
def Tryz.azy {G:Nat->Option Vg.GD}{F:Vg.Row (Vg.TA.du [.own 50000])->Vg.bT [.row 9 [.str]]->Vg.bk}
 (hF:∀l:List B8,F () (l,())= {pre:=l.length<=1099511627776,res:=.bn [],heap:=[some (.row 9 [.str] (S.L6 l) false)],new:=[]}):
 Vg.ay Tryz.prog G 174 (Vg.bH [.own 50000] [.row 9 [.str]] F):=Vg.M8 Tryz.ar0 hF
end Go.Proofs

end
section
namespace Go.DM
open Go Go.Vg Go.Maps Go.RowKit Go.ChangeShapes
section
variable {H:Type}
def items:DataW H->List Int
 |.slice ls _=>ls.filterMap λd=>match d with|.lit (.int _ z)=>some z|_=>none
 |_=>[]
def V3(zs:List Int):items (H:=H) (.slice (lits .i64 zs) [])=zs:=by
 induction zs with
 |nil=>rfl
 |cons z zs ih=>
  simp only [items,lits,M?,List.filterMap_cons] at ih |-;rw [ih]
def DE {w:World}{base:Nat}{e:TypeId}{v:Value}{zs:List Int}(h:w.ownsInts base e .i64 v zs):items (H:=H) (rowDatum .i64 v zs)=zs:=by
 rcases h.datum (H:=H) with⟨h1,h2⟩|h1
 . rw [h1,h2];rfl
 . rw [h1];exact V3 zs
def Repr(D:DataW H)(m:B8->List Int):Prop:=IsMap D/\∀s,items (D.atKey (.string s) .nil)=m s/\(has D (.string s)=true↔m s≠ [])
def Repr.empty:Repr (H:=H) (.map []) (λ_=>[]):=⟨isMap_empty,λs=>⟨rfl,by simp [has]⟩⟩
theorem Repr.ext {D:DataW H}{m m':B8->List Int}(h:Repr D m)(e:∀s,m s=m' s):Repr D m':=by
 rw [<-funext e];exact h
theorem Repr.put {D:DataW H}{m m':B8->List Int}(h:Repr D m){t:B8}{w:World}{base:Nat}{e:TypeId}{v:Value}{zs:List Int}(ho:w.ownsInts base e .i64 v zs)(hz:zs≠ [])
  (h1:m' t=zs) (h2:∀s,s≠t->m' s=m s):Repr (D.put (.string t) (rowDatum .i64 v zs)) m':=by
 refine⟨h.1.put _ _,λs=>?_⟩;by_cases hs:s=t
 . subst hs;refine⟨?_,?_⟩
   . rw [atKey_put_same h.1 (by trivial),DE ho,h1]
   . rw [has_put_same h.1 (by trivial),h1];simp [hz]
 . have dU:Lit.string s≠Lit.string t:=λhh=>hs (by injection hh);rw [atKey_put_other dU,has_put_other dU,h2 s hs];exact h.2 s
def akq {w:World}{Q:Nat->Prop}{base:Nat}{e:TypeId}{v:Value}{zs:List Int}(h:w.ownsInts base e .i64 v zs)(hq:∀g,v.ownBlock=some g->Q g):Rd w Q (.slice [.int .i64]) v zs:=by
 obtain⟨ho,hw⟩:=h
 have hz:∀z∈zs,lo .i64<=z/\z<=hi .i64:=λz hz=>by
  have:=hw z hz;simp [Lit.wf,IntKind.min,IntKind.max,IntKind.signed,IntKind.bits] at this;simp only [lo,hi];omega
 simp only [Rd];rcases ho.2 with⟨rfl,h0⟩|⟨g,cap,cur,rfl,hg,hh,hn,hc,cZ,yR⟩
 . have :zs=[]:=i?.1 h0;subst this;exact⟨none,0,[],rfl,S! _,T! _,rfl,λh=>absurd rfl h⟩
 . refine⟨some ⟨g,0,none⟩,cap,zs.map (Value.int .i64),rfl,hn,hc,Hr zs hz,λ_=>⟨g,0,rfl,hq g rfl,λj v hj=>?_⟩⟩;have:=ho.cells (g:=g) rfl j v hj;rwa [Addr.add_mid] at this
end
end Go.DM
namespace Go.DM
open Go Go.Vg Go.Maps Go.RowKit Go.ChangeShapes
section
variable {H:Type} {P:Program}
def FN(w:World)(c:Array Value)(e:TypeId)(o:Obj)(j:Nat):((w.alloc (.cells c e)).alloc o).cell? ⟨w.heap.size,j,none⟩=c[j]? :=by
 have h1:((w.alloc (.cells c e)).alloc o).heap[w.heap.size]? =some (.cells c e (0,0)):=by
  rw [((World.grownBy_alloc (w.alloc (.cells c e)) o none).block w.heap.size z! z!)];exact(MapKept.heap_alloc w _).1
 simp [World.cell?,h1]
def Hv {w:World}{base:Nat}{e:TypeId}{size:Nat}{v:Value}{n:Nat}{xs:List Value}(h:w.ownsRow base e size v n xs):∃av cp,v= .slice av n cp/\(0<n->∃g,av=some ⟨g,0,none⟩/\base<=g/\g<w.heap.size):=by
 have hl:=h.lt;rcases h.2 with⟨rfl,h0⟩|⟨g,cap,cur,rfl,hg,_⟩
 . exact⟨none,0,by rw [h0],λh=>by omega⟩
 . exact⟨_,cap,rfl,λ_=>⟨g,rfl,hl g rfl⟩⟩
def yn {w w':World}(h:Below w.heap.size w w'):w.grownBy w' none:=⟨h.os,h.tape,h.output,h.size,λi hi _=>h.block i hi⟩
def vE {w w':World}{k:TypeId}{base:Nat}{e:TypeId}{q:IntKind}{b n:Nat}{D:DataW H}(h:w.ownsGroups P k base e q b n D)(hb:Below w.heap.size w w'):w'.ownsGroups P k base e q b n D:=
 h.kept (yn hb) z! (λes clock _ x _=>by cases x.val.ownBlock<;>simp)
def YN {w:World}{k:TypeId}{base:Nat}{e:TypeId}{q:IntKind}{b n:Nat}{D:DataW H}(h:w.ownsGroups P k base e q b n D):b<w.heap.size:=by
 obtain⟨es,clock,hb,_⟩:=h;exact(O!.1 hb).1
def Nb {w w':World}{k:TypeId}{base:Nat}{e:TypeId}{q:IntKind}{b n:Nat}{D:DataW H}(h:w.ownsGroups P k base e q b n D)(hb:Below w.heap.size w w'){No:Nat->Prop}(hn:∀g,No g->w.heap.size<=g):w'.Shuns b No:=by
 have h1:w.Shuns b (λ_=>False):=λ_ _ _ _ _ _ _ hf=>hf;exact(h1.reno (No':=No) h (λg hg=>.inr (hn g hg))).kept (yn hb) (YN h) z!
def Qq {w:World}{base:Nat}{e:TypeId}{g cp n:Nat}{l:List B8}(h:w.ownsRow base e 1 (.slice (some ⟨g,0,none⟩) n cp) n (l.map encS)){j:Nat}(hj:j<l.length):w.cell? ⟨g,0+j,none⟩=some (encS (l.getD j [])):=by
 have:=h.cells (g:=g) rfl j (encS (l.getD j [])) (by rw [E?,D! hj,F!,D! hj];rfl);rwa [Addr.add_mid] at this
end
end Go.DM
namespace Go.DM
open Go Go.Vg Go.Maps Go.RowKit Go.ChangeShapes
section
variable {H:Type} {P:Program}
def V4 {w w':World}{row:Option Nat}(h:w.grownBy w' row){a:Addr}{v:Value}(hl:a.block<w.heap.size)(hn:some a.block≠row)(hc:w.cell? a=some v):w'.cell? a=some v:=
 (World.cell?_of_block (h.block _ hl hn)).trans hc
def V5 {k:TypeId}(hk:P.underlying k=some .string){s:B8}(h:s.length<=maxLen):keyOf P k (.string ⟨s.toArray⟩)=some (.string s):=by
 have:=Go.WideMaps.keyOf_string_mk (P:=P) (k:=k) (s:=⟨s.toArray⟩) hk (by simpa [ByteArray.size] using h);simpa using this
def ar5 {wr:World}{b g:Nat}{v v':Value}{o:Obj}{n cp:Nat}(QQ:∀No:Nat->Prop,wr.Shuns b No->∀g,v.ownBlock=some g->¬No g)(hs:wr.Shuns b (λg'=>(Value.slice (some ⟨g,0,none⟩) n cp).ownBlock=some g'))
  (HY:v'.ownBlock=v.ownBlock\/v'.ownBlock=some (wr.alloc o).heap.size) (hg:g<wr.heap.size):∀g',v'.ownBlock=some g'->¬((Value.slice (some ⟨g,0,none⟩) n cp).ownBlock=some g'):=λg' vU hh=>by
 rcases HY with h|h
 . rw [h] at vU;exact QQ _ hs g' vU hh
 . rw [h] at vU;simp only [Value.ownBlock,A!] at vU hh;simp at vU;omega
end
end Go.DM
namespace Go.DM
open Go Go.Vg Go.Maps Go.RowKit Go.ChangeShapes
section
variable {H:Type} {P:Program}
def Nc {w:World}{k:TypeId}{base:Nat}{e:TypeId}{q:IntKind}{b n:Nat}{D:DataW H}(h:w.ownsGroups P k base e q b n D):w.ownsMap P k (rowElem w base e q) b n D:=by
 obtain⟨es,clock,hb,F,hs,hD,_⟩:=h;exact⟨es,clock,hb,F,hs,hD⟩
def Hw {w:World}{k:TypeId}{R:Value->Option (DataW H×List MemPlace)}{b n:Nat}{D:DataW H}(h:w.ownsMap P k R b n D):Maps.size D<=n:=by
 obtain⟨es,clock,hb,F,hs,rfl⟩:=h;rw [size_eq,length_sorted];simpa using hs
def YO(docs:List B8)(a b:Int)(x:B8):x∈S.cW docs a b↔S.yw docs a (b-a).toNat 0 x≠ []:=by
 unfold S.cW;rw [S.ie,S.C4];simp [S.yw]
def adG {w:World}{R:Value->Option (DataW H×List MemPlace)}{k:TypeId}{b n:Nat}{D:DataW H}(h:w.ownsMap P k R b n D)(K:Keyed P k)(hk:P.underlying k=some .string){docs:List B8}{f t:Int}
  (hr:Repr D (S.yw docs f (t-f).toNat 0)) {ss:List B8} (hs:ss.Perm (strKeys D)):ss.mergeSort (λx y=>decide (x<=y))=S.cW docs f t/\ss.length=(S.cW docs f t).length/\(∀s∈S.cW docs f t,s.length<=maxLen)/\(S.cW docs f t).length<=n:=by
 obtain⟨es,hD,hpw,_⟩:=h.entries K;obtain⟨WR,hD',hko⟩:=h.keysOf;have hle:=strKeys_le h hk;have cZ:=Hw h;obtain rfl :es=WR:=by rw [hD] at hD';simpa using hD'
 subst hD;have hi:S.sT (S.cW docs f t):=S.kO _;have fV:=perm_strKeys hpw (λp hp=>by obtain⟨v,hv⟩:=hko p hp;obtain⟨x,_,hx,_⟩:=Maps.keyOf_str hk hv;exact⟨x,hx⟩) (S.It hi) (λx=>by rw [YO,(hr.2 x).2]);have oA:=hs.trans fV.symm
 have hlen:(S.cW docs f t).length<=n:=by
  rw [fV.length_eq];simpa [strKeys,size_eq] using cZ
 refine⟨?_,oA.length_eq,λs jb=>hle s (fV.subset jb),hlen⟩;have e1:ss.mergeSort leB=(S.cW docs f t).mergeSort leB:=mergeSort_of_perm oA
 have e2:(S.cW docs f t).mergeSort leB=S.cW docs f t:=by
  refine List.mergeSort_of_pairwise (hi.imp λ{a b} ku=>?_);rw [Go.Proofs.bytesLess_eq] at ku;simp only [leB,J!] at ku |-;exact List.le_of_lt ku
 exact e1.trans e2
end
end Go.DM
namespace Go.DM
open Go Go.Vg Go.Maps Go.RowKit Go.ChangeShapes
section
variable {H:Type} {P:Program}
def Kx {w:World}{base:Nat}{e:TypeId}{q:IntKind}{v:Value}{zs:List Int}(h:w.ownsInts base e q v zs):v.oneCell'=true:=by
 rcases h.1.2 with⟨rfl,_⟩|⟨g,cap,cur,rfl,_⟩<;>rfl
def adH {w:World}{Q:Nat->Prop}{s:B8}{v:Value}{zs:List Int}(hs:s.length<=maxLen)(hv:Rd w Q (.slice [.int .i64]) v zs):br w Q [.str,.slice [.int .i64]] [.string ⟨s.toArray⟩,v] (s,zs):=by
 simp only [br];refine⟨_,[v],rfl,?_,v,[],rfl,hv,rfl⟩;simp only [Rd];exact⟨rfl,hs⟩
def Qr {α:Type}{R:List Value->α->Prop}:∀(l:List α) (cs c:List Value) (x:α),dc R cs l->R c x->dc R (cs++c) (l++[x])
 |[],cs,c,x,h,hx=>by
   simp only [dc] at h;subst h;exact⟨c,[],z!,hx,rfl⟩
 |y::l,cs,c,x,⟨c1,c2,hc,h1,h2⟩,hx=>by
  subst hc;exact⟨c1,c2++c,z!,h1,Qr l c2 c x h2 hx⟩
def akr {w w':World}{base:Nat}{e:TypeId}{v:Value}{zs:List Int}{Q:Nat->Prop}(h:w'.ownsInts base e .i64 v zs)(hb:Below w.heap.size w w')(hl:∀g,v.ownBlock=some g->g<w.heap.size)(hq:∀g,base<=g->g<w.heap.size->Q g):Rd w Q (.slice [.int .i64]) v zs:=by
 have h':w.ownsInts base e .i64 v zs:=by
  refine⟨⟨h.1.1,?_⟩,h.2⟩;rcases h.1.2 with hn|⟨g,cap,cur,rfl,hg,hh,rest⟩
  . exact .inl hn
  . exact .inr ⟨g,cap,cur,rfl,hg,(hb.block g (hl g rfl)).symm.trans hh,rest⟩
 exact akq h' (λg hg=>hq g (h'.1.lt g hg).1 (hl g hg))
theorem Tc(w:World)(a b:Value)(t:TypeId):∀j u,[a,b][j]? =some u->(w.alloc (.cells #[a,b] t)).cell? ((⟨w.heap.size,0,none⟩:Addr).add j)=some u:=by
 intro j u hj;rw [Addr.add_mid,q?];have h1:(w.alloc (.cells #[a,b] t)).heap[w.heap.size]? =some (.cells #[a,b] t (0,0)):=(MapKept.heap_alloc w _).1;simp only [World.cell?,h1];simpa using hj
end
end Go.DM

end
section
namespace Go.Proofs
open Go Go.Vg Go.Maps Go.RowKit Go.ChangeShapes Go.DM Go.WideMaps
theorem Tryz.abv:Keyed Tryz.prog 9:=string_keyed Tryz.underlying9
def Tryz.azz:(Tryz.prog.info? 3).map (λi=>(i.zero,i.size,i.bytes))=some (some (.int .i64 0),1,8):=by kernel_rfl
def Tryz.ar6:(Tryz.prog.info? 228).map (λi=>(i.zero,i.size,i.bytes))=some (some (.agg #[.string ⟨#[]⟩,.slice none 0 0]),2,40):=by kernel_rfl
def Tryz.abw(w:World):(zeroValue 27).run Tryz.prog w= .ok (.slice none 0 0) w:=by kernel_rfl
def Tryz.aks(mb:Option Nat)(W:World):Calls Tryz.prog 218 #[.map mb] W λe w'=>e= .returned (.func (.func 284) #[] #[.pointer (some ⟨W.heap.size,0,none⟩)])/\w'=W.alloc (.cells #[.map mb] 305):=callsIn_wide.1 (Tryz.Oh mb W)
set_option maxRecDepth 100000 in
set_option maxHeartbeats 4000000 in
theorem Tryz.YP {H:Type}(docs:List B8)(f t:Int)(da:Option Addr)(cap:Nat)(w:World)
  (hp:S.nE docs f t) (h4:∀j,(docs.getD j []).length<=2000) (dv:Nat->Value)
  (hd:∀j,j<docs.length->∃b o aj cj,da=some ⟨b,o,none⟩/\b<w.heap.size/\w.cell? ⟨b,o+j,none⟩=some (dv j)/\dv j= .slice aj (docs.getD j []).length cj)
  (pC:∀(j:Nat) (W:World),j<docs.length->Below w.heap.size w W->Calls Tryz.prog 216 #[dv j] W λe w'=>∃v,e= .returned v/\w'.ownsRow W.heap.size 9 1 v (S.fF docs 0 j).length ((S.fF docs 0 j).map encS)/\Below W.heap.size W w')
  (Td:∀(j:Nat),∀s∈S.fF docs 0 j,s.length<=maxLen):
  Calls Tryz.prog 123 #[.slice da docs.length cap,.agg #[.int .i64 f,.int .i64 t]] w λe w'=>∃v xs W1,e= .returned (.tuple #[v,.int .i64 0])/\Below w.heap.size w w'/\Below W1.heap.size W1 w'/\w.heap.size<=W1.heap.size/\
   w'.ownsRow W1.heap.size 228 2 v (S.make docs f t).length xs/\dc (br W1 (λb=>w.heap.size<=b/\b<W1.heap.size) [.str,.slice [.int .i64]]) xs (S.make docs f t):=by
 have hmm:= @run_makeMap Tryz.prog;have h0:0<=f:=hp.1;have h1:f<=t:=hp.2.1;have h2:t<=docs.length:=hp.2.2.1;have h3:docs.length<=1000:=hp.2.2.2.1;obtain⟨i0,hi,hz0,hz1,hz2⟩:=info_parts Tryz.azz;obtain⟨i1,hi1,hy0,hy1,hy2⟩:=info_parts Tryz.ar6;go_enter Tryz.func123,Tryz.ntmps123
 go_wp2
 go_loopw [39] (λi wr=>∃k:Nat,k<=docs.length/\i= .int .i64 k/\wr=w.alloc (.cells #[.int .i64 f,.int .i64 t] 98))
  (λi _=>docs.length-(intOf i).toNat)
 case atStart=>exact⟨0,T! _,rfl,rfl⟩
 case round=>
  obtain⟨k,hk,rfl,rfl⟩:=hrel;by_cases iU:k<docs.length
  . obtain⟨b,o,aj,cj,rfl,hb,hc,hv⟩:=hd k iU;rw [hv] at hc;have hl:=h4 k;generalize (docs.getD k []).length=n at hc hl
    have qY:(w.alloc (.cells #[.int .i64 f,.int .i64 t] 98)).cell? ⟨b,o+k,none⟩=some (.slice aj n cj):=by
     rw [<-hc];exact World.cell?_of_block ((World.grownBy_alloc w _ none).block b hb z!)
    clear hd pC;go_wp2
    go_roundw
    case rel=>exact⟨k+1,w!,by go_num,by first|rfl|trivial⟩
    case measure=>simp [intOf];omega
  . have :k=docs.length:=by omega
    subst this;clear iU;go_wp2
    go_loopw [9] (λi wr=>∃k:Nat,i= .int .i64 (f+k)/\f+k<=t/\∃(m:Nat) (D:DataW H),m<=4000*k/\wr.ownsGroups Tryz.prog 9 (w.heap.size+2) 3 .i64 (w.heap.size+1) m D/\Repr D (S.yw docs f k 0)/\
      Below w.heap.size w wr/\wr.cell? ⟨w.heap.size,1,none⟩=some (.int .i64 t)/\w.heap.size+2<=wr.heap.size)
     (λi _=>(t-intOf i).toNat)
    case atStart=>
     have cZ:(w.alloc (.cells #[.int .i64 f,.int .i64 t] 98)).heap.size=w.heap.size+1:=by simp
     have hg:=World.ownsGroups_made (H:=H) (w.alloc (.cells #[.int .i64 f,.int .i64 t] 98)) Tryz.prog 9 3 .i64;rw [cZ] at hg;refine⟨0,z!,by simpa using h1,0,_,S! _,hg,Repr.empty.ext (λs=>(S.avg docs f s).symm),((Below.refl _ _).alloc (S! _) _).alloc z! _,?_,z!⟩;rw [FN];rfl
    case round=>
     obtain⟨k,rfl,hk,m,D,hm,ib,OV,hnx,akt,hws⟩:=hrel;by_cases iU:f+k<t
     . obtain⟨n,hn⟩:∃n:Nat,f+(k:Int)=n:=⟨(f+k).toNat,w!⟩;have hnl:n<docs.length:=by omega
       obtain⟨b,o,aj,cj,rfl,hb,hc,hv⟩:=hd n hnl;have hs:=pC n wr hnl hnx;rw [hv] at hs hc;have qY:wr.cell? ⟨b,o+n,none⟩=some (.slice aj (docs.getD n []).length cj):=(hnx.cell (by exact hb)).trans hc;have eL:S.fF docs 0 n=S.fF docs f k:=by unfold S.fF;rw [hn];simp
       rw [eL] at hs;have JR:=Td n;rw [eL] at JR;obtain⟨Te,rfl⟩:∃x,x=wr:=⟨wr,rfl⟩;have hL:(S.fF docs f k).length<=4000:=by unfold S.fF;exact S.U4 hp _
       simp only [hn] at hk |-;generalize (docs.getD n []).length=dl at qY hs;clear hd pC hc hv
       go_wp2_with (first
        |(go_at_call 216;refine hs.mono ?_;rintro e w1 ⟨vs,rfl,k8,Kw⟩;obtain⟨av,cp,rfl,QY⟩:=Hv k8)
        |go_in)
       have azA:=vE ib Kw;have aCu:w1.Shuns (w.heap.size+1) (λg=>(Value.slice av (S.fF docs f k).length cp).ownBlock=some g):=Nb ib Kw (λg hg=>(k8.lt g hg).1);have aCv:Below w.heap.size w w1:=hnx.trans (Kw.mono w!);have azB:w1.cell? ⟨w.heap.size,1,none⟩=some (.int .i64 t):=(Kw.cell (by show w.heap.size<Te.heap.size;omega)).trans akt;have aCw:Te.heap.size<=w1.heap.size:=Kw.size;clear hs Kw qY
       go_loopw [62] (λi wq=>∃j:Nat,i= .int .i64 j/\j<=(S.fF docs f k).length/\∃(m2:Nat) (D2:DataW H),m2<=m+j/\wq.ownsGroups Tryz.prog 9 (w.heap.size+2) 3 .i64 (w.heap.size+1) m2 D2/\Repr D2 (S.yw docs f k j)/\
         wq.Shuns (w.heap.size+1) (λg=>(Value.slice av (S.fF docs f k).length cp).ownBlock=some g)/\Below w.heap.size w wq/\wq.cell? ⟨w.heap.size,1,none⟩=some (.int .i64 t)/\
         wq.ownsRow Te.heap.size 9 1 (.slice av (S.fF docs f k).length cp) (S.fF docs f k).length ((S.fF docs f k).map encS)/\Te.heap.size<=wq.heap.size)
        (λi _=>(S.fF docs f k).length-(intOf i).toNat)
       case atStart=>exact⟨0,rfl,T! _,m,D,w!,azA,OV,aCu,aCv,azB,k8,aCw⟩
       case round=>
        obtain⟨j,rfl,hj,m2,D2,hm2,YQ,Tf,aku,akv,akw,YR,hwq⟩:=hrel;by_cases K4:j<(S.fF docs f k).length
        . obtain⟨g,rfl,hg1,Bu⟩:=QY w!;have oP:=Qq YR K4;rw [Nat.zero_add] at oP;have Qs:=V5 (P:=Tryz.prog) Tryz.underlying9 (JR _ (S.bA _ j [] K4));have at2:=S.agy (docs:=docs) (a:=f) (k:=k) K4;have akx:=λs=>S.acY (docs:=docs) (a:=f) (k:=k) (j:=j) K4 (s:=s);have azC:=S.agz docs f k j ((S.fF docs f k).getD j []);unfold Vg.encS at oP;generalize (S.fF docs f k).getD j []=sj at oP Qs at2 akx azC;have aCx:g<wr.heap.size:=(YR.lt g rfl).2;have abx:m2<maxLen:=by unfold maxLen;omega
          clear Td JR QY
          go_wp2_with (first
           |(at_lookup;refine wpList_lookup_groups_shuns _ rfl _ _ 305 rfl 9 27 3 .i64 Tryz.abv Tryz.underlying305 (Tryz.abw _) (w.heap.size+2) (w.heap.size+1) m2 _ rfl YQ abx _ _ rfl Qs ?_;intro v zs hat tE hzl aky QQ)
           |(at_builtin;refine wpList_append_own_at _ rfl _ _ 27 rfl (w.heap.size+2) 3 i0 (.int .i64 0) 1 8 Tryz.underlying27 hi hz0 hz1 hz2 rfl (by decide) _ _ _ rfl (tE.1.alloc _) ⟨wr.heap.size,0,none⟩ 1 1 [.int .i64 n] rfl rfl (cell_one_new _ _ _) (ints_oneCell .i64 [(n:Int)]) (by unfold maxLen;omega) w! (by simp;omega) ?_;intro v' w3 akz Tg HK HY)
           |(at_mapUpdate;have tG:=ar5 QQ aku HY aCx;refine wpList_mapUpdate_back_shuns _ rfl _ _ _ 305 rfl Tryz.abv Tryz.underlying305 Qs YQ abx tE aku tG aky rfl rfl rfl ((World.grownBy_alloc _ _ _).trans Tg) (tE.appended akz (WalkArith.wf_i64 w!)) (by simp;omega) (HY.imp id (λh=>⟨_,h,z!⟩)) ?_;intro w4 azD JS aCy)
           |go_in)
          have lP:=(World.grownBy_alloc wr _ _).trans Tg;have hw3:wr.heap.size<=w3.heap.size:=lP.size;have hvb:∀g',v.ownBlock=some g'->w.heap.size+2<=g':=λg' vU=>(tE.1.lt g' vU).1;refine⟨⟨j+1,by go_num,w!,m2+1,_,w!,azD,?_,aCy,?_,?_,?_,?_⟩,by simp [intOf];omega⟩
          . refine Tf.put (tE.appended akz (WalkArith.wf_i64 w!)) z! ?_ akx;rw [at2,hn];have:=DE (H:=H) tE;rw [<-hat,(Tf.2 sj).1] at this;rw [this]
          . exact akv.groups tE lP JS akv.size w! w!
          . refine V4 JS (by show w.heap.size<w3.heap.size;omega) (by show some w.heap.size≠some (w.heap.size+1);simp) (V4 lP (by show w.heap.size<wr.heap.size;omega) ?_ akw);show some w.heap.size≠v.ownBlock;intro h;have:=hvb _ h.symm;omega
          . refine(YR.kept lP (.inr ?_)).kept JS (.inr ?_)
            . intro h;exact QQ _ aku g h.symm rfl
            . intro h;simp only [Value.ownBlock,A!] at h;omega
          . exact h? hwq (h? hw3 JS.size)
        . have :j=(S.fF docs f k).length:=by omega
          subst this;clear K4 Td JR;have azE:=Tf.ext (λs=>S.acZ (docs:=docs) (a:=f) (k:=k) (j:=(S.fF docs f k).length) w! s);clear Tf;go_wp2
          exact⟨⟨k+1,by rw [show f+((k+1:Nat):Int)=(n:Int)+1 by omega],w!,m2,D2,w!,YQ,azE,akv,akw,w!⟩,by simp [intOf];omega⟩
     . have hk2:t=f+k:=by omega
       have Tu:(t-f).toNat=k:=by omega
       have zp:=Nc ib;have hcS:=callsIn_wide.1 (Tryz.tJ (w.heap.size+1) m D _ wr zp (by have:=Hw zp;unfold maxLen;omega) (by have:=Hw zp;omega));have GJ:=λ(ss:List B8) (hss:ss.Perm (strKeys D))=>adG (docs:=docs) (f:=f) (t:=t) zp Tryz.abv Tryz.underlying9 (by rw [Tu];exact OV) hss;obtain⟨Te,rfl⟩:∃x,x=wr:=⟨wr,rfl⟩;clear hd pC Td;subst hk2
       go_wp2_with (first
        |(go_at_call 218;refine(Tryz.aks _ _).mono ?_;rintro e w4 ⟨rfl,rfl⟩)
        |(go_at_call 217;refine hcS.mono ?_;rintro e w5 ⟨vs,ss,rfl,hS,k8,HK,hb5⟩;obtain⟨hk3,hk4,Bt,hk6⟩:=GJ ss hS;rw [hk3,hk4] at k8;obtain⟨av,cp,rfl,QY⟩:=Hv k8)
        |go_in)
       have akA:Below Te.heap.size Te w5:=((Below.refl _ Te).alloc (S! _) _).trans (hb5.mono z!);have akB:=vE ib akA;have aCC:Below w.heap.size w w5:=hnx.trans (akA.mono w!);have aEY:Te.heap.size<=w5.heap.size:=akA.size;clear hcS GJ zp hb5 ib hS HK hk3
       go_loopw [12,79] (λd i wq=>∃j:Nat,i= .int .i64 j/\j<=(S.cW docs f (f+k)).length/\∃xs,wq.ownsRow w5.heap.size 228 2 d j xs/\
         dc (br w5 (λb=>w.heap.size<=b/\b<w5.heap.size) [.str,.slice [.int .i64]]) xs (S.A9 docs f (f+k) j)/\Below w5.heap.size w5 wq)
        (λ_ i _=>(S.cW docs f (f+k)).length-(intOf i).toNat)
       case atStart=>exact⟨0,rfl,T! _,[],World.ownsRow_nil _ _ _ _,rfl,Below.refl _ _⟩
       case round=>
        obtain⟨j,rfl,hj,xs,YS,V6,Ee⟩:=hrel;by_cases K4:j<(S.cW docs f (f+k)).length
        . obtain⟨g,rfl,hg1,Bu⟩:=QY w!;have aby:=Qq k8 K4;have oP:wr.cell? ⟨g,0+j,none⟩=some (Vg.encS ((S.cW docs f (f+k)).getD j [])):=(Ee.cell Bu).trans aby
          rw [Nat.zero_add] at oP;have GJ:=Bt _ (S.bA _ j [] K4);have Qs:=V5 (P:=Tryz.prog) Tryz.underlying9 GJ;have akC:=λtt (ht:(S.cW docs f (f+k)).getD j []=tt)=>S.RY (docs:=docs) (a:=f) (b:=f+k) (k:=j) (j:=k) K4 Tu.symm ht;unfold Vg.encS at oP;have azF:=vE akB Ee;have aCD:wr.Shuns (w.heap.size+1) (λg=>w5.heap.size<=g):=Nb akB Ee (λg hg=>hg);have aCE:=λs=>(OV.2 s).1;generalize (S.cW docs f (f+k)).getD j []=sj at oP Qs GJ akC;have abx:m<maxLen:=by unfold maxLen;omega
          clear aby Bt
          go_wp2_with (first
           |(at_lookup;refine wpList_lookup_groups_shuns _ rfl _ _ 305 rfl 9 27 3 .i64 Tryz.abv Tryz.underlying305 (Tryz.abw _) (w.heap.size+2) (w.heap.size+1) m _ rfl azF abx _ _ rfl Qs ?_;intro v zs hat tE hzl aky QQ;obtain⟨av2,cp2,rfl,aEZ⟩:=Hv tE.1)
           |(at_builtin;refine wpList_append_own_at _ rfl _ _ 126 rfl w5.heap.size 228 i1 (.agg #[.string ⟨#[]⟩,.slice none 0 0]) 2 40 Tryz.underlying126 hi1 hy0 hy1 hy2 rfl (by decide) _ j xs rfl (YS.alloc _) ⟨wr.heap.size,0,none⟩ 1 1 [.string ⟨sj.toArray⟩,.slice av2 zs.length cp2] rfl rfl (Tc _ _ _ _) (by intro u hu;simp at hu;rcases hu with rfl|rfl<;>rfl) (by unfold maxLen;omega) w! (by have:=Ee.size;simp;omega) ?_;intro v' w6 azG Tg HK HY)
           |go_in)
          have qK:Rd w5 (λb=>w.heap.size<=b/\b<w5.heap.size) (.slice [.int .i64]) (.slice av2 zs.length cp2) zs:=
           akr tE Ee (λg' vU=>by have:=QQ _ aCD g' vU;omega) (λg' h1 h2=>⟨w!,h2⟩)
          have hz:zs=S.dn docs f sj k:=by
           have e1:=DE (H:=H) tE;rw [<-hat,aCE] at e1;rw [<-e1];simp [S.yw]
          have lP:=(World.grownBy_alloc wr (.cells #[.string ⟨sj.toArray⟩,.slice av2 zs.length cp2] 228) _).trans Tg;refine⟨⟨j+1,by go_num,w!,xs++[.string ⟨sj.toArray⟩,.slice av2 zs.length cp2],azG,?_,?_⟩,by simp [intOf];omega⟩
          . rw [<-akC sj rfl,<-hz];exact Qr _ _ _ _ V6 (adH GJ qK)
          . exact Ee.grown lP Ee.size (λg' vU=>(YS.lt g' vU).1)
        . have hje:j=(S.cW docs f (f+k)).length:=by omega
          subst hje;rw [S.U6 w!] at V6;clear QY Bt;go_wp2
          go_ret2
          refine⟨_,xs,w5,rfl,aCC.trans (Ee.mono w!),Ee,w!,?_,V6⟩;have QJ:(S.make docs f (f+k)).length=(S.cW docs f (f+k)).length:=by simp [S.make]
          rw [QJ];exact YS
set_option maxRecDepth 100000 in
set_option maxHeartbeats 4000000 in
def Tryz.YT(docs:List B8)(f t:Int)(da:Option Addr)(cap:Nat)(w:World)(hc:1000<docs.length\/f<0\/t<f\/(docs.length:Int)<t):
  Calls Tryz.prog 123 #[.slice da docs.length cap,.agg #[.int .i64 f,.int .i64 t]] w λe w'=>e= .returned (.tuple #[.slice none 0 0,.int .i64 1])/\Below w.heap.size w w':=by
 generalize docs.length=n at hc;go_enter Tryz.func123,Tryz.ntmps123
 go_wp2
 all_goals (go_ret2;exact⟨rfl,(Below.refl _ _).alloc (S! _) _⟩)
set_option maxRecDepth 100000 in
set_option maxHeartbeats 4000000 in
def Tryz.YU(docs:List B8)(f t:Int)(da:Option Addr)(cap:Nat)(w:World)(h0:0<=f)(h1:f<=t)(h2:t<=docs.length)(h3:docs.length<=1000)(dv:Nat->Value)
  (hd:∀j,j<docs.length->∃b o aj cj,da=some ⟨b,o,none⟩/\b<w.heap.size/\w.cell? ⟨b,o+j,none⟩=some (dv j)/\dv j= .slice aj (docs.getD j []).length cj)
  (hc:¬∀j,j<docs.length->(docs.getD j []).length<=2000):
  Calls Tryz.prog 123 #[.slice da docs.length cap,.agg #[.int .i64 f,.int .i64 t]] w λe w'=>e= .returned (.tuple #[.slice none 0 0,.int .i64 1])/\Below w.heap.size w w':=by
 go_enter Tryz.func123,Tryz.ntmps123
 go_wp2
 go_loopw [39] (λi wr=>∃k:Nat,k<=docs.length/\i= .int .i64 k/\wr=w.alloc (.cells #[.int .i64 f,.int .i64 t] 98)/\∀j,j<k->(docs.getD j []).length<=2000)
  (λi _=>docs.length-(intOf i).toNat)
 case atStart=>exact⟨0,T! _,rfl,rfl,λj hj=>by omega⟩
 case round=>
  obtain⟨k,hk,rfl,rfl,lP⟩:=hrel;by_cases iU:k<docs.length
  . obtain⟨b,o,aj,cj,rfl,hb,mD,hv⟩:=hd k iU;rw [hv] at mD
    have qY:(w.alloc (.cells #[.int .i64 f,.int .i64 t] 98)).cell? ⟨b,o+k,none⟩=some (.slice aj (docs.getD k []).length cj):=by
     rw [<-mD];exact World.cell?_of_block ((World.grownBy_alloc w _ none).block b hb z!)
    clear hd mD hv hc;by_cases hl:(docs.getD k []).length<=2000
    . have KZ:∀j,j<k+1->(docs.getD j []).length<=2000:=λj hj=>by
       by_cases e:j=k
       . subst e;exact hl
       . exact lP j w!
      clear lP;generalize (docs.getD k []).length=n at qY hl;go_wp2
      go_roundw
      case rel=>exact⟨k+1,w!,by go_num,by first|rfl|trivial,KZ⟩
      case measure=>simp [intOf];omega
    . clear lP;generalize (docs.getD k []).length=n at qY hl;go_wp2
      go_ret2
      exact⟨rfl,(Below.refl _ _).alloc (S! _) _⟩
  . exact absurd (λj hj=>lP j w!) hc
end Go.Proofs

end
section
namespace Go.S
theorem V7 {docs:List B8}{a:Int}{j:Nat}:∀s∈fF docs a j,s.length<=maxLen:=λs hs=>by
 have h1:=(ie _ _).1 hs;simp only [bK,List.mem_map] at h1;obtain⟨w,_,rfl⟩:=h1;have:=A7 w [] z!;unfold iT maxLen;omega
def adI {docs:List B8}{f t:Int}(h:eb docs f t=true):nE docs f t/\∀j,(docs.getD j []).length<=2000:=by
 simp only [eb,B!,X!,J!] at h;obtain⟨h1,h2,h3,h4,h5⟩:=h;refine⟨⟨h3,h4,h5,w!,λd hd=>by have:=h1 d hd;omega⟩,λj=>?_⟩;by_cases hj:j<docs.length
 . have:=h1 _ (bA docs j [] hj);omega
 . rw [F!,List.getElem?_eq_none w!];simp
end Go.S
namespace Go.DM
open Go Go.Vg Go.Maps Go.RowKit Go.Proofs
def abz {w:World}{A:Nat->Prop}{τ:Ty}:∀(l:List (D τ)) (cs:List Value),dc (br w A [τ]) cs l->cs.length=l.length/\∀(j:Nat) (x:D τ),l[j]? =some x->Rd w A τ (cs.getD j undef) x
 |[],cs,h=>by simp only [dc] at h;subst h;exact⟨rfl,λj x hx=>by simp at hx⟩
 |y::l,cs,⟨c1,c2,hc,h1,h2⟩=>by
  subst hc;simp only [br] at h1;obtain⟨v,bS,rfl,hv,rfl⟩:=h1;obtain⟨g1,g2⟩:=abz l c2 h2;refine⟨by simp [g1],λj x hx=>?_⟩;cases j with
  |zero=>simp at hx;subst hx;exact hv
  |succ j=>simpa using g2 j x (by simpa using hx)
theorem Th(b:B8):Gr [.one (.slice [.int .u8])] [.sl [.int .u8] b]=some b:=rfl
set_option maxRecDepth 100000 in
def V8 {G:Nat->Option GD}{Fs:Row (PS.flat [.one (.slice [.int .u8])])->Prop×AV×List AB}(pC:Valid Tryz.prog G 216 (eM [.one (.slice [.int .u8])] Fs))
  (hFs:∀b:B8,Fs b=(S.small b,.own 0,[.row 9 [.str] (S.sorted (S.bK b)) false]))
  {F:Row (PS.flat [.one (.slice [.slice [.int .u8]]),.agg [.int .i64,.int .i64]])->Prop×AV×List AB}
  (hF:∀(docs:List B8) (f t:Int),F (docs,f,t)=(True,.bn [.sl [.str,.slice [.int .i64]] (S.kg docs f t).1,.int .i64 ((S.kg docs f t).2:Int)],[])):
  Valid Tryz.prog G 123 (eM [.one (.slice [.slice [.int .u8]]),.agg [.int .i64,.int .i64]] F):=by
 intro w A β args aX pre res bs hA hG bj hs hp;unfold eM at hs;split at hs
 . rename_i x hx;obtain⟨docs,f,t⟩:=x;change List B8 at docs;change Int at f;change Int at t;have jb:=hs;rw [hF docs f t] at jb;simp only [A!,Prod.mk.injEq] at jb;obtain⟨rfl,rfl,rfl⟩:=jb;obtain⟨g1,g2⟩:=qb _ hx bj;clear hs hp hx bj g2;change ae w A β args [.sl [.slice [.int .u8]] docs,.agg [.int .i64 f,.int .i64 t]] at g1;simp only [ae,aa] at g1;obtain⟨vd,bS,rfl,hvd,va,aCr,rfl,⟨arr,rfl,y7⟩,rfl⟩:=g1;obtain⟨u1,us,e1,⟨rfl,hf⟩,u2,FZ,rfl,⟨rfl,ht⟩,rfl⟩:=y7;obtain rfl :arr= #[.int .i64 f,.int .i64 t]:=by apply r?;simpa using e1
   simp only [Rd] at hvd;obtain⟨a,cap,cs,rfl,Ox,S8,V6,au⟩:=hvd;obtain⟨mD,dm⟩:=abz (τ:=.slice [.int .u8]) docs cs V6
   have hd:∀j,j<docs.length->∃b o aj cj,a=some ⟨b,o,none⟩/\b<w.heap.size/\w.cell? ⟨b,o+j,none⟩=some (cs.getD j undef)/\cs.getD j undef= .slice aj (docs.getD j []).length cj:=by
    intro j hj;obtain⟨b,o,rfl,Jb,hr⟩:=au (by intro h;rw [h] at mD;simp at mD;omega);have h1:=dm j (docs.getD j []) (by rw [F!,D! hj];rfl);simp only [Rd] at h1;obtain⟨aj,cj,fi,h2,_⟩:=h1;refine⟨b,o,aj,cj,rfl,hA b Jb,hr j _ ?_,h2⟩;rw [F!,D! w!];rfl
   show Calls Tryz.prog 123 #[.slice a docs.length cap,.agg #[.int .i64 f,.int .i64 t]] w _
   have bad:Calls Tryz.prog 123 #[.slice a docs.length cap,.agg #[.int .i64 f,.int .i64 t]] w (λe w'=>e= .returned (.tuple #[.slice none 0 0,.int .i64 1])/\Below w.heap.size w w')->S.eb docs f t=false->
     Calls Tryz.prog 123 #[.slice a docs.length cap,.agg #[.int .i64 f,.int .i64 t]] w (λe w'=>∃v,e= .returned v/\∃A' aw,jX w A w' v (.bn [.sl [.str,.slice [.int .i64]] (S.kg docs f t).1,.int .i64 ((S.kg docs f t).2:Int)]) [] A' aw):=by
    intro hc hb;refine hc.mono λe w' ⟨he,xi⟩=>⟨_,he,A,β,{os:=xi.os,tape:=xi.tape,output:=xi.output,size:=xi.size,same:=xi.block,mono:=λ_ h=>h,gH:=λ_ _ h=>h,bound:=λb h=>Nat.lt_of_lt_of_le (hA b h) xi.size,res:= ?_,rows:=λi ab hi=>by simp at hi,apart:=λi j b hi=>by simp at hi}⟩;have e2:S.kg docs f t=([],1):=by unfold S.kg;rw [hb];rfl
    rw [e2];simp only [aa,ae];refine⟨_,rfl,_,_,rfl,?_,_,_,rfl,⟨rfl,by simp only [lo,hi];omega⟩,rfl⟩;simp only [Rd];exact⟨none,0,[],rfl,S! _,T! _,rfl,λh=>absurd rfl h⟩
   cases Nd:S.eb docs f t with
   |false=>
    refine bad ?_ Nd;by_cases hc:1000<docs.length\/f<0\/t<f\/(docs.length:Int)<t
    . exact Tryz.YT docs f t a cap w hc
    . refine Tryz.YU docs f t a cap w w! w! w! w! _ hd λlP=>?_
      have :S.eb docs f t=true:=by
       simp only [S.eb,B!,X!,J!];refine⟨λd qL=>?_,w!,w!,w!,w!⟩;obtain⟨i,e7,rfl⟩:=k? qL;have:=lP i e7;rw [F!,D! e7] at this;simp only [Option.getD_some] at this;omega
      rw [this] at Nd;cases Nd
   |true=>
    obtain⟨hmp,h4⟩:=S.adI Nd
    have azH:∀(j:Nat) (W:World),j<docs.length->Below w.heap.size w W->Calls Tryz.prog 216 #[cs.getD j undef] W λe w'=>∃v,e= .returned v/\w'.ownsRow W.heap.size 9 1 v (S.fF docs 0 j).length ((S.fF docs 0 j).map Vg.encS)/\Below W.heap.size W w':=by
     intro j W hj hW;have hk:b7 w W A A:=λb hb=>⟨hb,hW.block b (hA b hb)⟩;have h1:=DX hk _ _ _ (dm j (docs.getD j []) (by rw [F!,D! hj];rfl))
     have h2:=pC W A β [cs.getD j undef] [.sl [.int .u8] (docs.getD j [])] (S.small (docs.getD j [])) (.own 0) [.row 9 [.str] (S.sorted (S.bK (docs.getD j []))) false]
      (λb hb=>N? (hA b hb) hW.size) (λi d hi=>(hG i d hi).mono hk) (by simp only [ae,aa];exact⟨_,_,rfl,h1,rfl⟩)
      (by unfold eM;rw [Th];simp only [hFs]) (by have:=h4 j;unfold S.small;omega)
     refine h2.mono λe w' ⟨v,he,A',aw,sr⟩=>⟨v,he,?_,sr.os,sr.tape,sr.output,sr.size,sr.same⟩;have hr:=sr.res;simp only [aa] at hr;obtain⟨⟨xs,ho,qK,_⟩,hblk⟩:=sr.rows 0 _ rfl;obtain⟨rfl,_⟩:=Ay _ xs qK;have eK:S.fF docs 0 j=S.sorted (S.bK (docs.getD j [])):=by unfold S.fF;simp
     rw [eK,hr.1];refine⟨ho.1,?_⟩;rcases ho.2 with hn|⟨g,jg,cur,hv,_,rest⟩
     . exact .inl hn
     . exact .inr ⟨g,jg,cur,hv,hblk g (by rw [hv];rfl),rest⟩
    refine(Tryz.YP (H:=Unit) docs f t a cap w hmp h4 _ hd azH (λj s hs=>S.V7 s hs)).mono λe w' ⟨v,xs,W1,he,xi,at3,hW1,ho,qK⟩=>?_;have e2:S.kg docs f t=(S.make docs f t,0):=by unfold S.kg;rw [Nd];rfl
    rw [e2];refine⟨_,he,λb=>A b\/(w.heap.size<=b/\b<w'.heap.size),β,{os:=xi.os,tape:=xi.tape,output:=xi.output,size:=xi.size,same:=xi.block,mono:=λ_ h=>.inl h,gH:=λb hb h=>?_,bound:=λb h=>?_,res:= ?_,rows:=λi ab hi=>by simp at hi,apart:=λi j b hi=>by simp at hi}⟩
    . rcases h with h|h
      . exact h
      . omega
    . rcases h with h|h
      . exact N? (hA b h) xi.size
      . exact h.2
    . simp only [aa,ae];refine⟨_,rfl,_,_,rfl,?_,_,_,rfl,⟨rfl,by simp only [lo,hi];omega⟩,rfl⟩;have hk:b7 W1 w' (λb=>w.heap.size<=b/\b<W1.heap.size) (λb=>A b\/(w.heap.size<=b/\b<w'.heap.size)):=λb hb=>⟨.inr ⟨hb.1,N? hb.2 at3.size⟩,at3.block b hb.2⟩;have aCG:=bm (λc x hx=>bw hk _ c x hx) _ _ qK;simp only [Rd];rcases ho.2 with⟨rfl,h0⟩|⟨g,jg,cur,rfl,hg,hh,hn,hc,cZ,yR⟩
      . have hm0:S.make docs f t=[]:=i?.1 h0;rw [hm0];exact⟨none,0,[],rfl,S! _,T! _,rfl,λh=>absurd rfl h⟩
      . refine⟨some ⟨g,0,none⟩,jg,xs,rfl,hn,hc,aCG,λ_=>⟨g,0,rfl,.inr ⟨w!,(O!.1 hh).1⟩,λj u hj=>?_⟩⟩;have:=ho.cells (g:=g) rfl j u hj;rwa [Addr.add_mid] at this
 . cases hs
end Go.DM

end
section
namespace Go.Vg
open Go
variable [HP]
theorem ZR.trans {w w1 w2:World}{p:Value}:∀ {z z1 z2:Z},ZR w p w1 z z1->ZR w1 p w2 z1 z2->ZR w p w2 z z2
 |.n,.n,.n,_,_|.s _,.s _,.s _,_,_=>trivial
 |.g _ _ _,.g _ _ _,.g _ _ _,⟨h1,h2,h3⟩,⟨g1,g2,g3⟩=>⟨h1.trans g1,h2.trans g2,λv h=>g3 v (h3 v h)⟩
theorem rv.trans {w w1 w2:World}{A S A1 S1 A2 S2:Nat->Prop}{p v1 v2:Value}{z:Z}{r1 r2:AV×Z}(h:rv w A S z w1 A1 S1 p v1 r1)(g:rv w1 A1 S1 r1.2 w2 A2 S2 p v2 r2):rv w A S z w2 A2 S2 p v2 r2 where
 kin:=h.kin.trans g.kin
 os:=g.os.trans h.os
 tape:=g.tape.trans h.tape
 output:=g.output.trans h.output
 size:=h? h.size g.size
 same b hb hs:=(g.same b (N? hb h.size) λD4=>(h.J0 b D4).1.elim hs λh=>absurd hb w!).trans (h.same b hb hs)
 mono b hb:=g.mono b (h.mono b hb)
 gH b hb ha:=h.gH b hb (g.gH b (N? hb h.size) ha)
 bound:=g.bound
 J0 b hb:=⟨(g.J0 b hb).1.elim (λh1=>(h.J0 b h1).1) λh1=>.inr (h? h.size h1),(g.J0 b hb).2⟩
 res:=g.res
 hb:=g.hb
theorem rv.zero {w:World}{A S:Nat->Prop}{p:Value}{z:Z}(hA:∀b,A b->b<w.heap.size)(hS:∀b,S b->¬A b/\b<w.heap.size)(h:HB w S p z):rv w A S z w A S p undef (.undef,z):=
 ⟨ZR.refl (λ_ _=>rfl) h,rfl,rfl,rfl,S! _,λ_ _ _=>rfl,λ_ h=>h,λ_ _ h=>h,hA,λb hb=>⟨.inl hb,hS b hb⟩,λ_=>rfl,h⟩
def Qt {w:World}{A:Nat->Prop}{p:Value}:∀ {xs:List Value} {l:List CF} {k:Nat} {F:CF},sh w A p xs l->l[k]? =some F->∃v,xs[k]? =some v/\HC w A p v F
 |x::xs,G::l,0,F,h,hk=>by
  simp only [a?,A!] at hk;subst hk;exact⟨x,rfl,h.1⟩
 |x::xs,G::l,k+1,F,h,hk=>Qt (k:=k) h.2 (by simpa using hk)
 |[],[],k,F,_,hk=>by cases hk
structure PI (w:World) (A S:Nat->Prop) (p:Value) (l:List CF) (z:Z) (k:Nat) (w':World):Prop where
 at_:∃A' S' z',rv w A S z w' A' S' p undef (.undef,z')/\(bN (l.drop k) z').1/\(bN (l.drop k) z').2=(bN l z).2
theorem PI.step {P:Program}(hP:HP.is P){w w1:World}{A S:Nat->Prop}{p:Value}{l:List CF}{z:Z}{k:Nat}{xs:List Value}(h:PI w A S p l z k w1)(hc:sh w A p xs l)(hA:∀b,A b->b<w.heap.size)(hS:∀b,S b->¬A b/\b<w.heap.size)(hk:k<l.length):
  ∃f a2,xs[k]? =some (.func (.func f) #[] a2)/\cO P f/\Calls P f a2 w1 λe w2=>∃c:Bool,e= .returned (.bool c)/\(c=true->PI w A S p l z (k+1) w2)/\(c=false->∃A' S',rv w A S z w2 A' S' p undef (.undef,(bN l z).2.2)/\(bN l z).2.1=false):=by
 obtain⟨A',S',z',h1,h2,h3⟩:=h.at_;have hl:l[k]? =some l[k]:=D! hk;obtain⟨v,hv,hC⟩:=Qt hc hl;have hd:l.drop k=l[k]::l.drop (k+1):=List.drop_eq_getElem_cons hk;rw [hd] at h2 h3;generalize l[k]=F at hC h2 h3 hl hd;simp only [bN] at h2 h3;obtain⟨q0,q1,q2⟩:=h2
 obtain⟨c,q1⟩:∃c,(F z').2.1= .bool c:=by
  revert q1;cases (F z').2.1<;>simp [isB]
 obtain⟨h0,f,a2,rfl,hC⟩:=hC;obtain⟨hf,hC⟩:=hC P hP;refine⟨f,a2,hv,hf,?_⟩;have hK:b7 w w1 A A':=λb hb=>⟨h1.mono b hb,h1.same b (hA b hb) λhs=>(hS b hs).1 hb⟩;refine(hC w1 A' z' S' hK h1.bound (λb hb=>(h1.J0 b hb).2) h1.hb q0).mono λe w2 ⟨v,he,A2,S2,g⟩=>?_;have Gq:v= .bool c:=by have:=g.res (λ_=>undef);rw [q1] at this;exact this
 subst Gq;refine⟨c,he,λhc=>?_,λhc=>?_⟩
 . subst hc;simp only [q1,bv,I!] at q2 h3;have g':rv w1 A' S' z' w2 A2 S2 p undef (.undef,(F z').2.2):={g with res:=λ_=>rfl};exact⟨A2,S2,_,h1.trans g',q2 trivial,h3⟩
 . subst hc;simp only [q1,bv,L!] at h3;have g':rv w1 A' S' z' w2 A2 S2 p undef (.undef,(F z').2.2):={g with res:=λ_=>rfl};rw [<-h3];exact⟨A2,S2,h1.trans g',rfl⟩
def Jh {P:Program}{ops:Array Oper}{Q:Exit->Act->World->Prop}{a:Act}{w:World}{rest:List Oper}{dst:Option Tmp}{x:Operand}{ty:TypeId}{pos:String}{after:Array Edge}{f:FuncId}{a2:Array Value}
  (hx:a.eval x= .func (.func f) #[] a2) (hf:cO P f) (h:Calls P f a2 w λe w'=>∃v,e= .returned v/\wpList P ops Q rest (a.put dst v) w'):
  wpList P ops Q (⟨dst,.call ⟨.value x, #[], #[]⟩,ty,pos,after,none⟩::rest) a w:=by
 have fg:(execOp a.eval ⟨dst,.call ⟨.value x, #[], #[]⟩,ty,pos,after,none⟩).run P w= .ok (.enter f a2) w:=by
  have:=hf a2 w;simp only [execOp,resolve,hx,Deferred.ofValue,Sem.run_bind,Sem.run_pure,Result.andThen_ok,invoke];simpa using this
 have azI:Region.wanted ⟨dst,.call ⟨.value x, #[], #[]⟩,ty,pos,after,none⟩ (yielded ops a.tmps)=true:=rfl;refine wpList_step λK hK=>?_;rw [if_pos azI];unfold Oper.wp;rw [fg];refine h.mono λe w' ⟨v,he,hr⟩=>?_;subst he;exact hK _ _ hr
def WalkC(P:Program)(f:FuncId):Prop:=∀(w:World) (A S:Nat->Prop) (p:Value) (l:List CF) (z:Z) (xs:List Value) (b0 cap:Nat) (ad:Option Addr),(∀b,A b->b<w.heap.size)->(∀b,S b->¬A b/\b<w.heap.size)->HB w S p z->
    (bN l z).1->sh w A p xs l->l.length<=maxLen->(l≠ []->b0<w.heap.size/\¬S b0/\w.rangeAt b0 0 xs)->(l≠ []->ad=some ⟨b0,0,none⟩)->
    Calls P f #[.slice ad l.length cap] w λe w'=>e= .returned (.int .i64 (bif (bN l z).2.1 then 0 else 6))/\∃A' S',rv w A S z w' A' S' p undef (.undef,(bN l z).2.2)
def WalkC.eE {P:Program}{f:FuncId}(hw:WalkC P f){w:World}{A S:Nat->Prop}{β:Nat->Value}{e k0:Nat}{k:Option Nat}{l:List CF}{z:Z}{p:Value}(hA:∀b,A b->b<w.heap.size)(hS:∀b,S b->¬A b/\b<w.heap.size)(hH:HB w S p z)
  (sG:(bN l z).1) (hb:BR w A β k0 (.eE e k l)) (hp:∀j,k=some j->p=β j) (hSb:∀b,ag (β k0)=some b->¬S b):
  Calls P f #[β k0] w λe w'=>e= .returned (.int .i64 (bif (bN l z).2.1 then 0 else 6))/\∃A' S',rv w A S z w' A' S' p undef (.undef,(bN l z).2.2):=by
 obtain⟨xs,h1,h2,h3⟩:=hb;rcases h1.2 with⟨g1,g2⟩|⟨g,cap,cur,g1,_,hg,g4,g5,_,_⟩
 . rw [g1];have :l=[]:=V! g2;subst this;exact hw w A S p [] z xs 0 0 none hA hS hH sG (h3 p hp) z! (λh=>absurd rfl h) (λh=>absurd rfl h)
 . rcases jl h1 with⟨q1,_⟩|⟨b,jg,q1,q2,q3,q4⟩
   . rw [q1] at g1;cases g1
   . rw [q1];rw [q1] at g1;simp only [Value.slice.injEq,A!,Addr.mk.injEq,t?] at g1;obtain⟨rfl,_,_⟩:=g1;exact hw w A S p l z xs b jg _ hA hS hH sG (h3 p hp) w! (λ_=>⟨(O!.1 hg).1,hSb b (by rw [q1];rfl),q4⟩) (λ_=>rfl)
def Nf {w:World}{S:Nat->Prop}{e:Nat}:∀n,nK w S e (List.replicate n (.slice none 0 0)) (List.replicate n [])
 |0=>trivial
 |n+1=>⟨World.ownsRow_nil w 0 e 1,z!,nofun,Nf n⟩
def Qu {w:World}{A:Nat->Prop}{β:Nat->Value}:∀ {n:Nat} {xs:List Value},ae w A β xs (List.replicate n .nil)->xs=List.replicate n (.slice none 0 0)
 |0,xs,h=>h
 |n+1,xs,h=>by
  obtain⟨v,vs,rfl,h1,h2⟩:=h;rw [Qu h2,List.replicate_succ];rw [show v=_ from h1]
def Qv {w:World}{S A:Nat->Prop}{e:Nat}:∀ {xs:List Value} {l:List (List Int)},(∀u∈xs,∀b,ag u=some b->A b)->nK w S e xs l->dc (br w A [.slice [.int .i64]]) xs l
 |[],[],_,_=>rfl
 |v::vs,x::l,hA,⟨h1,h2,h3,h4⟩=>by
  refine⟨[v],vs,rfl,⟨v,[],rfl,?_,rfl⟩,Qv (λu hu=>hA u (E! _ hu)) h4⟩
  have qK:dc (br w A [.int .i64]) (x.map (Value.int .i64)) x:=by
   clear h1 h3;induction x with
   |nil=>rfl
   |cons n x ih=>exact⟨[_],_,rfl,⟨_,[],rfl,⟨rfl,h2 n (H! ..)⟩,rfl⟩,ih λm hm=>h2 m (E! _ hm)⟩
  rcases jl h1 with⟨g1,g2⟩|⟨b,cap,g1,g2,g3,g4⟩
  . have :x=[]:=V! g2;subst this;exact⟨none,0,[],g1,S! _,z!,rfl,λh=>absurd rfl h⟩
  . exact⟨_,cap,_,g1,g2,g3,qK,λ_=>⟨b,0,rfl,hA v (H! ..) b (by rw [g1];rfl),g4⟩⟩
def nK.mem {w:World}{S:Nat->Prop}{e:Nat}:∀ {xs:List Value} {l:List (List Int)},nK w S e xs l->∀u∈xs,∀b,ag u=some b->S b
 |v::vs,x::l,⟨_,_,h3,h4⟩,u,hu,b,hb=>by
  rcases N!.1 hu with rfl|hu
  . exact(h3 b hb).1
  . exact nK.mem h4 u hu b hb
 |[],_,_,u,hu,_,_=>by cases hu
def azJ {w:World}{A:Nat->Prop}{β:Nat->Value}{k b:Nat}{ab:AB}(h:BR w A β k ab)(hb:ag (β k)=some b):b<w.heap.size:=by
 cases ab with
 |mp b2 es ck=>
  obtain⟨h1,h2,_⟩:=h;rw [h1] at hb;simp only [ag,A!] at hb;subst hb;exact(O!.1 h2).1
 |arr _ _|fvar _ _|cells _=>
  obtain⟨b',arr,e,h1,h2,_⟩:=h;rw [h1] at hb;simp only [ag,A!] at hb;subst hb;exact(O!.1 h2).1
 |row _ _ _ _|views _ _ _ _ _|eE _ _ _|aX _ _ _ _|dM _ _ _ _=>
  obtain⟨xs,h1,_⟩:=h;rcases h1.2 with⟨hn,_⟩|⟨g,cap,cur,hv,_,hg,_⟩
  . rw [hn] at hb;simp [ag] at hb
  . rw [hv] at hb;simp only [ag,A!] at hb;subst hb;exact(O!.1 hg).1
 |gG _ _ _ _ _=>
  obtain⟨xs,v0,h1,_⟩:=h;rcases h1.2 with⟨hn,_⟩|⟨g,cap,cur,hv,_,hg,_⟩
  . rw [hn] at hb;simp [ag] at hb
  . rw [hv] at hb;simp only [ag,A!] at hb;subst hb;exact(O!.1 hg).1
def Hx {w:World}{A:Nat->Prop}{β:Nat->Value}(b:Bool):aa w A β (.int .i64 (bif b then 0 else 6)) (O1 b):=by
 cases b<;>exact⟨rfl,by decide,by decide⟩
def Oi {P:Program}{G:Nat->Option GD}{f:FuncId}{ei:Nat}(hw:WalkC P f):ay P G f (EU ei):=by
 intro w A β args aX hs r hA hG bj eu tF jb hp hlen B1
 have Ti:∀k,ae w A β args [.own k]->args=[β k]:=λk h=>by
  obtain⟨v,vs,rfl,h1,h2⟩:=h;simp only [ae] at h2;subst h2;rw [h1.1]
 unfold EU at jb;split at jb
 . rename_i e k l;simp only [A!,aW.run,aW.rows,aW.Ku,aW.Ie,runT_eq] at jb;subst jb;have Cq:=eu 0 _ rfl;rw [Ti _ bj];refine(hw.eE (S:=λ_=>False) (z:=.n) (p:=k.elim undef β) (k0:=50000) hA nofun trivial hp Cq (λj hj=>by rw [hj];rfl) nofun).mono ?_;rintro e' w' ⟨rfl,A',S',g⟩;refine⟨_,rfl,A',β,⟨g.os,g.tape,g.output,g.size,λb hb _=>g.same b hb id,λb hb=>⟨g.mono b hb,g.same b (hA b hb) id⟩,λb hb ha=>.inl (g.gH b hb ha),g.bound,Hx _,?_,nofun,?_⟩⟩
   . intro i ab h;match i,h with
     |0,h=>cases h
     |_+1,h=>cases h
   . rintro k k' b (⟨i,ab,_,_,h⟩|⟨j,_,h⟩) _ _ _
     . match i,h with
       |0,h=>cases h
       |_+1,h=>cases h
     . simp at h
 . rename_i e l t;simp only [A!,aW.run,aW.rows,aW.Ku,aW.Ie,runT_eq] at jb;subst jb;have Cq:=eu 0 _ rfl;rw [Ti _ bj];obtain⟨b,arr,e0,c1,c2,c3,c4,c5⟩:=eu 1 _ rfl;obtain⟨v,vs,ha,⟨rfl,QM⟩,I2⟩:=c4;simp only [ae] at I2;subst I2;have y7:arr= #[.string ⟨t.toArray⟩]:=by apply r?;exact ha
   subst y7;have hbs:=(O!.1 c2).1;have hS:∀g,g=b->¬A g/\g<w.heap.size:=by rintro g rfl;exact⟨c3,hbs⟩
   refine(hw.eE (S:=λg=>g=b) (z:=.s t) (p:=β 50001) (k0:=50000) hA hS ⟨b,e0,c1,c2,QM,rfl⟩ hp Cq (λj hj=>by cases hj;rfl) (λg hg RJ=>?_)).mono ?_
   . subst RJ;have:=tF 0 1 g z! z! hg (by rw [c1];rfl);cases this
   rintro e' w' ⟨rfl,A',S',g⟩;have IY:=g.kin
   have hhb:=g.hb;generalize (bN l (.s t)).2.2=z' at IY hhb;cases z' with
   |n=>cases IY
   |g _ _ _=>cases IY
   |s t'=>
   obtain⟨b',e1,d1,d2,d3,d4⟩:=hhb
   have IZ:b'=b:=by
    have c1':β 50001= .pointer (some ⟨b,0,none⟩):=c1;rw [c1'] at d1;simp only [Value.pointer.injEq,A!,Addr.mk.injEq,t?] at d1;exact d1.symm
   subst IZ;have hM:∀x,x=b'->HM β 2 x:=by rintro x rfl;exact⟨1,by decide,by rw [c1];rfl⟩
   refine⟨_,rfl,A',β,⟨g.os,g.tape,g.output,g.size,λx hx hm=>g.same x hx λhs=>hm (hM x hs),λx hx=>⟨g.mono x hx,g.same x (hA x hx) λhs=>(hS x hs).1 hx⟩,λx hx ha=>.inl (g.gH x hx ha),g.bound,Hx _,?_,nofun,?_⟩⟩
   . intro i ab h;match i,h with
     |0,h=>cases h
     |1,h=>
      simp only [List.getElem?_cons_succ,a?,A!] at h;subst h;exact⟨⟨b',_,e1,c1,d2,(g.J0 b' d4).2.1,⟨_,[],rfl,⟨rfl,d3⟩,rfl⟩,by simp [Value.oneCell']⟩,rfl⟩
     |_+2,h=>cases h
   . have hk:∀k,y8 ⟨(bN l (.s t)).1,O1 (bN l (.s t)).2.1,[none,some (.cells [.str (Z.s t').txt])],[]⟩ k->k=50001:=by
      rintro k (⟨i,ab,rfl,_,h⟩|⟨j,_,h⟩)
      . match i,h with
        |0,h=>cases h
        |1,_=>rfl
        |_+2,h=>cases h
      . simp at h
     intro k k' x h1 h2 _ _;rw [hk k h1,hk k' h2]
 . rename_i e l e2 n cs;simp only [A!,aW.run,aW.rows,aW.Ku,aW.Ie,runT_eq] at jb;subst jb;obtain⟨dm,hp⟩:=hp;subst dm;have Cq:=eu 0 _ rfl;rw [Ti _ bj];obtain⟨b,arr,e0,c1,c2,c3,c4,c5⟩:=eu 1 _ rfl;obtain⟨v,vs,ha,⟨aCH,hv1⟩,I2⟩:=c4;simp only [ae] at I2;subst I2;subst aCH;have y7:arr= #[β 50002]:=by apply r?;exact ha
   subst y7;have aCI:=eu 2 _ rfl;obtain⟨xs,f1,f2,f3⟩:=aCI;have hxs:=Qu (f3 β);subst hxs;have hbs:=(O!.1 c2).1;have hrl:∀g,ag (β 50002)=some g->g<w.heap.size:=λg hg=>azJ (eu 2 _ rfl) hg
   have dU:∀g,ag (β 50002)=some g->g≠b:=λg hg RJ=>by
    subst RJ;have:=tF 2 1 g z! z! hg (by rw [c1];rfl);cases this
   have hS:∀g,g=b\/ag (β 50002)=some g->¬A g/\g<w.heap.size:=by
    rintro g (rfl|hg)
    . exact⟨c3,hbs⟩
    . exact⟨f2 g hg,hrl g hg⟩
   have HK:∀u∈List.replicate n (Value.slice none 0 0),∀g,ag u≠some g:=λu hu g=>by
    rw [(List.mem_replicate.1 hu).2];nofun
   have hH:HB w (λg=>g=b\/ag (β 50002)=some g) (β 50001) (.g e2 ei (List.replicate n [])):=by
    refine⟨b,e0,β 50002,_,c1,c2,.inl rfl,hv1,by simpa using f1,λg hg=>⟨.inr hg,dU g hg,λu hu=>HK u hu g⟩,λu hu=>HK u hu b,Nf n⟩
   refine(hw.eE (S:=λg=>g=b\/ag (β 50002)=some g) (z:=.g e2 ei (List.replicate n [])) (p:=β 50001) (k0:=50000) hA hS hH hp Cq (λj hj=>by cases hj;rfl) (λg hg RJ=>?_)).mono ?_
   . rcases RJ with rfl|Bu
     . have:=tF 0 1 g z! z! hg (by rw [c1];rfl);cases this
     . have:=tF 0 2 g z! z! hg Bu;cases this
   rintro e' w' ⟨rfl,A',S',g⟩;have IY:=g.kin
   have hhb:=g.hb;generalize (bN l (.g e2 ei (List.replicate n []))).2.2=z' at IY hhb;cases z' with
   |n=>cases IY
   |s _=>cases IY
   |g e3 ei3 l'=>
   obtain⟨rfl,rfl,akt⟩:=IY;obtain⟨b',e1,v',ys,d1,d2,d3,d4,d5,d6,d7,d8⟩:=hhb;have c1':β 50001= .pointer (some ⟨b,0,none⟩):=c1
   have IZ:b'=b:=by
    rw [c1'] at d1;simp only [Value.pointer.injEq,A!,Addr.mk.injEq,t?] at d1;exact d1.symm
   subst IZ
   have hvv:v'=β 50002:=by
    obtain⟨b2,e4,q1,q2⟩:=akt (β 50002) ⟨b',e0,c1,c2⟩;rw [c1'] at q1;simp only [Value.pointer.injEq,A!,Addr.mk.injEq,t?] at q1;subst q1;rw [d2] at q2;simp only [A!,Obj.cells.injEq] at q2;have:=q2.1;simpa using this
   subst hvv
   have hM:∀x,x=b'\/ag (β 50002)=some x->HM β 3 x:=by
    rintro x (rfl|hx)
    . exact⟨1,by decide,by rw [c1];rfl⟩
    . exact⟨2,by decide,hx⟩
   have NM:∀x,(∃u∈ys,ag u=some x)->S' x:=λx ⟨u,hu,hx⟩=>nK.mem d8 u hu x hx;refine⟨_,rfl,λx=>A' x\/∃u∈ys,ag u=some x,β,⟨g.os,g.tape,g.output,g.size,λx hx hm=>g.same x hx λhs=>hm (hM x hs),λx hx=>⟨.inl (g.mono x hx),g.same x (hA x hx) λhs=>(hS x hs).1 hx⟩,λx hx ha=>?_,λx hx=>?_,Hx _,?_,nofun,?_⟩⟩
   . rcases ha with ha|ha
     . exact .inl (g.gH x hx ha)
     . rcases(g.J0 x (NM x ha)).1 with hs|hs
       . exact .inr (hM x hs)
       . omega
   . rcases hx with hx|hx
     . exact g.bound x hx
     . exact(g.J0 x (NM x hx)).2.2
   . intro i ab h;match i,h with
     |0,h=>cases h
     |1,h=>
      simp only [List.getElem?_cons_succ,a?,A!] at h;subst h;refine⟨⟨b',_,e1,c1,d2,?_,⟨_,[],rfl,⟨rfl,d4⟩,rfl⟩,by simpa using d4⟩,rfl⟩;rintro(ha|⟨u,hu,hx⟩)
      . exact(g.J0 b' d3).2.1 ha
      . exact d7 u hu hx
     |2,h=>
      simp only [List.getElem?_cons_succ,a?,A!] at h;subst h;refine⟨⟨ys,d5,Qv (λu hu x hx=>.inr ⟨u,hu,hx⟩) d8,λx hx=>?_⟩,rfl⟩;obtain⟨q1,q2,q3⟩:=d6 x hx;simp only [O?,w?];rintro(ha|⟨u,hu,hx⟩)
      . exact(g.J0 x q1).2.1 ha
      . exact q3 u hu hx
     |_+3,h=>cases h
   . have hk:∀k,y8 ⟨(List.replicate n AV.nil=List.replicate n .nil/\(bN l (.g e2 ei (List.replicate n []))).1),O1 (bN l (.g e2 ei (List.replicate n []))).2.1,[none,some (.cells [.own 50002]),some (.row e2 [.slice [.int .i64]] (Z.g e2 ei l').rows false)],[]⟩ k->k=50001\/k=50002:=by
      rintro k (⟨i,ab,rfl,_,h⟩|⟨j,_,h⟩)
      . match i,h with
        |0,h=>cases h
        |1,_=>exact .inl rfl
        |2,_=>exact .inr rfl
        |_+3,h=>cases h
      . simp at h
     intro k k' x h1 h2 hx Bq
     have tG:ag (β 50001)=some x->ag (β 50002)=some x->False:=λq1 q2=>by
      rw [c1'] at q1;simp only [ag,A!] at q1;exact dU x q2 q1.symm
     rcases hk k h1 with rfl|rfl<;>rcases hk k' h2 with rfl|rfl
     . rfl
     . exact(tG hx Bq).elim
     . exact(tG Bq hx).elim
     . rfl
 . cases jb
end Go.Vg
namespace Go.Proofs
open Go Go.RowKit Go.ChangeShapes Go.Vg
set_option maxRecDepth 100000 in
set_option maxHeartbeats 4000000 in
def Tryz.Tj(w:World)(A S:Nat->Prop)(p:Value)(l:List CF)(z:Z)(xs:List Value)(b0 cap:Nat)(hA:∀b,A b->b<w.heap.size)(hS:∀b,S b->¬A b/\b<w.heap.size)(hH:HB w S p z)
  (sG:(bN l z).1) (hc:sh w A p xs l) (hl:l.length<=maxLen) (hb:l≠ []->b0<w.heap.size/\¬S b0/\w.rangeAt b0 0 xs) (ad:Option Addr) (had:l≠ []->ad=some ⟨b0,0,none⟩):
  Calls Tryz.prog 44 #[.slice ad l.length cap] w λe w'=>e= .returned (.int .i64 (bif (bN l z).2.1 then 0 else 6))/\∃A' S',rv w A S z w' A' S' p undef (.undef,(bN l z).2.2):=by
 go_enter Tryz.func44,Tryz.ntmps44
 go_wp2
 go_loopw [7] (λi wr=>∃k:Nat,k<=l.length/\i= .int .i64 k/\Aside (PI w A S p l z k wr)) (λi _=>l.length-(intOf i).toNat)
 case atStart=>exact⟨0,T! _,rfl,⟨A,S,z,rv.zero hA hS hH,sG,rfl⟩⟩
 case round=>
  have hl2:l.length<=9223372036854775807:=by have:=hl;unfold maxLen at this;omega
  obtain⟨k,hk,rfl,HI⟩:=hrel;by_cases iU:k<l.length
  . obtain⟨f,a2,hx,hf,uM⟩:=PI.step (P:=Tryz.prog) rfl HI hc hA hS iU;have dU:l≠ []:=by rintro rfl;simp at iU
    obtain⟨Kw,I3,hb3⟩:=hb dU;have aCK:=had dU;subst aCK
    have oP:wr.cell? ⟨b0,k,none⟩=some (.func (.func f) #[] a2):=by
     have h1:=hb3 k _ hx;rw [q?] at h1;obtain⟨A',S',z',g,_⟩:=HI.at_;rw [<-h1];exact World.cell?_of_block (g.same b0 Kw I3)
    clear hb hb3 had;go_wp2_with (first|(refine Jh rfl hf (uM.mono ?_);rintro e w2 ⟨c,rfl,hT,hF⟩;refine⟨_,rfl,?_⟩;cases c)|go_in)
    . go_ret
      obtain⟨A',S',g,hz⟩:=hF trivial;rw [hz];exact⟨rfl,A',S',g⟩
    . exact⟨⟨k+1,w!,by go_num,hT rfl⟩,by simp [intOf];omega⟩
  . have :k=l.length:=by omega
    subst this;obtain⟨A',S',z',g,h1,h2⟩:=HI.at_;rw [List.drop_length] at h2;simp only [bN] at h2;have e1:(bN l z).2.1=true:=by rw [<-h2]
    have e2:(bN l z).2.2=z':=by rw [<-h2]
    clear hb h1 h2 hc sG;go_wp2
    go_ret
    rw [e1,e2];exact⟨rfl,A',S',g⟩
def Tryz.YV {G:Nat->Option GD}:ay Tryz.prog G 44 (EU 3):=Oi λw A S p l z xs b0 cap ad h1 h2 h3 h4 h5 h6 h7 h8=>Tryz.Tj w A S p l z xs b0 cap h1 h2 h3 h4 h5 h6 h7 ad h8
end Go.Proofs

end
section
namespace Go.J
open Go Vg Go.Proofs
def cw:aB1->Yv->bk:=λ(g1,g2,g3,g4,w,a1,a2,a3,a4,i,j) y=>
 let r:=bif S.rC (g1,g2,g3,g4) w a4 i j then SY (g1,g2,g3,g4,w,a1,a2,a3,a4,i,j) y else S3 (g1,g2,g3,g4,w,a1,a2,a3,a4,i,j) y
 ⟨S.Mo w a4 i j/\S.P4 j y.2.1.2 y.2.1.1.length y.2.2.1,r.res,r.heap,r.new⟩
def akG {G:Nat->Option GD}(hy:ay Tryz.prog G 41 SZ)(hn:ay Tryz.prog G 41 S4):CB G 41 (zE avO aba):=by
 have hv:ay Tryz.prog G 41 (bH avp MG cw):=by
  refine ay.cases hy hn λx y h=>?_;obtain⟨g1,g2,g3,g4,w,a1,a2,a3,a4,i,j⟩:=x;obtain⟨_,⟨xs,q⟩,l,_⟩:=y;cases hb:S.rC (g1,g2,g3,g4) w a4 i j with
  |true=>exact .inl ⟨⟨h.1,h.2,hb⟩,by simp only [cw,hb,I!]⟩
  |false=>exact .inr ⟨⟨h.1,h.2,hb⟩,by simp only [cw,hb,L!]⟩
 refine UB (λ_ h=>h) (cO.k Tryz.func41 y!) hv λx z h=>?_;obtain⟨g1,g2,g3,g4,w,a1,a2,a3,a4,i,j⟩:=x;cases z with
 |s t=>exact h.elim
 |n=>exact h.elim
 |g e ei l=>
  obtain⟨rfl,rfl,h1,h2⟩:=h;refine⟨27,3,l,j.toNat,_,rfl,rfl,h2.2.1,⟨_,rfl⟩,λxs hx=>⟨cw (g1,g2,g3,g4,w,a1,a2,a3,a4,i,j) ((),((xs,j.toNat),(l.getD j.toNat [],()))),y!,⟨h1,h2.1,by show _<xs.length;rw [hx];exact h2.2.1,h2.2.2⟩,?_,?_⟩⟩
  . show(cw (g1,g2,g3,g4,w,a1,a2,a3,a4,i,j) ((),((xs,j.toNat),(l.getD j.toNat [],())))).res= .bool (S.rC (g1,g2,g3,g4) w a4 i j);cases hb:S.rC (g1,g2,g3,g4) w a4 i j<;>simp only [cw,hb,I!,L!]<;>rfl
  . cases hb:S.rC (g1,g2,g3,g4) w a4 i j with
    |true=>exact .inr ⟨by simp only [cw,hb,I!];rfl,by simp only [cw,hb,I!,SY,S.Mp,R?]⟩
    |false=>exact .inl ⟨by simp only [cw,hb,L!,S3,S.Mp];rfl,by simp only [cw,hb,L!];rfl⟩
end Go.J

end
