import Derived.Test.YtfbolhlbmbfhbaaGreatDoorPartE
import Derived.Shelf.SlicesG.Clone
import Derived.Shelf.SlSortCmp.NoneTotal
import Derived.Shelf.SortM.Plain
import Derived.Shelf.SortM.SortNone
import Derived.Shelf.SlicesG.ReverseS
import Derived.Shelf.SlIter.Nil
import Derived.Test.YtfbolhlbmbfhbaaGreatDoorProg
import Derived.Lib.Small
import Derived.Lib.Walk
import Derived.Sort.Walk0
import Derived.Laws.Cover1
import Derived.Maps.GroupsBeside
import Derived.Sort.KeysCollected
import Derived.WalkKit
import Derived.Deep.LoopGhost
import Derived.Handy
set_option linter.unusedVariables false
set_option linter.unusedSimpArgs false
set_option linter.unusedSectionVars false
set_option linter.defProp false
set_option linter.unusedVariables false
namespace Go.J
open S
open Go Vg
def E0:Env:={T:=eY,sig:=λ_=>none,jY:=G0}
abbrev FR:=Prop×AV×M AB
abbrev LR:=Nat->Option bM
def iN(k:Nat):AV:=.int .i64 (k:Int)
def aMK:ao4->FR:=λ_=>(True,.own 0,[.row 253 [.int .u32] (AI) false])
def aCQ:Env:=cS 371 q0p aMK E0
def aML:aCg->FR:=λ(x,n)=>(jq n,.int .u32 (S.right x n:Int),[])
def aCR:Env:=cS 372 q1p aML aCQ
def aMM:fb->FR:=λb=>(b.length=64,.own 0,[.row 253 [.int .u32] (S.sched b 64) false])
def aMN:fb->LR:=λb=>λ
    |0=>some ⟨Nat,[(4,λk=>.int .i64 ((4*k:Nat):Int)),(3,λk=>.own 300)],[(300,λk=>.row 253 [.int .u32] (S.sched b k) false)],[(Vg.Loc.slot 3,300)],[110500,110501,110502,105,301],[],λk=>cw k 16,λk=>ag 16 k⟩
    |2=>some ⟨Nat,[(5,iN),(3,λk=>.own 301)],[(301,λk=>.row 253 [.int .u32] (S.sched b k) false)],[(Vg.Loc.slot 3,301)],[300,43,104300,104301,104302],[],λk=>16<=k/\k<=64,λk=>ag 64 k⟩
    |_=>none
def aCS:Env:=cS 370 lz aMM aCR
def aMO:aCh->FR:=λ(l,p)=>(OJ l p,.own 0,[.row 253 [.int .u32] (eQ (S.block (ta l) p)) false])
def aMP:aCh->LR:=λ(l,p)=>λ
    |0=>some ⟨Nat,[(15,iN),(7,λk=>.int .u32 (gq (S.sched p 64) (ta l) k).1),(8,λk=>.int .u32 (gq (S.sched p 64) (ta l) k).2.1),(9,λk=>.int .u32 (gq (S.sched p 64) (ta l) k).2.2.1),(10,λk=>.int .u32 (gq (S.sched p 64) (ta l) k).2.2.2.1),(11,λk=>.int .u32 (gq (S.sched p 64) (ta l) k).2.2.2.2.1),(12,λk=>.int .u32 (gq (S.sched p 64) (ta l) k).2.2.2.2.2.1),(13,λk=>.int .u32 (gq (S.sched p 64) (ta l) k).2.2.2.2.2.2.1),(14,λk=>.int .u32 (gq (S.sched p 64) (ta l) k).2.2.2.2.2.2.2)],[],[],[],[],λk=>cw k 64,λk=>ag 64 k⟩
    |_=>none
def aCT:Env:=cS 337 q3p aMO aCS
def aMQ:fb->FR:=λb=>(S.small b,.own 0,[.row 5 [.int .u8] (S.tail b (pP b)) false])
def aMR:fb->LR:=λb=>λ
    |0=>some ⟨Nat,[(3,λk=>.own 300)],[(300,λk=>.row 5 [.int .u8] (gu b k) false)],[(Vg.Loc.slot 3,300)],[11,101100,101101,101102],[],λk=>cA b k,λk=>ag (ik (S.len b)) k⟩
    |2=>some ⟨Nat,[(6,iN),(4,λk=>.int .u64 (mR b k)),(5,λk=>.own 301)],[(301,λk=>.row 5 [.int .u8] (lp b k) false)],[(Vg.Loc.slot 5,301)],[],[],λk=>cw k 8,λk=>ag 8 k⟩
    |_=>none
def aCU:Env:=cS 336 lz aMQ aCT
def aMS:fb->FR:=λb=>(S.small b,.str (S.sum b),[])
def aMT:fb->LR:=λb=>λ
    |0=>some ⟨Nat,[(5,λk=>.int .i64 ((64*k:Nat):Int)),(3,λk=>.own 300)],[(300,λk=>.row 253 [.int .u32] (eQ (S.proc H0 (S.tail b (pP b)) k)) false)],[(Vg.Loc.slot 3,300)],[8],[],λk=>k<=S.blocks (S.tail b (pP b)),λk=>ag (S.blocks (S.tail b (pP b))) k⟩
    |2=>some ⟨Nat,[(7,iN),(6,λk=>.own 301)],[(301,λk=>.row 5 [.int .u8] (oQ (b8 H0 (S.tail b (pP b))) k) false)],[(Vg.Loc.slot 6,301)],[],[],λk=>cw k 8,λk=>ag 8 k⟩
    |_=>none
def aCV:Env:=cS 246 lz aMS aCU
def aMU:aCg->FR:=λ(x,k)=>(tX x k,.int .u32 (S.rotl x k:Int),[])
def aCW:Env:=cS 373 q1p aMU aCV
def aMV:ao4->FR:=λ_=>(True,.agg [.int .u32 1779033703,.int .u32 3144134277,.int .u32 1013904242,.int .u32 2773480762,.int .u32 1359893119,.int .u32 2600822924,.int .u32 528734635,.int .u32 1541459225,.nil,.int .i64 0],[])
def aCX:Env:=cS 149 q0p aMV aCW
def aMW:ao5->FR:=λ(s1,s2,s3,s4,s5,s6,s7,s8,s9,fC)=>(True,.bool (qw s9 fC),[])
def aCY:Env:=cS 261 q4p aMW aCX
def aMX:aeK->FR:=λ(u1,u2,u3,u4,u5,u6,u7,u8,p)=>(Vj (u1,u2,u3,u4,u5,u6,u7,u8) p,.agg (ay [.int .u32,.int .u32,.int .u32,.int .u32,.int .u32,.int .u32,.int .u32,.int .u32] (S.block (u1,u2,u3,u4,u5,u6,u7,u8) p)),[])
def aMY:aeK->LR:=λ(u1,u2,u3,u4,u5,u6,u7,u8,p)=>λ
    |0=>some ⟨Nat,[(26,iN)],[(5,λk=>.arr [.int .u32] (ba p k))],[],[],[],λk=>cw k 16,λk=>ag 16 k⟩
    |2=>some ⟨Nat,[(7,iN)],[(5,λk=>.arr [.int .u32] (ba p k))],[],[],[],λk=>16<=k/\k<=64,λk=>ag 64 k⟩
    |4=>some ⟨Nat,[(124,iN),(12,λk=>.int .u32 (gq (S.sched p 64) (u1,u2,u3,u4,u5,u6,u7,u8) k).1),(13,λk=>.int .u32 (gq (S.sched p 64) (u1,u2,u3,u4,u5,u6,u7,u8) k).2.1),(14,λk=>.int .u32 (gq (S.sched p 64) (u1,u2,u3,u4,u5,u6,u7,u8) k).2.2.1),(15,λk=>.int .u32 (gq (S.sched p 64) (u1,u2,u3,u4,u5,u6,u7,u8) k).2.2.2.1),(16,λk=>.int .u32 (gq (S.sched p 64) (u1,u2,u3,u4,u5,u6,u7,u8) k).2.2.2.2.1),(17,λk=>.int .u32 (gq (S.sched p 64) (u1,u2,u3,u4,u5,u6,u7,u8) k).2.2.2.2.2.1),(18,λk=>.int .u32 (gq (S.sched p 64) (u1,u2,u3,u4,u5,u6,u7,u8) k).2.2.2.2.2.2.1),(19,λk=>.int .u32 (gq (S.sched p 64) (u1,u2,u3,u4,u5,u6,u7,u8) k).2.2.2.2.2.2.2)],[],[],[],[],λk=>cw k 64,λk=>ag 64 k⟩
    |_=>none
def aCZ:Env:=cS 340 q5p aMX aCY
def aHs:aeK->FR:=λ(u1,u2,u3,u4,u5,u6,u7,u8,b)=>(xt (u1,u2,u3,u4,u5,u6,u7,u8),.bc [.agg (ay [.int .u32,.int .u32,.int .u32,.int .u32,.int .u32,.int .u32,.int .u32,.int .u32] (((b8 (u1,u2,u3,u4,u5,u6,u7,u8) b,j6 b)).1)),.sl [.int .u8] (((b8 (u1,u2,u3,u4,u5,u6,u7,u8) b,j6 b)).2)],[])
def aHt:aeK->LR:=λ(u1,u2,u3,u4,u5,u6,u7,u8,b)=>λ
    |0=>some ⟨Nat,[(1,λk=>.sl [.int .u8] (j7 b k))],[(2,λk=>.cells [.int .u32 (S.proc (u1,u2,u3,u4,u5,u6,u7,u8) b k).1,.int .u32 (S.proc (u1,u2,u3,u4,u5,u6,u7,u8) b k).2.1,.int .u32 (S.proc (u1,u2,u3,u4,u5,u6,u7,u8) b k).2.2.1,.int .u32 (S.proc (u1,u2,u3,u4,u5,u6,u7,u8) b k).2.2.2.1,.int .u32 (S.proc (u1,u2,u3,u4,u5,u6,u7,u8) b k).2.2.2.2.1,.int .u32 (S.proc (u1,u2,u3,u4,u5,u6,u7,u8) b k).2.2.2.2.2.1,.int .u32 (S.proc (u1,u2,u3,u4,u5,u6,u7,u8) b k).2.2.2.2.2.2.1,.int .u32 (S.proc (u1,u2,u3,u4,u5,u6,u7,u8) b k).2.2.2.2.2.2.2])],[],[],[],λk=>64*k<=b.length,λk=>ag (S.blocks b) k⟩
    |_=>none
def apU:Env:=cS 262 q5p aHs aCZ
def aHu:aLF->FR:=λ(s1,s2,s3,s4,s5,s6,s7,s8,s9,fC,b)=>(Vi (s1,s2,s3,s4,s5,s6,s7,s8) s9 fC b,.agg [.int .u32 (b8 (s1,s2,s3,s4,s5,s6,s7,s8) b).1,.int .u32 (b8 (s1,s2,s3,s4,s5,s6,s7,s8) b).2.1,.int .u32 (b8 (s1,s2,s3,s4,s5,s6,s7,s8) b).2.2.1,.int .u32 (b8 (s1,s2,s3,s4,s5,s6,s7,s8) b).2.2.2.1,.int .u32 (b8 (s1,s2,s3,s4,s5,s6,s7,s8) b).2.2.2.2.1,.int .u32 (b8 (s1,s2,s3,s4,s5,s6,s7,s8) b).2.2.2.2.2.1,.int .u32 (b8 (s1,s2,s3,s4,s5,s6,s7,s8) b).2.2.2.2.2.2.1,.int .u32 (b8 (s1,s2,s3,s4,s5,s6,s7,s8) b).2.2.2.2.2.2.2,.sl [.int .u8] (j6 b),.int .i64 (pP b)],[])
def apV:Env:=cS 148 q6p aHu apU
def aHv:ao5->FR:=λ(s1,s2,s3,s4,s5,s6,s7,s8,s9,fC)=>(MN (s1,s2,s3,s4,s5,s6,s7,s8) s9 fC,.str (dig (b8 (s1,s2,s3,s4,s5,s6,s7,s8) (S.tail s9 fC))),[])
def aHw:ao5->LR:=λ(s1,s2,s3,s4,s5,s6,s7,s8,s9,fC)=>λ
    |0=>some ⟨Nat,[(3,λk=>.own 300)],[(300,λk=>.row 5 [.int .u8] (gu s9 k) false)],[(Vg.Loc.slot 3,300)],[101700,101701,101702,43,104300,102000,17,102001,102002,20,104301,104302,301],[],λk=>cA s9 k,λk=>ag (ik (S.len s9)) k⟩
    |2=>some ⟨Nat,[(32,iN),(3,λk=>.own 301)],[(301,λk=>.row 5 [.int .u8] (pt s9 fC k) false)],[(Vg.Loc.slot 3,301)],[300,101700,101701,101702,102700,102701,102702,102000,17,102001,102002,20,27],[],λk=>cw k 8,λk=>ag 8 k⟩
    |4=>some ⟨Nat,[(54,iN),(8,λk=>.own 302)],[(302,λk=>.row 5 [.int .u8] (oQ (b8 (s1,s2,s3,s4,s5,s6,s7,s8) (S.tail s9 fC)) k) false)],[(Vg.Loc.slot 8,302)],[52],[],λk=>cw k 8,λk=>ag 8 k⟩
    |_=>none
def apW:Env:=cS 147 q4p aHv apV
def aHx:fb->FR:=λb=>(S.small b,.str (S.sum b),[])
def apX:Env:=cS 61 lz aHx apW
def aHy:pW->FR:=λv=>(0<=v,.own 0,[.row 5 [.int .u8] (S.num v) false])
def aHz:pW->Nat:=λv=>v.toNat
def apY:Env:=cS 247 D9 aHy apX
def aHA:aeL->FR:=λs=>(S.small s,.own 0,[.row 5 [.int .u8] (S.text s) false])
def apZ:Env:=cS 284 q8p aHA apY
def aHB:fb->FR:=λb=>(b.length<=140737488355328,.own 0,[.row 5 [.int .u8] (b) false])
def ap0:Env:=cS 333 lz aHB apZ
def aHC:aCi->ao6->bl:=λv (l,())=>⟨HO l v,.own 60000,[none],[.row 5 [.int .u8] (l++S.num v) false]⟩
def aHD:aCi->ao6->LR:=λv (l,())=>λ
    |0=>some ⟨B8×Int,[(1,λk=>.int .i64 k.2),(0,λk=>.own 300)],[(300,λk=>.row 5 [.int .u8] k.1 false)],[(Vg.Loc.slot 0,300)],[50000],[],λk=>tY l v k.1 k.2,λk=>k.2.toNat⟩
    |_=>none
def ap1:Env:=cH 354 [true,false] q9p q0q aHC ap0
def aHE:aFa->ao6->bl:=λs (l,())=>⟨oR l s,.own 60000,[none],[.row 5 [.int .u8] (l++S.text s) false]⟩
def ap2:Env:=cH 332 [true,false] aLI q0q aHE ap1
def aHF:Qf->FR:=λ(b,v)=>(b.length<=35184372088832,.bc [.own 0,.int .i64 (((ml b v,yo v)).2:Int)],[.row 5 [.int .u8] (((ml b v,yo v)).1) false])
def ap3:Env:=cS 297 ZV aHF ap2
def aHG:Wf->FR:=λ(b,s)=>(oR b s,.own 0,[.row 5 [.int .u8] (b++S.text s) false])
def ap4:Env:=cS 232 ao7 aHG ap3
def aHH:Qg->FR:=λ(r1,r2,r3)=>(True,.bool (S.inside r1 r2),[])
def ap5:Env:=cS 229 TL aHH ap4
def aHI:Qg->FR:=λ(r1,r2,r3)=>(r1.length<=140737488355328,.agg (ay [.slice [.int .u8],.int .i64,.int .i64] ((r1,r2,bU r1 r2 r3))),[])
def ap6:Env:=cS 341 TL aHI ap5
def aHJ:Qf->FR:=λ(b,p)=>(dB b p,.bc (ay [.int .i64,.int .i64,.int .i64] (aP b p)),[])
def aHK:Qf->LR:=λ(b,p)=>λ
    |0=>some ⟨Nat,[(7,λk=>.int .i64 (gR b p k)),(8,iN)],[],[],[],[],λk=>j8 b p k,λk=>ag 9 k⟩
    |_=>none
def ap7:Env:=cS 342 ZV aHJ ap6
def aHL:aFb->FR:=λ(b,p,gi)=>(dB b p,.bc (ay [.str,.int .i64,.int .i64] (dP b p gi)),[])
def ap8:Env:=cS 343 aCj aHL ap7
def aHM:aFc->FR:=λ(r1,r2,r3,gi)=>(r1.length<=140737488355328,.bc [.agg (ay [.slice [.int .u8],.int .i64,.int .i64] ((ao r1 r2 r3 gi).1)),.str ((ao r1 r2 r3 gi).2)],[])
def ap9:Env:=cS 264 aLJ aHM ap8
def aHN:Qg->FR:=λ(r1,r2,r3)=>(r1.length<=140737488355328,.bc [.agg (ay [.slice [.int .u8],.int .i64,.int .i64] ((af r1 r2 r3).1)),.int .i64 ((af r1 r2 r3).2:Int)],[])
def aqa:Env:=cS 263 TL aHN ap9
def aHO:Qg->FR:=λ(r1,r2,r3)=>(r1.length<=140737488355328,.bc [.agg (ay [.slice [.int .u8],.int .i64,.int .i64] ((aD r1 r2 r3).1)),.str ((aD r1 r2 r3).2)],[])
def aqb:Env:=cS 265 TL aHO aqa
def aHP:Qg->FR:=λ(r1,r2,r3)=>(True,.int .i64 (S.done r1 r2 r3:Int),[])
def aqc:Env:=cS 119 TL aHP aqb
def aHQ:ś->FR:=λ(kind,b)=>(ax b,.own 0,[.row 5 [.int .u8] (kO kind b) false])
def aHR:ś->LR:=λ(kind,b)=>λ
    |0=>some ⟨Nat,[(6,iN),(5,λk=>.own 300)],[(300,λk=>.row 5 [.int .u8] (kO kind (b.take k)) false)],[(Vg.Loc.slot 5,300)],[9],[],λk=>gV b k,λk=>ag (S.len b) k⟩
    |_=>none
def aqd:Env:=cS 166 ao8 aHQ aqc
def aHS:ś->FR:=λ(kind,b)=>(ax b,.str (pv kind b),[])
def aqe:Env:=cS 133 ao8 aHS aqd
def aHT:fb->FR:=λb=>(ax b,.str (pv 0 b),[])
def aqf:Env:=cS 177 lz aHT aqe
def aHU:Gf->FR:=λ(l,r)=>(ax (l++r),.str (pv 1 (l++r)),[])
def aqg:Env:=cS 248 LO aHU aqf
def aHV:ao9->FR:=λ(kind,parts)=>(oS parts,.own 0,[.row 5 [.int .u8] (gS kind parts) false])
def aHW:ao9->LR:=λ(kind,parts)=>λ
    |0=>some ⟨Nat,[(12,iN),(5,λk=>.own 300)],[(300,λk=>.row 5 [.int .u8] (n0 kind parts k) false)],[(Vg.Loc.slot 5,300)],[9],[],λk=>gV parts k,λk=>ag (S.len parts) k⟩
    |_=>none
def aqh:Env:=cS 267 aCk aHV aqg
def aHX:fb->FR:=λb=>(ax b,.own 0,[.row 5 [.int .u8] (bA 0 b) false])
def aqi:Env:=cS 156 lz aHX aqh
def aHY:Gf->FR:=λ(l,r)=>(ax (l++r),.own 0,[.row 5 [.int .u8] (bA 1 (l++r)) false])
def aqj:Env:=cS 270 LO aHY aqi
def aHZ:fb->FR:=λb=>(ax b,.own 0,[.row 5 [.int .u8] (bA 2 b) false])
def aqk:Env:=cS 334 lz aHZ aqj
def aH0:fb->FR:=λb=>(ax b,.own 0,[.row 5 [.int .u8] (bA 3 b) false])
def aql:Env:=cS 258 lz aH0 aqk
def aH1:fb->FR:=λb=>(ax b,.str (S.leaf b),[])
def aqm:Env:=cS 66 lz aH1 aql
def aH2:Gf->FR:=λ(l,r)=>(True,.bc (ay [.str,.int .i64] ((bo l r,vg l r))),[])
def aqn:Env:=cS 266 LO aH2 aqm
def aH3:fb->FR:=λb=>(ax b,.str (lX 2 b),[])
def aqo:Env:=cS 235 lz aH3 aqn
def aH4:fb->FR:=λb=>(ax b,.str (lX 3 b),[])
def aqp:Env:=cS 191 lz aH4 aqo
def aH5:pW->FR:=λc=>(True,.bool (cu c),[])
def aqq:Env:=cS 314 D9 aH5 aqp
def aH6:pW->FR:=λc=>(True,.int .i64 (eR c:Int),[])
def aqr:Env:=cS 315 D9 aH6 aqq
def aH7:pW->FR:=λc=>(0<=c,.int .u8 ((S.more c).toNat:Int),[])
def aqs:Env:=cS 316 D9 aH7 aqr
def aH8:pW->FR:=λc=>(True,.bc [.own 0,.int .i64 (((il c,AJ c)).2:Int)],[.row 5 [.int .u8] (((il c,AJ c)).1) false])
def aqt:Env:=cS 224 D9 aH8 aqs
def aH9:fb->FR:=λb=>(0<b.length,.bc (ay [.int .i64,.int .i64] (bf b)),[])
def aIa:fb->LR:=λb=>λ
    |1=>some ⟨Nat,[(42,iN),(4,λk=>.int .i64 (bN b k))],[],[],[],[],λk=>pR b k,λk=>ag 4 k⟩
    |_=>none
def aqu:Env:=cS 313 lz aH9 aqt
def aIb:fb->FR:=λb=>(S.small b,.own 0,[.row 3 [.int .i64] (S.decode b) false])
def aIc:fb->LR:=λb=>λ
    |0=>some ⟨B8×U,[(0,λk=>.sl [.int .u8] k.1),(3,λk=>.own 300)],[(300,λk=>.row 3 [.int .i64] k.2 false)],[(Vg.Loc.slot 3,300)],[],[],λk=>kP b k.1 k.2,λk=>S.len k.1⟩
    |_=>none
def aqv:Env:=cS 221 lz aIb aqu
def aId:pW->FR:=λc=>(True,.bool (S.letter c),[])
def aIe:pW->LR:=λc=>λ
    |0=>some ⟨Nat,[(6,iN)],[],[],[],[],λk=>pQ c k,λk=>ag 9 k⟩
    |_=>none
def aqw:Env:=cS 222 D9 aId aqv
def aIf:pW->FR:=λc=>(True,.bool (S.digit c),[])
def aqx:Env:=cS 223 D9 aIf aqw
def aIg:pW->FR:=λc=>(True,.int .i64 (aZ c:Int),[])
def aIh:pW->LR:=λc=>λ
    |0=>some ⟨Nat,[(6,iN)],[],[],[],[],λk=>qy c k,λk=>ag 7 k⟩
    |_=>none
def aqy:Env:=cS 364 D9 aIg aqx
def aIi:aFd->FR:=λ(c,a,b)=>(True,.bool (dc c a b),[])
def aqz:Env:=cS 255 aLK aIi aqy
def aIj:pW->FR:=λc=>(True,.bool (o9 c),[])
def aqA:Env:=cS 251 D9 aIj aqz
def aIk:pW->FR:=λc=>(0<=c/\c<=1114111,.own 0,[.row 5 [.int .u8] (S.enc c) false])
def aqB:Env:=cS 252 D9 aIk aqA
def aIl:Ŝ->FR:=λ(a,b)=>(True,.int .i64 (qz a b:Int),[])
def aqC:Env:=cS 253 aCl aIl aqB
def aIm:pW->FR:=λc=>(True,.bool (S.letter c),[])
def aqD:Env:=cS 254 D9 aIm aqC
def aIn:pW->FR:=λc=>(True,.int .i64 (aZ c:Int),[])
def aqE:Env:=cS 140 D9 aIn aqD
def aIo:Qf->FR:=λ(b,n)=>(DB b n,.int .i64 (cc b n:Int),[])
def aIp:Qf->LR:=λ(b,n)=>λ
    |0=>some ⟨Nat,[(7,iN),(6,λk=>.int .i64 (pS b n (k-1)))],[],[],[],[],λk=>sh b n k,λk=>ag n.toNat k⟩
    |_=>none
def aqF:Env:=cS 250 ZV aIo aqE
def aIq:fb->FR:=λb=>(S.small b,.own 0,[.row 3 [.int .i64] (S.decode b) false])
def aIr:fb->LR:=λb=>λ
    |0=>some ⟨Nat×U,[(4,λk=>.int .i64 ((k.1:Nat):Int)),(3,λk=>.own 300)],[(300,λk=>.row 3 [.int .i64] k.2 false)],[(Vg.Loc.slot 3,300)],[],[],λk=>kP b (b.drop k.1) k.2/\k.1<=b.length,λk=>ag (S.len b) k.1⟩
    |2=>some ⟨Nat×Nat,[(7,λk=>.int .i64 ((k.1+1:Nat):Int)),(5,λk=>.int .i64 (im (b.drop k.2) k.1).1),(6,λk=>.int .i64 (im (b.drop k.2) k.1).2)],[],[],[],[(4,λk=>.int .i64 ((k.2:Nat):Int))],λk=>k.1<=4,λk=>ag 4 k.1⟩
    |_=>none
def aqG:Env:=cS 138 lz aIq aqF
def aIs:rQ->FR:=λu=>(RS u,.str (eS u),[])
def aIt:rQ->LR:=λu=>λ
    |0=>some ⟨Nat×B8,[(10,λk=>.int .i64 ((k.1:Nat):Int)),(3,λk=>.own 300)],[(300,λk=>.row 5 [.int .u8] k.2 false)],[(Vg.Loc.slot 3,300)],[],[],λk=>lu u k.1 k.2,λk=>ag (S.len u) k.1⟩
    |_=>none
def aqH:Env:=cS 318 CN aIs aqG
def aIu:fb->FR:=λb=>(S.small b,.own 0,[.row 9 [.str] (aS b) false])
def aIv:fb->LR:=λb=>λ
    |0=>some ⟨Nat×O×U,[(10,λk=>.int .i64 ((k.1:Nat):Int)),(3,λk=>.own 300),(4,λk=>.own 301)],[(300,λk=>.row 9 [.str] k.2.1 false),(301,λk=>.row 3 [.int .i64] k.2.2 false)],[(Vg.Loc.slot 3,300),(Vg.Loc.slot 4,301)],[104000,104001,104002,40],[],λk=>kQ (S.decode b) k.1 k.2.1 k.2.2,λk=>ag (S.len (S.decode b)) k.1⟩
    |_=>none
def aqI:Env:=cS 226 lz aIu aqH
def aIw:aeL->FR:=λs=>(S.small s,.bool (S.isTerm s),[])
def aqJ:Env:=cS 114 q8p aIw aqI
def aIx:pW->FR:=λc=>(True,.bool (gG c),[])
def aqK:Env:=cS 139 D9 aIx aqJ
def aIy:rQ->FR:=λu=>(RS u,.str (eS u),[])
def aIz:rQ->LR:=λu=>λ
    |0=>some ⟨Nat×B8,[(4,λk=>.int .i64 ((k.1:Nat):Int)),(3,λk=>.str k.2)],[],[],[],[],λk=>lu u k.1 k.2,λk=>ag (S.len u) k.1⟩
    |_=>none
def aqL:Env:=cS 338 CN aIy aqK
def aIA:fb->FR:=λb=>(S.small b,.own 0,[.row 9 [.str] (aS b) false])
def aIB:fb->LR:=λb=>λ
    |0=>some ⟨Nat×O,[(5,λk=>.int .i64 ((k.1:Nat):Int)),(4,λk=>.own 300)],[(300,λk=>.row 9 [.str] k.2 false)],[(Vg.Loc.slot 4,300)],[],[],λk=>np (S.decode b) k.1 k.2,λk=>ag (S.len (S.decode b)+1) k.1⟩
    |2=>some ⟨Nat×Nat,[(6,λk=>.int .i64 ((k.1:Nat):Int))],[],[],[],[(5,λk=>.int .i64 ((k.2:Nat):Int))],λk=>tZ (S.decode b) k.2 k.1,λk=>ag (S.len (S.decode b)) k.1⟩
    |_=>none
def aqM:Env:=cS 256 lz aIA aqL
def aIC:tu->FR:=λl=>(True,.int .i64 (((dR l:Nat):Int):Int),[])
def aID:tu->LR:=λl=>λ
    |0=>some ⟨Nat,[(4,iN),(3,λk=>.int .i64 ((dQ l k:Nat):Int))],[],[],[],[],λk=>uw l k,λk=>ag (S.len l) k⟩
    |_=>none
def aqN:Env:=cS 278 yP aIC aqM
def aIE:Gg->LP->bl:=λ_ (l,())=>⟨S.small l,.own 60000,[none],[.row 9 [.str] (S.sorted l) false]⟩
def aIF:Gg->LP->LR:=λ_ (l,())=>λ
    |0=>some ⟨O×O,[(0,λk=>.own 310),(3,λk=>.own 300)],[(310,λk=>.row 9 [.str] k.1 false),(300,λk=>.row 9 [.str] k.2 false)],[(Vg.Loc.slot 0,310),(Vg.Loc.slot 3,300)],[50000,301],[],λk=>sM l k.1 k.2,λk=>S.len k.1⟩
    |2=>some ⟨Nat×O×O×B8,[(6,λk=>.int .i64 ((k.1:Nat):Int)),(5,λk=>.own 301)],[(301,λk=>.row 9 [.str] k.2.1 false)],[(Vg.Loc.slot 5,301)],[],[(0,λk=>.sl [.str] k.2.2.1),(4,λk=>.str k.2.2.2)],λk=>j9 k.2.2.1 k.2.2.2 k.1 k.2.1,λk=>ag (S.len k.2.2.1) k.1⟩
    |_=>none
def aqO:Env:=cH 167 [true] ZW q1q aIE aqN
def aIG:fb->FR:=λb=>(S.small b,.own 0,[.row 9 [.str] (S.sorted (aS b)) false])
def aqP:Env:=cS 311 lz aIG aqO
def aIH:Wf->FR:=λ(b,t)=>(S.small b,.own 0,[.row 3 [.int .i64] (S.places b t) false])
def aII:Wf->LR:=λ(b,t)=>λ
    |0=>some ⟨Nat×U,[(7,λk=>.int .i64 ((k.1:Nat):Int)),(6,λk=>.own 300)],[(300,λk=>.row 3 [.int .i64] k.2 false)],[(Vg.Loc.slot 6,300)],[],[],λk=>lv (aS b) t k.1 k.2,λk=>ag (S.len (aS b)) k.1⟩
    |_=>none
def aqQ:Env:=cS 141 ao7 aIH aqP
def aIJ:aeL->FR:=λs=>(True,.bool false,[])
def aqR:Env:=cS 335 q8p aIJ aqQ
def aIK:Gf->FR:=λ(a,b)=>(True,.int .i64 (lL a b:Int),[])
def aqS:Env:=cS 359 LO aIK aqR
def aIL:aFe->aLM->bl:=λ(a,b) ((),())=>⟨True,.bool (decide (a=b)),[some (.cells [.fn (.func 359) [] []])],[]⟩
def aqT:Env:=cH 382 [false,false,true] aLL q2q aIL aqS
def aIM:apa->aCm->bl:=λ_ (l,((),()))=>⟨S.small l,.own 60000,[none,some (.cells [.fn (.func 359) [] []])],[.row 9 [.str] (bT l) false]⟩
def aIN:apa->aCm->LR:=λ_ (l,((),()))=>λ
    |0=>some ⟨Nat,[(5,iN)],[(50001,λk=>.cells [.fn (.func 359) [] []])],[],[],[],λk=>oc l k,λk=>ag (S.len l) k⟩
    |2=>some ⟨Nat×Nat×O×Nat,[(5,λk=>.int .i64 ((k.1:Nat):Int)),(7,λk=>.int .i64 ((k.2.1:Nat):Int))],[(50000,λk=>.row 9 [.str] k.2.2.1 false),(50001,λk=>.cells [.fn (.func 359) [] []])],[],[],[(30,λk=>.int .i64 ((k.2.2.2:Nat):Int))],λk=>jB l k.2.2.2 k.1 k.2.1 k.2.2.1,λk=>ag (S.len l) k.2.1⟩
    |_=>none
def aqU:Env:=cH 381 [true,true] aLN q3q aIM aqT
def aIO:tu->FR:=λl=>(S.small l,.own 0,[.row 9 [.str] (l) false])
def aqV:Env:=cS 379 yP aIO aqU
def aIP:rQ->FR:=λl=>(S.small l,.own 0,[.row 3 [.int .i64] (l) false])
def aqW:Env:=cS 128 CN aIP aqV
def aIQ:aFf->LP->bl:=λ_ (l,())=>⟨S.small l,.bc [],[some (.row 9 [.str] (fh l) false)],[]⟩
def aqX:Env:=cH 380 [true,true] aLO q1q aIQ aqW
def aIR:aFg->xc->bl:=λl ()=>⟨S.small l,.own 60000,[],[.row 9 [.str] (bT (fh l)) false]⟩
def aqY:Env:=cH 358 [false,true] aLP A7 aIR aqX
def aqZ:fb->FR:=λb=>(S.small b,.own 0,[.row 9 [.str] (S.sorted (aS b)) false])
def aq0:Env:=cS 300 lz aqZ aqY
def aIS:tu->FR:=λl=>(True,.bool (cJ l),[])
def aIT:tu->LR:=λl=>λ
    |0=>some ⟨Nat,[(7,iN)],[],[],[],[],λk=>sN l k,λk=>ag (S.len l) k⟩
    |_=>none
def aq1:Env:=cS 154 yP aIS aq0
def aIU:Gf->FR:=λ(a,b)=>(True,.str (bo a b),[])
def aq2:Env:=cS 155 LO aIU aq1
def aIV:Gg->LP->bl:=λ_ (s,())=>⟨yy s,.own 60000,[none],[.row 9 [.str] (S.comb s) false]⟩
def aq3:Env:=cH 309 [true] ZW q1q aIV aq2
def aIW:J0->FR:=λl=>(cX l,.sl [.str] (S.leaves l),[])
def aIX:J0->LR:=λl=>λ
    |0=>some ⟨Nat,[(8,iN),(3,λk=>.own 300)],[(300,λk=>.row 9 [.str] (eT l k) false)],[(Vg.Loc.slot 3,300)],[],[],λk=>gV l k,λk=>ag (S.len l) k⟩
    |_=>none
def aq4:Env:=cS 99 ZX aIW aq3
def aIY:tu->FR:=λl=>(eJ l,.str (S.root l),[])
def aIZ:tu->LR:=λl=>λ
    |0=>some ⟨Nat×O,[(12,λk=>.int .i64 ((k.1:Nat):Int)),(3,λk=>.own 300)],[(300,λk=>.row 9 [.str] k.2 false)],[(Vg.Loc.slot 3,300)],[302,35,103500,103501,103502,304],[],λk=>qA l k.1 k.2,λk=>ag (S.len l) k.1⟩
    |2=>some ⟨Nat×Nat×O×Nat,[(5,λk=>.int .i64 ((k.2.1:Nat):Int)),(3,λk=>.own 302)],[(302,λk=>.row 9 [.str] k.2.2.1 false)],[(Vg.Loc.slot 3,302)],[35,103500,103501,103502,102100,102101,21,102102,300,304],[(4,λk=>.int .i64 ((k.2.2.2:Nat):Int))],λk=>pb l k.2.2.2 k.1 k.2.1 k.2.2.1,λk=>k.2.1⟩
    |4=>some ⟨O,[(3,λk=>.own 304)],[(304,λk=>.row 9 [.str] k false)],[(Vg.Loc.slot 3,304)],[102100,102101,21,102102,102901,102900,102902,29,300,302],[],λk=>qB l k,λk=>S.len k⟩
    |_=>none
def aq5:Env:=cS 212 yP aIY aq4
def aI0:tu->FR:=λl=>(S.small l,.bc (ay [.str,.int .i64] ((jS l,xx l))),[])
def aq6:Env:=cS 200 yP aI0 aq5
def aI1:pW->FR:=λn=>(True,.int .i64 (S.split n:Int),[])
def aI2:pW->LR:=λn=>λ
    |0=>some ⟨Nat×Int,[(3,λk=>.int .i64 k.2)],[],[],[],[],λk=>jr n k.2 k.1,λk=>(n-k.2).toNat⟩
    |_=>none
def aq7:Env:=cS 181 D9 aI1 aq6
def aI3:tu->FR:=λl=>(eJ l,.str (S.root l),[])
def aI4:tu->Nat:=λl=>S.len l
def aq8:Env:=cS 135 yP aI3 aq7
def aI5:J0->FR:=λl=>(cX l,.own 0,[.row 9 [.str] (S.leaves l) false])
def aI6:J0->LR:=λl=>λ
    |0=>some ⟨Nat,[(4,iN),(3,λk=>.own 300)],[(300,λk=>.row 9 [.str] (eT l k) false)],[(Vg.Loc.slot 3,300)],[],[],λk=>gV l k,λk=>ag (S.len l) k⟩
    |_=>none
def aq9:Env:=cS 136 ZX aI5 aq8
def aI7:pW->FR:=λn=>(True,.int .i64 (S.split n:Int),[])
def aI8:pW->LR:=λn=>λ
    |0=>some ⟨Nat×Int,[(3,λk=>.int .i64 k.2)],[],[],[],[],λk=>jr n k.2 k.1,λk=>(n-k.2).toNat⟩
    |_=>none
def ara:Env:=cS 211 D9 aI7 aq9
def aI9:Gg->LP->bl:=λ_ (l,())=>⟨S.small l,.bc [],[some (.row 9 [.str] (PC l) false)],[]⟩
def arb:Env:=cH 213 [true] ZW q1q aI9 ara
def aJa:apb->FR:=λ(l,i)=>(fa l,.bc (ay [.slice [.str],.int .i64] ((oC l i,tj l i))),[])
def aJb:apb->LR:=λ(l,i)=>λ
    |0=>some ⟨O×Int×O,[(0,λk=>.sl [.str] k.1),(1,λk=>.int .i64 k.2.1),(6,λk=>.own 300)],[(300,λk=>.row 9 [.str] k.2.2 false)],[(Vg.Loc.slot 6,300)],[],[],λk=>gw l i k,λk=>S.len k.1⟩
    |_=>none
def arc:Env:=cS 98 aLQ aJa arb
def aJc:rQ->FR:=λl=>(True,.bool (bq l),[])
def aJd:rQ->LR:=λl=>λ
    |0=>some ⟨Nat,[(8,iN),(3,λk=>.int .i64 (fL l k))],[],[],[],[],λk=>mn l k,λk=>ag (S.len l) k⟩
    |_=>none
def ard:Env:=cS 125 CN aJc arc
def aJe:rQ->FR:=λl=>(True,.bc [.own 0,.int .i64 (((l7 l,qC l)).2:Int)],[.row 5 [.int .u8] (((l7 l,qC l)).1) false])
def aJf:rQ->LR:=λl=>λ
    |0=>some ⟨Nat,[(22,iN),(6,λk=>.int .i64 (fL l k)),(4,λk=>.own 300)],[(300,λk=>.row 5 [.int .u8] (dy l k) false)],[(Vg.Loc.slot 4,300)],[101700,101701,101702,17],[],λk=>k<=l.length,λk=>ag (S.len l) k⟩
    |_=>none
def are:Env:=cS 205 CN aJe ard
def aJg:rQ->FR:=λl=>(True,.bc (ay [.str,.int .i64] ((vr l,qC l))),[])
def arf:Env:=cS 308 CN aJg are
def aJh:aFh->apc->bl:=λ(n,p,q) ((s1,s2),())=>⟨True,.bool (xy n s1 s2),[some (.cells [.int .i64 s1,.int .i64 s2])],[]⟩
def arh:Env:=cH 384 [false,false,false,true] aLR q5q aJh arf
def axA:apd->apc->bl:=λ(a,b) ((s1,s2),())=>⟨b.length=0,.own 60000,[some (.cells [.int .i64 s1,.int .i64 s2])],[.row 3 [.int .i64] (Pa a s1 s2) false]⟩
def axB:apd->apc->LR:=λ(a,b) ((s1,s2),())=>λ
    |0=>some ⟨U×U,[(0,λk=>.sl [.int .i64] k.1),(1,λk=>.sl [.int .i64] so),(7,λk=>.own 300)],[(300,λk=>.row 3 [.int .i64] k.2 false),(50000,λk=>.cells [.int .i64 s1,.int .i64 s2])],[(Vg.Loc.slot 7,300)],[],[],λk=>nr a s1 s2 k.1 k.2,λk=>S.len k.1⟩
    |_=>none
def aeS:eC:=bZ aCn q5q axA
def WE:eC:=aeS
def aeT:Env:=Env.bS 242 [false,false,true] WE arh
def axC:ŝ->FR:=λ(l,s1,s2)=>(True,.own 0,[.row 3 [.int .i64] (Pa l s1 s2) false])
def aeU:Env:=cS 363 ape axC aeT
def axD:rQ->FR:=λl=>(bq l=true,.own 0,[.row 5 [.int .u8] (tf l) false])
def axE:rQ->LR:=λl=>λ
    |0=>some ⟨Nat,[(4,iN),(3,λk=>.own 300)],[(300,λk=>.row 5 [.int .u8] (dy l k) false)],[(Vg.Loc.slot 3,300)],[7,100700,100701,100702],[],λk=>k<=l.length,λk=>ag (S.len l) k⟩
    |_=>none
def aeV:Env:=cS 173 CN axD aeU
def axF:rQ->FR:=λl=>(bq l=true,.str (l8 l),[])
def aeW:Env:=cS 280 CN axF aeV
def axG:Gh->FR:=λ(a,b)=>(True,.bool (pA a b),[])
def axH:Gh->LR:=λ(a,b)=>λ
    |0=>some ⟨Nat,[(5,iN)],[],[],[],[],λk=>wO a b k,λk=>ag (S.len a) k⟩
    |_=>none
def aeX:Env:=cS 17 Qh axG aeW
def axI:vP->FR:=λd=>(aY d,.bool (aQ d),[])
def axJ:vP->LR:=λd=>λ
    |0=>some ⟨Nat,[(7,iN)],[],[],[],[],λk=>Lv d k,λk=>ag (S.len d) k⟩
    |_=>none
def aeY:Env:=cS 307 LQ axI aeX
def axK:apf->FR:=λ(l1,l2,l3)=>(True,.bc (ay [.slice [.int .u8],.int .i64] ((dK l1 l2 l3,kD l1 l2 l3))),[])
def aeZ:Env:=cS 123 aCo axK aeY
def axL:fb->FR:=λb=>(b.length<=140737488355328,.bc [.agg (ay [.str,.str,.str] ((bh b).1)),.int .i64 ((bh b).2:Int)],[])
def ae0:Env:=cS 204 lz axL aeZ
def axM:vP->FR:=λd=>(aY d,.bc [.own 0,.int .i64 (((bD d,dE d)).2:Int)],[.row 27 [.slice [.int .u8]] (((bD d,dE d)).1) false])
def axN:vP->LR:=λd=>λ
    |0=>some ⟨Nat,[(16,iN),(4,λk=>.own 300)],[(300,λk=>.row 27 [.slice [.int .u8]] (e9 d k) false)],[(Vg.Loc.slot 4,300)],[],[],λk=>k<=d.length+1,λk=>ag (S.len d+1) k⟩
    |_=>none
def ae1:Env:=cS 202 LQ axM ae0
def axO:vP->FR:=λd=>(aY d,.bc (ay [.str,.int .i64] ((xA d,dE d))),[])
def ae2:Env:=cS 259 LQ axO ae1
def axP:Wg->FR:=λ(d,t)=>(aY d,.bc (ay [.int .i64,.bool] ((bJ d t,kT d t))),[])
def axQ:Wg->LR:=λ(d,t)=>λ
    |0=>some ⟨Nat,[(14,iN),(6,λk=>.int .i64 (eu d t k))],[],[],[],[],λk=>k<=d.length,λk=>ag (S.len d) k⟩
    |_=>none
def ae3:Env:=cS 203 apg axP ae2
def axR:Wg->FR:=λ(d,t)=>(aY d,.sl [.int .i64] (nu d t),[])
def ae4:Env:=cS 206 apg axR ae3
def axS:CO->FR:=λ(docs,s1,s2)=>(True,.bc (ay [.slice [.str,.slice [.int .i64]],.int .i64] (lx docs s1 s2)),[])
def ae5:Env:=cS 193 Qi axS ae4
def axT:CO->FR:=λ(docs,s1,s2)=>(True,.bool (dS docs s1 s2),[])
def axU:CO->LR:=λ(docs,s1,s2)=>λ
    |0=>some ⟨Nat,[(5,iN)],[],[],[],[],λk=>qD docs k,λk=>ag (S.len docs) k⟩
    |_=>none
def ae6:Env:=cS 105 Qi axT ae5
def axV:Wf->FR:=λ(b,t)=>(S.small b,.bool (wP b t),[])
def ae7:Env:=cS 312 ao7 axV ae6
def axW:apf->FR:=λ(l1,l2,l3)=>(eE l1 l2 l3=true,.sl [.int .u8] (mH l1 l2 l3),[])
def ae8:Env:=cS 172 aCo axW ae7
def axX:vP->FR:=λd=>(aY d/\aQ d=true,.own 0,[.row 27 [.slice [.int .u8]] (fu d) false])
def axY:vP->LR:=λd=>λ
    |0=>some ⟨Nat,[(4,λk=>.int .i64 (((k:Nat):Int)-1)),(3,λk=>.own 300)],[(300,λk=>.row 27 [.slice [.int .u8]] (e9 d k) false)],[(Vg.Loc.slot 3,300)],[],[],λk=>k<=d.length+1,λk=>ag (S.len d+1) k⟩
    |_=>none
def ae9:Env:=cS 169 LQ axX ae8
def axZ:vP->FR:=λd=>(aY d/\aQ d=true,.str (pc d),[])
def afa:Env:=cS 171 LQ axZ ae9
def ax0:Ş->FR:=λ(a,b)=>(True,.bool (iT a b),[])
def ax1:Ş->LR:=λ(a,b)=>λ
    |0=>some ⟨Nat,[(5,iN)],[],[],[],[],λk=>mo a b k,λk=>ag (S.len a) k⟩
    |_=>none
def afb:Env:=cS 217 aph ax0 afa
def ax2:CO->FR:=λ(docs,s1,s2)=>(gJ docs s1 s2,.own 0,[.row 308 [.str,.slice [.int .i64]] (S.make docs s1 s2) false])
def ax3:CO->LR:=λ(docs,s1,s2)=>λ
    |0=>some ⟨Nat,[(6,λk=>.int .i64 (s1+(k:Nat))),(5,λk=>.own 300)],[(300,λk=>.row 9 [.str] (b9 docs s1 k) false)],[(Vg.Loc.slot 5,300)],[102700,102701,102702,27],[],λk=>fV s1 s2 k,λk=>ag (s2-s1).toNat k⟩
    |2=>some ⟨Nat,[(8,iN),(7,λk=>.own 301)],[(301,λk=>.row 308 [.str,.slice [.int .i64]] (mS docs s1 s2 k) false)],[(Vg.Loc.slot 7,301)],[302],[],λk=>gV (cB docs s1 s2) k,λk=>ag (S.len (cB docs s1 s2)) k⟩
    |4=>some ⟨Nat×B8,[(10,λk=>.int .i64 (s1+(k.1:Nat)))],[(9,λk=>.cells [.str k.2,.own 302]),(302,λk=>.row 3 [.int .i64] (cx docs s1 k.2 k.1) false)],[(Vg.Loc.cell 9 1,302)],[],[(37,λk=>.str k.2)],λk=>fV s1 s2 k.1,λk=>ag (s2-s1).toNat k.1⟩
    |_=>none
def afc:Env:=cS 218 Qi ax2 afb
def ax4:aFj->FR:=λ(s1,s2)=>(True,.bool (ma s1 s2),[])
def afd:Env:=cS 362 aLS ax4 afc
def ax5:Qj->FR:=λ(s1,s2,s3)=>(aY s3,.bool (eF s1 s2 s3),[])
def ax6:Qj->LR:=λ(s1,s2,s3)=>λ
    |0=>some ⟨Nat,[(18,iN)],[],[],[],[],λk=>wS s1 s2 s3 k,λk=>ag (S.len s3) k⟩
    |_=>none
def afe:Env:=cS 303 TM ax5 afd
def ax7:Qj->FR:=λ(s1,s2,s3)=>(aY s3,.bc [.agg (ay [.int .i64,.int .i64,.int .i64,.str] ((tg s1 s2 s3).1)),.int .i64 ((tg s1 s2 s3).2:Int)],[])
def aff:Env:=cS 306 TM ax7 afe
def ax8:aFk->FR:=λ(s1,s2,s3,s4)=>(True,.bool (oB s1 s2 s3 s4),[])
def afg:Env:=cS 378 aLT ax8 aff
def ax9:CO->FR:=λ(docs,s1,s2)=>(True,.bc [.agg (ay [.int .i64,.int .i64,.slice [.str,.slice [.int .i64]]] ((c9 docs s1 s2).1)),.int .i64 ((c9 docs s1 s2).2:Int)],[])
def afh:Env:=cS 89 Qi ax9 afg
def aya:api->FR:=λ(l,n)=>(True,.bool (rf l n),[])
def ayb:api->LR:=λ(l,n)=>λ
    |0=>some ⟨Nat,[(14,iN),(5,λk=>.int .i64 (S.rowAt l k:Int))],[],[],[],[],λk=>S.ym l k,λk=>ag (S.len l) k⟩
    |_=>none
def afi:Env:=cS 353 aLU aya afh
def ayc:CO->FR:=λ(docs,s1,s2)=>(True,.bool (eM docs s1 s2),[])
def afj:Env:=cS 106 Qi ayc afi
def ayd:CO->FR:=λ(docs,s1,s2)=>(gJ docs s1 s2,.agg (ay [.int .i64,.int .i64,.slice [.str,.slice [.int .i64]]] ((s1,s2,S.make docs s1 s2))),[])
def afk:Env:=cS 108 Qi ayd afj
def aye:Qj->FR:=λ(s1,s2,s3)=>(aY s3/\aQ s3=true,.agg (ay [.int .i64,.int .i64,.int .i64,.str] (RU s1 s2 s3)),[])
def afl:Env:=cS 249 TM aye afk
def ayf:aFl->FR:=λ(a1,a2,a3,b1,b2,b3)=>(True,.bool (zP a1 a2 a3 b1 b2 b3),[])
def afm:Env:=cS 107 aLV ayf afl
def ayg:vP->FR:=λd=>(True,.bool (mT d),[])
def ayh:vP->LR:=λd=>λ
    |0=>some ⟨Nat,[(3,iN)],[],[],[],[],λk=>Cw d k,λk=>ag (S.len d) k⟩
    |_=>none
def afn:Env:=cS 103 LQ ayg afm
def ayi:J0->FR:=λdocs=>(True,.bool (sq docs),[])
def ayj:J0->LR:=λdocs=>λ
    |0=>some ⟨Nat,[(3,iN)],[],[],[],[],λk=>Cx docs k,λk=>ag (S.len docs) k⟩
    |_=>none
def afo:Env:=cS 104 ZX ayi afn
def ayk:Qj->FR:=λ(s1,s2,s3)=>(True,.agg (ay [.int .i64,.int .i64,.slice [.str,.slice [.int .i64]]] ((s1,s2,s3))),[])
def afp:Env:=cS 39 TM ayk afo
def ayl:fb->FR:=λl=>(S.small l,.own 0,[.row 5 [.int .u8] (l) false])
def afq:Env:=cS 110 lz ayl afp
def aym:vP->FR:=λl=>(S.small l,.own 0,[.row 308 [.str,.slice [.int .i64]] (l) false])
def afr:Env:=cS 194 LQ aym afq
def ayn:Gh->FR:=λ(a,b)=>(True,.bool (JJ a b),[])
def ayo:Gh->LR:=λ(a,b)=>λ
    |0=>some ⟨Nat,[(13,iN)],[],[],[],[],λk=>Ie a b k,λk=>ag (S.len a) k⟩
    |_=>none
def afs:Env:=cS 357 Qh ayn afr
def ayp:aFm->FR:=λ(a1,a2,b1,b2)=>(True,.bool (CB a1 a2 b1 b2),[])
def aft:Env:=cS 356 aLW ayp afs
def ayq:apj->xc->bl:=λ(a,b) ()=>⟨True,.bool (iT a b),[],[]⟩
def ayr:apj->xc->LR:=λ(a,b) ()=>λ
    |0=>some ⟨Nat,[(17,iN)],[],[],[],[],λk=>mo a b k,λk=>ag (S.len a) k⟩
    |_=>none
def afu:Env:=cH 355 [false,false,true] aLX A7 ayq aft
def ays:Ş->FR:=λ(a,b)=>(True,.bool (iT a b),[])
def afv:Env:=cS 299 aph ays afu
def ayt:iv->FR:=λ(y1,y2)=>(True,.bool (bQ y1 y2),[])
def ayu:iv->LR:=λ(y1,y2)=>λ
    |0=>some ⟨Nat,[(23,iN)],[],[],[],[],λk=>Pz y1 y2 k,λk=>ag (S.len y1) k⟩
    |2=>some ⟨Nat,[(34,iN),(5,λk=>.int .i64 (dU y2 k))],[],[],[],[],λk=>vB y1 y2 k,λk=>ag (S.len y2) k⟩
    |_=>none
def afw:Env:=cS 192 lO ayt afv
def ayv:iv->FR:=λ(y1,y2)=>(True,.agg (ay [.slice [.slice [.int .u8]],.slice [.int .i64,.int .i64,.slice [.str,.slice [.int .i64]]]] (ak y1 y2)),[])
def afx:Env:=cS 87 lO ayv afw
def ayw:iv->FR:=λ(y1,y2)=>(True,.int .i64 (ec y2:Int),[])
def afy:Env:=cS 88 lO ayw afx
def ayx:iv->FR:=λ(y1,y2)=>(wW y1 y2,.agg [.own 0,.own 1],[.row 27 [.slice [.int .u8]] y1 false,.row 89 [.int .i64,.int .i64,.slice [.str,.slice [.int .i64]]] y2 false])
def ayy:iv->LR:=λ(y1,y2)=>λ
    |0=>some ⟨Nat,[(22,iN)],[(13,λk=>.row 27 [.slice [.int .u8]] (dX [] y1 k) false)],[],[],[],λk=>fX y1 k,λk=>ag (S.len y1) k⟩
    |2=>some ⟨Nat,[(37,iN)],[(17,λk=>.row 89 [.int .i64,.int .i64,.slice [.str,.slice [.int .i64]]] (dX (0,0,[]) y2 k) false)],[],[],[],λk=>fX y2 k,λk=>ag (S.len y2) k⟩
    |4=>some ⟨Nat×Nat×M aG,[(55,λk=>.int .i64 ((k.1:Nat):Int))],[(17,λk=>.iy 89 (some 104900) [.int .i64,.int .i64,.slice [.str,.slice [.int .i64]]] k.2.2 k.2.1),(104900,λk=>.row 308 [.str,.slice [.int .i64]] (aA y2 k.2.1).2.2 false)],[],[],[(6,λk=>.int .i64 ((k.2.1:Nat):Int))],λk=>wX y2 k.2.2 k.2.1 k.1,λk=>ag (oU y2 k.2.1) k.1⟩
    |_=>none
def afz:Env:=cS 90 lO ayx afy
def ayz:iv->FR:=λ(y1,y2)=>(True,.int .i64 (jF y1 y2:Int),[])
def afA:Env:=cS 199 lO ayz afz
def ayA:apl->FR:=λ(y1,y2,d)=>(True,.bc [.agg (ay [.slice [.slice [.int .u8]],.slice [.int .i64,.int .i64,.slice [.str,.slice [.int .i64]]]] ((fW y1 y2 d).1)),.int .i64 ((fW y1 y2 d).2:Int)],[])
def afB:Env:=cS 40 apk ayA afA
def ayB:iv->FR:=λ(y1,y2)=>(True,.bc [.agg (ay [.slice [.slice [.int .u8]],.slice [.int .i64,.int .i64,.slice [.str,.slice [.int .i64]]]] ((fy y1 y2).1)),.int .i64 ((fy y1 y2).2:Int)],[])
def afC:Env:=cS 31 lO ayB afB
def ayC:iv->FR:=λ(y1,y2)=>(True,.sl [.int .i64,.int .i64,.int .i64,.str] (bV y1 y2),[])
def ayD:iv->LR:=λ(y1,y2)=>λ
    |0=>some ⟨Nat,[(17,iN),(3,λk=>.own 300)],[(300,λk=>.row 109 [.int .i64,.int .i64,.int .i64,.str] (fv y1 y2 k) false)],[(Vg.Loc.slot 3,300)],[13],[],λk=>k<=gL y1 y2,λk=>ag (gL y1 y2) k⟩
    |_=>none
def afD:Env:=cS 201 lO ayC afC
def ayE:iv->FR:=λ(y1,y2)=>(True,.bool (bQ y1 y2),[])
def ayF:iv->LR:=λ(y1,y2)=>λ
    |0=>some ⟨Nat,[(3,iN)],[],[],[],[],λk=>vB y1 y2 k,λk=>ag (S.len y2) k⟩
    |_=>none
def afE:Env:=cS 37 lO ayE afD
def ayG:iv->FR:=λ(y1,y2)=>(True,.agg (ay [.slice [.slice [.int .u8]],.slice [.int .i64,.int .i64,.slice [.str,.slice [.int .i64]]]] (ak y1 y2)),[])
def afF:Env:=cS 109 lO ayG afE
def ayH:iv->FR:=λ(y1,y2)=>(True,.int .i64 (jF y1 y2:Int),[])
def ayI:iv->LR:=λ(y1,y2)=>λ
    |0=>some ⟨Nat,[(4,iN),(3,λk=>.int .i64 (dU (ak y1 y2).2 k))],[],[],[],[],λk=>k<=gL y1 y2,λk=>ag (gL y1 y2) k⟩
    |_=>none
def afG:Env:=cS 38 lO ayH afF
def ayJ:iv->FR:=λ(y1,y2)=>(True,.sl [.int .i64,.int .i64,.int .i64,.str] (bV y1 y2),[])
def ayK:iv->LR:=λ(y1,y2)=>λ
    |0=>some ⟨Nat,[(4,iN),(3,λk=>.own 300)],[(300,λk=>.row 282 [.int .i64,.int .i64,.int .i64,.str] (fv y1 y2 k) false)],[(Vg.Loc.slot 3,300)],[],[],λk=>k<=gL y1 y2,λk=>ag (gL y1 y2) k⟩
    |_=>none
def afH:Env:=cS 137 lO ayJ afG
def ayL:iv->FR:=λ(y1,y2)=>(S.small y2,.agg (ay [.slice [.slice [.int .u8]],.slice [.int .i64,.int .i64,.slice [.str,.slice [.int .i64]]]] ((y1,y2))),[])
def ayM:iv->LR:=λ(y1,y2)=>λ
    |0=>some ⟨Nat,[(4,iN)],[(3,λk=>.cells [.sl [.slice [.int .u8]] y1,.own 300]),(300,λk=>.row 87 [.int .i64,.int .i64,.slice [.str,.slice [.int .i64]]] (y2.take k) false)],[(Vg.Loc.cell 3 1,300)],[],[],λk=>fX y2 k,λk=>ag (S.len y2) k⟩
    |_=>none
def afI:Env:=cS 11 lO ayL afH
def ayN:iv->FR:=λ(y1,y2)=>(True,.bool (sr y1 y2),[])
def ayO:iv->LR:=λ(y1,y2)=>λ
    |0=>some ⟨Nat,[(3,iN)],[],[],[],[],λk=>CC y2 k,λk=>ag (S.len y2) k⟩
    |_=>none
def afJ:Env:=cS 36 lO ayN afI
def ayP:Gi->FR:=λ(y1,y2,y3)=>(True,.bool (cG y1 y2 y3),[])
def afK:Env:=cS 295 Qk ayP afJ
def ayQ:iv->FR:=λ(y1,y2)=>(True,.bc [.agg (ay [.int .i64,.str,.slice [.int .i64,.int .i64,.int .i64,.str]] ((hX y1 y2).1)),.int .i64 ((hX y1 y2).2:Int)],[])
def afL:Env:=cS 93 lO ayQ afK
def ayR:apm->aLZ->bl:=λv (q,((),()))=>⟨fZ v=false/\q=0,.bc [],[some (.cells [.int .i64 0]),some (.cells [.own 60000])],[.row 5 [.int .u8] (S.num v) false]⟩
def afM:eC:=bZ aeM q6q ayR
def WG:eC:=afM
def afN:Env:=Env.bS 296 [false,true,true] WG afL
def ayS:apm->aL1->bl:=λv (q,((),(l,())))=>⟨fZ v=false/\q=0/\l.length<=35184372088832,.bc [],[some (.cells [.int .i64 0]),some (.cells [.own 60000]),none],[.row 5 [.int .u8] (l++S.num v) false]⟩
def afO:eC:=bZ aeM q7q ayS
def afP:eC:=o8 afO WG
def afQ:Env:=Env.bS 296 [false,true,true] afP afN
def ayT:aFn->aL3->bl:=λd ((),(l,()))=>⟨l.length<=35184372088832/\d.length<=35184372088832,.bc [],[some (.cells [.own 60000]),none],[.row 5 [.int .u8] (l++d) false]⟩
def afR:Env:=cH 298 [false,true] aL2 q8q ayT afQ
def ayU:Gi->FR:=λ(y1,y2,y3)=>(True,.bc [.own 0,.int .i64 ((hW y1 y2 y3).2:Int)],[.row 5 [.int .u8] ((hW y1 y2 y3).1) false])
def ayV:Gi->LR:=λ(y1,y2,y3)=>λ
    |0=>some ⟨Nat,[(31,iN)],[(4,λk=>.cells [.own 300]),(300,λk=>.row 5 [.int .u8] (ti y1 y2 y3 k) false),(5,λk=>.cells [.int .i64 0])],[(Vg.Loc.cell 4 0,300)],[102700],[],λk=>ET y1 y2 y3 k,λk=>ag (S.len y3) k⟩
    |_=>none
def afS:Env:=cS 190 Qk ayU afR
def ayW:vQ->E3->bl:=λ_ ((r1,r2,r3),())=>⟨r1.length<=140737488355328,.int .i64 (af r1 r2 r3).2,[some (.cells [.sl [.int .u8] r1,.int .i64 (af r1 r2 r3).1.2.1,.int .i64 (af r1 r2 r3).1.2.2])],[]⟩
def afT:Env:=cH 319 [true] AN Wh ayW afS
def ayX:vQ->E3->bl:=λ_ ((r1,r2,r3),())=>⟨r1.length<=140737488355328,.str (aD r1 r2 r3).2,[some (.cells [.sl [.int .u8] r1,.int .i64 (aD r1 r2 r3).1.2.1,.int .i64 (aD r1 r2 r3).1.2.2])],[]⟩
def afU:Env:=cH 320 [true] AN Wh ayX afT
def ayY:aFo->aFp->bl:=λ_ (a,((),((),((r1,r2,r3),()))))=>⟨r1.length<=140737488355328,.agg [.int .i64 a,.int .i64 (vC r1 r2 r3 a).2.2.1,.int .i64 (vC r1 r2 r3 a).2.2.2.1,.str (vC r1 r2 r3 a).2.2.2.2],[some (.cells [.int .i64 (vC r1 r2 r3 a).2.2.1]),some (.cells [.fn (.func 319) [] [.ref 50003 0]]),some (.cells [.fn (.func 320) [] [.ref 50003 0]]),some (.cells [.sl [.int .u8] r1,.int .i64 (vC r1 r2 r3 a).1.1,.int .i64 (vC r1 r2 r3 a).1.2])],[]⟩
def afV:Env:=cH 321 [true,true,true] aL4 aL5 ayY afU
def ayZ:fb->FR:=λb=>(b.length<=140737488355328,.bc [.agg (ay [.int .i64,.str,.slice [.int .i64,.int .i64,.int .i64,.str]] ((hR b).1)),.int .i64 ((hR b).2:Int)],[])
def ay0:fb->LR:=λb=>λ
    |0=>some ⟨Nat,[(29,iN)],[(4,λk=>.cells [.sl [.int .u8] b,.int .i64 (jL b k).1.1,.int .i64 (jL b k).1.2]),(7,λk=>.cells [.int .i64 (jL b k).2.1]),(5,λk=>.cells [.fn (.func 319) [] [.ref 4 0]]),(6,λk=>.cells [.fn (.func 320) [] [.ref 4 0]]),(9,λk=>.cells [.int .i64 (iz b).1.1,.str (iz b).1.2.1,.own 300]),(300,λk=>.row 109 [.int .i64,.int .i64,.int .i64,.str] (jL b k).2.2 false)],[(Vg.Loc.cell 9 2,300)],[],[],λk=>k<=pN b/\(iz b).1.2.2<=64,λk=>ag (pN b) k⟩
    |_=>none
def afW:Env:=cS 227 lz ayZ afV
def ay1:iv->FR:=λ(y1,y2)=>(True,.bool (dD y1 y2),[])
def afX:Env:=cS 10 lO ay1 afW
def ay2:iv->FR:=λ(y1,y2)=>(cX y1,.agg (ay [.int .i64,.str,.slice [.int .i64,.int .i64,.int .i64,.str]] ((((S.len y1:Nat):Int),S.root (S.leaves y1),bV y1 y2))),[])
def afY:Env:=cS 54 lO ay2 afX
def ay3:Wg->FR:=λ(d,t)=>(aY d/\S.small t,.bc [.agg (ay [.int .i64,.str,.str,.str,.slice [.str],.slice [.int .u8]] ((vG d t).1)),.int .i64 ((vG d t).2:Int)],[])
def afZ:Env:=cS 96 apg ay3 afY
def ay4:Gg->LP->bl:=λ_ (l,())=>⟨S.small l,.bc [],[some (.row 9 [.str] (fh l) false)],[]⟩
def af0:Env:=cH 120 [true] ZW q1q ay4 afZ
def ay5:Gg->LP->bl:=λ_ (l,())=>⟨S.small l,.own 60000,[none],[.row 9 [.str] (bT l) false]⟩
def ay6:Gg->LP->LR:=λ_ (l,())=>λ
    |0=>some ⟨Nat,[(3,iN)],[],[],[],[],λk=>oc l k,λk=>ag (S.len l) k⟩
    |2=>some ⟨Nat×Nat×O×Nat,[(3,λk=>.int .i64 ((k.1:Nat):Int)),(5,λk=>.int .i64 ((k.2.1:Nat):Int))],[(50000,λk=>.row 9 [.str] k.2.2.1 false)],[],[],[(27,λk=>.int .i64 ((k.2.2.2:Nat):Int))],λk=>jB l k.2.2.2 k.1 k.2.1 k.2.2.1,λk=>ag (S.len l) k.2.1⟩
    |_=>none
def af1:Env:=cH 121 [true] ZW q1q ay5 af0
def ay7:Wi->FR:=λl=>(fA l,.bool (bR l),[])
def ay8:Wi->LR:=λl=>λ
    |0=>some ⟨Nat,[(9,iN),(3,λk=>.int .i64 (gB l k)),(4,λk=>.int .i64 (nW l k))],[],[],[],[],λk=>nA l k,λk=>ag (S.len l) k⟩
    |_=>none
def af2:Env:=cS 43 aCp ay7 af1
def ay9:Wi->FR:=λl=>(S.small l,.sl [.str] (aF l),[])
def aza:Wi->LR:=λl=>λ
    |0=>some ⟨Nat,[(8,iN),(3,λk=>.own 300)],[(300,λk=>.row 9 [.str] (bP l k) false)],[(Vg.Loc.slot 3,300)],[],[],λk=>fX l k,λk=>ag (S.len l) k⟩
    |_=>none
def af3:Env:=cS 45 aCp ay9 af2
def azb:fb->FR:=λb=>(S.small b,.str (hdT (aS b)),[])
def af4:Env:=cS 220 lz azb af3
def azc:aFq->aFr->bl:=λ_ (st,((),(bb,(at_,()))))=>⟨st=0/\bb=zZ/\at_=3,.bc [],[some (.cells [.int .i64 (-1)]),some (.cells [.own 60000]),some (.cells [.sl [.int .u8] bb]),some (.cells [.int .i64 at_])],[.row 209 [.int .i64,.int .i64,.str] kE1 false]⟩
def af5:Env:=cH 219 [true,true,true,true] aL6 aL7 azc af4
def azd:fb->FR:=λb=>(b=zZ,.sl [.int .i64,.int .i64,.str] kE,[])
def aze:fb->LR:=λb=>λ
    |0=>some ⟨Nat,[(15,iN)],[(1,λk=>.cells [.sl [.int .u8] b]),(3,λk=>.cells [.nil]),(4,λk=>.cells [.int .i64 ((k:Nat):Int)]),(5,λk=>.cells [.int .i64 (ue k)])],[],[],[],λk=>cw k 3,λk=>ag 3 k⟩
    |_=>none
def af6:Env:=cS 111 lz azd af5
def azf:vQ->J1->bl:=λ_ ((e,n,w),())=>⟨0<=n/\n<e.length,.agg [.int .i64 (A5 e n).1,.int .i64 (A5 e n).2.1,.str (A5 e n).2.2],[some (.cells [.sl [.int .i64,.int .i64,.str] e,.int .i64 n,.int .i64 w,.nil])],[]⟩
def af7:eC:=bZ AN ZY azf
def WH:eC:=af7
def af8:Env:=Env.bS 113 [true] WH af6
def azg:vQ->aFs->bl:=λ_ ((e,n,w),(l,()))=>⟨0<=n/\n<e.length,.agg [.int .i64 (A5 e n).1,.int .i64 (A5 e n).2.1,.str (A5 e n).2.2],[some (.cells [.sl [.int .i64,.int .i64,.str] e,.int .i64 n,.int .i64 w,.own 50001]),some (.row 81 [.int .i64,.str] l false)],[]⟩
def af9:eC:=bZ AN aCq azg
def aga:eC:=o8 af9 WH
def agb:Env:=Env.bS 113 [true] aga af8
def azh:CP->J1->bl:=λd ((e,n,w),())=>⟨e=kE/\n=0/\w=0,.int .i64 0,[some (.cells [.sl [.int .i64,.int .i64,.str] e,.int .i64 1,.int .i64 1,.own 60000])],[.row 81 [.int .i64,.str] jG false]⟩
def agc:Env:=cH 317 [true,false] TN ZY azh agb
def azi:CP->J1->bl:=λd ((e,n,w),())=>⟨e=kE/\n=0/\w=0,.int .i64 0,[some (.cells [.sl [.int .i64,.int .i64,.str] e,.int .i64 1,.int .i64 1,.own 60000])],[.row 81 [.int .i64,.str] jG false]⟩
def azj:CP->J1->LR:=λd ((e,n,w),())=>λ
    |0=>some ⟨Nat,[],[(50000,λk=>.cells [.sl [.int .i64,.int .i64,.str] e,.int .i64 1,.int .i64 1,.own 300]),(300,λk=>.row 81 [.int .i64,.str] jG false)],[(Vg.Loc.cell 50000 3,300)],[101000],[],λk=>k=0,λk=>k⟩
    |_=>none
def agd:Env:=cH 225 [true,false] TN ZY azi agc
def azk:CP->J1->bl:=λd ((e,n,w),())=>⟨e=kE/\n=0/\w=0,.int .i64 0,[some (.cells [.sl [.int .i64,.int .i64,.str] e,.int .i64 1,.int .i64 1,.own 60000])],[.row 81 [.int .i64,.str] jG false]⟩
def azl:CP->J1->LR:=λd ((e,n,w),())=>λ
    |0=>some ⟨Nat,[],[(50000,λk=>.cells [.sl [.int .i64,.int .i64,.str] e,.int .i64 1,.int .i64 1,.own 300]),(300,λk=>.row 81 [.int .i64,.str] jG false)],[(Vg.Loc.cell 50000 3,300)],[100900],[],λk=>k=0,λk=>k⟩
    |_=>none
def age:Env:=cH 112 [true,false] TN ZY azk agd
def azm:fb->FR:=λb=>(b=zZ,.bc (ay [.slice [.int .i64,.str],.int .i64,.int .i64] ((jG,0,0))),[])
def agf:Env:=cS 42 lz azm age
def azn:CP->Gj->bl:=λv (d,(l,()))=>⟨l.length<=35184372088832,.bc [],[some (.cells [.own 60000,.bool (oD d (jH v))]),none],[.row 5 [.int .u8] (l++S.bytesOf (jH v)) false]⟩
def agh:Env:=cH 208 [true,false] TN TO azn agf
def azo:aFt->Gj->bl:=λ(b,m) (d,(l,()))=>⟨l.length<=35184372088832/\b.length<=1099511627776,.bc [],[some (.cells [.own 60000,.bool (oD d (gg b m))]),none],[.row 5 [.int .u8] (l++S.bytesOf (gg b m)) false]⟩
def agi:Env:=cH 214 [true,false,false] aL8 TO azo agh
def azp:aFu->Gj->bl:=λ(y1,y2,y3) (d,(l,()))=>⟨l.length<=35184372088832,.bc [],[some (.cells [.own 60000,.bool (oD d (kG y1 y2 y3))]),none],[.row 5 [.int .u8] (l++S.bytesOf (kG y1 y2 y3)) false]⟩
def agj:Env:=cH 207 [true,false] aL9 TO azp agi
def azq:apn->Gj->bl:=λp (d,(l,()))=>⟨l.length<=17592186044416,.bc [],[some (.cells [.own 60000,.bool (oD d (iU p))]),none],[.row 5 [.int .u8] (l++S.bytesOf (iU p)) false]⟩
def azr:apn->Gj->LR:=λp (d,(l,()))=>λ
    |0=>some ⟨Nat,[(18,iN)],[(50000,λk=>.cells [.own 300,.bool d]),(300,λk=>.row 5 [.int .u8] (l++ir p k) false)],[(Vg.Loc.cell 50000 0,300)],[101500],[],λk=>mA p k,λk=>ag (S.len p) k⟩
    |_=>none
def agk:Env:=cH 215 [true,false] aMa TO azq agj
def azs:aFv->Gj->bl:=λ(p1,p2,p3,p4,p5,p6) (d,(l,()))=>⟨l.length<=8796093022208/\p6.length<=1099511627776,.bc [],[some (.cells [.own 60000,.bool (oD d (kW (p1,p2,p3,p4,p5,p6)))]),none],[.row 5 [.int .u8] (l++S.bytesOf (kW (p1,p2,p3,p4,p5,p6))) false]⟩
def agl:Env:=cH 209 [true,false] aMb TO azs agk
def azt:vQ->Gj->bl:=λ_ (d,(l,()))=>⟨True,.bc [.sl [.int .u8] (EV (l,d)),.int .i64 (EW (l,d))],[none,none],[]⟩
def agm:Env:=cH 210 [true] AN TO azt agl
def azu:apo->FR:=λ(a1,a2,a3,a4)=>(yL a4,.bc (ay [.slice [.int .u8],.int .i64] (wZ a1 a2 a3 a4)),[])
def azv:apo->LR:=λ(a1,a2,a3,a4)=>λ
    |0=>some ⟨Nat,[(25,iN)],[(4,λk=>.cells [.own 300,.bool (mU (ga a1 a2 a3 a4 k))]),(300,λk=>.row 5 [.int .u8] (S.bytesOf (ga a1 a2 a3 a4 k)) false)],[(Vg.Loc.cell 4 0,300)],[101300,302],[],λk=>oV a3 a4 k,λk=>ag (S.len a4) k⟩
    |2=>some ⟨Nat×Nat,[(37,λk=>.int .i64 ((k.1:Nat):Int))],[(4,λk=>.cells [.own 302,.bool (mU (gx a1 a2 a3 a4 k.2 k.1))]),(302,λk=>.row 5 [.int .u8] (S.bytesOf (gx a1 a2 a3 a4 k.2 k.1)) false)],[(Vg.Loc.cell 4 0,302)],[103400,300],[(25,λk=>.int .i64 ((k.2:Nat):Int))],λk=>mB a3 a4 k.2 k.1,λk=>ag (S.len (fw a4 k.2)) k.1⟩
    |_=>none
def agn:Env:=cS 97 aCr azu agm
def azw:aFw->FR:=λ(p1,p2,p3,p4,p5,p6)=>(p5.length<=1099511627776,.bc (ay [.slice [.int .u8],.int .i64] (JO p1 p2 p3 p4 p5 p6)),[])
def ago:Env:=cS 100 aMc azw agn
def WI:apq->xc->bl:=λ(b,c) ()=>⟨iW b c=0,.bc [.ref 60000 0,.int .i64 0],[],[.cells [.sl [.int .u8] b,.int .i64 1,.int .i64 0]]⟩
def agp:eC:=bZ LS A7 WI
def WJ:eC:=agp
def agq:Env:=Env.bS 115 [false,false] WJ ago
def WK:apq->xc->bl:=λ(b,c) ()=>⟨¬iW b c=0,.bc [.kY,.int .i64 (iW b c)],[],[]⟩
def agr:eC:=bZ LS A7 WK
def ags:eC:=o8 agr WJ
def agt:Env:=Env.bS 115 [false,false] ags agq
def azx:vQ->E3->bl:=λ_ ((r1,r2,r3),())=>⟨r1.length<=140737488355328,.int .i64 (af r1 r2 r3).2,[some (.cells [.sl [.int .u8] r1,.int .i64 (af r1 r2 r3).1.2.1,.int .i64 (af r1 r2 r3).1.2.2])],[]⟩
def agu:Env:=cH 150 [true] AN Wh azx agt
def azy:CP->E3->bl:=λm ((r1,r2,r3),())=>⟨r1.length<=140737488355328,.str (ao r1 r2 r3 m).2,[some (.cells [.sl [.int .u8] r1,.int .i64 (ao r1 r2 r3 m).1.2.1,.int .i64 (ao r1 r2 r3 m).1.2.2])],[]⟩
def agv:Env:=cH 151 [true,false] TN Wh azy agu
def azz:CP->E3->bl:=λm ((r1,r2,r3),())=>⟨r1.length<=140737488355328,.int .i64 (eW r1 r2 r3 m).2,[some (.cells [.sl [.int .u8] r1,.int .i64 (eW r1 r2 r3 m).1.1,.int .i64 (eW r1 r2 r3 m).1.2])],[]⟩
def agw:Env:=cH 117 [true,false] TN Wh azz agv
def azA:vQ->E3->bl:=λ_ ((r1,r2,r3),())=>⟨r1.length<=140737488355328,.agg [.int .i64 (fi r1 r2 r3).2.1,.str (fi r1 r2 r3).2.2.1,.sl [.int .i64,.int .i64,.int .i64,.str] (fi r1 r2 r3).2.2.2],[some (.cells [.sl [.int .u8] r1,.int .i64 (fi r1 r2 r3).1.1,.int .i64 (fi r1 r2 r3).1.2])],[]⟩
def agx:Env:=cH 116 [true] AN Wh azA agw
def azB:vQ->E3->bl:=λ_ ((r1,r2,r3),())=>⟨r1.length<=140737488355328,.agg [.str (ly r1 r2 r3).2.1,.str (ly r1 r2 r3).2.2.1,.str (ly r1 r2 r3).2.2.2],[some (.cells [.sl [.int .u8] r1,.int .i64 (ly r1 r2 r3).1.1,.int .i64 (ly r1 r2 r3).1.2])],[]⟩
def agy:Env:=cH 228 [true] AN Wh azB agx
def azC:vQ->E3->bl:=λ_ ((r1,r2,r3),())=>⟨r1.length<=140737488355328,.sl [.str] (rN r1 r2 r3).2,[some (.cells [.sl [.int .u8] r1,.int .i64 (rN r1 r2 r3).1.1,.int .i64 (rN r1 r2 r3).1.2])],[]⟩
def azD:vQ->E3->LR:=λ_ ((r1,r2,r3),())=>λ
    |0=>some ⟨Nat,[(7,iN),(3,λk=>.own 300)],[(300,λk=>.row 9 [.str] (iu r1 r2 r3 k).2 false),(50000,λk=>.cells [.sl [.int .u8] r1,.int .i64 (iu r1 r2 r3 k).1.1,.int .i64 (iu r1 r2 r3 k).1.2])],[(Vg.Loc.slot 3,300)],[],[],λk=>cw k (qG r1 r2 r3),λk=>ag (qG r1 r2 r3) k⟩
    |_=>none
def agz:Env:=cH 152 [true] AN Wh azC agy
def azE:vQ->E3->bl:=λ_ ((r1,r2,r3),())=>⟨r1.length<=140737488355328,.agg [.int .i64 (iV r1 r2 r3).2.1,.str (iV r1 r2 r3).2.2.1,.str (iV r1 r2 r3).2.2.2.1,.str (iV r1 r2 r3).2.2.2.2.1,.sl [.str] (iV r1 r2 r3).2.2.2.2.2.1,.sl [.int .u8] (iV r1 r2 r3).2.2.2.2.2.2],[some (.cells [.sl [.int .u8] r1,.int .i64 (iV r1 r2 r3).1.1,.int .i64 (iV r1 r2 r3).1.2])],[]⟩
def M4:Env:=cH 118 [true] AN Wh azE agz
def azF:fb->FR:=λb=>(b.length<=140737488355328/\iW b 1=0,.bc [.agg (ay [.int .i64,.str,.slice [.int .i64,.int .i64,.int .i64,.str],.slice [.slice [.int .i64,.str,.str,.str,.slice [.str],.slice [.int .u8]]]] ((aU b).1)),.int .i64 ((aU b).2:Int)],[])
def azG:fb->LR:=λb=>λ
    |0=>some ⟨Nat,[(25,iN)],[(101100,λk=>.cells [.sl [.int .u8] b,.int .i64 (kl b k).1.1,.int .i64 (kl b k).1.2]),(6,λk=>.cells [.int .i64 (aH b).2.1,.str (aH b).2.2.1,.sl [.int .i64,.int .i64,.int .i64,.str] (aH b).2.2.2,.own 300]),(300,λk=>.row 110 [.slice [.int .i64,.str,.str,.str,.slice [.str],.slice [.int .u8]]] (kl b k).2 false)],[(Vg.Loc.cell 6 3,300)],[301],[],λk=>cw k (aN b),λk=>ag (aN b) k⟩
    |2=>some ⟨Nat×Nat,[(29,λk=>.int .i64 ((k.1:Nat):Int)),(7,λk=>.own 301)],[(301,λk=>.row 115 [.int .i64,.str,.str,.str,.slice [.str],.slice [.int .u8]] (Il b k.2 k.1).2 false),(101100,λk=>.cells [.sl [.int .u8] b,.int .i64 (Il b k.2 k.1).1.1,.int .i64 (Il b k.2 k.1).1.2]),(6,λk=>.cells [.int .i64 (aH b).2.1,.str (aH b).2.2.1,.sl [.int .i64,.int .i64,.int .i64,.str] (aH b).2.2.2,.own 300]),(300,λk=>.row 110 [.slice [.int .i64,.str,.str,.str,.slice [.str],.slice [.int .u8]]] (kl b k.2).2 false)],[(Vg.Loc.slot 7,301)],[],[(25,λk=>.int .i64 ((k.2:Nat):Int))],λk=>cw k.1 (qH b k.2)/\k.2+1<=aN b,λk=>ag (qH b k.2) k.1⟩
    |_=>none
def azH:Env:=Env.bS 115 [false,false] (bZ LS A7 WI) M4
def azI:fb->FR:=λb=>(¬iW b 1=0,.bc [.agg (ay [.int .i64,.str,.slice [.int .i64,.int .i64,.int .i64,.str],.slice [.slice [.int .i64,.str,.str,.str,.slice [.str],.slice [.int .u8]]]] ((aU b).1)),.int .i64 ((aU b).2:Int)],[])
def azJ:Env:=Env.bS 115 [false,false] (bZ LS A7 WK) M4
def azK:fb->FR:=λb=>(b.length<=140737488355328,.bc [.agg (ay [.int .i64,.str,.slice [.int .i64,.int .i64,.int .i64,.str],.slice [.slice [.int .i64,.str,.str,.str,.slice [.str],.slice [.int .u8]]]] ((aU b).1)),.int .i64 ((aU b).2:Int)],[])
def M5:Env:=cS 44 lz azK M4
def azL:fb->FR:=λb=>(b.length<=140737488355328/\iW b 2=0,.bc [.agg (ay [.int .i64,.str,.slice [.int .i64,.int .i64,.int .i64,.str],.int .i64,.slice [.int .u8],.slice [.str]] ((aK b).1)),.int .i64 ((aK b).2:Int)],[])
def azM:Env:=Env.bS 115 [false,false] (bZ LS A7 WI) M5
def azN:fb->FR:=λb=>(¬iW b 2=0,.bc [.agg (ay [.int .i64,.str,.slice [.int .i64,.int .i64,.int .i64,.str],.int .i64,.slice [.int .u8],.slice [.str]] ((aK b).1)),.int .i64 ((aK b).2:Int)],[])
def azO:Env:=Env.bS 115 [false,false] (bZ LS A7 WK) M5
def azP:fb->FR:=λb=>(b.length<=140737488355328,.bc [.agg (ay [.int .i64,.str,.slice [.int .i64,.int .i64,.int .i64,.str],.int .i64,.slice [.int .u8],.slice [.str]] ((aK b).1)),.int .i64 ((aK b).2:Int)],[])
def agA:Env:=cS 62 lz azP M5
def azQ:Gi->FR:=λ(y1,y2,y3)=>(cG y1 y2 y3=true,.own 0,[.row 5 [.int .u8] (hB y1 y2 y3) false])
def azR:Gi->LR:=λ(y1,y2,y3)=>λ
    |0=>some ⟨Nat,[(4,iN),(3,λk=>.own 300)],[(300,λk=>.row 5 [.int .u8] (ti y1 y2 y3 k) false)],[(Vg.Loc.slot 3,300)],[101700,101701,101702,11,17,101100,101101,101102],[],λk=>ET y1 y2 y3 k,λk=>ag (S.len y3) k⟩
    |_=>none
def agB:Env:=cS 134 Qk azQ agA
def azS:Gi->FR:=λ(y1,y2,y3)=>(cG y1 y2 y3=true,.str (aeg y1 y2 y3),[])
def agC:Env:=cS 53 Qk azS agB
def azT:Gi->FR:=λ(y1,y2,y3)=>(True,.bc (ay [.str,.int .i64] (qI y1 y2 y3)),[])
def agD:Env:=cS 85 Qk azT agC
def azU:Ql->FR:=λ(a,b)=>(True,.bool (PO a b),[])
def agE:Env:=cS 60 Iu azU agD
def azV:iv->FR:=λ(y1,y2)=>(True,.bc (ay [.str,.int .i64] (eX y1 y2)),[])
def agF:Env:=cS 41 lO azV agE
def azW:apr->aFx->bl:=λt (dd,(er,((),())))=>⟨aY dd/\aQ dd=true/\S.isTerm t=true/\er=0,.bc [],[some (.cells [.sl [.str,.slice [.int .i64]] dd]),some (.cells [.int .i64 0]),some (.cells [.own 60000])],[.row 115 [.int .i64,.str,.str,.str,.slice [.str],.slice [.int .u8]] [kU dd t] false]⟩
def agG:eC:=bZ aeN aCs azW
def WL:eC:=agG
def agH:Env:=Env.bS 95 [false,true,true,true] WL agF
def azX:apr->aFy->bl:=λt (dd,(er,((),(l,()))))=>⟨aY dd/\aQ dd=true/\S.isTerm t=true/\er=0/\l.length<=100000,.bc [],[some (.cells [.sl [.str,.slice [.int .i64]] dd]),some (.cells [.int .i64 0]),some (.cells [.own 60000]),none],[.row 115 [.int .i64,.str,.str,.str,.slice [.str],.slice [.int .u8]] (l++[kU dd t]) false]⟩
def agI:eC:=bZ aeN aCt azX
def agJ:eC:=o8 agI WL
def agK:Env:=Env.bS 95 [false,true,true,true] agJ agH
def azY:aps->apt->bl:=λd (er,(ts,()))=>⟨PQ d ts/\er=0,.sl [.int .i64,.str,.str,.str,.slice [.str],.slice [.int .u8]] (RV d ts),[some (.cells [.int .i64 0]),some (.cells [.sl [.str] ts])],[]⟩
def azZ:aps->apt->LR:=λd (er,(ts,()))=>λ
    |0=>some ⟨Nat,[(12,iN)],[(3,λk=>.cells [.sl [.str,.slice [.int .i64]] d]),(5,λk=>.cells [.own 300]),(300,λk=>.row 115 [.int .i64,.str,.str,.str,.slice [.str],.slice [.int .u8]] (rO d ts k) false),(50000,λk=>.cells [.int .i64 0]),(50001,λk=>.cells [.sl [.str] ts])],[(Vg.Loc.cell 5 0,300)],[],[],λk=>fX ts k,λk=>ag (S.len ts) k⟩
    |_=>none
def agL:Env:=cH 94 [false,true,true] aCu aCv azY agK
def az0:apu->FR:=λ(y1,y2,l)=>(fA l,.bc (ay [.slice [.int .u8],.int .i64] (ri y1 y2 l)),[])
def az1:apu->LR:=λ(y1,y2,l)=>λ
    |0=>some ⟨Nat,[(31,iN)],[(7,λk=>.cells [.int .i64 0]),(8,λk=>.cells [.sl [.str] (aF l)]),(10,λk=>.cells [.int .i64 ((S.len y1:Nat):Int),.str (S.root (S.leaves y1)),.sl [.int .i64,.int .i64,.int .i64,.str] (bV y1 y2),.own 300]),(300,λk=>.row 110 [.slice [.int .i64,.str,.str,.str,.slice [.str],.slice [.int .u8]]] (oE y2 (aF l) k) false)],[(Vg.Loc.cell 10 3,300)],[],[],λk=>fX y2 k/\dD y1 y2=true/\bR l=true,λk=>ag (S.len y2) k⟩
    |_=>none
def agM:Env:=cS 33 aCw az0 agL
def az2:aFz->FR:=λ(y1,y2,i)=>(True,.bc (ay [.slice [.int .u8],.int .i64] (oF y1 y2 i)),[])
def agN:Env:=cS 34 aMd az2 agM
def az3:iv->FR:=λ(y1,y2)=>(dD y1 y2=true,.str (tp y1 y2),[])
def agO:Env:=cS 14 lO az3 agN
def az4:Ŝ->FR:=λ(i,n)=>(oe i n,.own 0,[.row 4 [.bool] (cb i n) false])
def az5:Ŝ->LR:=λ(i,n)=>λ
    |0=>some ⟨Int×Int×M Bool,[(0,λk=>.int .i64 k.1),(1,λk=>.int .i64 k.2.1),(5,λk=>.own 300)],[(300,λk=>.row 4 [.bool] k.2.2 false)],[(Vg.Loc.slot 5,300)],[],[],λk=>jX i n k,λk=>k.2.1.toNat⟩
    |_=>none
def agP:Env:=cS 153 aCl az4 agO
def az6:apv->FR:=λ(d,i,n,p)=>(fa p,.bc (ay [.str,.int .i64] ((jK d i n p,cv d i n p))),[])
def az7:apv->LR:=λ(d,i,n,p)=>λ
    |0=>some ⟨Nat,[(49,iN),(11,λk=>.str (cD d i n p k))],[],[],[],[],λk=>cv d i n p=0/\k<=(S.len p:Nat),λk=>ag (S.len p) k⟩
    |_=>none
def agQ:Env:=cS 65 aCx az6 agP
def az8:fb->FR:=λb=>(b.length<=140737488355328,.bc (ay [.slice [.int .i64],.int .i64] (cy b)),[])
def az9:fb->LR:=λb=>λ
    |0=>some ⟨Nat×Int×Int×Int×U,[(24,λk=>.int .i64 ((k.1:Nat):Int)),(7,λk=>.int .i64 k.2.2.2.1),(6,λk=>.own 300)],[(300,λk=>.row 3 [.int .i64] k.2.2.2.2 false),(4,λk=>.cells [.sl [.int .u8] b,.int .i64 k.2.1,.int .i64 k.2.2.1])],[(Vg.Loc.slot 6,300)],[],[],λk=>vK b k.1 k.2,λk=>ag 1000 k.1⟩
    |_=>none
def agR:Env:=cS 233 lz az8 agQ
def aAa:ş->FR:=λ(n,p,q)=>(True,.bool (EY p q),[])
def agS:Env:=cS 243 apw aAa agR
def aAb:ş->FR:=λ(n,p,q)=>(True,.bool (VS p q),[])
def agT:Env:=cS 244 apw aAb agS
def aAc:ş->FR:=λ(n,p,q)=>(True,.bool (EZ p q),[])
def agU:Env:=cS 245 apw aAc agT
def aAd:apx->xc->bl:=λ(a,b) ()=>⟨True,.own 60000,[],[.row 3 [.int .i64] (F8 a b) false]⟩
def aAe:apx->xc->LR:=λ(a,b) ()=>λ
    |0=>some ⟨U×U×U,[(0,λk=>.sl [.int .i64] k.1),(1,λk=>.sl [.int .i64] k.2.1),(7,λk=>.own 300)],[(300,λk=>.row 3 [.int .i64] k.2.2 false)],[(Vg.Loc.slot 7,300)],[],[],λk=>mI EY a b k,λk=>iX k⟩
    |_=>none
def agV:eC:=bZ aCy A7 aAd
def WM:eC:=o8 agV WE
def agW:Env:=Env.bS 242 [false,false,true] WM agU
def aAf:apy->xc->bl:=λ(a,b) ()=>⟨True,.own 60000,[],[.row 3 [.int .i64] (vJ a b) false]⟩
def aAg:apy->xc->LR:=λ(a,b) ()=>λ
    |0=>some ⟨U×U×U,[(0,λk=>.sl [.int .i64] k.1),(1,λk=>.sl [.int .i64] k.2.1),(7,λk=>.own 300)],[(300,λk=>.row 3 [.int .i64] k.2.2 false)],[(Vg.Loc.slot 7,300)],[],[],λk=>mI VS a b k,λk=>iX k⟩
    |_=>none
def agX:eC:=bZ aCz A7 aAf
def WN:eC:=o8 agX WM
def agY:Env:=Env.bS 242 [false,false,true] WN agW
def aAh:apz->xc->bl:=λ(a,b) ()=>⟨True,.own 60000,[],[.row 3 [.int .i64] (PU a b) false]⟩
def aAi:apz->xc->LR:=λ(a,b) ()=>λ
    |0=>some ⟨U×U×U,[(0,λk=>.sl [.int .i64] k.1),(1,λk=>.sl [.int .i64] k.2.1),(7,λk=>.own 300)],[(300,λk=>.row 3 [.int .i64] k.2.2 false)],[(Vg.Loc.slot 7,300)],[],[],λk=>mI EZ a b k,λk=>iX k⟩
    |_=>none
def agZ:eC:=bZ aCA A7 aAh
def ag0:eC:=o8 agZ WN
def ag1:Env:=Env.bS 242 [false,false,true] ag0 agY
def aAj:Gh->FR:=λ(a,b)=>(True,.own 0,[.row 3 [.int .i64] (F8 a b) false])
def ag2:Env:=cS 130 Qh aAj ag1
def aAk:Gh->FR:=λ(a,b)=>(True,.own 0,[.row 3 [.int .i64] (vJ a b) false])
def ag3:Env:=cS 131 Qh aAk ag2
def aAl:Gh->FR:=λ(a,b)=>(True,.own 0,[.row 3 [.int .i64] (PU a b) false])
def ag4:Env:=cS 132 Qh aAl ag3
def aAm:aeL->FR:=λs=>(True,.bool false,[])
def ag5:Env:=cS 238 q8p aAm ag4
def aAn:Gf->FR:=λ(a,b)=>(True,.bool (Op.bytesLess a b),[])
def ag6:Env:=cS 237 LO aAn ag5
def aAo:apA->FR:=λ(x,t)=>(xE x,.bc (ay [.int .i64,.bool] (((pC x t:Int),CH x t))),[])
def aAp:apA->LR:=λ(x,t)=>λ
    |0=>some ⟨Int×Int,[(7,λk=>.int .i64 k.1),(8,λk=>.int .i64 k.2)],[],[],[],[],λk=>rP x t k.1 k.2,λk=>(k.2-k.1).toNat⟩
    |_=>none
def ag7:Env:=cS 127 aMe aAo ag6
def aAq:aFA->FR:=λ(s,t,f)=>(CI t f,.sl [.int .i64] (sR t f s),[])
def ag8:Env:=cS 126 aMf aAq ag7
def aAr:Wj->aFB->bl:=λs ((),((),(l,())))=>⟨su l,.bc [],[some (.cells [.own 60000]),some (.cells [.fn (.func 130) [] []]),none],[.row 36 [.slice [.int .i64]] (tq 1 l) false]⟩
def ag9:eC:=bZ Qm aCB aAr
def WO:eC:=ag9
def aha:Env:=Env.bS 240 [false,true,true] WO ag8
def aAs:Wj->aFC->bl:=λs ((),((),(l,())))=>⟨su l,.bc [],[some (.cells [.own 60000]),some (.cells [.fn (.func 131) [] []]),none],[.row 36 [.slice [.int .i64]] (tq 2 l) false]⟩
def ahb:eC:=bZ Qm aCC aAs
def WQ:eC:=o8 ahb WO
def ahc:Env:=Env.bS 240 [false,true,true] WQ aha
def aAt:Wj->aFD->bl:=λs ((),((),(l,())))=>⟨su l,.bc [],[some (.cells [.own 60000]),some (.cells [.fn (.func 132) [] []]),none],[.row 36 [.slice [.int .i64]] (tq 3 l) false]⟩
def ahd:eC:=bZ Qm aCD aAt
def ahe:eC:=o8 ahd WQ
def ahf:Env:=Env.bS 240 [false,true,true] ahe ahc
def aAu:Wj->aFE->bl:=λs ((),((t,f),(l,())))=>⟨CI t f/\S.small l,.bc [],[some (.cells [.own 60000]),some (.cells [.fn (.func 126) [] [.cz [.slice [.str]] t 0,.cz [.slice [.slice [.int .i64]]] f 0],.fn (.func 130) [] [],.fn (.func 131) [] [],.fn (.func 132) [] []]),none],[.row 36 [.slice [.int .i64]] (Io l (sR t f s)) false]⟩
def ahg:Env:=cH 241 [false,true,true] Qm aMg aAu ahf
def aAv:apB->xc->bl:=λ(l,t,f) ()=>⟨F9 l t f,.sl [.int .i64] (PV l t f),[],[]⟩
def aAw:apB->xc->LR:=λ(l,t,f) ()=>λ
    |0=>some ⟨Nat,[(28,iN)],[(5,λk=>.cells [.own 300]),(300,λk=>.row 36 [.slice [.int .i64]] (lN (sR t f) l k) false),(3,λk=>.cells [.fn (.func 126) [] [.cz [.slice [.str]] t 0,.cz [.slice [.slice [.int .i64]]] f 0],.fn (.func 130) [] [],.fn (.func 131) [] [],.fn (.func 132) [] []]),(16,λk=>.cells [.fn (.func 130) [] []]),(20,λk=>.cells [.fn (.func 131) [] []]),(24,λk=>.cells [.fn (.func 132) [] []])],[(Vg.Loc.cell 5 0,300)],[],[],λk=>pE l (lN (sR t f) l k) k,λk=>ag (S.len l) k⟩
    |_=>none
def ahh:Env:=cH 129 [false,true] aMh A7 aAv ahg
def aAx:apC->FR:=λ(l,f)=>(fA l,.bc (ay [.slice [.int .i64],.int .i64] (oG l f)),[])
def aAy:apC->LR:=λ(l,f)=>λ
    |0=>some ⟨Nat,[(22,iN)],[],[],[],[],λk=>Ga f k,λk=>ag (S.len f) k⟩
    |_=>none
def ahi:Env:=cS 52 aCE aAx ahh
def aAz:aFF->FR:=λ(p1,p2,p3,p4,p5,p6,t,e)=>(ax p6,.bool (LJ t e p2 p4 p6),[])
def ahj:Env:=cS 234 aMi aAz ahi
def aAA:aFG->FR:=λ(p1,p2,p3,p4,p5,p6,t)=>(True,.bool (LK t p2 p3 p6),[])
def ahk:Env:=cS 236 aMj aAA ahj
def aAB:aFH->xc->bl:=λ(t,p1,p2,p3,p4,p5,p6) ()=>⟨p6.length<=140737488355328,.own 60000,[],[.bj 229 2 2 [.fn (.func 234) [] [.cz [.str] t 0,.cz [.int .i64] (cy p6).2 0],.sl [.int .i64] (cy p6).1,.fn (.func 236) [] [.cz [.str] t 0],.nil]]⟩
def ahl:Env:=cH 124 [false,false] aMk A7 aAB ahk
def aAC:apD->FR:=λ(root,n,t,p1,p2,p3,p4,p5,p6)=>(vL t p5 p6,.bc (ay [.slice [.int .i64],.int .i64] (kn root n t (p1,p2,p3,p4,p5,p6))),[])
def aAD:apD->LR:=λ(root,n,t,p1,p2,p3,p4,p5,p6)=>λ
    |0=>some ⟨Nat,[(61,iN)],[],[],[],[],λk=>og root n t (p1,p2,p3,p4,p5,p6) k,λk=>ag 2 k⟩
    |_=>none
def ahm:Env:=cS 49 aMl aAC ahl
def aAE:aFI->FR:=λ(h1,h2,h3,root)=>(True,.bool (CG h1 h2 h3 root),[])
def ahn:Env:=cS 122 aMm aAE ahm
def aAF:aFJ->FR:=λ(h1,h2,h3,root)=>(True,.fn (.func 122) [] [.cz [.int .i64,.str,.slice [.int .i64,.int .i64,.int .i64,.str]] (h1,h2,h3) 0,.cz [.str] root 0],[])
def aho:Env:=cS 46 aMn aAF ahn
def aAG:aFK->FR:=λ(a1,a2,a3,a4,i,t)=>(0<=i/\i<(S.len a4:Nat),.bool (pd a4 i t),[])
def ahp:Env:=cS 47 aMo aAG aho
def aAH:apE->FR:=λ(p1,p2,p3,p4,p5,p6,i)=>(True,.bool (decide (p4=i)),[])
def ahq:Env:=cS 63 aCF aAH ahp
def aAI:ŝ->FR:=λ(l,s1,s2)=>(True,.bool (w7 l s1 s2),[])
def aAJ:ŝ->LR:=λ(l,s1,s2)=>λ
    |0=>some ⟨Nat,[(9,iN)],[],[],[],[],λk=>xD l s1 s2 k/\k<=(S.len l:Nat),λk=>ag (S.len l) k⟩
    |_=>none
def ahr:Env:=cS 50 ape aAI ahq
def aAK:apE->FR:=λ(p1,p2,p3,p4,p5,p6,i)=>(fa p6/\ax p5,.bool (F7 p1 p2 p5 p6 i),[])
def ahs:Env:=cS 64 aCF aAK ahr
def aht:Env:=Env.bS 51 [true] (HK 3) ahs
def aAL:aFL->FR:=λ(root,i,b)=>(b.length<1099511627776,.bc (ay [.slice [.int .u8],.int .i64] (((jO root i b).1,(jO root i b).2))),[])
def ahu:Env:=cS 21 aMp aAL aht
def WR:Š->š->bl:=λ(g1,g2,g3,g4,w,a1,a2,a3,a4,i,j) ((),((xs,q),(l,())))=>⟨P1 w a4 i j/\TD j q xs.length l/\tI (g1,g2,g3,g4) w a4 i j=true,.bool true,[some (.cells [.own 50001]),some (.ek 36 (some 60000) xs q),none],[.row 3 [.int .i64] (TF l (A6 (g1,g2,g3,g4) w a4 i j).1) false]⟩
def WS:eC:=bZ ZZ Z0 WR
def WT:eC:=WS
def ahv:Env:=Env.bS 48 [false,false,false,false,false,true] WT ahu
def WU:Š->š->bl:=λ(g1,g2,g3,g4,w,a1,a2,a3,a4,i,j) ((),((xs,q),(l,())))=>⟨P1 w a4 i j/\TD j q xs.length l/\tI (g1,g2,g3,g4) w a4 i j=false,.bool false,[some (.cells [.own 50001]),some (.ek 36 (some 50002) xs q),some (.row 3 [.int .i64] l false)],[]⟩
def WV:eC:=bZ ZZ Z0 WU
def ahw:eC:=o8 WV WT
def ahx:Env:=Env.bS 48 [false,false,false,false,false,true] ahw ahv
def ahy:aFM->CF:=λ(g1,g2,g3,g4,w,a1,a2,a3,a4,i,j)=>CK 36 3 (g1,g2,g3,g4) w a4 i j
def ahz:Env:=Env.Jq 48 (OG aCG ahy) ahx
def aAM:apF->FR:=λ(root,l,b)=>(b.length<1099511627776/\fA l,.bc (ay [.slice [.int .i64],.int .i64] (((kJ root l b).1,(kJ root l b).2))),[])
def aAN:apF->LR:=λ(root,l,b)=>λ
    |0=>some ⟨Nat,[(48,iN),(12,λk=>.own 300)],[(300,λk=>.dq 35 (some 11) (S.conds 36 3 root (aU b).1.1 (aU b).1.2.1 (aU b).1.2.2.1 (aU b).1.2.2.2 (aF l) k))],[(Vg.Loc.slot 12,300)],[43,301],[],λk=>aeu b k,λk=>ag (S.len (aU b).1.2.2.1) k⟩
    |2=>some ⟨Nat×Nat,[(59,λk=>.int .i64 ((k.2:Nat):Int)),(12,λk=>.own 301)],[(301,λk=>.dq 35 (some 11) (qK 36 3 root (aU b).1.1 (aU b).1.2.1 (aU b).1.2.2.1 (aU b).1.2.2.2 (aF l) k.1 k.2))],[(Vg.Loc.slot 12,301)],[105600,105601,105602,43,56,300],[(48,λk=>.int .i64 ((k.1:Nat):Int))],λk=>V0 b (aF l) k.1 k.2,λk=>ag (S.len (aF l)) k.2⟩
    |_=>none
def ahA:Env:=cS 13 aMq aAM ahz
def aAO:aFN->FR:=λ(c1,c2)=>(gh c1 c2,.bool (JW c1 c2),[])
def ahB:Env:=cS 20 aCH aAO ahA
def aAP:fb->FR:=λb=>(S.small b,.sl [.int .u8] b,[])
def ahC:Env:=cS 339 lz aAP ahB
def aAQ:Ql->FR:=λ(a,b)=>(gh a b,.bc [.agg (ay [.slice [.int .u8],.slice [.int .u8]] ((bt a b).1)),.bool ((bt a b).2)],[])
def ahD:Env:=cS 257 Iu aAQ ahC
def aAR:tu->FR:=λl=>(S.small l,.str (jS l),[])
def ahE:Env:=cS 288 yP aAR ahD
def aAS:Gf->FR:=λ(a,b)=>(True,.str (bo a b),[])
def ahF:Env:=cS 271 LO aAS ahE
def aAT:tu->FR:=λl=>(S.small l,.sl [.int .u8] (vN l),[])
def ahG:Env:=cS 268 yP aAT ahF
def aAU:Ql->FR:=λ(a,b)=>(w8 a b,.bc [.agg (ay [.slice [.int .u8],.slice [.int .u8]] ((RX 2 a b).1)),.bool ((RX 2 a b).2)],[])
def ahH:Env:=cS 260 Iu aAU ahG
def aAV:Ql->FR:=λ(a,b)=>(w8 a b,.bc [.agg (ay [.slice [.int .u8],.slice [.int .u8]] ((RX 3 a b).1)),.bool ((RX 3 a b).2)],[])
def ahI:Env:=cS 143 Iu aAV ahH
def aAW:aFO->FR:=λ(a,b)=>(gh a b,.bc [.agg (ay [.slice [.int .u8],.slice [.int .u8]] ((bt a b).1)),.bool ((bt a b).2)],[])
def ahJ:Env:=cS 344 aCI aAW ahI
def aAX:Ql->FR:=λ(a,b)=>(True,.fn (.func 344) [] [.cz [.slice [.int .u8]] a 0,.cz [.slice [.int .u8]] b 0],[])
def ahK:Env:=cS 269 Iu aAX ahJ
def ahL:Env:=Env.bS 272 [true] (Dz) ahK
def aAY:apG->FR:=λ(l,i,f,p)=>(mJ l f p,.bc [.agg (ay [.slice [.int .u8],.slice [.int .u8]] ((jU l i f p).1)),.bool ((jU l i f p).2)],[])
def aAZ:apG->LR:=λ(l,i,f,p)=>λ
    |0=>some ⟨O×M Bool×O×Int,[(12,λk=>.own 300),(13,λk=>.own 301),(14,λk=>.sl [.str] k.2.2.1),(15,λk=>.int .i64 k.2.2.2)],[(300,λk=>.row 27 [.slice [.int .u8]] k.1 false),(301,λk=>.row 4 [.bool] k.2.1 false)],[(Vg.Loc.slot 12,300),(Vg.Loc.slot 13,301)],[],[],λk=>Ab l i f p k,λk=>S.len k.2.2.1⟩
    |2=>some ⟨Nat,[(87,iN),(19,λk=>.str (cD (S.leaf f) i (S.len l) p k))],[(82,λk=>.dq 365 none (pV l i f p k))],[],[],[],λk=>w9 p k,λk=>ag (S.len p) k⟩
    |_=>none
def ahM:Env:=cS 157 aCJ aAY ahL
def aA0:aFP->FR:=λ(d,t,p1,p2,p3,p4,p5,p6)=>(P7 d t p5 p6,.bc [.agg (ay [.slice [.int .u8],.slice [.int .u8]] ((iD d t (p1,p2,p3,p4,p5,p6)).1)),.bool ((iD d t (p1,p2,p3,p4,p5,p6)).2)],[])
def ahN:Env:=cS 146 aCK aA0 ahM
def ahO:Env:=Env.bS 57 [true] (Dz) ahN
def aA1:Ţ->FR:=λ(p1,p2,p3,p4,p5)=>(True,.bc (ay [.slice [.int .u8],.slice [.int .u8]] ((sS p1 p2 p3,yO p4 p5))),[])
def ahP:Env:=cS 144 TP aA1 ahO
def aA2:Ţ->FR:=λ(p1,p2,p3,p4,p5)=>(True,.bool (AM p1 p2 p3 p4 p5),[])
def ahQ:Env:=cS 145 TP aA2 ahP
def aA3:Ţ->FR:=λ(p1,p2,p3,p4,p5)=>(True,.bc [.agg (ay [.slice [.int .u8],.slice [.int .u8]] ((sv p1 p2 p3 p4 p5).1)),.bool ((sv p1 p2 p3 p4 p5).2)],[])
def ahR:Env:=cS 58 TP aA3 ahQ
def aA4:apH->FR:=λ(a1,a2,a3,a4,a5,a6,a7)=>(xa a1 a2 a3 a4 a5 a6 a7,.bc [.agg (ay [.slice [.int .u8],.slice [.int .u8]] ((oh a1 a2 a3 a4 a5 a6 a7).1)),.bool ((oh a1 a2 a3 a4 a5 a6 a7).2)],[])
def aA5:apH->LR:=λ(a1,a2,a3,a4,a5,a6,a7)=>λ
    |0=>some ⟨Nat,[(20,iN)],[],[],[],[],λk=>JX a5 a6 a7 k,λk=>ag (S.len a5) k⟩
    |2=>some ⟨Nat×Nat,[(28,λk=>.int .i64 ((k.1:Nat):Int))],[],[],[],[(20,λk=>.int .i64 ((k.2:Nat):Int))],λk=>uh a5 a6 a7 k.2 k.1,λk=>ag (S.len a6) k.1⟩
    |_=>none
def ahS:Env:=cS 59 aCL aA4 ahR
def aA6:aFQ->FR:=λ(a1,a2,a3,a4,a5,a6,a7,a8)=>(mJ a4 a7 a8,.bc [.agg (ay [.slice [.int .u8],.slice [.int .u8]] ((CM a1 a2 a3 a4 a5 a6 a7 a8).1)),.bool ((CM a1 a2 a3 a4 a5 a6 a7 a8).2)],[])
def ahT:Env:=cS 67 aCM aA6 ahS
def aA7:aFR->FR:=λ(y1,y2,l,b)=>(b.length<1099511627776/\fA l,.bc [.agg (ay [.slice [.int .u8],.slice [.int .u8]] ((me y1 y2 l b).1)),.bool ((me y1 y2 l b).2)],[])
def ahU:Env:=cS 19 aCN aA7 ahT
def aA8:apI->FR:=λ(y1,y2,i,b)=>(b.length<1099511627776,.bc [.agg (ay [.slice [.int .u8],.slice [.int .u8]] ((dz y1 y2 i b).1)),.bool ((dz y1 y2 i b).2)],[])
def ahV:Env:=cS 22 TQ aA8 ahU
def aA9:apl->FR:=λ(y1,y2,b)=>(True,.bool (Ge y1 y2 b),[])
def ahW:Env:=cS 8 apk aA9 ahV
def aBa:ao4->FR:=λ_=>(True,.bool true,[])
def ahX:Env:=cS 12 q0p aBa ahW
def ahY:apI->FR:=λ(y1,y2,i,b)=>(True,.bool true,[])
def aBb:Env:=cS 4 TQ ahY ahX
end Go.J
namespace Go.Vg
open Go Go.Shelf Go.RowKit Go.Proofs
variable [HP]
def encS(s:B8):Value:=.string ⟨s.toArray⟩
variable {A:Nat->Prop}{w w':World}{e:Nat}{P:Program}{args:Array Value}{f:FuncId}{G:Nat->Option GD}{ρ:Ren}
def C8:∀(l:O) (cs:M Value),dn (bw w A [.str]) cs l->cs=l.map encS/\∀s∈l,s.length<=maxLen
 |[],cs,h=>by grind[dn]
 |s::l,cs,⟨c1,c2,hc,h1,h2⟩=>by
  subst hc;obtain⟨v,bY,rfl,hv,rfl⟩:=h1;obtain⟨g1,g2⟩:=C8 l c2 h2;obtain⟨rfl,hl⟩:=hv;refine⟨by rw[g1];rfl,λs' iJ=>?_⟩;rcases List.mem_cons.1 iJ with rfl|iJ;exact hl;grind
theorem DY:∀(l:O),(∀s∈l,s.length<=maxLen)->dn (bw w A [.str]) (l.map encS) l
 |[],_=>rfl
 |s::l,h=>⟨[encS s],l.map encS,rfl,by
   exact⟨_,[],rfl,by exact⟨rfl,h s z!⟩,rfl⟩,DY l λs' iJ=>h s' x!⟩
def Ä:∀(l:U) (cs:M Value),dn (bw w A [.int .i64]) cs l->cs=l.map (Value.int .i64)/\∀z∈l,lo .i64<=z/\z<=hi .i64
 |[],cs,h=>by grind[dn]
 |s::l,cs,⟨c1,c2,hc,h1,h2⟩=>by
  subst hc;obtain⟨v,bY,rfl,hv,rfl⟩:=h1;obtain⟨g1,g2⟩:=Ä l c2 h2;obtain⟨rfl,hl⟩:=hv;refine⟨by rw[g1];rfl,λs' iJ=>?_⟩;rcases List.mem_cons.1 iJ with rfl|iJ;exact hl;grind
def KC:∀(l:U),(∀z∈l,lo .i64<=z/\z<=hi .i64)->dn (bw w A [.int .i64]) (l.map (Value.int .i64)) l
 |[],_=>rfl
 |s::l,h=>⟨[.int .i64 s],l.map (Value.int .i64),rfl,by
   exact⟨_,[],rfl,by exact⟨rfl,h s z!⟩,rfl⟩,KC l λs' iJ=>h s' x!⟩
def TZ{row:M Ty}{l:M (Row row)}{v:Value}{xs:M Value}(hA:∀b,A b->b<w.heap.size)(hb:Below w.heap.size w w')(ho:w'.ownsRow w.heap.size e row.length v l.length xs)(hr:dn (bw w' A row) xs l):
  ∃A' az,my w A w' v (.own 0) [.row e row l false] A' az:=by
 have hblk:∀b,ah v=some b->w.heap.size<=b:=by
  intro b eO;rcases ho.2 with⟨rfl,_⟩|⟨g,cap,cur,rfl,hg,_⟩;cases eO;grind[ah,Option.some.injEq]
 have h1:v.oneCell'=true:=by
  rcases ho.2 with⟨rfl,_⟩|⟨g,cap,cur,rfl,hg,_⟩<;>rfl
 have ho0:w'.ownsRow 0 e row.length v l.length xs:=by
  refine⟨ho.1,?_⟩;rcases ho.2 with h|⟨g,cap,cur,g1,g2,g3⟩;grind;grind
 refine⟨A,λ_=>v,{os:=hb.os,tape:=hb.tape,output:=hb.output,size:=hb.size,same:=hb.block,mono:=λ_ h=>h,fk:=λ_ _ h=>h,bound:=λb h=>C? (hA b h) hb.size,res:= ?_,rows:= ?_,apart:= ?_}⟩;simp_all[aa,trivial]
 . intro i ab hi;match i,hi with
   |0,hi=>
    simp at hi;subst hi;refine⟨⟨xs,ho0,hr,λb eO=>?_⟩,hblk⟩;grind
   |i+1,hi=>grind
 grind
def WW {α γ:Type}(f:α->γ)(l:M α)(j:Nat)(d:γ)(hj:j<l.length):(l.map f).getD j d=f l[j]:=by
 grind
def E9{row:M Ty}(hA:∀b,A b->b<w.heap.size)
  (h:Calls P f args w λe w'=>e= .returned (.slice none 0 0)/\w'=w):Calls P f args w λex w'=>∃v,ex= .returned v/\∃A' az,my w A w' v (.own 0) [.row e row [] false] A' az:=
 h.mono λex w' ⟨he,hw⟩=>by
  subst hw;exact⟨_,he,TZ (xs:=[]) hA (Below.refl _ _) ⟨z!,.inl ⟨rfl,rfl⟩⟩ rfl⟩
def sw{A:Nat->Prop}{row:M Ty}{l:M (Row row)}{xs:M Value}(hA:∀b,A b->b<w.heap.size)
  (hr:∀w',dn (bw w' A row) xs l)
  (h:Calls P f args w λex w'=>∃v',ex= .returned v'/\w'.ownsRow w.heap.size e row.length v' l.length xs/\v'≠ .slice none 0 0/\Below w.heap.size w w'):
  Calls P f args w λex w'=>∃v,ex= .returned v/\∃A' az,my w A w' v (.own 0) [.row e row l false] A' az:=
 h.mono λex w' ⟨v',he,ho,_,hb⟩=>⟨v',he,TZ hA hb ho (hr w')⟩
def T0{β:Nat->Value}{row:M Ty}{args:M Value}{l:M (Row row)}(h:ae w A β args [.sl row l]):∃a cap cs,args=[.slice a l.length cap]/\l.length<=cap/\cap<=maxLen/\dn (bw w A row) cs l/\
  (cs≠ []->∃b o,a=some ⟨b,o,none⟩/\A b/\w.rangeAt b o cs):=by
 simp[ae] at h;grind[aa,Rd]
def KD(L:SlLaysN.n42 P ρ){F:Row (PS.flat [.one (.slice [.str])])->Prop×AV×M AB}
  (hF:∀l:O,F l=(l.length<=1099511627776,.own 0,[.row (ρ.t 26) [.str] l false])):Valid P G (ρ.f 42) (fg [.one (.slice [.str])] F):=by
 intro w A β args bj pre res bs hA hG bm hs hp;unfold fg at hs;split at hs
 . rename_i x hx;have iJ:=hs;rw[hF x] at iJ;obtain⟨rfl,rfl,rfl⟩:=iJ;obtain⟨g1,g2⟩:=uY _ hx bm;obtain⟨a,cap,cs,rfl,h1,h2,h3,h4⟩:=T0 (row:=[.str]) (l:=x) g1;obtain⟨rfl,hl⟩:=C8 x cs h3;cases x with
   |nil=>cases a with
    |none=>simp_all[E9,AnyG.slices_Clone_string_nil]
    |some ad=>exact sw (xs:=[]) hA (λ_=>rfl) (AnyG.slices_Clone_string_zero L ad cap w)
   |cons s x=>
    obtain⟨b,o,rfl,Mp,hr⟩:=h4 z!;refine sw (xs:=(s::x).map encS) hA (λ_=>DY _ hl) ?_
    have:=AnyG.slices_Clone_string L b o (s::x).length cap ((s::x).map λs=>⟨s.toArray⟩) w z! w! (λj hj=>by
     refine hr j _ ?_;simp at hj;rw[WW _ _ _ _ hj,E?,C! hj];rfl)
    have e1:(((s::x).map λs=>(⟨s.toArray⟩:ByteArray)).take (s::x).length).map Value.string=(s::x).map encS:=by
     rw[i? z!,v?];rfl
    grind
 grind
def KE(L:SlLaysN.n41 P ρ){F:Row (PS.flat [.one (.slice [.int .i64])])->Prop×AV×M AB}
  (hF:∀l:U,F l=(l.length<=1099511627776,.own 0,[.row (ρ.t 23) [.int .i64] l false])):Valid P G (ρ.f 41) (fg [.one (.slice [.int .i64])] F):=by
 intro w A β args bj pre res bs hA hG bm hs hp;unfold fg at hs;split at hs
 . rename_i x hx;have iJ:=hs;rw[hF x] at iJ;obtain⟨rfl,rfl,rfl⟩:=iJ;obtain⟨g1,g2⟩:=uY _ hx bm;obtain⟨a,cap,cs,rfl,h1,h2,h3,h4⟩:=T0 (row:=[.int .i64]) (l:=x) g1;obtain⟨rfl,hl⟩:=Ä x cs h3;cases x with
   |nil=>cases a with
    |none=>simp_all[E9,AnyG.slices_Clone_int_nil]
    |some ad=>exact sw (xs:=[]) hA (λ_=>rfl) (AnyG.slices_Clone_int_zero L ad cap w)
   |cons s x=>
    obtain⟨b,o,rfl,Mp,hr⟩:=h4 z!;refine sw (xs:=(s::x).map (Value.int .i64)) hA (λ_=>KC _ hl) ?_
    have:=AnyG.slices_Clone_int L b o (s::x).length cap (s::x) w z! w! (λj hj=>by
     refine hr j _ ?_;grind)
    grind
 grind
end Go.Vg
namespace Go.Vg
open Go Go.Shelf Go.RowKit Go.Proofs Go.Sort Go.Lib
variable [HP]
theorem C9(a b:B8):ltOf S.lL a b=Op.bytesLess a b:=by
 grind[ltOf,S.lL,Op.bytesLess]
def aj9:SWO (ltOf S.lL) where
 irrefl x:=by grind[C9,S.eI]
 trans x y z h1 h2:=by grind[C9,S.mz]
 ntrans x y z h1 h2:=by
  grind[C9,S.pa,S.mz]
def Å(x y:B8)(h1:ltOf S.lL x y=false)(h2:ltOf S.lL y x=false):x=y:=by
 grind[C9,S.pa]
def IJ {α:Type}[Inhabited α](enc:α->Value)(w:World)(ub off:Nat)(d:Array α){c:Array Value}{e:TypeId}{fr:Nat×Nat}(h:w.heap[ub]? =some (.cells c e fr)):
  (putRow enc w ub off d).heap[ub]? =some (.cells (putCells enc off d c) e fr):=by
 grind[putRow,mapBlock,onCells]
theorem AS {α:Type}[Inhabited α](enc:α->Value)(w:World)(ub off k:Nat)(d:Array α)(h:k≠ub):(putRow enc w ub off d).heap[k]? =w.heap[k]? :=by
 simp_all[putRow,mapBlock,Array.getElem?_modify,Ne.symm]
theorem size_putRow {α:Type}[Inhabited α](enc:α->Value)(w:World)(ub off:Nat)(d:Array α):(putRow enc w ub off d).heap.size=w.heap.size:=by
 simp_all
theorem Da(l:O)(c:Array Value)(h:l.length<=c.size):(putCells encS 0 l.toArray c).toList.take l.length=l.map encS:=by
 apply List.ext_getElem?;intro k;by_cases hk:k<l.length;grind[putCells,Array.getElem?_eq_getElem];grind
theorem Db {α:Type}[Inhabited α](enc:α->Value)(d:Array α)(c:Array Value):(putCells enc 0 d c).size=c.size:=by simp[putCells]
variable {G:Nat->Option GD}{ρ:Ren}{P:Program}
def Mv {P:Program}(L:SlLaysF.n6 P ρ){g e:Nat}(eg:∀args w,(callFunc g args).run P w= .ok (.enter g args) w)
  (aMZ:∀(x y:B8) (w:World),Calls P g #[encS x,encS y] w λe w'=>e= .returned (.int .i64 (S.lL x y))/\w'=w)
  {F:Row (TA.db [.own 50000,.fn (.func g) [] []])->fx [.row e [.str]]->bl}
  (hF:∀l:O,F () (l,())= {pre:=l.length<=1099511627776,res:=.bc [],heap:=[some (.row e [.str] (S.fh l) false)],new:=[]}):
  aI P G (ρ.f 6) (bZ [.own 50000,.fn (.func g) [] []] [.row e [.str]] F):=by
 intro w A β args bj hs r hA hG bm fl yk nY hp hlen B2;unfold bZ at nY;split at nY
 . rename_i cs ep;split at nY
   . rename_i x y hx hy;obtain⟨l,u⟩:=y;simp only[Option.some.injEq] at nY;have hxu:x=():=rfl;subst hxu;rw[hF l] at nY;subst nY;obtain⟨g1,g2⟩:=Dy ep hx bm;obtain⟨q1,q2,q3⟩:=HJ (w:=w) (A:=A) (β:=β) [.row e [.str]] hs (l,u) 50000 hy fl;have hb:=q2 0 (.row e [.str] l false) rfl;have ari:hs.length=1:=by grind
     simp only[TA.qu,TA.put,ae] at g1;obtain⟨v0,bY,rfl,hv0,v1,aM0,rfl,hv1,rfl⟩:=g1;simp only[aa] at hv0 hv1;obtain⟨hv0,jv⟩:=hv0;obtain⟨a1,a2,rfl,ha1,ha2⟩:=hv1;simp only[TA.qu,ae,List.drop_nil,List.take_nil] at ha1 ha2;have ea1:a1= #[]:=by grind
     have ea2:a2= #[]:=by grind
     subst ea1;subst ea2;obtain⟨xs,ho,qf,kK⟩:=hb;obtain⟨rfl,hl⟩:=C8 l xs qf;have G9:∀s∈S.fh l,s.length<=maxLen:=λs iJ=>hl s ((List.mergeSort_perm l _).subset iJ);have QU:(S.fh l).length=l.length:=(List.mergeSort_perm l _).length_eq;simp only[b?,s?] at kK;rcases ho.2 with⟨Xl,hn2⟩|⟨g0,cap,cur,hv,_,WX,Sb,WY,dH,Bo⟩
     . 
      have Uf:l=[]:=W?.1 hn2;subst Uf;rw[hv0,Xl];have ê:S.fh []=[]:=W?.1 QU;rw[ê];refine(AnyF.slices_SortFunc_none {L with} none 0 (.func (.func g) #[] #[]) w).mono λex w' ⟨he,hw⟩=>?_;subst hw;refine⟨_,he,A,β,{os:=rfl,tape:=rfl,output:=rfl,size:=P! _,same:=λ_ _ _=>rfl,mono:=λb h=>⟨h,rfl⟩,fk:=λ_ _ h=>.inl h,bound:=hA,res:=by simp only[aa];exact⟨#[],rfl,by rfl⟩,kept:= ?_,rows:= ?_,apart:= ?_}⟩
      . intro i ab hi;match i,hi with
        |0,hi=>
         simp only[List.getElem?_cons_zero,Option.some.injEq] at hi;subst hi;exact⟨⟨_,ho,qf,x!⟩,rfl⟩
        |i+1,hi=>simp at hi
      grind;intro k k' b hk fc _ _;rcases hk with⟨i,ab,rfl,_,hi⟩|⟨j,_,hj⟩;rcases fc with⟨i',IY,rfl,_,fN⟩|⟨j,_,hj⟩;grind;grind;simp at hj
     . have WZ:g0<w.heap.size:=(M!.1 WX).1;simp only[N?,List.length_nil,o?,u?] at dH Bo
       have NL:∀j,j<l.length->cur[j]? =some (encS (l.toArray)[j]!):=λj hj=>by
        have h1:(cur.toList.take l.length)[j]? =some (encS l[j]):=by rw[Bo,E?,C! hj];rfl
        rw[List.getElem?_take,Q! hj,k?] at h1;rw[h1];simp[hj]
       have hH:Holds encS w g0 0 l.toArray:=λj hj=>by
        have gz:j<l.length:=by simpa using hj
        refine⟨?_,?_⟩;simp only[World.cell?,WX];simpa using NL j gz;simp only[World.frozen?,WX];simp
       rw[hv0,hv];have hc:=Any.slices_SortFunc_total L encS (λ_=>rfl) S.lL aj9 g #[] g0 0 cap l.toArray w eg (λm os dk _ x y=>(aMZ x y _).mono λex w' ⟨he,hw⟩=>⟨he,0, #[],by rw[hw];rfl⟩) hH WZ x! Å
       have e1:(l.toArray.toList.mergeSort λx y=>!(ltOf S.lL) y x)=S.fh l:=by
        unfold S.fh;simp only[List.toList_toArray,C9]
       rw[e1] at hc;refine hc.mono λex w' ⟨he,n,os,hw⟩=>?_;have hw0:(putRow encS (Go.Sort.ahead w n) g0 0 (S.fh l).toArray).heap[g0]? =some (.cells (putCells encS 0 (S.fh l).toArray cur) e (0,0)):=IJ encS (Go.Sort.ahead w n) g0 0 _ WX
       have hg1:w'.heap[g0]? =some (.cells (putCells encS 0 (S.fh l).toArray cur) e (0,0)):=by
        grind[sortWorld,grow,Array.getElem?_append_left,size_putRow]
       have Bf:∀b,b<w.heap.size->b≠g0->w'.heap[b]? =w.heap[b]? :=λb hb di=>by
        grind[sortWorld,grow,Array.getElem?_append_left,size_putRow,AS,encS,Go.Sort.ahead]
       have qd:w.heap.size<=w'.heap.size:=by
        rw[hw];unfold sortWorld grow;simp only[Array.size_append,size_putRow];exact Nat.le_add_right _ _
       have hHM:HM β 1 g0:=⟨0,w!,by rw[show β (50000+0)=β 50000 from rfl,hv];rfl⟩;have aC0:¬A g0:=kK g0 (by rw[hv];rfl);refine⟨_,he,A,β,{os:=by rw[hw];rfl,tape:=by rw[hw];rfl,output:=by rw[hw];rfl,size:=qd,same:= ?_,mono:= ?_,fk:=λ_ _ h=>.inl h,bound:=λb h=>Nat.lt_of_lt_of_le (hA b h) qd,res:=by simp only[aa];exact⟨#[],rfl,by rfl⟩,kept:= ?_,rows:= ?_,apart:= ?_}⟩;grind;grind
       . intro i ab hi;match i,hi with
         |0,hi=>
          simp only[List.getElem?_cons_zero,Option.some.injEq] at hi;subst hi;refine⟨⟨(S.fh l).map encS,⟨z!,.inr ⟨g0,cap,_,?_,Nat.zero_le _,hg1,w!,WY,by rw[Db];simpa using dH,?_⟩⟩,DY _ G9,by simpa using kK⟩,rfl⟩;rw[QU];exact hv;grind[Da]
         |i+1,hi=>simp at hi
       intro j ab hj;simp at hj
       . intro k k' b hk fc _ _;rcases hk with⟨i,ab,rfl,_,hi⟩|⟨j,_,hj⟩
         . rcases fc with⟨i',IY,rfl,_,fN⟩|⟨j,_,hj⟩
           . match i,i',hi,fN with
             |0,0,_,_=>rfl
             |i+1,_,hi,_=>simp at hi
             |0,i+1,_,fN=>simp at fN
           simp at hj
         simp at hj
   grind
 grind
theorem aan {P:Program}{f:FuncId}{args:Array Value}{w:World}{A:Nat->Prop}{β:Nat->Value}{e nn:Nat}{l m:O}(hm:m.Perm l)(hA:∀b,A b->b<w.heap.size)(hn:nn=1)
  (hb:BR w A β 50000 (.row e [.str] l false)) (hlen:l.length<=1099511627776)
  (rv:β 50000= .slice none 0 0->l=[]->Calls P f args w λex w'=>ex= .returned (.tuple #[])/\w'=w)
  (ark:∀g0 cap,β 50000= .slice (some ⟨g0,0,none⟩) l.length cap->Holds encS w g0 0 l.toArray->g0<w.heap.size->l.length<4611686018427387904->Calls P f args w λex w'=>ex= .returned (.tuple #[])/\∃n os,w'=grow (putRow encS (Go.Sort.ahead w n) g0 0 m.toArray) os):
  Calls P f args w λex w'=>∃v,ex= .returned v/\∃A' az,Je w A β nn w' v {pre:=l.length<=1099511627776,res:=.bc [],heap:=[some (.row e [.str] m false)],new:=[]} A' az:=by
 obtain⟨xs,ho,qf,kK⟩:=hb;obtain⟨rfl,hl⟩:=C8 l xs qf;have G9:∀s∈m,s.length<=maxLen:=λs iJ=>hl s (hm.subset iJ);have QU:m.length=l.length:=hm.length_eq;simp only[b?,s?] at kK;rcases ho.2 with⟨Xl,hn2⟩|⟨g0,cap,cur,hv,_,WX,Sb,WY,dH,Bo⟩
 . 
  have Uf:l=[]:=W?.1 hn2;subst Uf;have ê:m=[]:=W?.1 QU;rw[ê];refine(rv Xl rfl).mono λex w' ⟨he,hw⟩=>?_;subst hw;refine⟨_,he,A,β,{os:=rfl,tape:=rfl,output:=rfl,size:=P! _,same:=λ_ _ _=>rfl,mono:=λb h=>⟨h,rfl⟩,fk:=λ_ _ h=>.inl h,bound:=hA,res:=by simp only[aa];exact⟨#[],rfl,by rfl⟩,kept:= ?_,rows:= ?_,apart:= ?_}⟩
  . intro i ab hi;match i,hi with
    |0,hi=>
     simp only[List.getElem?_cons_zero,Option.some.injEq] at hi;subst hi;exact⟨⟨_,ho,qf,x!⟩,rfl⟩
    |i+1,hi=>grind
  grind
  . intro k k' b hk fc _ _;rcases hk with⟨i,ab,rfl,_,hi⟩|⟨j,_,hj⟩
    . rcases fc with⟨i',IY,rfl,_,fN⟩|⟨j,_,hj⟩
      . match i,i',hi,fN with
        |0,0,_,_=>rfl
        |i+1,_,hi,_=>simp at hi
        |0,i+1,_,fN=>simp at fN
      simp at hj
    grind
 . have WZ:g0<w.heap.size:=(M!.1 WX).1;simp only[N?,List.length_nil,o?,u?] at dH Bo
   have NL:∀j,j<l.length->cur[j]? =some (encS (l.toArray)[j]!):=λj hj=>by
    have h1:(cur.toList.take l.length)[j]? =some (encS l[j]):=by rw[Bo,E?,C! hj];rfl
    rw[List.getElem?_take,Q! hj,k?] at h1;rw[h1];simp[hj]
   have hH:Holds encS w g0 0 l.toArray:=λj hj=>by
    have gz:j<l.length:=by simpa using hj
    refine⟨?_,?_⟩;simp only[World.cell?,WX];simpa using NL j gz;simp only[World.frozen?,WX];simp
   refine(ark g0 cap hv hH WZ w!).mono λex w' ⟨he,n,os,hw⟩=>?_;have hw0:(putRow encS (Go.Sort.ahead w n) g0 0 m.toArray).heap[g0]? =some (.cells (putCells encS 0 m.toArray cur) e (0,0)):=IJ encS (Go.Sort.ahead w n) g0 0 _ WX
   have hg1:w'.heap[g0]? =some (.cells (putCells encS 0 m.toArray cur) e (0,0)):=by
    rw[hw];unfold grow;simp only;rw[Array.getElem?_append_left (by rw[size_putRow];exact WZ)];exact hw0
   have Bf:∀b,b<w.heap.size->b≠g0->w'.heap[b]? =w.heap[b]? :=λb hb di=>by
    rw[hw];unfold grow;simp only;rw[Array.getElem?_append_left (by rw[size_putRow];exact hb),AS encS (Go.Sort.ahead w n) g0 0 b _ di];rfl
   have qd:w.heap.size<=w'.heap.size:=by
    rw[hw];unfold grow;simp only[Array.size_append,size_putRow];exact Nat.le_add_right _ _
   have hHM:HM β 1 g0:=⟨0,w!,by rw[show β (50000+0)=β 50000 from rfl,hv];rfl⟩;have aC0:¬A g0:=kK g0 (by rw[hv];rfl);refine⟨_,he,A,β,{os:=by rw[hw];rfl,tape:=by rw[hw];rfl,output:=by rw[hw];rfl,size:=qd,same:= ?_,mono:= ?_,fk:=λ_ _ h=>.inl h,bound:=λb h=>C? (hA b h) qd,res:=by simp only[aa];exact⟨#[],rfl,by simp[ae]⟩,kept:= ?_,rows:= ?_,apart:= ?_}⟩;intro b hb di;rw[hn] at di;exact Bf b hb (λh=>di (h▸hHM));intro b Mp;exact⟨Mp,Bf b (hA b Mp) (λh=>aC0 (h▸Mp))⟩
   . intro i ab hi;match i,hi with
     |0,hi=>
      simp only[X?,A!] at hi;subst hi;refine⟨⟨m.map encS,⟨z!,.inr ⟨g0,cap,_,?_,R! _,hg1,w!,WY,by rw[Db];simpa using dH,?_⟩⟩,DY _ G9,by simpa using kK⟩,rfl⟩;rw[QU];exact hv;have:=Da m cur w!;simpa using this
     |i+1,hi=>simp at hi
   intro j ab hj;simp at hj
   . intro k k' b hk fc _ _;rcases hk with⟨i,ab,rfl,_,hi⟩|⟨j,_,hj⟩
     . rcases fc with⟨i',IY,rfl,_,fN⟩|⟨j,_,hj⟩
       . match i,i',hi,fN with
         |0,0,_,_=>rfl
         |i+1,_,hi,_=>simp at hi
         |0,i+1,_,fN=>simp at fN
       simp at hj
     simp at hj
def L1{f:FuncId}{e:Nat}{m:O->O}(hm:∀l,(m l).Perm l)
  {F:Row (TA.db [.own 50000])->fx [.row e [.str]]->bl}
  (hF:∀l:O,F () (l,())= {pre:=l.length<=1099511627776,res:=.bc [],heap:=[some (.row e [.str] (m l) false)],new:=[]})
  (rv:∀w,Calls P f #[.slice none 0 0] w λex w'=>ex= .returned (.tuple #[])/\w'=w)
  (ark:∀(l:O) w g0 cap,Holds encS w g0 0 l.toArray->g0<w.heap.size->l.length<4611686018427387904->Calls P f #[.slice (some ⟨g0,0,none⟩) l.length cap] w λex w'=>ex= .returned (.tuple #[])/\∃n os,w'=grow (putRow encS (Go.Sort.ahead w n) g0 0 (m l).toArray) os):
  aI P G f (bZ [.own 50000] [.row e [.str]] F):=by
 intro w A β args bj hs r hA hG bm fl yk nY hp hlen B2;unfold bZ at nY;split at nY;rename_i cs ep;split at nY;rename_i x y hx hy;obtain⟨l,u⟩:=y;simp only[Option.some.injEq] at nY;have hxu:x=():=rfl;subst hxu;rw[hF l] at nY;subst nY;obtain⟨g1,g2⟩:=Dy ep hx bm;obtain⟨q1,q2,q3⟩:=HJ (w:=w) (A:=A) (β:=β) [.row e [.str]] hs (l,u) 50000 hy fl;have hb:=q2 0 (.row e [.str] l false) rfl;have ari:hs.length=1:=by grind
 simp only[TA.qu,TA.put,ae] at g1;obtain⟨v0,bY,rfl,hv0,rfl⟩:=g1;simp[aa] at hv0;refine aan (hm l) hA ari hb hp (λXl _=>?_) (λg0 cap hv hH hg hl=>?_);grind;grind;grind;grind
def aka(l:O):(l.mergeSort λx y=>decide (x<=y))=S.fh l:=by
 grind[S.fh,bytesLess_eq,decide_eq_true,decide_eq_false]
def Mw(L:SlLaysM.n6 P ρ){e:Nat}{F:Row (TA.db [.own 50000])->fx [.row e [.str]]->bl}
  (hF:∀l:O,F () (l,())= {pre:=l.length<=1099511627776,res:=.bc [],heap:=[some (.row e [.str] (S.fh l) false)],new:=[]}):
  aI P G (ρ.f 6) (bZ [.own 50000] [.row e [.str]] F):=
 L1 S.Cg hF (AnyM.slices_Sort_string_none L none 0) (λl w g0 cap hH hg hl=>by
  have hc:=AnyM.slices_Sort_string L g0 0 cap l w hH hg hl;rw[aka] at hc;exact hc)
def QV(L:SlLaysN.n36 P ρ){e:Nat}{F:Row (TA.db [.own 50000])->fx [.row e [.str]]->bl}
  (hF:∀l:O,F () (l,())= {pre:=l.length<=1099511627776,res:=.bc [],heap:=[some (.row e [.str] (S.PC l) false)],new:=[]}):
  aI P G (ρ.f 36) (bZ [.own 50000] [.row e [.str]] F):=
 L1 List.reverse_perm hF (AnyG.slices_Reverse_string_empty L none 0) (λl w g0 cap hH hg hl=>
  (AnyG.slices_Reverse_string L g0 0 cap l w hH w!).mono λex w' ⟨he,n,hw⟩=>⟨he,n, #[],by rw[hw];rfl⟩)
end Go.Vg
namespace Go.Proofs
open Go.Shelf
def Tryz.L2:Go.Shelf.Ren:=⟨λ|7=>302|10=>361|n=>n,λ|23=>393|26=>9|3=>36|28=>396|0=>0|27=>395|33=>125|4=>4|n=>n,λ|n=>n⟩
def Tryz.ahZ:Go.Proofs.SlLaysZ.n7 Tryz.prog Tryz.L2:={
 mixed:=by kernel_rfl
 f7:=⟨Tryz.f302.name,by decide,Tryz.func302.trans (congrArg some y!)⟩
 f10:=⟨Tryz.f361.name,by decide,Tryz.func361.trans (congrArg some y!)⟩
 t0:=Tryz.underlying0
 a0:=Tryz.isAgg0
 z0:=Tryz.sizeOf0
 v0:=Tryz.zeroValue0
 t4:=Tryz.underlying4
 a4:=Tryz.isAgg4
 z4:=Tryz.sizeOf4
 v4:=Tryz.zeroValue4
 t23:=Tryz.underlying393
 a23:=Tryz.isAgg393
 z23:=Tryz.sizeOf393
 v23:=Tryz.zeroValue393
 t26:=Tryz.underlying9
 a26:=Tryz.isAgg9
 z26:=Tryz.sizeOf9
 v26:=Tryz.zeroValue9
 t27:=Tryz.underlying395
 a27:=Tryz.isAgg395
 z27:=Tryz.sizeOf395
 v27:=Tryz.zeroValue395
 t28:=Tryz.underlying396
 a28:=Tryz.isAgg396
 z28:=Tryz.sizeOf396
 v28:=Tryz.zeroValue396
 t33:=Tryz.underlying125
 a33:=Tryz.isAgg125
 z33:=Tryz.sizeOf125
 v33:=Tryz.zeroValue125}
def Tryz.Fa:Go.Shelf.Ren:=⟨λ|6=>301|8=>360|9=>120|11=>383|13=>231|12=>230|23=>330|24=>331|14=>322|15=>323|16=>324|17=>325|18=>326|19=>327|20=>237|21=>328|22=>329|25=>365|26=>366|27=>367|28=>368|29=>369|30=>335|31=>385|n=>n,λ|26=>9|28=>396|24=>103|0=>0|3=>3|37=>340|48=>253|50=>354|4=>4|40=>416|39=>415|45=>231|5=>5|9=>9|51=>444|55=>448|57=>464|58=>406|33=>125|n=>n,λ|n=>n⟩
def Tryz.akb:Go.Proofs.SlLaysZ.n6 Tryz.prog Tryz.Fa:={
 mixed:=by kernel_rfl
 f6:=⟨Tryz.f301.name,by decide,Tryz.func301.trans (congrArg some y!)⟩
 f8:=⟨Tryz.f360.name,by decide,Tryz.func360.trans (congrArg some y!)⟩
 f11:=⟨Tryz.f383.name,by decide,Tryz.func383.trans (congrArg some y!)⟩
 t0:=Tryz.underlying0
 a0:=Tryz.isAgg0
 z0:=Tryz.sizeOf0
 v0:=Tryz.zeroValue0
 t24:=Tryz.underlying103
 a24:=Tryz.isAgg103
 z24:=Tryz.sizeOf103
 v24:=Tryz.zeroValue103
 t26:=Tryz.underlying9
 a26:=Tryz.isAgg9
 z26:=Tryz.sizeOf9
 v26:=Tryz.zeroValue9
 t28:=Tryz.underlying396
 a28:=Tryz.isAgg396
 z28:=Tryz.sizeOf396
 v28:=Tryz.zeroValue396
 i26:=by kernel_rfl}
def Tryz.Æ:Go.Shelf.Ren:=⟨λ|6=>120|8=>231|9=>230|19=>330|20=>331|21=>322|22=>323|23=>324|24=>325|25=>326|26=>327|27=>237|28=>328|29=>329|36=>365|31=>366|32=>367|37=>368|38=>369|39=>335|41=>385|n=>n,λ|27=>103|29=>9|3=>3|32=>340|26=>103|0=>0|44=>253|46=>354|4=>4|36=>416|35=>415|41=>231|5=>5|9=>9|53=>444|57=>448|63=>464|64=>406|n=>n,λ|n=>n⟩
def Tryz.W0:Go.Proofs.SlLaysM.n6 Tryz.prog Tryz.Æ:={
 mixed:=by kernel_rfl
 f6:=⟨Tryz.f120.name,by decide,Tryz.func120.trans (congrArg some y!)⟩
 f8:=Tryz.func231.trans (congrArg some y!)
 f9:=⟨Tryz.f230.name,by decide,Tryz.func230.trans (congrArg some y!)⟩
 f19:=Tryz.func330.trans (congrArg some y!)
 f20:=Tryz.func331.trans (congrArg some y!)
 f21:=⟨Tryz.f322.name,by decide,Tryz.func322.trans (congrArg some y!)⟩
 f22:=⟨Tryz.f323.name,by decide,Tryz.func323.trans (congrArg some y!)⟩
 f23:=⟨Tryz.f324.name,by decide,Tryz.func324.trans (congrArg some y!)⟩
 f24:=⟨Tryz.f325.name,by decide,Tryz.func325.trans (congrArg some y!)⟩
 f25:=⟨Tryz.f326.name,by decide,Tryz.func326.trans (congrArg some y!)⟩
 f26:=⟨Tryz.f327.name,by decide,Tryz.func327.trans (congrArg some y!)⟩
 f27:=⟨Tryz.f237.name,by decide,Tryz.func237.trans (congrArg some y!)⟩
 f28:=⟨Tryz.f328.name,by decide,Tryz.func328.trans (congrArg some y!)⟩
 f29:=⟨Tryz.f329.name,by decide,Tryz.func329.trans (congrArg some y!)⟩
 f31:=Tryz.func366.trans (congrArg some y!)
 f32:=Tryz.func367.trans (congrArg some y!)
 f36:=⟨Tryz.f365.name,by decide,Tryz.func365.trans (congrArg some y!)⟩
 f37:=⟨Tryz.f368.name,by decide,Tryz.func368.trans (congrArg some y!)⟩
 f38:=⟨Tryz.f369.name,by decide,Tryz.func369.trans (congrArg some y!)⟩
 f39:=⟨Tryz.f335.name,by decide,Tryz.func335.trans (congrArg some y!)⟩
 f41:=⟨Tryz.f385.name,by decide,Tryz.func385.trans (congrArg some y!)⟩
 t0:=Tryz.underlying0
 a0:=Tryz.isAgg0
 z0:=Tryz.sizeOf0
 v0:=Tryz.zeroValue0
 t3:=Tryz.underlying3
 a3:=Tryz.isAgg3
 z3:=Tryz.sizeOf3
 v3:=Tryz.zeroValue3
 t4:=Tryz.underlying4
 a4:=Tryz.isAgg4
 z4:=Tryz.sizeOf4
 v4:=Tryz.zeroValue4
 t5:=Tryz.underlying5
 a5:=Tryz.isAgg5
 z5:=Tryz.sizeOf5
 v5:=Tryz.zeroValue5
 t9:=Tryz.underlying9
 a9:=Tryz.isAgg9
 z9:=Tryz.sizeOf9
 v9:=Tryz.zeroValue9
 t26:=Tryz.underlying103
 a26:=Tryz.isAgg103
 z26:=Tryz.sizeOf103
 v26:=Tryz.zeroValue103
 t27:=Tryz.underlying103
 a27:=Tryz.isAgg103
 z27:=Tryz.sizeOf103
 v27:=Tryz.zeroValue103
 t29:=Tryz.underlying9
 a29:=Tryz.isAgg9
 z29:=Tryz.sizeOf9
 v29:=Tryz.zeroValue9
 t32:=Tryz.underlying340
 a32:=Tryz.isAgg340
 z32:=Tryz.sizeOf340
 v32:=Tryz.zeroValue340
 t35:=Tryz.underlying415
 a35:=Tryz.isAgg415
 z35:=Tryz.sizeOf415
 v35:=Tryz.zeroValue415
 t36:=Tryz.underlying416
 a36:=Tryz.isAgg416
 z36:=Tryz.sizeOf416
 v36:=Tryz.zeroValue416
 t41:=Tryz.underlying231
 a41:=Tryz.isAgg231
 z41:=Tryz.sizeOf231
 v41:=Tryz.zeroValue231
 t44:=Tryz.underlying253
 a44:=Tryz.isAgg253
 z44:=Tryz.sizeOf253
 v44:=Tryz.zeroValue253
 t46:=Tryz.underlying354
 a46:=Tryz.isAgg354
 z46:=Tryz.sizeOf354
 v46:=Tryz.zeroValue354
 t53:=Tryz.underlying444
 a53:=Tryz.isAgg444
 z53:=Tryz.sizeOf444
 v53:=Tryz.zeroValue444
 t57:=Tryz.underlying448
 a57:=Tryz.isAgg448
 z57:=Tryz.sizeOf448
 v57:=Tryz.zeroValue448
 t63:=Tryz.underlying464
 a63:=Tryz.isAgg464
 z63:=Tryz.sizeOf464
 v63:=Tryz.zeroValue464
 t64:=Tryz.underlying406
 a64:=Tryz.isAgg406
 z64:=Tryz.sizeOf406
 v64:=Tryz.zeroValue406}
def Tryz.QW:Go.Shelf.Ren:=⟨λ|42=>379|n=>n,λ|25=>103|26=>9|4=>4|n=>n,λ|n=>n⟩
def Tryz.aao:Go.Proofs.SlLaysN.n42 Tryz.prog Tryz.QW:={
 mixed:=by kernel_rfl
 f42:=⟨Tryz.f379.name,by decide,Tryz.func379.trans (congrArg some y!)⟩
 t4:=Tryz.underlying4
 a4:=Tryz.isAgg4
 z4:=Tryz.sizeOf4
 v4:=Tryz.zeroValue4
 t25:=Tryz.underlying103
 a25:=Tryz.isAgg103
 z25:=Tryz.sizeOf103
 v25:=Tryz.zeroValue103
 t26:=Tryz.underlying9
 a26:=Tryz.isAgg9
 z26:=Tryz.sizeOf9
 v26:=Tryz.zeroValue9
 i26:=by kernel_rfl}
def Tryz.QX:Go.Shelf.Ren:=⟨λ|41=>128|n=>n,λ|22=>36|23=>3|4=>4|n=>n,λ|n=>n⟩
def Tryz.aap:Go.Proofs.SlLaysN.n41 Tryz.prog Tryz.QX:={
 mixed:=by kernel_rfl
 f41:=⟨Tryz.f128.name,by decide,Tryz.func128.trans (congrArg some y!)⟩
 t4:=Tryz.underlying4
 a4:=Tryz.isAgg4
 z4:=Tryz.sizeOf4
 v4:=Tryz.zeroValue4
 t22:=Tryz.underlying36
 a22:=Tryz.isAgg36
 z22:=Tryz.sizeOf36
 v22:=Tryz.zeroValue36
 t23:=Tryz.underlying3
 a23:=Tryz.isAgg3
 z23:=Tryz.sizeOf3
 v23:=Tryz.zeroValue3
 i23:=by kernel_rfl}
def Tryz.aaq:Go.Shelf.Ren:=⟨λ|6=>380|15=>231|14=>389|28=>330|29=>331|20=>391|21=>392|22=>393|23=>394|24=>395|25=>396|26=>397|27=>398|46=>399|47=>366|48=>367|49=>400|50=>401|57=>402|n=>n,λ|22=>103|24=>9|25=>442|3=>3|39=>340|0=>0|53=>253|55=>354|4=>4|46=>416|45=>415|50=>231|5=>5|9=>9|66=>444|70=>448|76=>464|77=>406|n=>n,λ|n=>n⟩
def Tryz.aJk:Go.Proofs.SlLaysF.n6 Tryz.prog Tryz.aaq:={
 mixed:=by kernel_rfl
 f6:=⟨Tryz.f380.name,by decide,Tryz.func380.trans (congrArg some y!)⟩
 f14:=⟨Tryz.f389.name,by decide,Tryz.func389.trans (congrArg some y!)⟩
 f15:=Tryz.func231.trans (congrArg some y!)
 f20:=⟨Tryz.f391.name,by decide,Tryz.func391.trans (congrArg some y!)⟩
 f21:=⟨Tryz.f392.name,by decide,Tryz.func392.trans (congrArg some y!)⟩
 f22:=⟨Tryz.f393.name,by decide,Tryz.func393.trans (congrArg some y!)⟩
 f23:=⟨Tryz.f394.name,by decide,Tryz.func394.trans (congrArg some y!)⟩
 f24:=⟨Tryz.f395.name,by decide,Tryz.func395.trans (congrArg some y!)⟩
 f25:=⟨Tryz.f396.name,by decide,Tryz.func396.trans (congrArg some y!)⟩
 f26:=⟨Tryz.f397.name,by decide,Tryz.func397.trans (congrArg some y!)⟩
 f27:=⟨Tryz.f398.name,by decide,Tryz.func398.trans (congrArg some y!)⟩
 f28:=Tryz.func330.trans (congrArg some y!)
 f29:=Tryz.func331.trans (congrArg some y!)
 f46:=⟨Tryz.f399.name,by decide,Tryz.func399.trans (congrArg some y!)⟩
 f47:=Tryz.func366.trans (congrArg some y!)
 f48:=Tryz.func367.trans (congrArg some y!)
 f49:=⟨Tryz.f400.name,by decide,Tryz.func400.trans (congrArg some y!)⟩
 f50:=⟨Tryz.f401.name,by decide,Tryz.func401.trans (congrArg some y!)⟩
 f57:=⟨Tryz.f402.name,by decide,Tryz.func402.trans (congrArg some y!)⟩
 t0:=Tryz.underlying0
 a0:=Tryz.isAgg0
 z0:=Tryz.sizeOf0
 v0:=Tryz.zeroValue0
 t3:=Tryz.underlying3
 a3:=Tryz.isAgg3
 z3:=Tryz.sizeOf3
 v3:=Tryz.zeroValue3
 t4:=Tryz.underlying4
 a4:=Tryz.isAgg4
 z4:=Tryz.sizeOf4
 v4:=Tryz.zeroValue4
 t5:=Tryz.underlying5
 a5:=Tryz.isAgg5
 z5:=Tryz.sizeOf5
 v5:=Tryz.zeroValue5
 t9:=Tryz.underlying9
 a9:=Tryz.isAgg9
 z9:=Tryz.sizeOf9
 v9:=Tryz.zeroValue9
 t22:=Tryz.underlying103
 a22:=Tryz.isAgg103
 z22:=Tryz.sizeOf103
 v22:=Tryz.zeroValue103
 a24:=Tryz.isAgg9
 z24:=Tryz.sizeOf9
 t25:=Tryz.underlying442
 a25:=Tryz.isAgg442
 z25:=Tryz.sizeOf442
 v25:=Tryz.zeroValue442
 t39:=Tryz.underlying340
 a39:=Tryz.isAgg340
 z39:=Tryz.sizeOf340
 v39:=Tryz.zeroValue340
 t45:=Tryz.underlying415
 a45:=Tryz.isAgg415
 z45:=Tryz.sizeOf415
 v45:=Tryz.zeroValue415
 t46:=Tryz.underlying416
 a46:=Tryz.isAgg416
 z46:=Tryz.sizeOf416
 v46:=Tryz.zeroValue416
 t50:=Tryz.underlying231
 a50:=Tryz.isAgg231
 z50:=Tryz.sizeOf231
 v50:=Tryz.zeroValue231
 t53:=Tryz.underlying253
 a53:=Tryz.isAgg253
 z53:=Tryz.sizeOf253
 v53:=Tryz.zeroValue253
 t55:=Tryz.underlying354
 a55:=Tryz.isAgg354
 z55:=Tryz.sizeOf354
 v55:=Tryz.zeroValue354
 t66:=Tryz.underlying444
 a66:=Tryz.isAgg444
 z66:=Tryz.sizeOf444
 v66:=Tryz.zeroValue444
 t70:=Tryz.underlying448
 a70:=Tryz.isAgg448
 z70:=Tryz.sizeOf448
 v70:=Tryz.zeroValue448
 t76:=Tryz.underlying464
 a76:=Tryz.isAgg464
 z76:=Tryz.sizeOf464
 v76:=Tryz.zeroValue464
 t77:=Tryz.underlying406
 a77:=Tryz.isAgg406
 z77:=Tryz.sizeOf406
 v77:=Tryz.zeroValue406}
def Tryz.Ç:Go.Shelf.Ren:=⟨λ|36=>213|n=>n,λ|25=>103|26=>9|3=>3|4=>4|0=>0|n=>n,λ|n=>n⟩
def Tryz.aBc:Go.Proofs.SlLaysN.n36 Tryz.prog Tryz.Ç:={
 mixed:=by kernel_rfl
 f36:=⟨Tryz.f213.name,by decide,Tryz.func213.trans (congrArg some y!)⟩
 t0:=Tryz.underlying0
 a0:=Tryz.isAgg0
 z0:=Tryz.sizeOf0
 v0:=Tryz.zeroValue0
 t3:=Tryz.underlying3
 a3:=Tryz.isAgg3
 z3:=Tryz.sizeOf3
 v3:=Tryz.zeroValue3
 t4:=Tryz.underlying4
 a4:=Tryz.isAgg4
 z4:=Tryz.sizeOf4
 v4:=Tryz.zeroValue4
 t25:=Tryz.underlying103
 a25:=Tryz.isAgg103
 z25:=Tryz.sizeOf103
 v25:=Tryz.zeroValue103
 t26:=Tryz.underlying9
 a26:=Tryz.isAgg9
 z26:=Tryz.sizeOf9
 v26:=Tryz.zeroValue9}
end Go.Proofs
namespace Go.Proofs
open Go.RowKit Go.Maps Go.Sort Go.Shelf
def Tryz.arl(m:Nat):AnyZ.SortsIn Tryz.prog Tryz.Fa Fence.wide m:=
 ⟨λub off cap ss W hH hblk dH=>callsIn_wide.2 (AnyM.slices_Sort_string Tryz.W0 ub off cap ss W hH hblk dH),
  λp cap W=>callsIn_wide.2 (AnyM.slices_Sort_string_none Tryz.W0 p cap W)⟩
def Tryz.RZ(mb:Option Nat)(W:World):CallsIn Fence.wide 5 Tryz.prog 302 #[.map mb] W λe w'=>e= .returned (.func (.func 361) #[] #[.pointer (some ⟨W.heap.size,0,none⟩)])/\w'=W.alloc (.cells #[.map mb] 393):=
 AnyZ.keys_in Tryz.ahZ Fence.wide 5 trivial rfl mb W
set_option maxHeartbeats 1000000 in
theorem Tryz.wg {H:Type}(b nn:Nat)(D0:DataW H)(R:Value->Option (DataW H×M MemPlace))(w:World)(gU:w.ownsMap Tryz.prog 9 R b nn D0)(ada:Maps.size D0<=maxLen)(qh:Maps.size D0*16<=140737488355328):
  CallsIn Fence.wide 5 Tryz.prog 301 #[.func (.func 361) #[] #[.pointer (some ⟨w.heap.size,0,none⟩)]] (w.alloc (.cells #[.map (some b)] 393)) λe w'=>∃(v:Value) (ss:O),e= .returned v/\ss.Perm (strKeys D0)/\
   w'.ownsRow (w.alloc (.cells #[.map (some b)] 393)).heap.size 9 1 v ss.length ((ss.mergeSort (λx y=>decide (x<=y))).map encStr)/\(v= .slice none 0 0↔ss=[])/\Below (w.alloc (.cells #[.map (some b)] 393)).heap.size (w.alloc (.cells #[.map (some b)] 393)) w':=by
 have zp:=gU.lt
 have Sz:SeqGives Fence.wide 2 Tryz.prog 361 #[.pointer (some ⟨w.heap.size,0,none⟩)] encStr (λss=>ss.Perm (strKeys D0)) (Maps.size D0) (w.alloc (.cells #[.map (some b)] 393)):=
  AnyZ.keys_gives (ρ:=Tryz.L2) {Tryz.ahZ with} Fence.wide _ trivial rfl w! w.heap.size b nn D0 _ z! z! (by
   obtain⟨es,clock,hb,Ft,hs,hD⟩:=gU;exact⟨es,clock,(Below.heap_alloc _ _ b zp).trans hb,Ft,hs,hD⟩)
 exact AnyZ.sorted_in Tryz.akb Fence.wide 5 trivial trivial trivial trivial rfl w! (Tryz.arl _) (enters_of Tryz.func120 y! rfl) 361 #[.pointer (some ⟨w.heap.size,0,none⟩)] trivial (enters_of Tryz.func361 y! rfl) _ _ ada qh _ Sz
end Go.Proofs
namespace Go.Proofs
open Go.Shelf Go.RowKit Go.Lib Go.Sort
variable {x y:B8}{G:Nat->Option Vg.GD}{F:Vg.Row (Vg.TA.db [.own 50000])->Vg.fx [.row 9 [.str]]->Vg.bl}
theorem aBd(h:Op.bytesLess x y=true):S.lL x y= -1:=by unfold S.lL;rw[if_pos h]
def aBe(h:Op.bytesLess x y=false)(h2:(!x==y)=true):S.lL x y=1:=by
 have di:x≠y:=by simpa using h2
 unfold S.lL;rw[h];rcases S.pa x y with t|t|t;rw[t] at h;cases h;exact absurd t di;rw[t];rfl
def aBf(h:Op.bytesLess x y=false)(h2:(!x==y)=false):S.lL x y=0:=by
 have he:x=y:=by simpa using h2
 subst he;unfold S.lL;rw[h];rfl
def Tryz.aar(x:ByteArray)(w:World):Calls Tryz.prog 335 #[.string x] w λe w'=>e= .returned (.bool false)/\w'=w:=by
 go_enter Tryz.func335,Tryz.ntmps335
 go_wp2
 go_ret
 exact⟨z!,rfl⟩
set_option maxHeartbeats 1000000 in
def Tryz.W2(x y:B8)(w:World):Calls Tryz.prog 359 #[Vg.encS x,Vg.encS y] w λe w'=>e= .returned (.int .i64 (S.lL x y))/\w'=w:=by
 unfold Vg.encS;go_enter Tryz.func359,Tryz.ntmps359
 go_wp2_with (go_at_call 335;refine(Tryz.aar _ _).mono ?_;rintro e w' ⟨rfl,rfl⟩)
 all_goals go_ret
 all_goals refine⟨?_,rfl⟩
 all_goals first
  |(rw[aBd (by assumption)];rfl)
  |(rw[aBe (by assumption) (by assumption)];rfl)
  |(rw[aBf (by assumption) (by assumption)];rfl)
def Tryz.aBg{F:Vg.Row (Vg.TA.db [.own 50000,.fn (.func 359) [] []])->Vg.fx [.row 9 [.str]]->Vg.bl}
  (hF:∀l:O,F () (l,())= {pre:=l.length<=1099511627776,res:=.bc [],heap:=[some (.row 9 [.str] (S.fh l) false)],new:=[]}):
  Vg.aI Tryz.prog G 380 (Vg.bZ [.own 50000,.fn (.func 359) [] []] [.row 9 [.str]] F):=
 Vg.Mv Tryz.aJk (enters_of Tryz.func359 y! rfl) Tryz.W2 hF
def Tryz.arn
 (hF:∀l:O,F () (l,())= {pre:=l.length<=1099511627776,res:=.bc [],heap:=[some (.row 9 [.str] (S.fh l) false)],new:=[]}):
 Vg.aI Tryz.prog G 120 (Vg.bZ [.own 50000] [.row 9 [.str]] F):=Vg.Mw Tryz.W0 hF
def Tryz.aJl
 (hF:∀l:O,F () (l,())= {pre:=l.length<=1099511627776,res:=.bc [],heap:=[some (.row 9 [.str] (S.PC l) false)],new:=[]}):
 Vg.aI Tryz.prog G 213 (Vg.bZ [.own 50000] [.row 9 [.str]] F):=Vg.QV Tryz.aBc hF
end Go.Proofs
namespace Go.DM
open Go Go.Vg Go.Maps Go.RowKit Go.ChangeShapes
variable {H:Type}{base n b:Nat}{e:TypeId}{v:Value}{w w':World}{zs:List Int}{Q:Nat->Prop}{P:Program}{q:IntKind}{s:B8}
def items:DataW H->U
 |.slice ls _=>ls.filterMap λd=>match d with|.lit (.int _ z)=>some z|_=>none
 |_=>[]
def È(zs:U):items (H:=H) (.slice (lits .i64 zs) [])=zs:=by
 induction zs with
 |nil=>rfl
 |cons z zs ih=>
  simp only[items,lits,K?,List.filterMap_cons] at ih |-;rw[ih]
def Gv(h:w.ownsInts base e .i64 v zs):items (H:=H) (rowDatum .i64 v zs)=zs:=by
 rcases h.datum (H:=H) with⟨h1,h2⟩|h1;rw[h1,h2];rfl;rw[h1];exact È zs
def Repr(D:DataW H)(m:B8->U):Prop:=IsMap D/\∀s,items (D.atKey (.string s) .nil)=m s/\(has D (.string s)=true↔m s≠ [])
def Repr.empty:Repr (H:=H) (.map []) (λ_=>[]):=⟨isMap_empty,λs=>⟨rfl,by simp[has]⟩⟩
theorem Repr.ext {D:DataW H}{m m':B8->U}(h:Repr D m)(e:∀s,m s=m' s):Repr D m':=by
 rw[<-funext e];exact h
theorem Repr.put {D:DataW H}{m m':B8->U}(h:Repr D m){t:B8}{w:World}{base:Nat}{e:TypeId}{v:Value}{zs:U}(ho:w.ownsInts base e .i64 v zs)(hz:zs≠ [])
  (h1:m' t=zs) (h2:∀s,s≠t->m' s=m s):Repr (D.put (.string t) (rowDatum .i64 v zs)) m':=by
 refine⟨h.1.put _ _,λs=>?_⟩;by_cases hs:s=t;subst hs;refine⟨?_,?_⟩;rw[atKey_put_same h.1 (by trivial),Gv ho,h1];rw[has_put_same h.1 (by trivial),h1];simp[hz];have di:Lit.string s≠Lit.string t:=λhh=>hs (by injection hh);rw[atKey_put_other di,has_put_other di,h2 s hs];exact h.2 s
def aro(h:w.ownsInts base e .i64 v zs)(hq:∀g,v.ownBlock=some g->Q g):Rd w Q (.slice [.int .i64]) v zs:=by
 obtain⟨ho,hw⟩:=h
 have hz:∀z∈zs,lo .i64<=z/\z<=hi .i64:=λz hz=>by
  have:=hw z hz;simp[Lit.wf,IntKind.min,IntKind.max,IntKind.signed,IntKind.bits] at this;simp only[lo,hi];omega
 simp only[Rd];rcases ho.2 with⟨rfl,h0⟩|⟨g,cap,cur,rfl,hg,hh,hn,hc,dH,Bo⟩;have :zs=[]:=W?.1 h0;subst this;exact⟨none,0,[],rfl,P! _,R! _,rfl,λh=>absurd rfl h⟩;refine⟨some ⟨g,0,none⟩,cap,zs.map (Value.int .i64),rfl,hn,hc,KC zs hz,λ_=>⟨g,0,rfl,hq g rfl,λj v hj=>?_⟩⟩;have:=ho.cells (g:=g) rfl j v hj;rwa [Addr.add_mid] at this
def IK(w:World)(c:Array Value)(e:TypeId)(o:Obj)(j:Nat):((w.alloc (.cells c e)).alloc o).cell? ⟨w.heap.size,j,none⟩=c[j]? :=by
 have h1:((w.alloc (.cells c e)).alloc o).heap[w.heap.size]? =some (.cells c e (0,0)):=by
  rw[((World.grownBy_alloc (w.alloc (.cells c e)) o none).block w.heap.size z! z!)];exact(MapKept.heap_alloc w _).1
 simp[World.cell?,h1]
def KF{size:Nat}{xs:M Value}(h:w.ownsRow base e size v n xs):∃av cp,v= .slice av n cp/\(0<n->∃g,av=some ⟨g,0,none⟩/\base<=g/\g<w.heap.size):=by
 have hl:=h.lt;rcases h.2 with⟨rfl,h0⟩|⟨g,cap,cur,rfl,hg,_⟩;exact⟨none,0,by rw[h0],λh=>by omega⟩;exact⟨_,cap,rfl,λ_=>⟨g,rfl,hl g rfl⟩⟩
def AT(h:Below w.heap.size w w'):w.grownBy w' none:=⟨h.os,h.tape,h.output,h.size,λi hi _=>h.block i hi⟩
def xP{k:TypeId}{D:DataW H}(h:w.ownsGroups P k base e q b n D)(hb:Below w.heap.size w w'):w'.ownsGroups P k base e q b n D:=
 h.kept (AT hb) z! (λes clock _ x _=>by cases x.val.ownBlock<;>simp)
def aas{k:TypeId}{D:DataW H}(h:w.ownsGroups P k base e q b n D):b<w.heap.size:=by
 obtain⟨es,clock,hb,_⟩:=h;exact(M!.1 hb).1
def QY{k:TypeId}{D:DataW H}(h:w.ownsGroups P k base e q b n D)(hb:Below w.heap.size w w'){No:Nat->Prop}(hn:∀g,No g->w.heap.size<=g):w'.Shuns b No:=by
 have h1:w.Shuns b (λ_=>False):=λ_ _ _ _ _ _ _ hf=>hf;exact(h1.reno (No':=No) h (λg hg=>.inr (hn g hg))).kept (AT hb) (aas h) z!
def T1{g cp n:Nat}{l:O}(h:w.ownsRow base e 1 (.slice (some ⟨g,0,none⟩) n cp) n (l.map encS)){j:Nat}(hj:j<l.length):w.cell? ⟨g,0+j,none⟩=some (encS (l.getD j [])):=by
 have:=h.cells (g:=g) rfl j (encS (l.getD j [])) (by rw[E?,C! hj,E!,C! hj];rfl);rwa [Addr.add_mid] at this
def É{row:Option Nat}(h:w.grownBy w' row){a:Addr}(hl:a.block<w.heap.size)(hn:some a.block≠row)(hc:w.cell? a=some v):w'.cell? a=some v:=
 (World.cell?_of_block (h.block _ hl hn)).trans hc
def Ê {k:TypeId}(hk:P.underlying k=some .string)(h:s.length<=maxLen):keyOf P k (.string ⟨s.toArray⟩)=some (.string s):=by
 have:=Go.WideMaps.keyOf_string_mk (P:=P) (k:=k) (s:=⟨s.toArray⟩) hk (by simpa[ByteArray.size] using h);simpa using this
def aBh {wr:World}{g:Nat}{v':Value}{o:Obj}{n cp:Nat}(Uu:∀No:Nat->Prop,wr.Shuns b No->∀g,v.ownBlock=some g->¬No g)(hs:wr.Shuns b (λg'=>(Value.slice (some ⟨g,0,none⟩) n cp).ownBlock=some g'))
  (Lc:v'.ownBlock=v.ownBlock\/v'.ownBlock=some (wr.alloc o).heap.size) (hg:g<wr.heap.size):∀g',v'.ownBlock=some g'->¬((Value.slice (some ⟨g,0,none⟩) n cp).ownBlock=some g'):=λg' yj hh=>by
 rcases Lc with h|h;rw[h] at yj;exact Uu _ hs g' yj hh;rw[h] at yj;simp only[Value.ownBlock,A!] at yj hh;simp at yj;omega
def QZ{k:TypeId}{D:DataW H}(h:w.ownsGroups P k base e q b n D):w.ownsMap P k (rowElem w base e q) b n D:=by
 obtain⟨es,clock,hb,F,hs,hD,_⟩:=h;exact⟨es,clock,hb,F,hs,hD⟩
def KG{k:TypeId}{R:Value->Option (DataW H×M MemPlace)}{D:DataW H}(h:w.ownsMap P k R b n D):Maps.size D<=n:=by
 obtain⟨es,clock,hb,F,hs,rfl⟩:=h;rw[size_eq,length_sorted];simpa using hs
def aat(docs:O)(a b:Int)(x:B8):x∈S.cB docs a b↔S.A4 docs a (b-a).toNat 0 x≠ []:=by
 unfold S.cB;rw[S.jg,S.FU];simp[S.A4]
def akc{R:Value->Option (DataW H×M MemPlace)}{k:TypeId}{D:DataW H}(h:w.ownsMap P k R b n D)(K:Keyed P k)(hk:P.underlying k=some .string){docs:O}{f t:Int}
  (hr:Repr D (S.A4 docs f (t-f).toNat 0)) {ss:O} (hs:ss.Perm (strKeys D)):ss.mergeSort (λx y=>decide (x<=y))=S.cB docs f t/\ss.length=(S.cB docs f t).length/\(∀s∈S.cB docs f t,s.length<=maxLen)/\(S.cB docs f t).length<=n:=by
 obtain⟨es,hD,hpw,_⟩:=h.entries K;obtain⟨þ,hD',hko⟩:=h.keysOf;have hle:=strKeys_le h hk;have dH:=KG h;obtain rfl :es=þ:=by rw[hD] at hD';simpa using hD'
 subst hD;have hi:S.vq (S.cB docs f t):=S.l6 _;have iK:=perm_strKeys hpw (λp hp=>by obtain⟨v,hv⟩:=hko p hp;obtain⟨x,_,hx,_⟩:=Maps.keyOf_str hk hv;exact⟨x,hx⟩) (S.LA hi) (λx=>by rw[aat,(hr.2 x).2]);have tP:=hs.trans iK.symm
 have hlen:(S.cB docs f t).length<=n:=by
  rw[iK.length_eq];simpa[strKeys,size_eq] using dH
 refine⟨?_,tP.length_eq,λs iJ=>hle s (iK.subset iJ),hlen⟩;have e1:ss.mergeSort leB=(S.cB docs f t).mergeSort leB:=mergeSort_of_perm tP
 have e2:(S.cB docs f t).mergeSort leB=S.cB docs f t:=by
  refine List.mergeSort_of_pairwise (hi.imp λ{a b} k9=>?_);rw[Go.Proofs.bytesLess_eq] at k9;simp only[leB,J!] at k9 |-;exact List.le_of_lt k9
 exact e1.trans e2
def akd(hs:s.length<=maxLen)(hv:Rd w Q (.slice [.int .i64]) v zs):bw w Q [.str,.slice [.int .i64]] [.string ⟨s.toArray⟩,v] (s,zs):=by
 simp only[bw];refine⟨_,[v],rfl,?_,v,[],rfl,hv,rfl⟩;simp only[Rd];exact⟨rfl,hs⟩
def T2 {α:Type}{R:M Value->α->Prop}:∀(l:M α) (cs c:M Value) (x:α),dn R cs l->R c x->dn R (cs++c) (l++[x])
 |[],cs,c,x,h,hx=>by
   simp only[dn] at h;subst h;exact⟨c,[],z!,hx,rfl⟩
 |y::l,cs,c,x,⟨c1,c2,hc,h1,h2⟩,hx=>by
  subst hc;exact⟨c1,c2++c,z!,h1,T2 l c2 c x h2 hx⟩
def arp(h:w'.ownsInts base e .i64 v zs)(hb:Below w.heap.size w w')(hl:∀g,v.ownBlock=some g->g<w.heap.size)(hq:∀g,base<=g->g<w.heap.size->Q g):Rd w Q (.slice [.int .i64]) v zs:=by
 have h':w.ownsInts base e .i64 v zs:=by
  refine⟨⟨h.1.1,?_⟩,h.2⟩;rcases h.1.2 with hn|⟨g,cap,cur,rfl,hg,hh,rest⟩;exact .inl hn;exact .inr ⟨g,cap,cur,rfl,hg,(hb.block g (hl g rfl)).symm.trans hh,rest⟩
 exact aro h' (λg hg=>hq g (h'.1.lt g hg).1 (hl g hg))
theorem W3(w:World)(a b:Value)(t:TypeId):∀j u,[a,b][j]? =some u->(w.alloc (.cells #[a,b] t)).cell? ((⟨w.heap.size,0,none⟩:Addr).add j)=some u:=by
 intro j u hj;rw[Addr.add_mid,o?];have h1:(w.alloc (.cells #[a,b] t)).heap[w.heap.size]? =some (.cells #[a,b] t (0,0)):=(MapKept.heap_alloc w _).1;simp only[World.cell?,h1];simpa using hj
end Go.DM
namespace Go.Proofs
open Go Go.Vg Go.Maps Go.RowKit Go.ChangeShapes Go.DM Go.WideMaps
theorem Tryz.ah0:Keyed Tryz.prog 9:=string_keyed Tryz.underlying9
def Tryz.aJm:(Tryz.prog.info? 3).map (λi=>(i.zero,i.size,i.bytes))=some (some (.int .i64 0),1,8):=by kernel_rfl
def Tryz.aBi:(Tryz.prog.info? 308).map (λi=>(i.zero,i.size,i.bytes))=some (some (.agg #[.string ⟨#[]⟩,.slice none 0 0]),2,40):=by kernel_rfl
def Tryz.ah1(w:World):(zeroValue 36).run Tryz.prog w= .ok (.slice none 0 0) w:=by kernel_rfl
def Tryz.arq(mb:Option Nat)(W:World):Calls Tryz.prog 302 #[.map mb] W λe w'=>e= .returned (.func (.func 361) #[] #[.pointer (some ⟨W.heap.size,0,none⟩)])/\w'=W.alloc (.cells #[.map mb] 393):=callsIn_wide.1 (Tryz.RZ mb W)
set_option maxRecDepth 100000 in
set_option maxHeartbeats 4000000 in
theorem Tryz.aau {H:Type}(docs:O)(f t:Int)(da:Option Addr)(cap:Nat)(w:World)
  (hp:S.gJ docs f t) (h4:∀j,(docs.getD j []).length<=2000) (dv:Nat->Value)
  (hd:∀j,j<docs.length->∃b o aj cj,da=some ⟨b,o,none⟩/\b<w.heap.size/\w.cell? ⟨b,o+j,none⟩=some (dv j)/\dv j= .slice aj (docs.getD j []).length cj)
  (qY:∀(j:Nat) (W:World),j<docs.length->Below w.heap.size w W->Calls Tryz.prog 300 #[dv j] W λe w'=>∃v,e= .returned v/\w'.ownsRow W.heap.size 9 1 v (S.gK docs 0 j).length ((S.gK docs 0 j).map encS)/\Below W.heap.size W w')
  (W4:∀(j:Nat),∀s∈S.gK docs 0 j,s.length<=maxLen):
  Calls Tryz.prog 193 #[.slice da docs.length cap,.agg #[.int .i64 f,.int .i64 t]] w λe w'=>∃v xs W1,e= .returned (.tuple #[v,.int .i64 0])/\Below w.heap.size w w'/\Below W1.heap.size W1 w'/\w.heap.size<=W1.heap.size/\
   w'.ownsRow W1.heap.size 308 2 v (S.make docs f t).length xs/\dn (bw W1 (λb=>w.heap.size<=b/\b<W1.heap.size) [.str,.slice [.int .i64]]) xs (S.make docs f t):=by
 have hmm:= @run_makeMap Tryz.prog;have h0:0<=f:=hp.1;have h1:f<=t:=hp.2.1;have h2:t<=docs.length:=hp.2.2.1;have h3:docs.length<=1000:=hp.2.2.2.1;obtain⟨i0,hi,hz0,hz1,hz2⟩:=info_parts Tryz.aJm;obtain⟨i1,hi1,hy0,hy1,hy2⟩:=info_parts Tryz.aBi;go_enter Tryz.func193,Tryz.ntmps193
 go_wp2
 go_loopw [39] (λi wr=>∃k:Nat,k<=docs.length/\i= .int .i64 k/\wr=w.alloc (.cells #[.int .i64 f,.int .i64 t] 84))
  (λi _=>docs.length-(intOf i).toNat)
 case atStart=>exact⟨0,R! _,rfl,rfl⟩
 case round=>
  obtain⟨k,hk,rfl,rfl⟩:=hrel;by_cases gf:k<docs.length;obtain⟨b,o,aj,cj,rfl,hb,hc,hv⟩:=hd k gf;rw[hv] at hc;have hl:=h4 k;generalize (docs.getD k []).length=n at hc hl
  have sX:(w.alloc (.cells #[.int .i64 f,.int .i64 t] 84)).cell? ⟨b,o+k,none⟩=some (.slice aj n cj):=by
   rw[<-hc];exact World.cell?_of_block ((World.grownBy_alloc w _ none).block b hb z!)
  clear hd qY;go_wp2
  go_roundw
  case rel=>exact⟨k+1,w!,by go_num,by first|rfl|trivial⟩
  case measure=>simp[intOf];omega
  . have :k=docs.length:=by omega
    subst this;clear gf;go_wp2
    go_loopw [9] (λi wr=>∃k:Nat,i= .int .i64 (f+k)/\f+k<=t/\∃(m:Nat) (D:DataW H),m<=4000*k/\wr.ownsGroups Tryz.prog 9 (w.heap.size+2) 3 .i64 (w.heap.size+1) m D/\Repr D (S.A4 docs f k 0)/\
      Below w.heap.size w wr/\wr.cell? ⟨w.heap.size,1,none⟩=some (.int .i64 t)/\w.heap.size+2<=wr.heap.size)
     (λi _=>(t-intOf i).toNat)
    case atStart=>
     have dH:(w.alloc (.cells #[.int .i64 f,.int .i64 t] 84)).heap.size=w.heap.size+1:=by simp
     have hg:=World.ownsGroups_made (H:=H) (w.alloc (.cells #[.int .i64 f,.int .i64 t] 84)) Tryz.prog 9 3 .i64;rw[dH] at hg;refine⟨0,z!,by simpa using h1,0,_,P! _,hg,Repr.empty.ext (λs=>(S.aEf docs f s).symm),((Below.refl _ _).alloc (P! _) _).alloc z! _,?_,z!⟩;rw[IK];rfl
    case round=>
     obtain⟨k,rfl,hk,m,D,hm,gU,SC,hnx,ars,hws⟩:=hrel;by_cases gf:f+k<t
     . obtain⟨n,hn⟩:∃n:Nat,f+(k:Int)=n:=⟨(f+k).toNat,w!⟩;have hnl:n<docs.length:=by omega
       obtain⟨b,o,aj,cj,rfl,hb,hc,hv⟩:=hd n hnl;have hs:=qY n wr hnl hnx;rw[hv] at hs hc;have sX:wr.cell? ⟨b,o+n,none⟩=some (.slice aj (docs.getD n []).length cj):=(hnx.cell (by exact hb)).trans hc;have eL:S.gK docs 0 n=S.gK docs f k:=by unfold S.gK;rw[hn];simp
       rw[eL] at hs;have M6:=W4 n;rw[eL] at M6;obtain⟨W5,rfl⟩:∃x,x=wr:=⟨wr,rfl⟩;have hL:(S.gK docs f k).length<=4000:=by unfold S.gK;exact S.Cq hp _
       simp only[hn] at hk |-;generalize (docs.getD n []).length=dl at sX hs;clear hd qY hc hv
       go_wp2_with (first
        |(go_at_call 300;refine hs.mono ?_;rintro e w1 ⟨vs,rfl,mO,Fq⟩;obtain⟨av,cp,rfl,UB⟩:=KF mO)
        |go_in)
       have aJn:=xP gU Fq;have aM3:w1.Shuns (w.heap.size+1) (λg=>(Value.slice av (S.gK docs f k).length cp).ownBlock=some g):=QY gU Fq (λg hg=>(mO.lt g hg).1);have aM4:Below w.heap.size w w1:=hnx.trans (Fq.mono w!);have aJo:w1.cell? ⟨w.heap.size,1,none⟩=some (.int .i64 t):=(Fq.cell (by show w.heap.size<W5.heap.size;omega)).trans ars;have aM5:W5.heap.size<=w1.heap.size:=Fq.size;clear hs Fq sX
       go_loopw [62] (λi wq=>∃j:Nat,i= .int .i64 j/\j<=(S.gK docs f k).length/\∃(m2:Nat) (D2:DataW H),m2<=m+j/\wq.ownsGroups Tryz.prog 9 (w.heap.size+2) 3 .i64 (w.heap.size+1) m2 D2/\Repr D2 (S.A4 docs f k j)/\
         wq.Shuns (w.heap.size+1) (λg=>(Value.slice av (S.gK docs f k).length cp).ownBlock=some g)/\Below w.heap.size w wq/\wq.cell? ⟨w.heap.size,1,none⟩=some (.int .i64 t)/\
         wq.ownsRow W5.heap.size 9 1 (.slice av (S.gK docs f k).length cp) (S.gK docs f k).length ((S.gK docs f k).map encS)/\W5.heap.size<=wq.heap.size)
        (λi _=>(S.gK docs f k).length-(intOf i).toNat)
       case atStart=>exact⟨0,rfl,R! _,m,D,w!,aJn,SC,aM3,aM4,aJo,mO,aM5⟩
       case round=>
        obtain⟨j,rfl,hj,m2,D2,hm2,aav,W6,art,aru,arv,aaw,hwq⟩:=hrel;by_cases Oi:j<(S.gK docs f k).length
        . obtain⟨g,rfl,hg1,D5⟩:=UB w!;have oz:=T1 aaw Oi;rw[Nat.zero_add] at oz;have T3:=Ê (P:=Tryz.prog) Tryz.underlying9 (M6 _ (S.bu _ j [] Oi));have aC1:=S.anu (docs:=docs) (a:=f) (k:=k) Oi;have arw:=λs=>S.ajA (docs:=docs) (a:=f) (k:=k) (j:=j) Oi (s:=s);have aJp:=S.anv docs f k j ((S.gK docs f k).getD j []);unfold Vg.encS at oz;generalize (S.gK docs f k).getD j []=sj at oz T3 aC1 arw aJp;have aM6:g<wr.heap.size:=(aaw.lt g rfl).2;have ah2:m2<maxLen:=by unfold maxLen;omega
          clear W4 M6 UB
          go_wp2_with (first
           |(at_lookup;refine wpList_lookup_groups_shuns _ rfl _ _ 393 rfl 9 36 3 .i64 Tryz.ah0 Tryz.underlying393 (Tryz.ah1 _) (w.heap.size+2) (w.heap.size+1) m2 _ rfl aav ah2 _ _ rfl T3 ?_;intro v zs hat yi hzl arx Uu)
           |(at_builtin;refine wpList_append_own_at _ rfl _ _ 36 rfl (w.heap.size+2) 3 i0 (.int .i64 0) 1 8 Tryz.underlying36 hi hz0 hz1 hz2 rfl (by decide) _ _ _ rfl (yi.1.alloc _) ⟨wr.heap.size,0,none⟩ 1 1 [.int .i64 n] rfl rfl (cell_one_new _ _ _) (ints_oneCell .i64 [(n:Int)]) (by unfold maxLen;omega) w! (by simp;omega) ?_;intro v' w3 ary W7 KW Lc)
           |(at_mapUpdate;have pZ:=aBh Uu art Lc aM6;refine wpList_mapUpdate_back_shuns _ rfl _ _ _ 393 rfl Tryz.ah0 Tryz.underlying393 T3 aav ah2 yi art pZ arx rfl rfl rfl ((World.grownBy_alloc _ _ _).trans W7) (yi.appended ary (WalkArith.wf_i64 w!)) (by simp;omega) (Lc.imp id (λh=>⟨_,h,z!⟩)) ?_;intro w4 aJq M7 aM7)
           |go_in)
          have lI:=(World.grownBy_alloc wr _ _).trans W7;have hw3:wr.heap.size<=w3.heap.size:=lI.size;have hvb:∀g',v.ownBlock=some g'->w.heap.size+2<=g':=λg' yj=>(yi.1.lt g' yj).1;refine⟨⟨j+1,by go_num,w!,m2+1,_,w!,aJq,?_,aM7,?_,?_,?_,?_⟩,by simp[intOf];omega⟩;refine W6.put (yi.appended ary (WalkArith.wf_i64 w!)) z! ?_ arw;rw[aC1,hn];have:=Gv (H:=H) yi;rw[<-hat,(W6.2 sj).1] at this;rw[this];exact aru.groups yi lI M7 aru.size w! w!;refine É M7 (by show w.heap.size<w3.heap.size;omega) (by show some w.heap.size≠some (w.heap.size+1);simp) (É lI (by show w.heap.size<wr.heap.size;omega) ?_ arv);show some w.heap.size≠v.ownBlock;intro h;have:=hvb _ h.symm;omega;refine(aaw.kept lI (.inr ?_)).kept M7 (.inr ?_);intro h;exact Uu _ art g h.symm rfl;intro h;simp only[Value.ownBlock,A!] at h;omega;exact Z? hwq (Z? hw3 M7.size)
        have :j=(S.gK docs f k).length:=by omega
        subst this;clear Oi W4 M6;have aJr:=W6.ext (λs=>S.ajB (docs:=docs) (a:=f) (k:=k) (j:=(S.gK docs f k).length) w! s);clear W6;go_wp2
        exact⟨⟨k+1,by rw[show f+((k+1:Nat):Int)=(n:Int)+1 by omega],w!,m2,D2,w!,aav,aJr,aru,arv,w!⟩,by simp[intOf];omega⟩
     . have UR:t=f+k:=by omega
       have Xn:(t-f).toNat=k:=by omega
       have BO:=QZ gU;have hcS:=callsIn_wide.1 (Tryz.wg (w.heap.size+1) m D _ wr BO (by have:=KG BO;unfold maxLen;omega) (by have:=KG BO;omega));have JF:=λ(ss:O) (hss:ss.Perm (strKeys D))=>akc (docs:=docs) (f:=f) (t:=t) BO Tryz.ah0 Tryz.underlying9 (by rw[Xn];exact SC) hss;obtain⟨W5,rfl⟩:∃x,x=wr:=⟨wr,rfl⟩;clear hd qY W4;subst UR
       go_wp2_with (first
        |(go_at_call 302;refine(Tryz.arq _ _).mono ?_;rintro e w4 ⟨rfl,rfl⟩)
        |(go_at_call 301;refine hcS.mono ?_;rintro e w5 ⟨vs,ss,rfl,hS,mO,KW,hb5⟩;obtain⟨hk3,hk4,D4,hk6⟩:=JF ss hS;rw[hk3,hk4] at mO;obtain⟨av,cp,rfl,UB⟩:=KF mO)
        |go_in)
       have arz:Below W5.heap.size W5 w5:=((Below.refl _ W5).alloc (P! _) _).trans (hb5.mono z!);have arA:=xP gU arz;have aNb:Below w.heap.size w w5:=hnx.trans (arz.mono w!);have aPL:W5.heap.size<=w5.heap.size:=arz.size;clear hcS JF BO hb5 gU hS KW hk3
       go_loopw [12,79] (λd i wq=>∃j:Nat,i= .int .i64 j/\j<=(S.cB docs f (f+k)).length/\∃xs,wq.ownsRow w5.heap.size 308 2 d j xs/\
         dn (bw w5 (λb=>w.heap.size<=b/\b<w5.heap.size) [.str,.slice [.int .i64]]) xs (S.mS docs f (f+k) j)/\Below w5.heap.size w5 wq)
        (λ_ i _=>(S.cB docs f (f+k)).length-(intOf i).toNat)
       case atStart=>exact⟨0,rfl,R! _,[],World.ownsRow_nil _ _ _ _,rfl,Below.refl _ _⟩
       case round=>
        obtain⟨j,rfl,hj,xs,aax,Ë,G6⟩:=hrel;by_cases Oi:j<(S.cB docs f (f+k)).length
        . obtain⟨g,rfl,hg1,D5⟩:=UB w!;have ah3:=T1 mO Oi;have oz:wr.cell? ⟨g,0+j,none⟩=some (Vg.encS ((S.cB docs f (f+k)).getD j [])):=(G6.cell D5).trans ah3;rw[Nat.zero_add] at oz;have JF:=D4 _ (S.bu _ j [] Oi);have T3:=Ê (P:=Tryz.prog) Tryz.underlying9 JF;have arB:=λtt (ht:(S.cB docs f (f+k)).getD j []=tt)=>S.H4 (docs:=docs) (a:=f) (b:=f+k) (k:=j) (j:=k) Oi Xn.symm ht;unfold Vg.encS at oz;have aJs:=xP arA G6;have aNc:wr.Shuns (w.heap.size+1) (λg=>w5.heap.size<=g):=QY arA G6 (λg hg=>hg);have aNd:=λs=>(SC.2 s).1;generalize (S.cB docs f (f+k)).getD j []=sj at oz T3 JF arB;have ah2:m<maxLen:=by unfold maxLen;omega
          clear ah3 D4
          go_wp2_with (first
           |(at_lookup;refine wpList_lookup_groups_shuns _ rfl _ _ 393 rfl 9 36 3 .i64 Tryz.ah0 Tryz.underlying393 (Tryz.ah1 _) (w.heap.size+2) (w.heap.size+1) m _ rfl aJs ah2 _ _ rfl T3 ?_;intro v zs hat yi hzl arx Uu;obtain⟨av2,cp2,rfl,aPM⟩:=KF yi.1)
           |(at_builtin;refine wpList_append_own_at _ rfl _ _ 85 rfl w5.heap.size 308 i1 (.agg #[.string ⟨#[]⟩,.slice none 0 0]) 2 40 Tryz.underlying85 hi1 hy0 hy1 hy2 rfl (by decide) _ j xs rfl (aax.alloc _) ⟨wr.heap.size,0,none⟩ 1 1 [.string ⟨sj.toArray⟩,.slice av2 zs.length cp2] rfl rfl (W3 _ _ _ _) (by intro u hu;simp at hu;rcases hu with rfl|rfl<;>rfl) (by unfold maxLen;omega) w! (by have:=G6.size;simp;omega) ?_;intro v' w6 aJt W7 KW Lc)
           |go_in)
          have qf:Rd w5 (λb=>w.heap.size<=b/\b<w5.heap.size) (.slice [.int .i64]) (.slice av2 zs.length cp2) zs:=
           arp yi G6 (λg' yj=>by have:=Uu _ aNc g' yj;omega) (λg' h1 h2=>⟨w!,h2⟩)
          have hz:zs=S.cx docs f sj k:=by
           have e1:=Gv (H:=H) yi;rw[<-hat,aNd] at e1;rw[<-e1];simp[S.A4]
          have lI:=(World.grownBy_alloc wr (.cells #[.string ⟨sj.toArray⟩,.slice av2 zs.length cp2] 308) _).trans W7;refine⟨⟨j+1,by go_num,w!,xs++[.string ⟨sj.toArray⟩,.slice av2 zs.length cp2],aJt,?_,?_⟩,by simp[intOf];omega⟩;rw[<-arB sj rfl,<-hz];exact T2 _ _ _ _ Ë (akd JF qf);exact G6.grown lI G6.size (λg' yj=>(aax.lt g' yj).1)
        have hje:j=(S.cB docs f (f+k)).length:=by omega
        subst hje;rw[S.Lz w!] at Ë;clear UB D4;go_wp2
        go_ret2
        refine⟨_,xs,w5,rfl,aNb.trans (G6.mono w!),G6,w!,?_,Ë⟩;have Um:(S.make docs f (f+k)).length=(S.cB docs f (f+k)).length:=by simp[S.make]
        rw[Um];exact aax
set_option maxRecDepth 100000 in
set_option maxHeartbeats 4000000 in
def Tryz.aay(docs:O)(f t:Int)(da:Option Addr)(cap:Nat)(w:World)(hc:1000<docs.length\/f<0\/t<f\/(docs.length:Int)<t):
  Calls Tryz.prog 193 #[.slice da docs.length cap,.agg #[.int .i64 f,.int .i64 t]] w λe w'=>e= .returned (.tuple #[.slice none 0 0,.int .i64 1])/\Below w.heap.size w w':=by
 generalize docs.length=n at hc;go_enter Tryz.func193,Tryz.ntmps193
 go_wp2
 all_goals (go_ret2;exact⟨rfl,(Below.refl _ _).alloc (P! _) _⟩)
set_option maxRecDepth 100000 in
set_option maxHeartbeats 4000000 in
def Tryz.aaz(docs:O)(f t:Int)(da:Option Addr)(cap:Nat)(w:World)(h0:0<=f)(h1:f<=t)(h2:t<=docs.length)(h3:docs.length<=1000)(dv:Nat->Value)
  (hd:∀j,j<docs.length->∃b o aj cj,da=some ⟨b,o,none⟩/\b<w.heap.size/\w.cell? ⟨b,o+j,none⟩=some (dv j)/\dv j= .slice aj (docs.getD j []).length cj)
  (hc:¬∀j,j<docs.length->(docs.getD j []).length<=2000):
  Calls Tryz.prog 193 #[.slice da docs.length cap,.agg #[.int .i64 f,.int .i64 t]] w λe w'=>e= .returned (.tuple #[.slice none 0 0,.int .i64 1])/\Below w.heap.size w w':=by
 go_enter Tryz.func193,Tryz.ntmps193
 go_wp2
 go_loopw [39] (λi wr=>∃k:Nat,k<=docs.length/\i= .int .i64 k/\wr=w.alloc (.cells #[.int .i64 f,.int .i64 t] 84)/\∀j,j<k->(docs.getD j []).length<=2000)
  (λi _=>docs.length-(intOf i).toNat)
 case atStart=>exact⟨0,R! _,rfl,rfl,λj hj=>by omega⟩
 case round=>
  obtain⟨k,hk,rfl,rfl,lI⟩:=hrel;by_cases gf:k<docs.length
  . obtain⟨b,o,aj,cj,rfl,hb,mD,hv⟩:=hd k gf;rw[hv] at mD
    have sX:(w.alloc (.cells #[.int .i64 f,.int .i64 t] 84)).cell? ⟨b,o+k,none⟩=some (.slice aj (docs.getD k []).length cj):=by
     rw[<-mD];exact World.cell?_of_block ((World.grownBy_alloc w _ none).block b hb z!)
    clear hd mD hv hc;by_cases hl:(docs.getD k []).length<=2000
    . have Of:∀j,j<k+1->(docs.getD j []).length<=2000:=λj hj=>by
       by_cases e:j=k;subst e;exact hl;exact lI j w!
      clear lI;generalize (docs.getD k []).length=n at sX hl;go_wp2
      go_roundw
      case rel=>exact⟨k+1,w!,by go_num,by first|rfl|trivial,Of⟩
      case measure=>simp[intOf];omega
    . clear lI;generalize (docs.getD k []).length=n at sX hl;go_wp2
      go_ret2
      exact⟨rfl,(Below.refl _ _).alloc (P! _) _⟩
  . exact absurd (λj hj=>lI j w!) hc
end Go.Proofs
namespace Go.S
variable {docs:List B8}
theorem Ì{a:Int}{j:Nat}:∀s∈gK docs a j,s.length<=maxLen:=λs hs=>by
 have h1:=(jg _ _).1 hs;simp only[aS,List.mem_map] at h1;obtain⟨w,_,rfl⟩:=h1;have:=DE w [] z!;unfold eS maxLen;omega
def ake{f t:Int}(h:dS docs f t=true):gJ docs f t/\∀j,(docs.getD j []).length<=2000:=by
 simp only[dS,B!,B?,J!] at h;obtain⟨h1,h2,h3,h4,h5⟩:=h;refine⟨⟨h3,h4,h5,w!,λd hd=>by have:=h1 d hd;omega⟩,λj=>?_⟩;by_cases hj:j<docs.length;have:=h1 _ (bu docs j [] hj);omega;rw[E!,List.getElem?_eq_none w!];simp
end Go.S
namespace Go.DM
open Go Go.Vg Go.Maps Go.RowKit Go.Proofs
def ah4 {w:World}{A:Nat->Prop}{τ:Ty}:∀(l:M (D τ)) (cs:M Value),dn (bw w A [τ]) cs l->cs.length=l.length/\∀(j:Nat) (x:D τ),l[j]? =some x->Rd w A τ (cs.getD j undef) x
 |[],cs,h=>by simp only[dn] at h;subst h;exact⟨rfl,λj x hx=>by simp at hx⟩
 |y::l,cs,⟨c1,c2,hc,h1,h2⟩=>by
  subst hc;simp only[bw] at h1;obtain⟨v,bY,rfl,hv,rfl⟩:=h1;obtain⟨g1,g2⟩:=ah4 l c2 h2;refine⟨by simp[g1],λj x hx=>?_⟩;cases j with
  |zero=>simp at hx;subst hx;exact hv
  |succ j=>simpa using g2 j x (by simpa using hx)
theorem W8(b:B8):Jo [.one (.slice [.int .u8])] [.sl [.int .u8] b]=some b:=rfl
set_option maxRecDepth 100000 in
def Í {G:Nat->Option GD}{Fs:Row (PS.flat [.one (.slice [.int .u8])])->Prop×AV×M AB}(qY:Valid Tryz.prog G 300 (fg [.one (.slice [.int .u8])] Fs))
  (hFs:∀b:B8,Fs b=(S.small b,.own 0,[.row 9 [.str] (S.sorted (S.aS b)) false]))
  {F:Row (PS.flat [.one (.slice [.slice [.int .u8]]),.agg [.int .i64,.int .i64]])->Prop×AV×M AB}
  (hF:∀(docs:O) (f t:Int),F (docs,f,t)=(True,.bc [.sl [.str,.slice [.int .i64]] (S.lx docs f t).1,.int .i64 ((S.lx docs f t).2:Int)],[])):
  Valid Tryz.prog G 193 (fg [.one (.slice [.slice [.int .u8]]),.agg [.int .i64,.int .i64]] F):=by
 intro w A β args bj pre res bs hA hG bm hs hp;unfold fg at hs;split at hs
 . rename_i x hx;obtain⟨docs,f,t⟩:=x;change O at docs;change Int at f;change Int at t;have iJ:=hs;rw[hF docs f t] at iJ;simp only[A!,Prod.mk.injEq] at iJ;obtain⟨rfl,rfl,rfl⟩:=iJ;obtain⟨g1,g2⟩:=uY _ hx bm;clear hs hp hx bm g2;change ae w A β args [.sl [.slice [.int .u8]] docs,.agg [.int .i64 f,.int .i64 t]] at g1;simp only[ae,aa] at g1;obtain⟨vd,bY,rfl,hvd,va,aM0,rfl,⟨arr,rfl,Ha⟩,rfl⟩:=g1;obtain⟨u1,us,e1,⟨rfl,hf⟩,u2,IZ,rfl,⟨rfl,ht⟩,rfl⟩:=Ha;obtain rfl :arr= #[.int .i64 f,.int .i64 t]:=by apply Array.ext';simpa using e1
   simp only[Rd] at hvd;obtain⟨a,cap,cs,rfl,Sb,WY,Ë,aq⟩:=hvd;obtain⟨mD,ep⟩:=ah4 (τ:=.slice [.int .u8]) docs cs Ë
   have hd:∀j,j<docs.length->∃b o aj cj,a=some ⟨b,o,none⟩/\b<w.heap.size/\w.cell? ⟨b,o+j,none⟩=some (cs.getD j undef)/\cs.getD j undef= .slice aj (docs.getD j []).length cj:=by
    intro j hj;obtain⟨b,o,rfl,Mp,hr⟩:=aq (by intro h;rw[h] at mD;simp at mD;omega);have h1:=ep j (docs.getD j []) (by rw[E!,C! hj];rfl);simp only[Rd] at h1;obtain⟨aj,cj,gk,h2,_⟩:=h1;refine⟨b,o,aj,cj,rfl,hA b Mp,hr j _ ?_,h2⟩;rw[E!,C! w!];rfl
   show Calls Tryz.prog 193 #[.slice a docs.length cap,.agg #[.int .i64 f,.int .i64 t]] w _
   have bad:Calls Tryz.prog 193 #[.slice a docs.length cap,.agg #[.int .i64 f,.int .i64 t]] w (λe w'=>e= .returned (.tuple #[.slice none 0 0,.int .i64 1])/\Below w.heap.size w w')->S.dS docs f t=false->
     Calls Tryz.prog 193 #[.slice a docs.length cap,.agg #[.int .i64 f,.int .i64 t]] w (λe w'=>∃v,e= .returned v/\∃A' az,my w A w' v (.bc [.sl [.str,.slice [.int .i64]] (S.lx docs f t).1,.int .i64 ((S.lx docs f t).2:Int)]) [] A' az):=by
    intro hc hb;refine hc.mono λe w' ⟨he,zp⟩=>⟨_,he,A,β,{os:=zp.os,tape:=zp.tape,output:=zp.output,size:=zp.size,same:=zp.block,mono:=λ_ h=>h,fk:=λ_ _ h=>h,bound:=λb h=>Nat.lt_of_lt_of_le (hA b h) zp.size,res:= ?_,rows:=λi ab hi=>by simp at hi,apart:=λi j b hi=>by simp at hi}⟩;have e2:S.lx docs f t=([],1):=by unfold S.lx;rw[hb];rfl
    rw[e2];simp only[aa,ae];refine⟨_,rfl,_,_,rfl,?_,_,_,rfl,⟨rfl,by simp only[lo,hi];omega⟩,rfl⟩;simp only[Rd];exact⟨none,0,[],rfl,P! _,R! _,rfl,λh=>absurd rfl h⟩
   cases Q0:S.dS docs f t with
   |false=>
    refine bad ?_ Q0;by_cases hc:1000<docs.length\/f<0\/t<f\/(docs.length:Int)<t;exact Tryz.aay docs f t a cap w hc;refine Tryz.aaz docs f t a cap w w! w! w! w! _ hd λlI=>?_
    have :S.dS docs f t=true:=by
     simp only[S.dS,B!,B?,J!];refine⟨λd qR=>?_,w!,w!,w!,w!⟩;obtain⟨i,fN,rfl⟩:=c? qR;have:=lI i fN;rw[E!,C! fN] at this;simp only[Option.getD_some] at this;omega
    rw[this] at Q0;cases Q0
   |true=>
    obtain⟨hmp,h4⟩:=S.ake Q0
    have aJu:∀(j:Nat) (W:World),j<docs.length->Below w.heap.size w W->Calls Tryz.prog 300 #[cs.getD j undef] W λe w'=>∃v,e= .returned v/\w'.ownsRow W.heap.size 9 1 v (S.gK docs 0 j).length ((S.gK docs 0 j).map Vg.encS)/\Below W.heap.size W w':=by
     intro j W hj hW;have hk:bG w W A A:=λb hb=>⟨hb,hW.block b (hA b hb)⟩;have h1:=sy hk _ _ _ (ep j (docs.getD j []) (by rw[E!,C! hj];rfl))
     have h2:=qY W A β [cs.getD j undef] [.sl [.int .u8] (docs.getD j [])] (S.small (docs.getD j [])) (.own 0) [.row 9 [.str] (S.sorted (S.aS (docs.getD j []))) false]
      (λb hb=>C? (hA b hb) hW.size) (λi d hi=>(hG i d hi).mono hk) (by simp only[ae,aa];exact⟨_,_,rfl,h1,rfl⟩)
      (by unfold fg;rw[W8];simp only[hFs]) (by have:=h4 j;unfold S.small;omega)
     refine h2.mono λe w' ⟨v,he,A',az,uH⟩=>⟨v,he,?_,uH.os,uH.tape,uH.output,uH.size,uH.same⟩;have hr:=uH.res;simp only[aa] at hr;obtain⟨⟨xs,ho,qf,_⟩,hblk⟩:=uH.rows 0 _ rfl;obtain⟨rfl,_⟩:=C8 _ xs qf;have eK:S.gK docs 0 j=S.sorted (S.aS (docs.getD j [])):=by unfold S.gK;simp
     rw[eK,hr.1];refine⟨ho.1,?_⟩;rcases ho.2 with hn|⟨g,jM,cur,hv,_,rest⟩;exact .inl hn;exact .inr ⟨g,jM,cur,hv,hblk g (by rw[hv];rfl),rest⟩
    refine(Tryz.aau (H:=Unit) docs f t a cap w hmp h4 _ hd aJu (λj s hs=>S.Ì s hs)).mono λe w' ⟨v,xs,W1,he,zp,aC2,hW1,ho,qf⟩=>?_;have e2:S.lx docs f t=(S.make docs f t,0):=by unfold S.lx;rw[Q0];rfl
    rw[e2];refine⟨_,he,λb=>A b\/(w.heap.size<=b/\b<w'.heap.size),β,{os:=zp.os,tape:=zp.tape,output:=zp.output,size:=zp.size,same:=zp.block,mono:=λ_ h=>.inl h,fk:=λb hb h=>?_,bound:=λb h=>?_,res:= ?_,rows:=λi ab hi=>by simp at hi,apart:=λi j b hi=>by simp at hi}⟩;rcases h with h|h;exact h;omega;rcases h with h|h;exact C? (hA b h) zp.size;exact h.2;simp only[aa,ae];refine⟨_,rfl,_,_,rfl,?_,_,_,rfl,⟨rfl,by simp only[lo,hi];omega⟩,rfl⟩;have hk:bG W1 w' (λb=>w.heap.size<=b/\b<W1.heap.size) (λb=>A b\/(w.heap.size<=b/\b<w'.heap.size)):=λb hb=>⟨.inr ⟨hb.1,C? hb.2 aC2.size⟩,aC2.block b hb.2⟩;have aNf:=bx (λc x hx=>br hk _ c x hx) _ _ qf;simp only[Rd];rcases ho.2 with⟨rfl,h0⟩|⟨g,jM,cur,rfl,hg,hh,hn,hc,dH,Bo⟩;have hm0:S.make docs f t=[]:=W?.1 h0;rw[hm0];exact⟨none,0,[],rfl,P! _,R! _,rfl,λh=>absurd rfl h⟩;refine⟨some ⟨g,0,none⟩,jM,xs,rfl,hn,hc,aNf,λ_=>⟨g,0,rfl,.inr ⟨w!,(M!.1 hh).1⟩,λj u hj=>?_⟩⟩;have:=ho.cells (g:=g) rfl j u hj;rwa [Addr.add_mid] at this
 cases hs
end Go.DM
namespace Go.Vg
open Go
variable [HP]
theorem ZR.trans {w w1 w2:World}{p:Value}:∀ {z z1 z2:Z},ZR w p w1 z z1->ZR w1 p w2 z1 z2->ZR w p w2 z z2
 |.n,.n,.n,_,_|.s _,.s _,.s _,_,_=>trivial
 |.g _ _ _,.g _ _ _,.g _ _ _,⟨h1,h2,h3⟩,⟨g1,g2,g3⟩=>⟨h1.trans g1,h2.trans g2,λv h=>g3 v (h3 v h)⟩
theorem tG.trans {w w1 w2:World}{A S A1 S1 A2 S2:Nat->Prop}{p v1 v2:Value}{z:Z}{r1 r2:AV×Z}(h:tG w A S z w1 A1 S1 p v1 r1)(g:tG w1 A1 S1 r1.2 w2 A2 S2 p v2 r2):tG w A S z w2 A2 S2 p v2 r2 where
 kin:=h.kin.trans g.kin
 os:=g.os.trans h.os
 tape:=g.tape.trans h.tape
 output:=g.output.trans h.output
 size:=Z? h.size g.size
 same b hb hs:=(g.same b (C? hb h.size) λL8=>(h.Nf b L8).1.elim hs λh=>absurd hb w!).trans (h.same b hb hs)
 mono b hb:=g.mono b (h.mono b hb)
 fk b hb ha:=h.fk b hb (g.fk b (C? hb h.size) ha)
 bound:=g.bound
 Nf b hb:=⟨(g.Nf b hb).1.elim (λh1=>(h.Nf b h1).1) λh1=>.inr (Z? h.size h1),(g.Nf b hb).2⟩
 res:=g.res
 hb:=g.hb
variable {A S:Nat->Prop}{p:Value}{w:World}{z:Z}{P:Program}{f:FuncId}{β:Nat->Value}
theorem tG.zero(hA:∀b,A b->b<w.heap.size)(hS:∀b,S b->¬A b/\b<w.heap.size)(h:HB w S p z):tG w A S z w A S p undef (.undef,z):=
 ⟨ZR.refl (λ_ _=>rfl) h,rfl,rfl,rfl,P! _,λ_ _ _=>rfl,λ_ h=>h,λ_ _ h=>h,hA,λb hb=>⟨.inl hb,hS b hb⟩,λ_=>rfl,h⟩
def T4 {w:World}{A:Nat->Prop}{p:Value}:∀ {xs:M Value} {l:M CF} {k:Nat} {F:CF},na w A p xs l->l[k]? =some F->∃v,xs[k]? =some v/\A9 w A p v F
 |x::xs,G::l,0,F,h,hk=>by
  simp only[X?,A!] at hk;subst hk;exact⟨x,rfl,h.1⟩
 |x::xs,G::l,k+1,F,h,hk=>T4 (k:=k) h.2 (by simpa using hk)
 |[],[],k,F,_,hk=>by cases hk
structure PI (w:World) (A S:Nat->Prop) (p:Value) (l:List CF) (z:Z) (k:Nat) (w':World):Prop where
 at_:∃A' S' z',tG w A S z w' A' S' p undef (.undef,z')/\(bW (l.drop k) z').1/\(bW (l.drop k) z').2=(bW l z).2
theorem PI.step(hP:HP.is P){w1:World}{l:M CF}{k:Nat}{xs:M Value}(h:PI w A S p l z k w1)(hc:na w A p xs l)(hA:∀b,A b->b<w.heap.size)(hS:∀b,S b->¬A b/\b<w.heap.size)(hk:k<l.length):
  ∃f a1 a2,xs[k]? =some (.func (.func f) a1 a2)/\du P f/\Calls P f (a1++a2) w1 λe w2=>∃c:Bool,e= .returned (.bool c)/\(c=true->PI w A S p l z (k+1) w2)/\(c=false->∃A' S',tG w A S z w2 A' S' p undef (.undef,(bW l z).2.2)/\(bW l z).2.1=false):=by
 obtain⟨A',S',z',h1,h2,h3⟩:=h.at_;have hl:l[k]? =some l[k]:=C! hk;obtain⟨v,hv,hC⟩:=T4 hc hl;have hd:l.drop k=l[k]::l.drop (k+1):=T? hk;rw[hd] at h2 h3;generalize l[k]=F at hC h2 h3 hl hd;simp only[bW] at h2 h3;obtain⟨q0,q1,q2⟩:=h2
 obtain⟨c,q1⟩:∃c,(F z').2.1= .bool c:=by
  revert q1;cases (F z').2.1<;>simp[isB]
 obtain⟨h0,pZ|⟨f,a1,a2,rfl,hC⟩⟩:=hC;exact absurd q0 (pZ z');obtain⟨hf,hC⟩:=hC P hP;refine⟨f,a1,a2,hv,hf,?_⟩;have hK:bG w w1 A A':=λb hb=>⟨h1.mono b hb,h1.same b (hA b hb) λhs=>(hS b hs).1 hb⟩;refine(hC w1 A' z' S' hK h1.bound (λb hb=>(h1.Nf b hb).2) h1.hb q0).mono λe w2 ⟨v,he,A2,S2,g⟩=>?_;have U5:v= .bool c:=by have:=g.res (λ_=>undef);rw[q1] at this;exact this
 subst U5;refine⟨c,he,λhc=>?_,λhc=>?_⟩;subst hc;simp only[q1,bv,K!] at q2 h3;have g':tG w1 A' S' z' w2 A2 S2 p undef (.undef,(F z').2.2):={g with res:=λ_=>rfl};exact⟨A2,S2,_,h1.trans g',q2 trivial,h3⟩;subst hc;simp only[q1,bv,N!] at h3;have g':tG w1 A' S' z' w2 A2 S2 p undef (.undef,(F z').2.2):={g with res:=λ_=>rfl};rw[<-h3];exact⟨A2,S2,h1.trans g',rfl⟩
def tF{ops:Array Oper}{Q:Exit->Act->World->Prop}{a:Act}{rest:M Oper}{dst:Option Tmp}{x:Operand}{ty:TypeId}{pos:String}{after:Array Edge}{f:FuncId}{a1 a2:Array Value}
  (hx:a.eval x= .func (.func f) a1 a2) (hf:du P f) (h:Calls P f (a1++a2) w λe w'=>∃v,e= .returned v/\wpList P ops Q rest (a.put dst v) w'):
  wpList P ops Q (⟨dst,.call ⟨.value x, #[], #[]⟩,ty,pos,after,none⟩::rest) a w:=by
 have gI:(execOp a.eval ⟨dst,.call ⟨.value x, #[], #[]⟩,ty,pos,after,none⟩).run P w= .ok (.enter f (a1++a2)) w:=by
  have:=hf (a1++a2) w;simp only[execOp,resolve,hx,Deferred.ofValue,Sem.run_bind,Sem.run_pure,Result.andThen_ok,invoke];simpa using this
 have aJv:Region.wanted ⟨dst,.call ⟨.value x, #[], #[]⟩,ty,pos,after,none⟩ (yielded ops a.tmps)=true:=rfl;refine wpList_step λK hK=>?_;rw[if_pos aJv];unfold Oper.wp;rw[gI];refine h.mono λe w' ⟨v,he,hr⟩=>?_;subst he;exact hK _ _ hr
def WalkC(P:Program)(f:FuncId):Prop:=∀(w:World) (A S:Nat->Prop) (p:Value) (l:M CF) (z:Z) (xs:M Value) (b0 cap:Nat) (ad:Option Addr),(∀b,A b->b<w.heap.size)->(∀b,S b->¬A b/\b<w.heap.size)->HB w S p z->
    (bW l z).1->na w A p xs l->l.length<=maxLen->(l≠ []->b0<w.heap.size/\¬S b0/\w.rangeAt b0 0 xs)->(l≠ []->ad=some ⟨b0,0,none⟩)->
    Calls P f #[.slice ad l.length cap] w λe w'=>e= .returned (.int .i64 (bif (bW l z).2.1 then 0 else 6))/\∃A' S',tG w A S z w' A' S' p undef (.undef,(bW l z).2.2)
theorem WalkC.dq(hw:WalkC P f){e k0:Nat}{k:Option Nat}{l:M CF}{z:Z}(hA:∀b,A b->b<w.heap.size)(hS:∀b,S b->¬A b/\b<w.heap.size)(hH:HB w S p z)
  (qq:(bW l z).1) (hb:BR w A β k0 (.dq e k l)) (hp:∀j,k=some j->p=β j) (hSb:∀b,ah (β k0)=some b->¬S b):
  Calls P f #[β k0] w λe w'=>e= .returned (.int .i64 (bif (bW l z).2.1 then 0 else 6))/\∃A' S',tG w A S z w' A' S' p undef (.undef,(bW l z).2.2):=by
 obtain⟨xs,h1,h2,h3⟩:=hb;rcases h1.2 with⟨g1,g2⟩|⟨g,cap,cur,g1,_,hg,g4,g5,_,_⟩;rw[g1];have :l=[]:=U! g2;subst this;exact hw w A S p [] z xs 0 0 none hA hS hH qq (h3 p hp) z! (λh=>absurd rfl h) (λh=>absurd rfl h);rcases je h1 with⟨q1,_⟩|⟨b,jM,q1,q2,q3,q4⟩;rw[q1] at g1;cases g1;rw[q1];rw[q1] at g1;simp only[Value.slice.injEq,A!,Addr.mk.injEq,and_true] at g1;obtain⟨rfl,_,_⟩:=g1;exact hw w A S p l z xs b jM _ hA hS hH qq (h3 p hp) w! (λ_=>⟨(M!.1 hg).1,hSb b (by rw[q1];rfl),q4⟩) (λ_=>rfl)
def Q1 {w:World}{S:Nat->Prop}{e:Nat}:∀n,oZ w S e (List.replicate n (.slice none 0 0)) (List.replicate n [])
 |0=>trivial
 |n+1=>⟨World.ownsRow_nil w 0 e 1,z!,nofun,Q1 n⟩
def T5 {w:World}{A:Nat->Prop}{β:Nat->Value}:∀ {n:Nat} {xs:M Value},ae w A β xs (List.replicate n .nil)->xs=List.replicate n (.slice none 0 0)
 |0,xs,h=>h
 |n+1,xs,h=>by
  obtain⟨v,vs,rfl,h1,h2⟩:=h;rw[T5 h2,List.replicate_succ];rw[show v=_ from h1]
def T6 {w:World}{S A:Nat->Prop}{e:Nat}:∀ {xs:M Value} {l:M U},(∀u∈xs,∀b,ah u=some b->A b)->oZ w S e xs l->dn (bw w A [.slice [.int .i64]]) xs l
 |[],[],_,_=>rfl
 |v::vs,x::l,hA,⟨h1,h2,h3,h4⟩=>by
  refine⟨[v],vs,rfl,⟨v,[],rfl,?_,rfl⟩,T6 (λu hu=>hA u (F! _ hu)) h4⟩
  have qf:dn (bw w A [.int .i64]) (x.map (Value.int .i64)) x:=by
   clear h1 h3;induction x with
   |nil=>rfl
   |cons n x ih=>exact⟨[_],_,rfl,⟨_,[],rfl,⟨rfl,h2 n (G! ..)⟩,rfl⟩,ih λm hm=>h2 m (F! _ hm)⟩
  rcases je h1 with⟨g1,g2⟩|⟨b,cap,g1,g2,g3,g4⟩;have :x=[]:=U! g2;subst this;exact⟨none,0,[],g1,P! _,z!,rfl,λh=>absurd rfl h⟩;exact⟨_,cap,_,g1,g2,g3,qf,λ_=>⟨b,0,rfl,hA v (G! ..) b (by rw[g1];rfl),g4⟩⟩
def oZ.mem {w:World}{S:Nat->Prop}{e:Nat}:∀ {xs:M Value} {l:M U},oZ w S e xs l->∀u∈xs,∀b,ah u=some b->S b
 |v::vs,x::l,⟨_,_,h3,h4⟩,u,hu,b,hb=>by
  rcases O!.1 hu with rfl|hu;exact(h3 b hb).1;exact oZ.mem h4 u hu b hb
 |[],_,_,u,hu,_,_=>by cases hu
def aJw{k b:Nat}{ab:AB}(h:BR w A β k ab)(hb:ah (β k)=some b):b<w.heap.size:=by
 cases ab with
 |mp b2 es ck=>
  obtain⟨h1,h2,_⟩:=h;rw[h1] at hb;simp only[ah,A!] at hb;subst hb;exact(M!.1 h2).1
 |arr _ _|fvar _ _|cells _=>
  obtain⟨b',arr,e,h1,h2,_⟩:=h;rw[h1] at hb;simp only[ah,A!] at hb;subst hb;exact(M!.1 h2).1
 |row _ _ _ _|views _ _ _ _ _|dq _ _ _|bj _ _ _ _|ek _ _ _ _=>
  obtain⟨xs,h1,_⟩:=h;rcases h1.2 with⟨hn,_⟩|⟨g,cap,cur,hv,_,hg,_⟩;rw[hn] at hb;simp[ah] at hb;rw[hv] at hb;simp only[ah,A!] at hb;subst hb;exact(M!.1 hg).1
 |iy _ _ _ _ _=>
  obtain⟨xs,v0,h1,_⟩:=h;rcases h1.2 with⟨hn,_⟩|⟨g,cap,cur,hv,_,hg,_⟩;rw[hn] at hb;simp[ah] at hb;rw[hv] at hb;simp only[ah,A!] at hb;subst hb;exact(M!.1 hg).1
def KH(b:Bool):aa w A β (.int .i64 (bif b then 0 else 6)) (SG b):=by
 cases b<;>exact⟨rfl,by decide,by decide⟩
def R0{G:Nat->Option GD}{ei:Nat}(hw:WalkC P f):aI P G f (HK ei):=by
 intro w A β args bj hs r hA hG bm fl yk iJ hp hlen B2
 have W9:∀k,ae w A β args [.own k]->args=[β k]:=λk h=>by
  obtain⟨v,vs,rfl,h1,h2⟩:=h;simp only[ae] at h2;subst h2;rw[h1.1]
 unfold HK at iJ;split at iJ
 . rename_i e k l;simp only[A!,aB.run,aB.rows,aB.K4,aB.Lo,runT_eq] at iJ;subst iJ;have Fe:=fl 0 _ rfl;rw[W9 _ bm];refine(hw.dq (S:=λ_=>False) (z:=.n) (p:=k.elim undef β) (k0:=50000) hA nofun trivial hp Fe (λj hj=>by rw[hj];rfl) nofun).mono ?_;rintro e' w' ⟨rfl,A',S',g⟩;refine⟨_,rfl,A',β,⟨g.os,g.tape,g.output,g.size,λb hb _=>g.same b hb id,λb hb=>⟨g.mono b hb,g.same b (hA b hb) id⟩,λb hb ha=>.inl (g.fk b hb ha),g.bound,KH _,?_,nofun,?_⟩⟩
   . intro i ab h;match i,h with
     |0,h=>cases h
     |_+1,h=>cases h
   . rintro k k' b (⟨i,ab,_,_,h⟩|⟨j,_,h⟩) _ _ _
     . match i,h with
       |0,h=>cases h
       |_+1,h=>cases h
     simp at h
 . rename_i e l t;simp only[A!,aB.run,aB.rows,aB.K4,aB.Lo,runT_eq] at iJ;subst iJ;have Fe:=fl 0 _ rfl;rw[W9 _ bm];obtain⟨b,arr,e0,c1,c2,c3,c4,c5⟩:=fl 1 _ rfl;obtain⟨v,vs,ha,⟨rfl,Fk⟩,Mf⟩:=c4;simp only[ae] at Mf;subst Mf;have Ha:arr= #[.string ⟨t.toArray⟩]:=by apply Array.ext';exact ha
   subst Ha;have hbs:=(M!.1 c2).1;have hS:∀g,g=b->¬A g/\g<w.heap.size:=by rintro g rfl;exact⟨c3,hbs⟩
   refine(hw.dq (S:=λg=>g=b) (z:=.s t) (p:=β 50001) (k0:=50000) hA hS ⟨b,e0,c1,c2,Fk,rfl⟩ hp Fe (λj hj=>by cases hj;rfl) (λg hg Vh=>?_)).mono ?_;subst Vh;have:=yk 0 1 g z! z! hg (by rw[c1];rfl);cases this;rintro e' w' ⟨rfl,A',S',g⟩;have L3:=g.kin
   have hhb:=g.hb;generalize (bW l (.s t)).2.2=z' at L3 hhb;cases z' with
   |n=>cases L3
   |g _ _ _=>cases L3
   |s t'=>
   obtain⟨b',e1,d1,d2,d3,d4⟩:=hhb
   have â:b'=b:=by
    have c1':β 50001= .pointer (some ⟨b,0,none⟩):=c1;rw[c1'] at d1;simp only[Value.pointer.injEq,A!,Addr.mk.injEq,and_true] at d1;exact d1.symm
   subst â;have hM:∀x,x=b'->HM β 2 x:=by rintro x rfl;exact⟨1,by decide,by rw[c1];rfl⟩
   refine⟨_,rfl,A',β,⟨g.os,g.tape,g.output,g.size,λx hx hm=>g.same x hx λhs=>hm (hM x hs),λx hx=>⟨g.mono x hx,g.same x (hA x hx) λhs=>(hS x hs).1 hx⟩,λx hx ha=>.inl (g.fk x hx ha),g.bound,KH _,?_,nofun,?_⟩⟩
   . intro i ab h;match i,h with
     |0,h=>cases h
     |1,h=>
      simp only[r?,X?,A!] at h;subst h;exact⟨⟨b',_,e1,c1,d2,(g.Nf b' d4).2.1,⟨_,[],rfl,⟨rfl,d3⟩,rfl⟩,by simp[Value.oneCell']⟩,rfl⟩
     |_+2,h=>cases h
   . have hk:∀k,Bz ⟨(bW l (.s t)).1,SG (bW l (.s t)).2.1,[none,some (.cells [.str (Z.s t').txt])],[]⟩ k->k=50001:=by
      rintro k (⟨i,ab,rfl,_,h⟩|⟨j,_,h⟩)
      . match i,h with
        |0,h=>cases h
        |1,_=>rfl
        |_+2,h=>cases h
      simp at h
     intro k k' x h1 h2 _ _;rw[hk k h1,hk k' h2]
 . rename_i e l e2 n cs;simp only[A!,aB.run,aB.rows,aB.K4,aB.Lo,runT_eq] at iJ;subst iJ;obtain⟨ep,hp⟩:=hp;subst ep;have Fe:=fl 0 _ rfl;rw[W9 _ bm];obtain⟨b,arr,e0,c1,c2,c3,c4,c5⟩:=fl 1 _ rfl;obtain⟨v,vs,ha,⟨aNg,hv1⟩,Mf⟩:=c4;simp only[ae] at Mf;subst Mf;subst aNg;have Ha:arr= #[β 50002]:=by apply Array.ext';exact ha
   subst Ha;have aNh:=fl 2 _ rfl;obtain⟨xs,f1,f2,f3⟩:=aNh;have hxs:=T5 (f3 β);subst hxs;have hbs:=(M!.1 c2).1;have hrl:∀g,ah (β 50002)=some g->g<w.heap.size:=λg hg=>aJw (fl 2 _ rfl) hg
   have di:∀g,ah (β 50002)=some g->g≠b:=λg hg Vh=>by
    subst Vh;have:=yk 2 1 g z! z! hg (by rw[c1];rfl);cases this
   have hS:∀g,g=b\/ah (β 50002)=some g->¬A g/\g<w.heap.size:=by
    rintro g (rfl|hg);exact⟨c3,hbs⟩;exact⟨f2 g hg,hrl g hg⟩
   have KW:∀u∈List.replicate n (Value.slice none 0 0),∀g,ah u≠some g:=λu hu g=>by
    rw[(List.mem_replicate.1 hu).2];nofun
   have hH:HB w (λg=>g=b\/ah (β 50002)=some g) (β 50001) (.g e2 ei (List.replicate n [])):=by
    refine⟨b,e0,β 50002,_,c1,c2,.inl rfl,hv1,by simpa using f1,λg hg=>⟨.inr hg,di g hg,λu hu=>KW u hu g⟩,λu hu=>KW u hu b,Q1 n⟩
   refine(hw.dq (S:=λg=>g=b\/ah (β 50002)=some g) (z:=.g e2 ei (List.replicate n [])) (p:=β 50001) (k0:=50000) hA hS hH hp Fe (λj hj=>by cases hj;rfl) (λg hg Vh=>?_)).mono ?_;rcases Vh with rfl|D5;have:=yk 0 1 g z! z! hg (by rw[c1];rfl);cases this;have:=yk 0 2 g z! z! hg D5;cases this;rintro e' w' ⟨rfl,A',S',g⟩;have L3:=g.kin
   have hhb:=g.hb;generalize (bW l (.g e2 ei (List.replicate n []))).2.2=z' at L3 hhb;cases z' with
   |n=>cases L3
   |s _=>cases L3
   |g e3 ei3 l'=>
   obtain⟨rfl,rfl,ars⟩:=L3;obtain⟨b',e1,v',ys,d1,d2,d3,d4,d5,d6,d7,d8⟩:=hhb;have c1':β 50001= .pointer (some ⟨b,0,none⟩):=c1
   have â:b'=b:=by
    rw[c1'] at d1;simp only[Value.pointer.injEq,A!,Addr.mk.injEq,and_true] at d1;exact d1.symm
   subst â
   have hvv:v'=β 50002:=by
    obtain⟨b2,e4,q1,q2⟩:=ars (β 50002) ⟨b',e0,c1,c2⟩;rw[c1'] at q1;simp only[Value.pointer.injEq,A!,Addr.mk.injEq,and_true] at q1;subst q1;rw[d2] at q2;simp only[A!,Obj.cells.injEq] at q2;have:=q2.1;simpa using this
   subst hvv
   have hM:∀x,x=b'\/ah (β 50002)=some x->HM β 3 x:=by
    rintro x (rfl|hx);exact⟨1,by decide,by rw[c1];rfl⟩;exact⟨2,by decide,hx⟩
   have XB:∀x,(∃u∈ys,ah u=some x)->S' x:=λx ⟨u,hu,hx⟩=>oZ.mem d8 u hu x hx;refine⟨_,rfl,λx=>A' x\/∃u∈ys,ah u=some x,β,⟨g.os,g.tape,g.output,g.size,λx hx hm=>g.same x hx λhs=>hm (hM x hs),λx hx=>⟨.inl (g.mono x hx),g.same x (hA x hx) λhs=>(hS x hs).1 hx⟩,λx hx ha=>?_,λx hx=>?_,KH _,?_,nofun,?_⟩⟩;rcases ha with ha|ha;exact .inl (g.fk x hx ha);rcases(g.Nf x (XB x ha)).1 with hs|hs;exact .inr (hM x hs);omega;rcases hx with hx|hx;exact g.bound x hx;exact(g.Nf x (XB x hx)).2.2
   . intro i ab h;match i,h with
     |0,h=>cases h
     |1,h=>
      simp only[r?,X?,A!] at h;subst h;refine⟨⟨b',_,e1,c1,d2,?_,⟨_,[],rfl,⟨rfl,d4⟩,rfl⟩,by simpa using d4⟩,rfl⟩;rintro(ha|⟨u,hu,hx⟩);exact(g.Nf b' d3).2.1 ha;exact d7 u hu hx
     |2,h=>
      simp only[r?,X?,A!] at h;subst h;refine⟨⟨ys,d5,T6 (λu hu x hx=>.inr ⟨u,hu,hx⟩) d8,λx hx=>?_⟩,rfl⟩;obtain⟨q1,q2,q3⟩:=d6 x hx;simp only[b?,s?];rintro(ha|⟨u,hu,hx⟩);exact(g.Nf x q1).2.1 ha;exact q3 u hu hx
     |_+3,h=>cases h
   . have hk:∀k,Bz ⟨(List.replicate n AV.nil=List.replicate n .nil/\(bW l (.g e2 ei (List.replicate n []))).1),SG (bW l (.g e2 ei (List.replicate n []))).2.1,[none,some (.cells [.own 50002]),some (.row e2 [.slice [.int .i64]] (Z.g e2 ei l').rows false)],[]⟩ k->k=50001\/k=50002:=by
      rintro k (⟨i,ab,rfl,_,h⟩|⟨j,_,h⟩)
      . match i,h with
        |0,h=>cases h
        |1,_=>exact .inl rfl
        |2,_=>exact .inr rfl
        |_+3,h=>cases h
      simp at h
     intro k k' x h1 h2 hx D1
     have pZ:ah (β 50001)=some x->ah (β 50002)=some x->False:=λq1 q2=>by
      rw[c1'] at q1;simp only[ah,A!] at q1;exact di x q2 q1.symm
     rcases hk k h1 with rfl|rfl<;>rcases hk k' h2 with rfl|rfl;rfl;exact(pZ hx D1).elim;exact(pZ D1 hx).elim;rfl
 cases iJ
end Go.Vg
namespace Go.Proofs
open Go Go.RowKit Go.ChangeShapes Go.Vg
set_option maxRecDepth 100000 in
set_option maxHeartbeats 4000000 in
def Tryz.Xa(w:World)(A S:Nat->Prop)(p:Value)(l:M CF)(z:Z)(xs:M Value)(b0 cap:Nat)(hA:∀b,A b->b<w.heap.size)(hS:∀b,S b->¬A b/\b<w.heap.size)(hH:HB w S p z)
  (qq:(bW l z).1) (hc:na w A p xs l) (hl:l.length<=maxLen) (hb:l≠ []->b0<w.heap.size/\¬S b0/\w.rangeAt b0 0 xs) (ad:Option Addr) (Uk:l≠ []->ad=some ⟨b0,0,none⟩):
  Calls Tryz.prog 51 #[.slice ad l.length cap] w λe w'=>e= .returned (.int .i64 (bif (bW l z).2.1 then 0 else 6))/\∃A' S',tG w A S z w' A' S' p undef (.undef,(bW l z).2.2):=by
 go_enter Tryz.func51,Tryz.ntmps51
 go_wp2
 go_loopw [7] (λi wr=>∃k:Nat,k<=l.length/\i= .int .i64 k/\Aside (PI w A S p l z k wr)) (λi _=>l.length-(intOf i).toNat)
 case atStart=>exact⟨0,R! _,rfl,⟨A,S,z,tG.zero hA hS hH,qq,rfl⟩⟩
 case round=>
  have hl2:l.length<=9223372036854775807:=by have:=hl;unfold maxLen at this;omega
  obtain⟨k,hk,rfl,HI⟩:=hrel;by_cases gf:k<l.length;obtain⟨f,a1,a2,hx,hf,ql⟩:=PI.step (P:=Tryz.prog) rfl HI hc hA hS gf;have di:l≠ []:=by rintro rfl;simp at gf
  obtain⟨Fq,Mg,Î⟩:=hb di;have Ï:=Uk di;subst Ï
  have oz:wr.cell? ⟨b0,k,none⟩=some (.func (.func f) a1 a2):=by
   have h1:=Î k _ hx;rw[o?] at h1;obtain⟨A',S',z',g,_⟩:=HI.at_;rw[<-h1];exact World.cell?_of_block (g.same b0 Fq Mg)
  clear hb Î Uk;go_wp2_with (first|(refine tF rfl hf (ql.mono ?_);rintro e w2 ⟨c,rfl,hT,hF⟩;refine⟨_,rfl,?_⟩;cases c)|go_in)
  go_ret
  obtain⟨A',S',g,hz⟩:=hF trivial;rw[hz];exact⟨rfl,A',S',g⟩;exact⟨⟨k+1,w!,by go_num,hT rfl⟩,by simp[intOf];omega⟩;have :k=l.length:=by omega
  subst this;obtain⟨A',S',z',g,h1,h2⟩:=HI.at_;rw[List.drop_length] at h2;simp only[bW] at h2;have e1:(bW l z).2.1=true:=by rw[<-h2]
  have e2:(bW l z).2.2=z':=by rw[<-h2]
  clear hb h1 h2 hc qq;go_wp2
  go_ret
  rw[e1,e2];exact⟨rfl,A',S',g⟩
def Tryz.aaA {G:Nat->Option GD}:aI Tryz.prog G 51 (HK 3):=R0 λw A S p l z xs b0 cap ad h1 h2 h3 h4 h5 h6 h7 h8=>Tryz.Xa w A S p l z xs b0 cap h1 h2 h3 h4 h5 h6 h7 ad h8
end Go.Proofs
namespace Go.Vg
open Go
variable [HP]
structure QF (w:World) (A:Nat->Prop) (l:List CF) (k:Nat) (t:Nat) (w':World):Prop where
 at_:∃A',PF w A w' A'/\¬A' t/\t<w'.heap.size/\(∃u v e,w'.heap[t]? =some (.cells #[u,v] e (0,0)))/\(gD (l.drop k)).1/\(gD (l.drop k)).2=(gD l).2
variable {t:Nat}{w w1:World}{A A1:Nat->Prop}{o:Obj}
def nG{e:Nat}{u v:Value}(h:w.heap[t]? =some (.cells #[u,v] e (0,0))):w.cell? ⟨t,0,none⟩=some u/\w.cell? ⟨t,1,none⟩=some v/\w.frozen? ⟨t,0,none⟩=false/\w.frozen? ⟨t,1,none⟩=false:=by
 simp[World.cell?,World.frozen?,h]
def M8(w:World)(a:Addr)(u:Value)(k:Nat)(h:k≠a.block):(w.setCell a u).heap[k]? =w.heap[k]? :=by
 simp only[World.setCell,Array.getElem?_modify];rw[W! w!]
def IL {w2:World}{A2:Nat->Prop}(h:bG w w1 A A1)(g:bG w1 w2 A1 A2):bG w w2 A A2:=λb hb=>⟨(g b (h b hb).1).1,(g b (h b hb).1).2.trans (h b hb).2⟩
def IM(w:World)(A:Nat->Prop):Rd w A (.slice [.int .u8]) (.slice none 0 0) []:=by refine⟨none,0,[],rfl,P! _,R! _,?_,λh=>absurd rfl h⟩;simp[dn]
def Q2{t e:Nat}{u v:Value}(h:w.heap[t]? =some (.cells #[u,v] e (0,0)))(a b:Value):((w.setCell ⟨t,0,none⟩ a).setCell ⟨t,1,none⟩ b).heap[t]? =some (.cells #[a,b] e (0,0)):=by
 have gf:=lt_of_block h;have h':w.heap[t]= .cells #[u,v] e (0,0):=by simpa[S? gf] using h
 have g:(w.setCell ⟨t,0,none⟩ a).heap[t]? =some (.cells #[a,v] e (0,0)):=by
  show(w.heap.modify t _)[t]? =_;rw[S? (by simpa using gf),Array.getElem_modify_self,h'];rfl
 generalize w.setCell ⟨t,0,none⟩ a=w1 at g;have gf:=lt_of_block g;have h':w1.heap[t]= .cells #[a,v] e (0,0):=by simpa[S? gf] using g
 show(w1.heap.modify t _)[t]? =_;rw[S? (by simpa using gf),Array.getElem_modify_self,h'];rfl
def T7{t e:Nat}{u v:Value}(h:w.heap[t]? =some (.cells #[u,v] e (0,0)))(a b:Value)(o:Obj):(((w.setCell ⟨t,0,none⟩ a).setCell ⟨t,1,none⟩ b).alloc o).heap[t]? =some (.cells #[a,b] e (0,0)):=by
 have g:=Q2 h a b;rw[ej _ _ (lt_of_block g)];exact g
def PF.ah5{a b:Value}(h:PF w A w1 A1)(ht:w.heap.size<=t):PF w A ((w1.setCell ⟨t,0,none⟩ a).setCell ⟨t,1,none⟩ b) A1:=
 h.more (t:=t) rfl rfl rfl z! (λb _ di=>by rw[M8 _ _ _ _ di,M8 _ _ _ _ di]) ht
def PF.ah6(h:PF w A w1 A1):PF w A (w1.alloc o) A1:=
 h.more (t:=w.heap.size) rfl rfl rfl z! (λb hb _=>ej _ b hb) (P! _)
def L4{a b:Value}(ht:¬A1 t):bG w1 ((w1.setCell ⟨t,0,none⟩ a).setCell ⟨t,1,none⟩ b) A1 A1:=
 λk hk=>⟨hk,by rw[M8 _ _ _ _ (by rintro rfl;exact ht hk),M8 _ _ _ _ (by rintro rfl;exact ht hk)]⟩
def L5(h:∀b,A1 b->b<w1.heap.size):bG w1 (w1.alloc o) A1 A1:=λk hk=>⟨hk,ej _ k (h k hk)⟩
end Go.Vg
namespace Go.Proofs
open Go Go.RowKit Go.ChangeShapes Go.Vg
set_option maxRecDepth 100000 in
set_option maxHeartbeats 4000000 in
def Tryz.arE(w:World)(A:Nat->Prop)(l:M CF)(xs:M Value)(b0 cap:Nat)(ad:Option Addr)(hA:∀b,A b->b<w.heap.size)
  (qq:(gD l).1) (hc:na w A undef xs l) (hl:l.length<=maxLen) (hb:l≠ []->b0<w.heap.size/\w.rangeAt b0 0 xs) (Uk:l≠ []->ad=some ⟨b0,0,none⟩):
  Calls Tryz.prog 57 #[.slice ad l.length cap] w λe w'=>∃x1 x2,e= .returned (.tuple #[.agg #[x1,x2],.bool (gD l).2.2.2])/\∃A',PF w A w' A'/\Rd w' A' (.slice [.int .u8]) x1 (gD l).2.1/\Rd w' A' (.slice [.int .u8]) x2 (gD l).2.2.1:=by
 go_enter Tryz.func57,Tryz.ntmps57
 go_wp2
 go_loopw [10] (λi wr=>∃k:Nat,k<=l.length/\i= .int .i64 k/\Aside (QF w A l k w.heap.size wr)) (λi _=>l.length-(intOf i).toNat)
 case atStart=>
  refine⟨0,R! _,rfl,⟨A,?_,λh=>absurd (hA _ h) w!,?_,?_,qq,rfl⟩⟩;exact(PF.zero hA).more (t:=w.heap.size) rfl rfl rfl z! (λb hb _=>ej _ b hb) (P! _);simp;exact⟨_,_,_,heap_alloc_new w _⟩
 case round=>
  have hl2:l.length<=9223372036854775807:=by have:=hl;unfold maxLen at this;omega
  obtain⟨k,hk,rfl,HI⟩:=hrel;by_cases gf:k<l.length
  . obtain⟨A1,g1,g2,g3,g4,g5,g6⟩:=HI.at_;obtain⟨f,a1,a2,x,hx,hf,h1,h2,ql⟩:=PF.step (P:=Tryz.prog) rfl g1 hA hc gf g5;have di:l≠ []:=by rintro rfl;simp at gf
    obtain⟨Fq,Î⟩:=hb di;have Ï:=Uk di;subst Ï
    have oz:wr.cell? ⟨b0,k,none⟩=some (.func (.func f) a1 a2):=by
     have h1:=Î k _ hx;rw[o?] at h1;rw[<-h1];exact World.cell?_of_block (g1.same b0 Fq)
    clear hb Î Uk;go_wp2_with (first|(refine tF rfl hf (ql.mono ?_);rintro e w2 ⟨x1,x2,rfl,A2,p1,p2,p3⟩;(have q2:=p2);(have q3:=p3);obtain⟨Q3,Dc,cs1,rfl,q2⟩:=q2;obtain⟨Me,Dd,cs2,rfl,q3⟩:=q3;clear q2 q3;obtain⟨u0,v0,e0,g4⟩:=g4;(have q4:=(p1.same _ g3).trans g4);obtain⟨o1,o2,o3,o4⟩:=nG q4;(have q5:=C? g3 p1.size);refine⟨_,rfl,?_⟩)|go_in)
    . obtain⟨c1,c2,_,_⟩:=nG (T7 q4 (.slice Q3 x.1.length Dc) (.slice Me x.2.1.length Dd) (.cells #[.slice Q3 x.1.length Dc,.slice Me x.2.1.length Dd] 47))
      (try simp only[Exit.inBlock,Exit.then])
      refine bodyPost_ret (v:=.tuple #[.agg #[.slice Q3 x.1.length Dc,.slice Me x.2.1.length Dd],.bool true]) (by simp[results,Tryz.results57,go_sem,c1,c2];try rfl) rfl ?_;have h3:x.2.2=true:=by assumption
      rw[h3] at h2;rw[<-g6,h2];have p4:=(g1.trans p1).ah5 (t:=w.heap.size) (a:=.slice Q3 x.1.length Dc) (b:=.slice Me x.2.1.length Dd) (P! _);have k1:¬A2 w.heap.size:=λh=>g2 (p1.fk _ g3 h);have k2:=λo=>IL (L4 (a:=.slice Q3 x.1.length Dc) (b:=.slice Me x.2.1.length Dd) k1) (L5 (o:=o) p4.bound);exact⟨_,_,rfl,A2,p4.ah6,sy (k2 _) _ _ _ p2,sy (k2 _) _ _ _ p3⟩
    . have h3:x.2.2=false:=by assumption
      rw[h3] at h2;refine⟨⟨k+1,gf,z!,⟨A2,(g1.trans p1).ah6,λh=>g2 (p1.fk _ g3 h),by simp;omega,⟨_,_,_,(ej _ _ q5).trans q4⟩,h1 h3,h2.symm.trans g6⟩⟩,?_⟩;simp only[intOf];omega
  . have :k=l.length:=by omega
    subst this;obtain⟨A1,g1,g2,g3,⟨u0,v0,e0,g4⟩,g5,g6⟩:=HI.at_;rw[List.drop_length] at g6;simp only[gD] at g6;obtain⟨o1,o2,o3,o4⟩:=nG g4;clear hb hc qq;go_wp2
    obtain⟨c1,c2,_,_⟩:=nG (Q2 g4 (.slice none 0 0) (.slice none 0 0))
    (try simp only[Exit.inBlock,Exit.then])
    refine bodyPost_ret (v:=.tuple #[.agg #[.slice none 0 0,.slice none 0 0],.bool false]) (by simp[results,Tryz.results57,go_sem,c1,c2];try rfl) rfl ?_;rw[<-g6];exact⟨_,_,rfl,A1,g1.ah5 (P! _),IM _ _,IM _ _⟩
set_option maxRecDepth 100000 in
set_option maxHeartbeats 4000000 in
def Tryz.akf(w:World)(A:Nat->Prop)(l:M CF)(xs:M Value)(b0 cap:Nat)(ad:Option Addr)(hA:∀b,A b->b<w.heap.size)
  (qq:(gD l).1) (hc:na w A undef xs l) (hl:l.length<=maxLen) (hb:l≠ []->b0<w.heap.size/\w.rangeAt b0 0 xs) (Uk:l≠ []->ad=some ⟨b0,0,none⟩):
  Calls Tryz.prog 272 #[.slice ad l.length cap] w λe w'=>∃x1 x2,e= .returned (.tuple #[.agg #[x1,x2],.bool (gD l).2.2.2])/\∃A',PF w A w' A'/\Rd w' A' (.slice [.int .u8]) x1 (gD l).2.1/\Rd w' A' (.slice [.int .u8]) x2 (gD l).2.2.1:=by
 go_enter Tryz.func272,Tryz.ntmps272
 go_wp2
 go_loopw [10] (λi wr=>∃k:Nat,k<=l.length/\i= .int .i64 k/\Aside (QF w A l k w.heap.size wr)) (λi _=>l.length-(intOf i).toNat)
 case atStart=>
  refine⟨0,R! _,rfl,⟨A,?_,λh=>absurd (hA _ h) w!,?_,?_,qq,rfl⟩⟩;exact(PF.zero hA).more (t:=w.heap.size) rfl rfl rfl z! (λb hb _=>ej _ b hb) (P! _);simp;exact⟨_,_,_,heap_alloc_new w _⟩
 case round=>
  have hl2:l.length<=9223372036854775807:=by have:=hl;unfold maxLen at this;omega
  obtain⟨k,hk,rfl,HI⟩:=hrel;by_cases gf:k<l.length
  . obtain⟨A1,g1,g2,g3,g4,g5,g6⟩:=HI.at_;obtain⟨f,a1,a2,x,hx,hf,h1,h2,ql⟩:=PF.step (P:=Tryz.prog) rfl g1 hA hc gf g5;have di:l≠ []:=by rintro rfl;simp at gf
    obtain⟨Fq,Î⟩:=hb di;have Ï:=Uk di;subst Ï
    have oz:wr.cell? ⟨b0,k,none⟩=some (.func (.func f) a1 a2):=by
     have h1:=Î k _ hx;rw[o?] at h1;rw[<-h1];exact World.cell?_of_block (g1.same b0 Fq)
    clear hb Î Uk;go_wp2_with (first|(refine tF rfl hf (ql.mono ?_);rintro e w2 ⟨x1,x2,rfl,A2,p1,p2,p3⟩;(have q2:=p2);(have q3:=p3);obtain⟨Q3,Dc,cs1,rfl,q2⟩:=q2;obtain⟨Me,Dd,cs2,rfl,q3⟩:=q3;clear q2 q3;obtain⟨u0,v0,e0,g4⟩:=g4;(have q4:=(p1.same _ g3).trans g4);obtain⟨o1,o2,o3,o4⟩:=nG q4;(have q5:=C? g3 p1.size);refine⟨_,rfl,?_⟩)|go_in)
    . obtain⟨c1,c2,_,_⟩:=nG (T7 q4 (.slice Q3 x.1.length Dc) (.slice Me x.2.1.length Dd) (.cells #[.slice Q3 x.1.length Dc,.slice Me x.2.1.length Dd] 47))
      (try simp only[Exit.inBlock,Exit.then])
      refine bodyPost_ret (v:=.tuple #[.agg #[.slice Q3 x.1.length Dc,.slice Me x.2.1.length Dd],.bool true]) (by simp[results,Tryz.results272,go_sem,c1,c2];try rfl) rfl ?_;have h3:x.2.2=true:=by assumption
      rw[h3] at h2;rw[<-g6,h2];have p4:=(g1.trans p1).ah5 (t:=w.heap.size) (a:=.slice Q3 x.1.length Dc) (b:=.slice Me x.2.1.length Dd) (P! _);have k1:¬A2 w.heap.size:=λh=>g2 (p1.fk _ g3 h);have k2:=λo=>IL (L4 (a:=.slice Q3 x.1.length Dc) (b:=.slice Me x.2.1.length Dd) k1) (L5 (o:=o) p4.bound);exact⟨_,_,rfl,A2,p4.ah6,sy (k2 _) _ _ _ p2,sy (k2 _) _ _ _ p3⟩
    . have h3:x.2.2=false:=by assumption
      rw[h3] at h2;refine⟨⟨k+1,gf,z!,⟨A2,(g1.trans p1).ah6,λh=>g2 (p1.fk _ g3 h),by simp;omega,⟨_,_,_,(ej _ _ q5).trans q4⟩,h1 h3,h2.symm.trans g6⟩⟩,?_⟩;simp only[intOf];omega
  . have :k=l.length:=by omega
    subst this;obtain⟨A1,g1,g2,g3,⟨u0,v0,e0,g4⟩,g5,g6⟩:=HI.at_;rw[List.drop_length] at g6;simp only[gD] at g6;obtain⟨o1,o2,o3,o4⟩:=nG g4;clear hb hc qq;go_wp2
    obtain⟨c1,c2,_,_⟩:=nG (Q2 g4 (.slice none 0 0) (.slice none 0 0))
    (try simp only[Exit.inBlock,Exit.then])
    refine bodyPost_ret (v:=.tuple #[.agg #[.slice none 0 0,.slice none 0 0],.bool false]) (by simp[results,Tryz.results272,go_sem,c1,c2];try rfl) rfl ?_;rw[<-g6];exact⟨_,_,rfl,A1,g1.ah5 (P! _),IM _ _,IM _ _⟩
variable {G:Nat->Option GD}
def Tryz.Ð:aI Tryz.prog G 57 Dz:=HL Tryz.arE
def Tryz.Xb:aI Tryz.prog G 272 Dz:=HL Tryz.akf
end Go.Proofs
namespace Go.J
open Go Vg Go.Proofs
def cL:Š->š->bl:=λ(g1,g2,g3,g4,w,a1,a2,a3,a4,i,j) y=>
 let r:=bif S.tI (g1,g2,g3,g4) w a4 i j then WR (g1,g2,g3,g4,w,a1,a2,a3,a4,i,j) y else WU (g1,g2,g3,g4,w,a1,a2,a3,a4,i,j) y
 ⟨S.P1 w a4 i j/\S.TD j y.2.1.2 y.2.1.1.length y.2.2.1,r.res,r.heap,r.new⟩
def arF {G:Nat->Option GD}(hy:aI Tryz.prog G 48 WS)(hn:aI Tryz.prog G 48 WV):NB G 48 (OG aCG ahy):=by
 have hv:aI Tryz.prog G 48 (bZ ZZ Z0 cL):=by
  refine aI.cases hy hn λx y h=>?_;obtain⟨g1,g2,g3,g4,w,a1,a2,a3,a4,i,j⟩:=x;obtain⟨_,⟨xs,q⟩,l,_⟩:=y;cases hb:S.tI (g1,g2,g3,g4) w a4 i j with
  |true=>exact .inl ⟨⟨h.1,h.2,hb⟩,by simp only[cL,hb,K!]⟩
  |false=>exact .inr ⟨⟨h.1,h.2,hb⟩,by simp only[cL,hb,N!]⟩
 refine Yv (λ_ h=>h) (du.kq Tryz.func48 y!) hv λx z h=>?_;obtain⟨g1,g2,g3,g4,w,a1,a2,a3,a4,i,j⟩:=x;cases z with
 |s t=>exact h.elim
 |n=>exact h.elim
 |g e ei l=>
  obtain⟨rfl,rfl,h1,h2⟩:=h;refine⟨36,3,l,j.toNat,_,rfl,rfl,h2.2.1,⟨_,rfl⟩,λxs hx=>⟨cL (g1,g2,g3,g4,w,a1,a2,a3,a4,i,j) ((),((xs,j.toNat),(l.getD j.toNat [],()))),y!,⟨h1,h2.1,by show _<xs.length;rw[hx];exact h2.2.1,h2.2.2⟩,?_,?_⟩⟩;show(cL (g1,g2,g3,g4,w,a1,a2,a3,a4,i,j) ((),((xs,j.toNat),(l.getD j.toNat [],())))).res= .bool (S.tI (g1,g2,g3,g4) w a4 i j);cases hb:S.tI (g1,g2,g3,g4) w a4 i j<;>simp only[cL,hb,K!,N!]<;>rfl
  . cases hb:S.tI (g1,g2,g3,g4) w a4 i j with
    |true=>exact .inr ⟨by simp only[cL,hb,K!];rfl,by simp only[cL,hb,K!,WR,S.P2,P?]⟩
    |false=>exact .inl ⟨by simp only[cL,hb,N!,WU,S.P2];rfl,by simp only[cL,hb,N!];rfl⟩
end Go.J
