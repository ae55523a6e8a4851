import Derived.Test.YtimebdkngdbpkaaGreatDoorPartE
import Derived.Shelf.SlicesG.Clone
import Derived.Shelf.SlSortCmp.NoneTotal
import Derived.Shelf.SortM.Plain
import Derived.Shelf.SortM.SortNone
import Derived.Shelf.SlicesG.ReverseS
import Derived.Shelf.SlIter.Nil
import Derived.Test.YtimebdkngdbpkaaGreatDoorProg
import Derived.Lib.Small
import Derived.Lib.Walk
import Derived.Sort.Walk0
import Derived.Laws.Cover1
import Derived.Maps.GroupsBeside
import Derived.Sort.KeysCollected
import Derived.WalkKit
import Derived.Deep.LoopGhost
set_option linter.unusedVariables false
set_option linter.unusedSimpArgs false
set_option linter.unusedSectionVars false
set_option linter.defProp false
set_option linter.unusedVariables false
namespace Go.J
open Go Vg
def E0:Env:={T:=fc,sig:=λ_=>none,gP:=G0}
abbrev FR:=Prop×AV×M AB
abbrev LR:=Nat->Option bq
def iN(k:Nat):AV:=.int .i64 (k:Int)
def aID:amD->FR:=λ_=>(True,.own 0,[.row 323 [.int .u32] (S.xU) false])
def azt:Env:=cS 295 q0p aID E0
def aIE:ayZ->FR:=λ(x,n)=>(S.eJ n,.int .u32 (S.right x n:Int),[])
def azu:Env:=cS 296 q1p aIE azt
def aIF:eN->FR:=λb=>(b.length=64,.own 0,[.row 323 [.int .u32] (S.sched b 64) false])
def aIG:eN->LR:=λb=>λ
    |0=>some ⟨Nat,[(4,λk=>.int .i64 ((4*k:Nat):Int)),(3,λk=>.own 300)],[(300,λk=>.row 323 [.int .u32] (S.sched b k) false)],[(Vg.Loc.slot 3,300)],[110500,110501,110502,105,301],[],λk=>S.cc k 16,λk=>S.ag 16 k⟩
    |2=>some ⟨Nat,[(5,iN),(3,λk=>.own 301)],[(301,λk=>.row 323 [.int .u32] (S.sched b k) false)],[(Vg.Loc.slot 3,301)],[300,43,104300,104301,104302],[],λk=>16<=k/\k<=64,λk=>S.ag 64 k⟩
    |_=>none
def azv:Env:=cS 294 jd aIF azu
def aIH:ay0->FR:=λ(l,p)=>(S.NO l p,.own 0,[.row 323 [.int .u32] (S.eV (S.block (S.Ai l) p)) false])
def aII:ay0->LR:=λ(l,p)=>λ
    |0=>some ⟨Nat,[(15,iN),(7,λk=>.int .u32 (S.aL (S.sched p 64) (S.Ai l) k).1),(8,λk=>.int .u32 (S.aL (S.sched p 64) (S.Ai l) k).2.1),(9,λk=>.int .u32 (S.aL (S.sched p 64) (S.Ai l) k).2.2.1),(10,λk=>.int .u32 (S.aL (S.sched p 64) (S.Ai l) k).2.2.2.1),(11,λk=>.int .u32 (S.aL (S.sched p 64) (S.Ai l) k).2.2.2.2.1),(12,λk=>.int .u32 (S.aL (S.sched p 64) (S.Ai l) k).2.2.2.2.2.1),(13,λk=>.int .u32 (S.aL (S.sched p 64) (S.Ai l) k).2.2.2.2.2.2.1),(14,λk=>.int .u32 (S.aL (S.sched p 64) (S.Ai l) k).2.2.2.2.2.2.2)],[],[],[],[],λk=>S.cc k 64,λk=>S.ag 64 k⟩
    |_=>none
def azw:Env:=cS 242 q3p aIH azv
def aIJ:eN->FR:=λb=>(S.small b,.own 0,[.row 5 [.int .u8] (S.tail b (S.pO b)) false])
def aIK:eN->LR:=λb=>λ
    |0=>some ⟨Nat,[(3,λk=>.own 300)],[(300,λk=>.row 5 [.int .u8] (S.gh b k) false)],[(Vg.Loc.slot 3,300)],[11,101100,101101,101102],[],λk=>S.cG b k,λk=>S.ag (S.ib (S.len b)) k⟩
    |2=>some ⟨Nat,[(6,iN),(4,λk=>.int .u64 (S.mV b k)),(5,λk=>.own 301)],[(301,λk=>.row 5 [.int .u8] (S.lA b k) false)],[(Vg.Loc.slot 5,301)],[],[],λk=>S.cc k 8,λk=>S.ag 8 k⟩
    |_=>none
def azx:Env:=cS 241 jd aIJ azw
def aIL:eN->FR:=λb=>(S.small b,.str (S.sum b),[])
def aIM:eN->LR:=λb=>λ
    |0=>some ⟨Nat,[(5,λk=>.int .i64 ((64*k:Nat):Int)),(3,λk=>.own 300)],[(300,λk=>.row 323 [.int .u32] (S.eV (S.proc S.H0 (S.tail b (S.pO b)) k)) false)],[(Vg.Loc.slot 3,300)],[8],[],λk=>k<=S.blocks (S.tail b (S.pO b)),λk=>S.ag (S.blocks (S.tail b (S.pO b))) k⟩
    |2=>some ⟨Nat,[(7,iN),(6,λk=>.own 301)],[(301,λk=>.row 5 [.int .u8] (S.oU (S.aI S.H0 (S.tail b (S.pO b))) k) false)],[(Vg.Loc.slot 6,301)],[],[],λk=>S.cc k 8,λk=>S.ag 8 k⟩
    |_=>none
def azy:Env:=cS 162 jd aIL azx
def aIN:ayZ->FR:=λ(x,k)=>(S.tu x k,.int .u32 (S.rotl x k:Int),[])
def azz:Env:=cS 317 q1p aIN azy
def aIO:amD->FR:=λ_=>(True,.agg [.int .u32 1779033703,.int .u32 3144134277,.int .u32 1013904242,.int .u32 2773480762,.int .u32 1359893119,.int .u32 2600822924,.int .u32 528734635,.int .u32 1541459225,.nil,.int .i64 0],[])
def azA:Env:=cS 236 q0p aIO azz
def aIP:amE->FR:=λ(s1,s2,s3,s4,s5,s6,s7,s8,s9,dm)=>(True,.bool (S.qo s9 dm),[])
def azB:Env:=cS 291 q4p aIP azA
def aIQ:acw->FR:=λ(u1,u2,u3,u4,u5,u6,u7,u8,p)=>(S.Ue (u1,u2,u3,u4,u5,u6,u7,u8) p,.agg (aB [.int .u32,.int .u32,.int .u32,.int .u32,.int .u32,.int .u32,.int .u32,.int .u32] (S.block (u1,u2,u3,u4,u5,u6,u7,u8) p)),[])
def aIR:acw->LR:=λ(u1,u2,u3,u4,u5,u6,u7,u8,p)=>λ
    |0=>some ⟨Nat,[(26,iN)],[(5,λk=>.arr [.int .u32] (S.aK p k))],[],[],[],λk=>S.cc k 16,λk=>S.ag 16 k⟩
    |2=>some ⟨Nat,[(7,iN)],[(5,λk=>.arr [.int .u32] (S.aK p k))],[],[],[],λk=>16<=k/\k<=64,λk=>S.ag 64 k⟩
    |4=>some ⟨Nat,[(124,iN),(12,λk=>.int .u32 (S.aL (S.sched p 64) (u1,u2,u3,u4,u5,u6,u7,u8) k).1),(13,λk=>.int .u32 (S.aL (S.sched p 64) (u1,u2,u3,u4,u5,u6,u7,u8) k).2.1),(14,λk=>.int .u32 (S.aL (S.sched p 64) (u1,u2,u3,u4,u5,u6,u7,u8) k).2.2.1),(15,λk=>.int .u32 (S.aL (S.sched p 64) (u1,u2,u3,u4,u5,u6,u7,u8) k).2.2.2.1),(16,λk=>.int .u32 (S.aL (S.sched p 64) (u1,u2,u3,u4,u5,u6,u7,u8) k).2.2.2.2.1),(17,λk=>.int .u32 (S.aL (S.sched p 64) (u1,u2,u3,u4,u5,u6,u7,u8) k).2.2.2.2.2.1),(18,λk=>.int .u32 (S.aL (S.sched p 64) (u1,u2,u3,u4,u5,u6,u7,u8) k).2.2.2.2.2.2.1),(19,λk=>.int .u32 (S.aL (S.sched p 64) (u1,u2,u3,u4,u5,u6,u7,u8) k).2.2.2.2.2.2.2)],[],[],[],[],λk=>S.cc k 64,λk=>S.ag 64 k⟩
    |_=>none
def azC:Env:=cS 313 q5p aIQ azB
def aDG:acw->FR:=λ(u1,u2,u3,u4,u5,u6,u7,u8,b)=>(S.xa (u1,u2,u3,u4,u5,u6,u7,u8),.bf [.agg (aB [.int .u32,.int .u32,.int .u32,.int .u32,.int .u32,.int .u32,.int .u32,.int .u32] (((S.aI (u1,u2,u3,u4,u5,u6,u7,u8) b,S.kn b)).1)),.sl [.int .u8] (((S.aI (u1,u2,u3,u4,u5,u6,u7,u8) b,S.kn b)).2)],[])
def aDH:acw->LR:=λ(u1,u2,u3,u4,u5,u6,u7,u8,b)=>λ
    |0=>some ⟨Nat,[(1,λk=>.sl [.int .u8] (S.fx b k))],[(2,λk=>.cells [.int .u32 (S.proc (u1,u2,u3,u4,u5,u6,u7,u8) b k).1,.int .u32 (S.proc (u1,u2,u3,u4,u5,u6,u7,u8) b k).2.1,.int .u32 (S.proc (u1,u2,u3,u4,u5,u6,u7,u8) b k).2.2.1,.int .u32 (S.proc (u1,u2,u3,u4,u5,u6,u7,u8) b k).2.2.2.1,.int .u32 (S.proc (u1,u2,u3,u4,u5,u6,u7,u8) b k).2.2.2.2.1,.int .u32 (S.proc (u1,u2,u3,u4,u5,u6,u7,u8) b k).2.2.2.2.2.1,.int .u32 (S.proc (u1,u2,u3,u4,u5,u6,u7,u8) b k).2.2.2.2.2.2.1,.int .u32 (S.proc (u1,u2,u3,u4,u5,u6,u7,u8) b k).2.2.2.2.2.2.2])],[],[],[],λk=>64*k<=b.length,λk=>S.ag (S.blocks b) k⟩
    |_=>none
def ant:Env:=cS 292 q5p aDG azC
def aDI:aHI->FR:=λ(s1,s2,s3,s4,s5,s6,s7,s8,s9,dm,b)=>(S.Ud (s1,s2,s3,s4,s5,s6,s7,s8) s9 dm b,.agg [.int .u32 (S.aI (s1,s2,s3,s4,s5,s6,s7,s8) b).1,.int .u32 (S.aI (s1,s2,s3,s4,s5,s6,s7,s8) b).2.1,.int .u32 (S.aI (s1,s2,s3,s4,s5,s6,s7,s8) b).2.2.1,.int .u32 (S.aI (s1,s2,s3,s4,s5,s6,s7,s8) b).2.2.2.1,.int .u32 (S.aI (s1,s2,s3,s4,s5,s6,s7,s8) b).2.2.2.2.1,.int .u32 (S.aI (s1,s2,s3,s4,s5,s6,s7,s8) b).2.2.2.2.2.1,.int .u32 (S.aI (s1,s2,s3,s4,s5,s6,s7,s8) b).2.2.2.2.2.2.1,.int .u32 (S.aI (s1,s2,s3,s4,s5,s6,s7,s8) b).2.2.2.2.2.2.2,.sl [.int .u8] (S.kn b),.int .i64 (S.pO b)],[])
def anu:Env:=cS 235 q6p aDI ant
def aDJ:amE->FR:=λ(s1,s2,s3,s4,s5,s6,s7,s8,s9,dm)=>(S.LJ (s1,s2,s3,s4,s5,s6,s7,s8) s9 dm,.str (S.dig (S.aI (s1,s2,s3,s4,s5,s6,s7,s8) (S.tail s9 dm))),[])
def aDK:amE->LR:=λ(s1,s2,s3,s4,s5,s6,s7,s8,s9,dm)=>λ
    |0=>some ⟨Nat,[(3,λk=>.own 300)],[(300,λk=>.row 5 [.int .u8] (S.gh s9 k) false)],[(Vg.Loc.slot 3,300)],[101700,101701,101702,43,104300,102000,17,102001,102002,20,104301,104302,301],[],λk=>S.cG s9 k,λk=>S.ag (S.ib (S.len s9)) k⟩
    |2=>some ⟨Nat,[(32,iN),(3,λk=>.own 301)],[(301,λk=>.row 5 [.int .u8] (S.jX s9 dm k) false)],[(Vg.Loc.slot 3,301)],[300,101700,101701,101702,102700,102701,102702,102000,17,102001,102002,20,27],[],λk=>S.cc k 8,λk=>S.ag 8 k⟩
    |4=>some ⟨Nat,[(54,iN),(8,λk=>.own 302)],[(302,λk=>.row 5 [.int .u8] (S.oU (S.aI (s1,s2,s3,s4,s5,s6,s7,s8) (S.tail s9 dm)) k) false)],[(Vg.Loc.slot 8,302)],[52],[],λk=>S.cc k 8,λk=>S.ag 8 k⟩
    |_=>none
def anv:Env:=cS 234 q4p aDJ anu
def aDL:eN->FR:=λb=>(S.small b,.str (S.sum b),[])
def anw:Env:=cS 153 jd aDL anv
def aDM:vf->FR:=λv=>(0<=v,.own 0,[.row 5 [.int .u8] (S.num v) false])
def aDN:vf->Nat:=λv=>v.toNat
def anx:Env:=cS 203 Pj aDM anw
def aYd:YB->FR:=λs=>(S.small s,.own 0,[.row 5 [.int .u8] (S.text s) false])
def aVh:Env:=cS 304 ć aYd anx
def aDO:eN->FR:=λb=>(True,.bf (aB [.int .i64,.int .i64,.int .i64] (S.first b)),[])
def aDP:eN->LR:=λb=>λ
    |0=>some ⟨Nat,[(5,iN)],[],[],[],[],λk=>S.lZ b k,λk=>S.ag 9 k⟩
    |2=>some ⟨Int,[(7,λk=>.int .i64 k),(6,λk=>.int .i64 (S.dL b (S.lead b) k))],[],[],[],[],λk=>S.xW b (S.lead b) k,λk=>(k+1).toNat⟩
    |_=>none
def anz:Env:=cS 238 jd aDO aVh
def aDQ:ay1->FR:=λ(b,cd)=>(True,.bf (aB [.str,.int .i64,.int .i64] (S.aq b cd)),[])
def anA:Env:=cS 239 q9p aDQ anz
def aDR:eN->FR:=λb=>(b.length<=140737488355328,.own 0,[.row 5 [.int .u8] (b) false])
def anB:Env:=cS 268 jd aDR anA
def aDS:aBM->amF->bo:=λv (l,())=>⟨S.GZ l v,.own 60000,[none],[.row 5 [.int .u8] (l++S.num v) false]⟩
def aDT:aBM->amF->LR:=λv (l,())=>λ
    |0=>some ⟨B8×Int,[(1,λk=>.int .i64 k.2),(0,λk=>.own 300)],[(300,λk=>.row 5 [.int .u8] k.1 false)],[(Vg.Loc.slot 0,300)],[50000],[],λk=>S.tv l v k.1 k.2,λk=>k.2.toNat⟩
    |_=>none
def anC:Env:=cH 289 [true,false] aHL q0q aDS anB
def aDU:aBN->amF->bo:=λs (l,())=>⟨S.oV l s,.own 60000,[none],[.row 5 [.int .u8] (l++S.text s) false]⟩
def anD:Env:=cH 267 [true,false] aHM q0q aDU anC
def aDV:ay1->FR:=λ(b,v)=>(b.length<=35184372088832,.bf [.own 0,.int .i64 (((S.mn b v,S.xV v)).2:Int)],[.row 5 [.int .u8] (((S.mn b v,S.xV v)).1) false])
def anE:Env:=cS 225 q9p aDV anD
def aDW:Pl->FR:=λ(b,s)=>(S.oV b s,.own 0,[.row 5 [.int .u8] (b++S.text s) false])
def anF:Env:=cS 186 SJ aDW anE
def aDX:aBO->FR:=λ(r1,r2,r3)=>(True,.bool (S.inside r1 r2),[])
def anG:Env:=cS 166 ay2 aDX anF
def aDY:aBO->FR:=λ(r1,r2,r3)=>(r1.length<=140737488355328,.agg (aB [.slice [.int .u8],.int .i64,.int .i64] ((r1,r2,S.bX r1 r2 r3))),[])
def anH:Env:=cS 246 ay2 aDY anG
def aDZ:ay1->FR:=λ(b,p)=>(S.dF b p,.bf (aB [.int .i64,.int .i64,.int .i64] (S.aO b p)),[])
def aD0:ay1->LR:=λ(b,p)=>λ
    |0=>some ⟨Nat,[(7,λk=>.int .i64 (S.gu b p k)),(8,iN)],[],[],[],[],λk=>S.ko b p k,λk=>S.ag 9 k⟩
    |_=>none
def anI:Env:=cS 247 q9p aDZ anH
def aD1:aBP->FR:=λ(b,p,cd)=>(S.dF b p,.bf (aB [.str,.int .i64,.int .i64] (S.di b p cd)),[])
def anJ:Env:=cS 248 aHN aD1 anI
def aD2:Ĉ->FR:=λ(r1,r2,r3,cd)=>(r1.length<=140737488355328,.bf [.agg (aB [.slice [.int .u8],.int .i64,.int .i64] ((S.an r1 r2 r3 cd).1)),.str ((S.an r1 r2 r3 cd).2)],[])
def anK:Env:=cS 168 amG aD2 anJ
def aD3:aBO->FR:=λ(r1,r2,r3)=>(r1.length<=140737488355328,.bf [.agg (aB [.slice [.int .u8],.int .i64,.int .i64] ((S.af r1 r2 r3).1)),.int .i64 ((S.af r1 r2 r3).2:Int)],[])
def anL:Env:=cS 167 ay2 aD3 anK
def aD4:aBO->FR:=λ(r1,r2,r3)=>(r1.length<=140737488355328,.bf [.agg (aB [.slice [.int .u8],.int .i64,.int .i64] ((S.ar r1 r2 r3).1)),.str ((S.ar r1 r2 r3).2)],[])
def anM:Env:=cS 169 ay2 aD4 anL
def aD5:aBO->FR:=λ(r1,r2,r3)=>(True,.int .i64 (S.done r1 r2 r3:Int),[])
def anN:Env:=cS 83 ay2 aD5 anM
def aD6:Fg->FR:=λ(kind,b)=>(S.aC b,.own 0,[.row 5 [.int .u8] (S.k7 kind b) false])
def aD7:Fg->LR:=λ(kind,b)=>λ
    |0=>some ⟨Nat,[(6,iN),(5,λk=>.own 300)],[(300,λk=>.row 5 [.int .u8] (S.k7 kind (b.take k)) false)],[(Vg.Loc.slot 5,300)],[9],[],λk=>S.ny b k,λk=>S.ag (S.len b) k⟩
    |_=>none
def anO:Env:=cS 202 Pm aD6 anN
def aD8:Fg->FR:=λ(kind,b)=>(S.aC b,.str (S.eW kind b),[])
def anP:Env:=cS 115 Pm aD8 anO
def aD9:eN->FR:=λb=>(S.aC b,.str (S.eW 0 b),[])
def anQ:Env:=cS 73 jd aD9 anP
def aEa:amH->FR:=λ(l,r)=>(S.aC (l++r),.str (S.eW 1 (l++r)),[])
def anR:Env:=cS 159 ay3 aEa anQ
def aEb:B7->FR:=λ(kind,parts)=>(S.oW parts,.own 0,[.row 5 [.int .u8] (S.gM kind parts) false])
def aEc:B7->LR:=λ(kind,parts)=>λ
    |0=>some ⟨Nat,[(12,iN),(5,λk=>.own 300)],[(300,λk=>.row 5 [.int .u8] (S.og kind parts k) false)],[(Vg.Loc.slot 5,300)],[9],[],λk=>S.ny parts k,λk=>S.ag (S.len parts) k⟩
    |_=>none
def anS:Env:=cS 237 Pn aEb anR
def aEd:eN->FR:=λb=>(S.aC b,.own 0,[.row 5 [.int .u8] (S.oE 0 b) false])
def anT:Env:=cS 154 jd aEd anS
def aEe:amH->FR:=λ(l,r)=>(S.aC (l++r),.own 0,[.row 5 [.int .u8] (S.oE 1 (l++r)) false])
def anU:Env:=cS 290 ay3 aEe anT
def aEf:eN->FR:=λb=>(S.aC b,.own 0,[.row 5 [.int .u8] (S.oE 2 b) false])
def anV:Env:=cS 269 jd aEf anU
def aEg:eN->FR:=λb=>(S.aC b,.own 0,[.row 5 [.int .u8] (S.oE 3 b) false])
def anW:Env:=cS 227 jd aEg anV
def aEh:eN->FR:=λb=>(S.aC b,.str (S.leaf b),[])
def anX:Env:=cS 69 jd aEh anW
def aEi:amH->FR:=λ(l,r)=>(True,.bf (aB [.str,.int .i64] ((S.aT l r,S.uz l r))),[])
def anY:Env:=cS 233 ay3 aEi anX
def aEj:eN->FR:=λb=>(S.aC b,.str (S.mF 2 b),[])
def anZ:Env:=cS 189 jd aEj anY
def aEk:eN->FR:=λb=>(S.aC b,.str (S.mF 3 b),[])
def an0:Env:=cS 133 jd aEk anZ
def aEl:vf->FR:=λc=>(True,.bool (S.cA c),[])
def an1:Env:=cS 252 Pj aEl an0
def aEm:vf->FR:=λc=>(True,.int .i64 (S.eX c:Int),[])
def an2:Env:=cS 253 Pj aEm an1
def aEn:vf->FR:=λc=>(0<=c,.int .u8 ((S.more c).toNat:Int),[])
def an3:Env:=cS 254 Pj aEn an2
def aEo:vf->FR:=λc=>(True,.bf [.own 0,.int .i64 (((S.iU c,S.zY c)).2:Int)],[.row 5 [.int .u8] (((S.iU c,S.zY c)).1) false])
def an4:Env:=cS 181 Pj aEo an3
def aEp:eN->FR:=λb=>(0<b.length,.bf (aB [.int .i64,.int .i64] (S.aR b)),[])
def aEq:eN->LR:=λb=>λ
    |1=>some ⟨Nat,[(42,iN),(4,λk=>.int .i64 (S.bV b k))],[],[],[],[],λk=>S.rb b k,λk=>S.ag 4 k⟩
    |_=>none
def an5:Env:=cS 251 jd aEp an4
def aEr:eN->FR:=λb=>(S.small b,.own 0,[.row 3 [.int .i64] (S.decode b) false])
def aEs:eN->LR:=λb=>λ
    |0=>some ⟨B8×U,[(0,λk=>.sl [.int .u8] k.1),(3,λk=>.own 300)],[(300,λk=>.row 3 [.int .i64] k.2 false)],[(Vg.Loc.slot 3,300)],[],[],λk=>S.tw b k.1 k.2,λk=>S.len k.1⟩
    |_=>none
def an6:Env:=cS 178 jd aEr an5
def aEt:vf->FR:=λc=>(True,.bool (S.letter c),[])
def aEu:vf->LR:=λc=>λ
    |0=>some ⟨Nat,[(6,iN)],[],[],[],[],λk=>S.pQ c k,λk=>S.ag 9 k⟩
    |_=>none
def an7:Env:=cS 179 Pj aEt an6
def aEv:vf->FR:=λc=>(True,.bool (S.digit c),[])
def an8:Env:=cS 180 Pj aEv an7
def aEw:vf->FR:=λc=>(True,.int .i64 (S.bT c:Int),[])
def aEx:vf->LR:=λc=>λ
    |0=>some ⟨Nat,[(6,iN)],[],[],[],[],λk=>S.qs c k,λk=>S.ag 7 k⟩
    |_=>none
def an9:Env:=cS 297 Pj aEw an8
def aRg:ĉ->FR:=λ(c,a,b)=>(True,.bool (S.gW c a b),[])
def aN1:Env:=cS 214 amI aRg an9
def aRh:vf->FR:=λc=>(True,.bool (S.LK c),[])
def aN2:Env:=cS 210 Pj aRh aN1
def aRi:vf->FR:=λc=>(0<=c/\c<=1114111,.own 0,[.row 5 [.int .u8] (S.enc c) false])
def aN3:Env:=cS 211 Pj aRi aN2
def aRj:aBQ->FR:=λ(a,b)=>(True,.int .i64 (S.ajV a b:Int),[])
def aN4:Env:=cS 212 aHO aRj aN3
def aRk:vf->FR:=λc=>(True,.bool (S.letter c),[])
def aN5:Env:=cS 213 Pj aRk aN4
def aRl:vf->FR:=λc=>(True,.int .i64 (S.bT c:Int),[])
def aN6:Env:=cS 121 Pj aRl aN5
def aRm:ay1->FR:=λ(b,n)=>(S.aAl b n,.int .i64 (S.eY b n:Int),[])
def aRn:ay1->LR:=λ(b,n)=>λ
    |0=>some ⟨Nat,[(7,iN),(6,λk=>.int .i64 (S.ayz b n (k-1)))],[],[],[],[],λk=>S.apq b n k,λk=>S.ag n.toNat k⟩
    |_=>none
def aN7:Env:=cS 209 q9p aRm aN6
def aRo:eN->FR:=λb=>(S.small b,.own 0,[.row 3 [.int .i64] (S.decode b) false])
def aRp:eN->LR:=λb=>λ
    |0=>some ⟨Nat×U,[(4,λk=>.int .i64 ((k.1:Nat):Int)),(3,λk=>.own 300)],[(300,λk=>.row 3 [.int .i64] k.2 false)],[(Vg.Loc.slot 3,300)],[],[],λk=>S.tw b (b.drop k.1) k.2/\k.1<=b.length,λk=>S.ag (S.len b) k.1⟩
    |2=>some ⟨Nat×Nat,[(7,λk=>.int .i64 ((k.1+1:Nat):Int)),(5,λk=>.int .i64 (S.xc (b.drop k.2) k.1).1),(6,λk=>.int .i64 (S.xc (b.drop k.2) k.1).2)],[],[],[],[(4,λk=>.int .i64 ((k.2:Nat):Int))],λk=>k.1<=4,λk=>S.ag 4 k.1⟩
    |_=>none
def aN8:Env:=cS 119 jd aRo aN7
def aEy:amJ->FR:=λu=>(S.okC u,.str (S.jN u),[])
def aEz:amJ->LR:=λu=>λ
    |0=>some ⟨Nat×B8,[(10,λk=>.int .i64 ((k.1:Nat):Int)),(3,λk=>.own 300)],[(300,λk=>.row 5 [.int .u8] k.2 false)],[(Vg.Loc.slot 3,300)],[],[],λk=>S.qt u k.1 k.2,λk=>S.ag (S.len u) k.1⟩
    |_=>none
def aoa:Env:=cS 256 aHQ aEy aN8
def aEA:eN->FR:=λb=>(S.small b,.own 0,[.row 9 [.str] (S.bM b) false])
def aEB:eN->LR:=λb=>λ
    |0=>some ⟨Nat×O×U,[(10,λk=>.int .i64 ((k.1:Nat):Int)),(3,λk=>.own 300),(4,λk=>.own 301)],[(300,λk=>.row 9 [.str] k.2.1 false),(301,λk=>.row 3 [.int .i64] k.2.2 false)],[(Vg.Loc.slot 3,300),(Vg.Loc.slot 4,301)],[104000,104001,104002,40],[],λk=>S.k8 (S.decode b) k.1 k.2.1 k.2.2,λk=>S.ag (S.len (S.decode b)) k.1⟩
    |_=>none
def aob:Env:=cS 183 jd aEA aoa
def aEC:YB->FR:=λs=>(S.small s,.bool (S.isTerm s),[])
def aoc:Env:=cS 96 ć aEC aob
def aRq:vf->FR:=λc=>(True,.bool (S.l4 c),[])
def aN9:Env:=cS 120 Pj aRq aoc
def aRr:B9->FR:=λl=>(True,.int .i64 (((S.nB l:Nat):Int):Int),[])
def aRs:B9->LR:=λl=>λ
    |0=>some ⟨Nat,[(4,iN),(3,λk=>.int .i64 ((S.oX l k:Nat):Int))],[],[],[],[],λk=>S.apG l k,λk=>S.ag (S.len l) k⟩
    |_=>none
def aOa:Env:=cS 143 Po aRr aN9
def aRt:aBR->aHP->bo:=λ_ (l,())=>⟨S.small l,.own 60000,[none],[.row 9 [.str] (S.sorted l) false]⟩
def aRu:aBR->aHP->LR:=λ_ (l,())=>λ
    |0=>some ⟨O×O,[(0,λk=>.own 310),(3,λk=>.own 300)],[(310,λk=>.row 9 [.str] k.1 false),(300,λk=>.row 9 [.str] k.2 false)],[(Vg.Loc.slot 0,310),(Vg.Loc.slot 3,300)],[50000,301],[],λk=>S.aps l k.1 k.2,λk=>S.len k.1⟩
    |2=>some ⟨Nat×O×O×B8,[(6,λk=>.int .i64 ((k.1:Nat):Int)),(5,λk=>.own 301)],[(301,λk=>.row 9 [.str] k.2.1 false)],[(Vg.Loc.slot 5,301)],[],[(0,λk=>.sl [.str] k.2.2.1),(4,λk=>.str k.2.2.2)],λk=>S.agD k.2.2.1 k.2.2.2 k.1 k.2.1,λk=>S.ag (S.len k.2.2.1) k.1⟩
    |_=>none
def aOb:Env:=cH 64 [true] aHR q1q aRt aOa
def aRv:YB->FR:=λs=>(S.small s,.bool (S.Ë s),[])
def aRw:YB->LR:=λs=>λ
    |0=>some ⟨Nat,[(4,iN)],[],[],[],[],λk=>S.apt (S.decode s) k,λk=>S.ag (S.len (S.decode s)) k⟩
    |_=>none
def aOc:Env:=cS 50 ć aRv aOb
def aED:YB->FR:=λs=>(True,.bool false,[])
def aod:Env:=cS 270 ć aED aOc
def aEE:amH->FR:=λ(a,b)=>(True,.int .i64 (S.lL a b:Int),[])
def aoe:Env:=cS 282 ay3 aEE aod
def aEF:aBS->ay4->bo:=λ(a,b) ((),())=>⟨True,.bool (decide (a=b)),[some (.cells [.fn (.func 282) [] []])],[]⟩
def aof:Env:=cH 309 [false,false,true] aHS q2q aEF aoe
def aEG:Pq->SK->bo:=λ_ (l,((),()))=>⟨S.small l,.own 60000,[none,some (.cells [.fn (.func 282) [] []])],[.row 9 [.str] (S.bW l) false]⟩
def aEH:Pq->SK->LR:=λ_ (l,((),()))=>λ
    |0=>some ⟨Nat,[(5,iN)],[(50001,λk=>.cells [.fn (.func 282) [] []])],[],[],[],λk=>S.ot l k,λk=>S.ag (S.len l) k⟩
    |2=>some ⟨Nat×Nat×O×Nat,[(5,λk=>.int .i64 ((k.1:Nat):Int)),(7,λk=>.int .i64 ((k.2.1:Nat):Int))],[(50000,λk=>.row 9 [.str] k.2.2.1 false),(50001,λk=>.cells [.fn (.func 282) [] []])],[],[],[(30,λk=>.int .i64 ((k.2.2.2:Nat):Int))],λk=>S.jF l k.2.2.2 k.1 k.2.1 k.2.2.1,λk=>S.ag (S.len l) k.2.1⟩
    |_=>none
def aog:Env:=cH 308 [true,true] acx q3q aEG aof
def aEI:B9->FR:=λl=>(S.small l,.own 0,[.row 9 [.str] (l) false])
def aoh:Env:=cS 306 Po aEI aog
def aEJ:amJ->FR:=λl=>(S.small l,.own 0,[.row 3 [.int .i64] (l) false])
def aoi:Env:=cS 105 aHQ aEJ aoh
def aEK:amL->aHP->bo:=λ_ (l,())=>⟨S.small l,.bf [],[some (.row 9 [.str] (S.fm l) false)],[]⟩
def aoj:Env:=cH 307 [true,true] ay5 q1q aEK aoi
def aEL:amM->wF->bo:=λl ()=>⟨S.small l,.own 60000,[],[.row 9 [.str] (S.bW (S.fm l)) false]⟩
def aok:Env:=cH 281 [false,true] aHT yr aEL aoj
def aol:eN->FR:=λb=>(S.small b,.own 0,[.row 9 [.str] (S.sorted (S.bM b)) false])
def aom:Env:=cS 216 jd aol aok
def aEM:B9->FR:=λl=>(True,.bool (S.bQ l),[])
def aEN:B9->LR:=λl=>λ
    |0=>some ⟨Nat,[(7,iN)],[],[],[],[],λk=>S.fg l k,λk=>S.ag (S.len l) k⟩
    |_=>none
def aon:Env:=cS 151 Po aEM aom
def aEO:amH->FR:=λ(a,b)=>(True,.str (S.aT a b),[])
def aoo:Env:=cS 152 ay3 aEO aon
def aEP:aBR->aHP->bo:=λ_ (s,())=>⟨S.aUz s,.own 60000,[none],[.row 9 [.str] (S.comb s) false]⟩
def aop:Env:=cH 250 [true] aHR q1q aEP aoo
def aEQ:aBT->FR:=λl=>(S.l8 l,.own 0,[.row 9 [.str] (S.leaves l) false])
def aER:aBT->LR:=λl=>λ
    |0=>some ⟨Nat,[(8,iN),(3,λk=>.own 300)],[(300,λk=>.row 9 [.str] (S.jr l k) false)],[(Vg.Loc.slot 3,300)],[],[],λk=>S.ny l k,λk=>S.ag (S.len l) k⟩
    |_=>none
def aoq:Env:=cS 89 aHU aEQ aop
def aES:B9->FR:=λl=>(S.nC l,.str (S.root l),[])
def aET:B9->LR:=λl=>λ
    |0=>some ⟨Nat×O,[(12,λk=>.int .i64 ((k.1:Nat):Int)),(3,λk=>.own 300)],[(300,λk=>.row 9 [.str] k.2 false)],[(Vg.Loc.slot 3,300)],[302,35,103500,103501,103502,304],[],λk=>S.qu l k.1 k.2,λk=>S.ag (S.len l) k.1⟩
    |2=>some ⟨Nat×Nat×O×Nat,[(5,λk=>.int .i64 ((k.2.1:Nat):Int)),(3,λk=>.own 302)],[(302,λk=>.row 9 [.str] k.2.2.1 false)],[(Vg.Loc.slot 3,302)],[35,103500,103501,103502,102100,102101,21,102102,300,304],[(4,λk=>.int .i64 ((k.2.2.2:Nat):Int))],λk=>S.pe l k.2.2.2 k.1 k.2.1 k.2.2.1,λk=>k.2.1⟩
    |4=>some ⟨O,[(3,λk=>.own 304)],[(304,λk=>.row 9 [.str] k false)],[(Vg.Loc.slot 3,304)],[102100,102101,21,102102,102901,102900,102902,29,300,302],[],λk=>S.qv l k,λk=>S.len k⟩
    |_=>none
def aor:Env:=cS 173 Po aES aoq
def aEU:B9->FR:=λl=>(S.small l,.bf (aB [.str,.int .i64] ((S.zp l,S.xe l))),[])
def aos:Env:=cS 130 Po aEU aor
def aEV:vf->FR:=λn=>(True,.int .i64 (S.split n:Int),[])
def aEW:vf->LR:=λn=>λ
    |0=>some ⟨Nat×Int,[(3,λk=>.int .i64 k.2)],[],[],[],[],λk=>S.jq n k.2 k.1,λk=>(n-k.2).toNat⟩
    |_=>none
def aot:Env:=cS 158 Pj aEV aos
def aEX:vf->FR:=λn=>(True,.int .i64 (S.split n:Int),[])
def aEY:vf->LR:=λn=>λ
    |0=>some ⟨Nat×Int,[(3,λk=>.int .i64 k.2)],[],[],[],[],λk=>S.jq n k.2 k.1,λk=>(n-k.2).toNat⟩
    |_=>none
def aou:Env:=cS 172 Pj aEX aot
def aEZ:aBR->aHP->bo:=λ_ (l,())=>⟨S.small l,.bf [],[some (.row 9 [.str] (S.OH l) false)],[]⟩
def aov:Env:=cH 174 [true] aHR q1q aEZ aou
def aE0:amO->FR:=λ(l,i)=>(S.dM l,.bf (aB [.slice [.str],.int .i64] ((S.rK l i,S.BW l i))),[])
def aE1:amO->LR:=λ(l,i)=>λ
    |0=>some ⟨O×Int×O,[(0,λk=>.sl [.str] k.1),(1,λk=>.int .i64 k.2.1),(6,λk=>.own 300)],[(300,λk=>.row 9 [.str] k.2.2 false)],[(Vg.Loc.slot 6,300)],[],[],λk=>S.gj l i k,λk=>S.len k.1⟩
    |_=>none
def aow:Env:=cS 91 ay6 aE0 aov
def aE2:amJ->FR:=λl=>(True,.bool (S.bK l),[])
def aE3:amJ->LR:=λl=>λ
    |0=>some ⟨Nat,[(8,iN),(3,λk=>.int .i64 (S.gi l k))],[],[],[],[],λk=>S.mo l k,λk=>S.ag (S.len l) k⟩
    |_=>none
def aox:Env:=cS 102 aHQ aE2 aow
def aE4:amJ->FR:=λl=>(True,.bf [.own 0,.int .i64 (((S.qw l,S.qx l)).2:Int)],[.row 5 [.int .u8] (((S.qw l,S.qx l)).1) false])
def aE5:amJ->LR:=λl=>λ
    |0=>some ⟨Nat,[(22,iN),(6,λk=>.int .i64 (S.gi l k)),(4,λk=>.own 300)],[(300,λk=>.row 5 [.int .u8] (S.jb l k) false)],[(Vg.Loc.slot 4,300)],[101700,101701,101702,17],[],λk=>k<=l.length,λk=>S.ag (S.len l) k⟩
    |_=>none
def aoy:Env:=cS 137 aHQ aE4 aox
def aE6:amJ->FR:=λl=>(True,.bf (aB [.str,.int .i64] ((S.aNO l,S.qx l))),[])
def aoz:Env:=cS 229 aHQ aE6 aoy
def aE7:Ċ->amN->bo:=λ(n,p,q) ((s1,s2),())=>⟨True,.bool (S.xf n s1 s2),[some (.cells [.int .i64 s1,.int .i64 s2])],[]⟩
def aoA:Env:=cH 311 [false,false,false,true] amP q5q aE7 aoz
def aE8:Fh->amN->bo:=λ(a,b) ((s1,s2),())=>⟨b.length=0,.own 60000,[some (.cells [.int .i64 s1,.int .i64 s2])],[.row 3 [.int .i64] (S.Oc a s1 s2) false]⟩
def aE9:Fh->amN->LR:=λ(a,b) ((s1,s2),())=>λ
    |0=>some ⟨U×U,[(0,λk=>.sl [.int .i64] k.1),(1,λk=>.sl [.int .i64] S.sa),(7,λk=>.own 300)],[(300,λk=>.row 3 [.int .i64] k.2 false),(50000,λk=>.cells [.int .i64 s1,.int .i64 s2])],[(Vg.Loc.slot 7,300)],[],[],λk=>S.nE a s1 s2 k.1 k.2,λk=>S.len k.1⟩
    |_=>none
def aoB:dD:=bI Pt q5q aE8
def Ġ:dD:=aoB
def aoC:Env:=Env.bD 196 [false,false,true] Ġ aoA
def aFa:Jo->FR:=λ(l,s1,s2)=>(True,.own 0,[.row 3 [.int .i64] (S.Oc l s1 s2) false])
def aoD:Env:=cS 286 acy aFa aoC
def aYe:amJ->FR:=λl=>(True,.bool (S.bK l),[])
def aYf:amJ->LR:=λl=>λ
    |0=>some ⟨Nat,[(3,iN)],[],[],[],[],λk=>S.mo l k,λk=>S.ag (S.len l) k⟩
    |_=>none
def aVi:Env:=cS 305 aHQ aYe aoD
def aFb:aBV->FR:=λ(a,b)=>(True,.bool (S.sH a b),[])
def aFc:aBV->LR:=λ(a,b)=>λ
    |0=>some ⟨Nat,[(5,iN)],[],[],[],[],λk=>S.wb a b k,λk=>S.ag (S.len a) k⟩
    |_=>none
def aoE:Env:=cS 16 aHV aFb aVi
def aYg:U8->FR:=λ(l,n)=>(True,.bool (S.re l n),[])
def aYh:U8->LR:=λ(l,n)=>λ
    |0=>some ⟨Nat,[(5,iN)],[],[],[],[],λk=>S.aP2 l n k,λk=>S.ag (S.len l) k⟩
    |_=>none
def aVj:Env:=cS 277 amQ aYg aoE
def aFd:amR->FR:=λd=>(S.bn d,.bool (S.bg d),[])
def aFe:amR->LR:=λd=>λ
    |0=>some ⟨Nat,[(7,iN)],[],[],[],[],λk=>S.Ku d k,λk=>S.ag (S.len d) k⟩
    |_=>none
def aoF:Env:=cS 228 ay7 aFd aVj
def auo:amT->FR:=λ(l1,l2,l3)=>(True,.bf (aB [.slice [.int .u8],.int .i64] ((S.fW l1 l2 l3,S.kM l1 l2 l3))),[])
def acL:Env:=cS 100 amS auo aoF
def aup:eN->FR:=λb=>(b.length<=140737488355328,.bf [.agg (aB [.str,.str,.str] ((S.bj b).1)),.int .i64 ((S.bj b).2:Int)],[])
def acM:Env:=cS 136 jd aup acL
def auq:amR->FR:=λd=>(S.bn d,.bf [.own 0,.int .i64 (((S.bU d,S.dE d)).2:Int)],[.row 23 [.slice [.int .u8]] (((S.bU d,S.dE d)).1) false])
def aur:amR->LR:=λd=>λ
    |0=>some ⟨Nat,[(16,iN),(4,λk=>.own 300)],[(300,λk=>.row 23 [.slice [.int .u8]] (S.iV d k) false)],[(Vg.Loc.slot 4,300)],[],[],λk=>k<=d.length+1,λk=>S.ag (S.len d+1) k⟩
    |_=>none
def acN:Env:=cS 134 ay7 auq acM
def aus:amR->FR:=λd=>(S.bn d,.bf (aB [.str,.int .i64] ((S.BI d,S.dE d))),[])
def acO:Env:=cS 287 ay7 aus acN
def aut:ċ->FR:=λ(d,t)=>(S.bn d,.bf (aB [.int .i64,.bool] ((S.bt d t,S.k9 d t))),[])
def auu:ċ->LR:=λ(d,t)=>λ
    |0=>some ⟨Nat,[(14,iN),(6,λk=>.int .i64 (S.ek d t k))],[],[],[],[],λk=>k<=d.length,λk=>S.ag (S.len d) k⟩
    |_=>none
def acP:Env:=cS 135 amU aut acO
def auv:ċ->FR:=λ(d,t)=>(S.bn d,.sl [.int .i64] (S.qz d t),[])
def acQ:Env:=cS 138 amU auv acP
def auw:amW->FR:=λ(docs,s1,s2)=>(True,.bf (aB [.slice [.str,.slice [.int .i64]],.int .i64] (S.lD docs s1 s2)),[])
def acR:Env:=cS 123 amV auw acQ
def aWl:amT->FR:=λ(l1,l2,l3)=>(True,.bool (S.fU l1 l2 l3),[])
def aTC:Env:=cS 273 amS aWl acR
def aWm:amT->FR:=λ(l1,l2,l3)=>(S.fU l1 l2 l3=true,.sl [.int .u8] (S.qy l1 l2 l3),[])
def aTD:Env:=cS 274 amS aWm aTC
def aWn:eN->FR:=λb=>(b.length<=140737488355328,.bf [.agg (aB [.str,.str,.str] ((S.EV b).1)),.int .i64 ((S.EV b).2:Int)],[])
def aTE:Env:=cS 201 jd aWn aTD
def auy:U9->FR:=λ(s1,s2)=>(True,.bool (S.jO s1 s2),[])
def acS:Env:=cS 285 amX auy aTE
def auz:aBW->FR:=λ(s1,s2,s3)=>(S.bn s3,.bool (S.amC s1 s2 s3),[])
def auA:aBW->LR:=λ(s1,s2,s3)=>λ
    |0=>some ⟨Nat,[(18,iN)],[],[],[],[],λk=>S.we s1 s2 s3 k,λk=>S.ag (S.len s3) k⟩
    |_=>none
def acT:Env:=cS 219 aHW auz acS
def auB:aBW->FR:=λ(s1,s2,s3)=>(S.bn s3,.bf [.agg (aB [.int .i64,.int .i64,.int .i64,.str] ((S.sJ s1 s2 s3).1)),.int .i64 ((S.sJ s1 s2 s3).2:Int)],[])
def acU:Env:=cS 222 aHW auB acT
def auC:amY->FR:=λ(s1,s2,s3,s4)=>(True,.bool (S.jH s1 s2 s3 s4),[])
def acV:Env:=cS 312 aHX auC acU
def auD:amW->FR:=λ(docs,s1,s2)=>(True,.bf [.agg (aB [.int .i64,.int .i64,.slice [.str,.slice [.int .i64]]] ((S.cm docs s1 s2).1)),.int .i64 ((S.cm docs s1 s2).2:Int)],[])
def acW:Env:=cS 53 amV auD acV
def auE:aBX->FR:=λ(l,n)=>(True,.bool (S.kW l n),[])
def auF:aBX->LR:=λ(l,n)=>λ
    |0=>some ⟨Nat,[(14,iN),(5,λk=>.int .i64 (S.rowAt l k:Int))],[],[],[],[],λk=>S.xT l k,λk=>S.ag (S.len l) k⟩
    |_=>none
def acX:Env:=cS 288 aHY auE acW
def auG:U9->FR:=λ(s1,s2)=>(True,.bool (S.jO s1 s2),[])
def acY:Env:=cS 318 amX auG acX
def auH:amY->FR:=λ(s1,s2,s3,s4)=>(True,.bool (S.jH s1 s2 s3 s4),[])
def acZ:Env:=cS 315 aHX auH acY
def auI:aBX->FR:=λ(l,n)=>(True,.bool (S.kW l n),[])
def auJ:aBX->LR:=λ(l,n)=>λ
    |0=>some ⟨Nat,[(5,iN)],[],[],[],[],λk=>S.wg l k,λk=>S.ag (S.len l) k⟩
    |_=>none
def ac0:Env:=cS 303 aHY auI acZ
def auK:eN->FR:=λl=>(S.small l,.own 0,[.row 5 [.int .u8] (l) false])
def ac1:Env:=cS 55 jd auK ac0
def auL:amR->FR:=λl=>(S.small l,.own 0,[.row 228 [.str,.slice [.int .i64]] (l) false])
def ac2:Env:=cS 124 ay7 auL ac1
def auM:aBV->FR:=λ(a,b)=>(True,.bool (S.I4 a b),[])
def auN:aBV->LR:=λ(a,b)=>λ
    |0=>some ⟨Nat,[(13,iN)],[],[],[],[],λk=>S.Hn a b k,λk=>S.ag (S.len a) k⟩
    |_=>none
def ac3:Env:=cS 280 aHV auM ac2
def auO:sM->FR:=λ(a1,a2,b1,b2)=>(True,.bool (S.BV a1 a2 b1 b2),[])
def ac4:Env:=cS 279 z6 auO ac3
def auP:aBY->wF->bo:=λ(a,b) ()=>⟨True,.bool (S.sI a b),[],[]⟩
def auQ:aBY->wF->LR:=λ(a,b) ()=>λ
    |0=>some ⟨Nat,[(17,iN)],[],[],[],[],λk=>S.Hb a b k,λk=>S.ag (S.len a) k⟩
    |_=>none
def ac5:Env:=cH 278 [false,false,true] aHZ yr auP ac4
def auR:Ca->FR:=λ(a,b)=>(True,.bool (S.sI a b),[])
def ac6:Env:=cS 215 HF auR ac5
def auS:amZ->FR:=λ(y1,y2)=>(True,.bool (S.bG y1 y2),[])
def auT:amZ->LR:=λ(y1,y2)=>λ
    |0=>some ⟨Nat,[(23,iN)],[],[],[],[],λk=>S.Ow y1 y2 k,λk=>S.ag (S.len y1) k⟩
    |2=>some ⟨Nat,[(34,iN),(5,λk=>.int .i64 (S.ig y2 k))],[],[],[],[],λk=>S.BT y1 y2 k,λk=>S.ag (S.len y2) k⟩
    |_=>none
def ac7:Env:=cS 122 acz auS ac6
def auU:amZ->FR:=λ(y1,y2)=>(True,.agg (aB [.slice [.slice [.int .u8]],.slice [.int .i64,.int .i64,.slice [.str,.slice [.int .i64]]]] (S.ao y1 y2)),[])
def ac8:Env:=cS 51 acz auU ac7
def auV:amZ->FR:=λ(y1,y2)=>(True,.int .i64 (S.cO y2:Int),[])
def ac9:Env:=cS 52 acz auV ac8
def auW:amZ->FR:=λ(y1,y2)=>(S.wo y1 y2,.agg [.own 0,.own 1],[.row 23 [.slice [.int .u8]] y1 false,.row 128 [.int .i64,.int .i64,.slice [.str,.slice [.int .i64]]] y2 false])
def auX:amZ->LR:=λ(y1,y2)=>λ
    |0=>some ⟨Nat,[(22,iN)],[(13,λk=>.row 23 [.slice [.int .u8]] (S.eo [] y1 k) false)],[],[],[],λk=>S.gX y1 k,λk=>S.ag (S.len y1) k⟩
    |2=>some ⟨Nat,[(37,iN)],[(17,λk=>.row 128 [.int .i64,.int .i64,.slice [.str,.slice [.int .i64]]] (S.eo (0,0,[]) y2 k) false)],[],[],[],λk=>S.gX y2 k,λk=>S.ag (S.len y2) k⟩
    |4=>some ⟨Nat×Nat×M S.aY,[(55,λk=>.int .i64 ((k.1:Nat):Int))],[(17,λk=>.iu 128 (some 104900) [.int .i64,.int .i64,.slice [.str,.slice [.int .i64]]] k.2.2 k.2.1),(104900,λk=>.row 228 [.str,.slice [.int .i64]] (S.ba y2 k.2.1).2.2 false)],[],[],[(6,λk=>.int .i64 ((k.2.1:Nat):Int))],λk=>S.wu y2 k.2.2 k.2.1 k.1,λk=>S.ag (S.sY y2 k.2.1) k.1⟩
    |_=>none
def ada:Env:=cS 54 acz auW ac9
def auY:amZ->FR:=λ(y1,y2)=>(True,.int .i64 (S.mc y1 y2:Int),[])
def adb:Env:=cS 129 acz auY ada
def auZ:aBZ->FR:=λ(y1,y2,d)=>(True,.bf [.agg (aB [.slice [.slice [.int .u8]],.slice [.int .i64,.int .i64,.slice [.str,.slice [.int .i64]]]] ((S.cP y1 y2 d).1)),.int .i64 ((S.cP y1 y2 d).2:Int)],[])
def ade:Env:=cS 20 aH4 auZ adb
def au0:amZ->FR:=λ(y1,y2)=>(True,.bf [.agg (aB [.slice [.slice [.int .u8]],.slice [.int .i64,.int .i64,.slice [.str,.slice [.int .i64]]]] ((S.bY y1 y2).1)),.int .i64 ((S.bY y1 y2).2:Int)],[])
def adf:Env:=cS 19 acz au0 ade
def au1:amZ->FR:=λ(y1,y2)=>(True,.sl [.int .i64,.int .i64,.int .i64,.str] (S.cB y1 y2),[])
def au2:amZ->LR:=λ(y1,y2)=>λ
    |0=>some ⟨Nat,[(17,iN),(3,λk=>.own 300)],[(300,λk=>.row 100 [.int .i64,.int .i64,.int .i64,.str] (S.lE y1 y2 k) false)],[(Vg.Loc.slot 3,300)],[13],[],λk=>k<=S.gL y1 y2,λk=>S.ag (S.gL y1 y2) k⟩
    |_=>none
def adg:Env:=cS 131 acz au1 adf
def au3:sN->FR:=λ(y1,y2,y3)=>(True,.bool (S.bN y1 y2 y3),[])
def adh:Env:=cS 223 vg au3 adg
def au4:amZ->FR:=λ(y1,y2)=>(True,.bf [.agg (aB [.int .i64,.str,.slice [.int .i64,.int .i64,.int .i64,.str]] ((S.iv y1 y2).1)),.int .i64 ((S.iv y1 y2).2:Int)],[])
def adi:Env:=cS 58 acz au4 adh
def au5:aB0->aH1->bo:=λv (q,((),()))=>⟨S.fT v=false/\q=0,.bf [],[some (.cells [.int .i64 0]),some (.cells [.own 60000])],[.row 5 [.int .u8] (S.num v) false]⟩
def adj:dD:=bI aH6 q6q au5
def Vk:dD:=adj
def adk:Env:=Env.bD 224 [false,true,true] Vk adi
def au6:aB0->aH3->bo:=λv (q,((),(l,())))=>⟨S.fT v=false/\q=0/\l.length<=35184372088832,.bf [],[some (.cells [.int .i64 0]),some (.cells [.own 60000]),none],[.row 5 [.int .u8] (l++S.num v) false]⟩
def adl:dD:=bI aH6 q7q au6
def adm:dD:=od adl Vk
def adn:Env:=Env.bD 224 [false,true,true] adm adk
def au7:Vb->aH5->bo:=λd ((),(l,()))=>⟨l.length<=35184372088832/\d.length<=35184372088832,.bf [],[some (.cells [.own 60000]),none],[.row 5 [.int .u8] (l++d) false]⟩
def ado:Env:=cH 226 [false,true] ay8 q8q au7 adn
def au8:sN->FR:=λ(y1,y2,y3)=>(True,.bf [.own 0,.int .i64 ((S.hW y1 y2 y3).2:Int)],[.row 5 [.int .u8] ((S.hW y1 y2 y3).1) false])
def au9:sN->LR:=λ(y1,y2,y3)=>λ
    |0=>some ⟨Nat,[(31,iN)],[(4,λk=>.cells [.own 300]),(300,λk=>.row 5 [.int .u8] (S.sK y1 y2 y3 k) false),(5,λk=>.cells [.int .i64 0])],[(Vg.Loc.cell 4 0,300)],[102700],[],λk=>S.D7 y1 y2 y3 k,λk=>S.ag (S.len y3) k⟩
    |_=>none
def adp:Env:=cS 132 vg au8 ado
def ava:aB2->Ee->bo:=λ_ ((r1,r2,r3),())=>⟨r1.length<=140737488355328,.int .i64 (S.af r1 r2 r3).2,[some (.cells [.sl [.int .u8] r1,.int .i64 (S.af r1 r2 r3).1.2.1,.int .i64 (S.af r1 r2 r3).1.2.2])],[]⟩
def adq:Env:=cH 243 [true] aH8 Va ava adp
def avb:aB2->Ee->bo:=λ_ ((r1,r2,r3),())=>⟨r1.length<=140737488355328,.str (S.ar r1 r2 r3).2,[some (.cells [.sl [.int .u8] r1,.int .i64 (S.ar r1 r2 r3).1.2.1,.int .i64 (S.ar r1 r2 r3).1.2.2])],[]⟩
def adr:Env:=cH 244 [true] aH8 Va avb adq
def avc:Cb->aB1->bo:=λ_ (a,((),((),((r1,r2,r3),()))))=>⟨r1.length<=140737488355328,.agg [.int .i64 a,.int .i64 (S.tC r1 r2 r3 a).2.2.1,.int .i64 (S.tC r1 r2 r3 a).2.2.2.1,.str (S.tC r1 r2 r3 a).2.2.2.2],[some (.cells [.int .i64 (S.tC r1 r2 r3 a).2.2.1]),some (.cells [.fn (.func 243) [] [.ref 50003 0]]),some (.cells [.fn (.func 244) [] [.ref 50003 0]]),some (.cells [.sl [.int .u8] r1,.int .i64 (S.tC r1 r2 r3 a).1.1,.int .i64 (S.tC r1 r2 r3 a).1.2])],[]⟩
def ads:Env:=cH 245 [true,true,true] SL aH7 avc adr
def avd:eN->FR:=λb=>(b.length<=140737488355328,.bf [.agg (aB [.int .i64,.str,.slice [.int .i64,.int .i64,.int .i64,.str]] ((S.hR b).1)),.int .i64 ((S.hR b).2:Int)],[])
def ave:eN->LR:=λb=>λ
    |0=>some ⟨Nat,[(29,iN)],[(4,λk=>.cells [.sl [.int .u8] b,.int .i64 (S.jJ b k).1.1,.int .i64 (S.jJ b k).1.2]),(7,λk=>.cells [.int .i64 (S.jJ b k).2.1]),(5,λk=>.cells [.fn (.func 243) [] [.ref 4 0]]),(6,λk=>.cells [.fn (.func 244) [] [.ref 4 0]]),(9,λk=>.cells [.int .i64 (S.iw b).1.1,.str (S.iw b).1.2.1,.own 300]),(300,λk=>.row 100 [.int .i64,.int .i64,.int .i64,.str] (S.jJ b k).2.2 false)],[(Vg.Loc.cell 9 2,300)],[],[],λk=>k<=S.pN b/\(S.iw b).1.2.2<=64,λk=>S.ag (S.pN b) k⟩
    |_=>none
def adt:Env:=cS 164 jd avd ads
def avf:ċ->FR:=λ(d,t)=>(S.bn d/\S.small t,.bf [.agg (aB [.int .i64,.str,.str,.str,.slice [.str],.slice [.int .u8]] ((S.ij d t).1)),.int .i64 ((S.ij d t).2:Int)],[])
def adu:Env:=cS 62 amU avf adt
def avg:aBR->aHP->bo:=λ_ (l,())=>⟨S.small l,.bf [],[some (.row 9 [.str] (S.fm l) false)],[]⟩
def adv:Env:=cH 97 [true] aHR q1q avg adu
def avh:aBR->aHP->bo:=λ_ (l,())=>⟨S.small l,.own 60000,[none],[.row 9 [.str] (S.bW l) false]⟩
def avi:aBR->aHP->LR:=λ_ (l,())=>λ
    |0=>some ⟨Nat,[(3,iN)],[],[],[],[],λk=>S.ot l k,λk=>S.ag (S.len l) k⟩
    |2=>some ⟨Nat×Nat×O×Nat,[(3,λk=>.int .i64 ((k.1:Nat):Int)),(5,λk=>.int .i64 ((k.2.1:Nat):Int))],[(50000,λk=>.row 9 [.str] k.2.2.1 false)],[],[],[(27,λk=>.int .i64 ((k.2.2.2:Nat):Int))],λk=>S.jF l k.2.2.2 k.1 k.2.1 k.2.2.1,λk=>S.ag (S.len l) k.2.1⟩
    |_=>none
def adw:Env:=cH 98 [true] aHR q1q avh adv
def avj:aB5->FR:=λl=>(S.fV l,.bool (S.bw l),[])
def avk:aB5->LR:=λl=>λ
    |0=>some ⟨Nat,[(9,iN),(3,λk=>.int .i64 (S.gw l k)),(4,λk=>.int .i64 (S.nW l k))],[],[],[],[],λk=>S.oF l k,λk=>S.ag (S.len l) k⟩
    |_=>none
def adx:Env:=cS 37 aIa avj adw
def avl:aB5->FR:=λl=>(S.small l,.sl [.str] (S.ax l),[])
def avn:aB5->LR:=λl=>λ
    |0=>some ⟨Nat,[(8,iN),(3,λk=>.own 300)],[(300,λk=>.row 9 [.str] (S.bS l k) false)],[(Vg.Loc.slot 3,300)],[],[],λk=>S.gX l k,λk=>S.ag (S.len l) k⟩
    |_=>none
def ady:Env:=cS 38 aIa avl adx
def avo:eN->FR:=λb=>(S.small b,.str (S.hdT (S.bM b)),[])
def adz:Env:=cS 177 jd avo ady
def avp:aB6->aB3->bo:=λ_ (st,((),(bb,(at_,()))))=>⟨st=0/\bb=S.zA/\at_=3,.bf [],[some (.cells [.int .i64 (-1)]),some (.cells [.own 60000]),some (.cells [.sl [.int .u8] bb]),some (.cells [.int .i64 at_])],[.row 183 [.int .i64,.int .i64,.str] S.kE1 false]⟩
def adA:Env:=cH 176 [true,true,true,true] aIb aH9 avp adz
def avq:eN->FR:=λb=>(b=S.zA,.sl [.int .i64,.int .i64,.str] S.kE,[])
def avr:eN->LR:=λb=>λ
    |0=>some ⟨Nat,[(15,iN)],[(1,λk=>.cells [.sl [.int .u8] b]),(3,λk=>.cells [.nil]),(4,λk=>.cells [.int .i64 ((k:Nat):Int)]),(5,λk=>.cells [.int .i64 (S.tD k)])],[],[],[],λk=>S.cc k 3,λk=>S.ag 3 k⟩
    |_=>none
def adB:Env:=cS 93 jd avq adA
def avt:aB2->Jp->bo:=λ_ ((e,n,w),())=>⟨0<=n/\n<e.length,.agg [.int .i64 (S.vw e n).1,.int .i64 (S.vw e n).2.1,.str (S.vw e n).2.2],[some (.cells [.sl [.int .i64,.int .i64,.str] e,.int .i64 n,.int .i64 w,.nil])],[]⟩
def adC:dD:=bI aH8 YC avt
def Vl:dD:=adC
def adD:Env:=Env.bD 95 [true] Vl adB
def avu:aB2->aB4->bo:=λ_ ((e,n,w),(l,()))=>⟨0<=n/\n<e.length,.agg [.int .i64 (S.vw e n).1,.int .i64 (S.vw e n).2.1,.str (S.vw e n).2.2],[some (.cells [.sl [.int .i64,.int .i64,.str] e,.int .i64 n,.int .i64 w,.own 50001]),some (.row 90 [.int .i64,.str] l false)],[]⟩
def adE:dD:=bI aH8 ay9 avu
def adF:dD:=od adE Vl
def adG:Env:=Env.bD 95 [true] adF adD
def avv:am0->Jp->bo:=λd ((e,n,w),())=>⟨e=S.kE/\n=0/\w=0,.int .i64 0,[some (.cells [.sl [.int .i64,.int .i64,.str] e,.int .i64 1,.int .i64 1,.own 60000])],[.row 90 [.int .i64,.str] S.fy false]⟩
def adH:Env:=cH 255 [true,false] aIc YC avv adG
def avw:am0->Jp->bo:=λd ((e,n,w),())=>⟨e=S.kE/\n=0/\w=0,.int .i64 0,[some (.cells [.sl [.int .i64,.int .i64,.str] e,.int .i64 1,.int .i64 1,.own 60000])],[.row 90 [.int .i64,.str] S.fy false]⟩
def avx:am0->Jp->LR:=λd ((e,n,w),())=>λ
    |0=>some ⟨Nat,[],[(50000,λk=>.cells [.sl [.int .i64,.int .i64,.str] e,.int .i64 1,.int .i64 1,.own 300]),(300,λk=>.row 90 [.int .i64,.str] S.fy false)],[(Vg.Loc.cell 50000 3,300)],[101000],[],λk=>k=0,λk=>k⟩
    |_=>none
def adI:Env:=cH 182 [true,false] aIc YC avw adH
def avy:am0->Jp->bo:=λd ((e,n,w),())=>⟨e=S.kE/\n=0/\w=0,.int .i64 0,[some (.cells [.sl [.int .i64,.int .i64,.str] e,.int .i64 1,.int .i64 1,.own 60000])],[.row 90 [.int .i64,.str] S.fy false]⟩
def avz:am0->Jp->LR:=λd ((e,n,w),())=>λ
    |0=>some ⟨Nat,[],[(50000,λk=>.cells [.sl [.int .i64,.int .i64,.str] e,.int .i64 1,.int .i64 1,.own 300]),(300,λk=>.row 90 [.int .i64,.str] S.fy false)],[(Vg.Loc.cell 50000 3,300)],[100900],[],λk=>k=0,λk=>k⟩
    |_=>none
def adJ:Env:=cH 94 [true,false] aIc YC avy adI
def avA:eN->FR:=λb=>(b=S.zA,.bf (aB [.slice [.int .i64,.str],.int .i64,.int .i64] ((S.fy,0,0))),[])
def adK:Env:=cS 36 jd avA adJ
def aPG:aB5->FR:=λl=>(S.fV l,.bool (S.bw l),[])
def aPH:aB5->LR:=λl=>λ
    |0=>some ⟨Nat,[(4,iN),(3,λk=>.int .i64 (S.nW l k))],[],[],[],[],λk=>S.oF l k,λk=>S.ag (S.len l) k⟩
    |_=>none
def aLT:Env:=cS 17 aIa aPG adK
def aPI:aB5->FR:=λl=>(S.small l,.sl [.str] (S.ax l),[])
def aPJ:aB5->LR:=λl=>λ
    |0=>some ⟨Nat,[(4,iN),(3,λk=>.own 300)],[(300,λk=>.row 9 [.str] (S.bS l k) false)],[(Vg.Loc.slot 3,300)],[],[],λk=>S.gX l k,λk=>S.ag (S.len l) k⟩
    |_=>none
def aLU:Env:=cS 25 aIa aPI aLT
def aPK:aB5->FR:=λl=>(S.aAt l,.sl [.int .i64,.str] l,[])
def aPL:aB5->LR:=λl=>λ
    |0=>some ⟨Nat,[(4,iN),(3,λk=>.own 300)],[(300,λk=>.row 122 [.int .i64,.str] (l.take k) false)],[(Vg.Loc.slot 3,300)],[],[],λk=>S.gX l k,λk=>S.ag (S.len l) k⟩
    |_=>none
def aLV:Env:=cS 15 aIa aPK aLU
def aPM:aB5->FR:=λl=>(True,.bool (S.ajc l),[])
def aPN:aB5->LR:=λl=>λ
    |0=>some ⟨Nat,[(3,iN)],[],[],[],[],λk=>S.aAX l k,λk=>S.ag (S.len l) k⟩
    |_=>none
def aLW:Env:=cS 11 aIa aPM aLV
def avB:am0->Cc->bo:=λv (d,(l,()))=>⟨l.length<=35184372088832,.bf [],[some (.cells [.own 60000,.bool (S.rM d (S.lO v))]),none],[.row 5 [.int .u8] (l++S.bytesOf (S.lO v)) false]⟩
def adL:Env:=cH 140 [true,false] aIc HG avB aLW
def avC:aB7->Cc->bo:=λ(b,m) (d,(l,()))=>⟨l.length<=35184372088832/\b.length<=1099511627776,.bf [],[some (.cells [.own 60000,.bool (S.rM d (S.ik b m))]),none],[.row 5 [.int .u8] (l++S.bytesOf (S.ik b m)) false]⟩
def adM:Env:=cH 175 [true,false,false] aId HG avC adL
def avD:Vc->Cc->bo:=λ(y1,y2,y3) (d,(l,()))=>⟨l.length<=35184372088832,.bf [],[some (.cells [.own 60000,.bool (S.rM d (S.ajd y1 y2 y3))]),none],[.row 5 [.int .u8] (l++S.bytesOf (S.ajd y1 y2 y3)) false]⟩
def adN:Env:=cH 139 [true,false] acA HG avD adM
def avE:am1->Cc->bo:=λp (d,(l,()))=>⟨l.length<=17592186044416,.bf [],[some (.cells [.own 60000,.bool (S.rM d (S.kO p))]),none],[.row 5 [.int .u8] (l++S.bytesOf (S.kO p)) false]⟩
def avF:am1->Cc->LR:=λp (d,(l,()))=>λ
    |0=>some ⟨Nat,[(18,iN)],[(50000,λk=>.cells [.own 300,.bool d]),(300,λk=>.row 5 [.int .u8] (l++S.aL4 p k) false)],[(Vg.Loc.cell 50000 0,300)],[101500],[],λk=>S.mA p k,λk=>S.ag (S.len p) k⟩
    |_=>none
def adO:Env:=cH 171 [true,false] Ef HG avE adN
def avG:am2->Cc->bo:=λ(p1,p2,p3,p4,p5,p6) (d,(l,()))=>⟨l.length<=8796093022208/\p6.length<=1099511627776,.bf [],[some (.cells [.own 60000,.bool (S.rM d (S.ku (p1,p2,p3,p4,p5,p6)))]),none],[.row 5 [.int .u8] (l++S.bytesOf (S.ku (p1,p2,p3,p4,p5,p6))) false]⟩
def adP:Env:=cH 141 [true,false] acB HG avG adO
def avH:aB2->Cc->bo:=λ_ (d,(l,()))=>⟨True,.bf [.sl [.int .u8] (S.wy (l,d)),.int .i64 (S.wz (l,d))],[none,none],[]⟩
def adQ:dD:=bI aH8 HG avH
def Vm:dD:=adQ
def adR:Env:=Env.bD 142 [true] Vm adP
def avI:am3->FR:=λ(a1,a2,a3,a4)=>(S.qD a4,.bf (aB [.slice [.int .u8],.int .i64] (S.kv a1 a2 a3 a4)),[])
def avJ:am3->LR:=λ(a1,a2,a3,a4)=>λ
    |0=>some ⟨Nat,[(25,iN)],[(4,λk=>.cells [.own 300,.bool (S.iG (S.cY a1 a2 a3 a4 k))]),(300,λk=>.row 5 [.int .u8] (S.bytesOf (S.cY a1 a2 a3 a4 k)) false)],[(Vg.Loc.cell 4 0,300)],[101300,302],[],λk=>S.kz a3 a4 k,λk=>S.ag (S.len a4) k⟩
    |2=>some ⟨Nat×Nat,[(37,λk=>.int .i64 ((k.1:Nat):Int))],[(4,λk=>.cells [.own 302,.bool (S.iG (S.dN a1 a2 a3 a4 k.2 k.1))]),(302,λk=>.row 5 [.int .u8] (S.bytesOf (S.dN a1 a2 a3 a4 k.2 k.1)) false)],[(Vg.Loc.cell 4 0,302)],[103400,300],[(25,λk=>.int .i64 ((k.2:Nat):Int))],λk=>S.iH a3 a4 k.2 k.1,λk=>S.ag (S.len (S.iE a4 k.2)) k.1⟩
    |_=>none
def adS:Env:=cS 63 azc avI adR
def L6:Vd->wF->bo:=λ(b,c) ()=>⟨S.dY b c=0,.bf [.ref 60000 0,.int .i64 0],[],[.cells [.sl [.int .u8] b,.int .i64 1,.int .i64 0]]⟩
def adT:dD:=bI acC yr L6
def Vn:dD:=adT
def adU:Env:=Env.bD 79 [false,false] Vn adS
def L7:Vd->wF->bo:=λ(b,c) ()=>⟨¬S.dY b c=0,.bf [.lb,.int .i64 (S.dY b c)],[],[]⟩
def adV:dD:=bI acC yr L7
def adW:dD:=od adV Vn
def adX:Env:=Env.bD 79 [false,false] adW adU
def avK:aB2->Ee->bo:=λ_ ((r1,r2,r3),())=>⟨r1.length<=140737488355328,.int .i64 (S.af r1 r2 r3).2,[some (.cells [.sl [.int .u8] r1,.int .i64 (S.af r1 r2 r3).1.2.1,.int .i64 (S.af r1 r2 r3).1.2.2])],[]⟩
def adY:Env:=cH 84 [true] aH8 Va avK adX
def avL:am0->Ee->bo:=λm ((r1,r2,r3),())=>⟨r1.length<=140737488355328,.str (S.an r1 r2 r3 m).2,[some (.cells [.sl [.int .u8] r1,.int .i64 (S.an r1 r2 r3 m).1.2.1,.int .i64 (S.an r1 r2 r3 m).1.2.2])],[]⟩
def adZ:Env:=cH 85 [true,false] aIc Va avL adY
def avM:am0->Ee->bo:=λm ((r1,r2,r3),())=>⟨r1.length<=140737488355328,.int .i64 (S.dh r1 r2 r3 m).2,[some (.cells [.sl [.int .u8] r1,.int .i64 (S.dh r1 r2 r3 m).1.1,.int .i64 (S.dh r1 r2 r3 m).1.2])],[]⟩
def ad0:Env:=cH 81 [true,false] aIc Va avM adZ
def avN:aB2->Ee->bo:=λ_ ((r1,r2,r3),())=>⟨r1.length<=140737488355328,.agg [.int .i64 (S.cC r1 r2 r3).2.1,.str (S.cC r1 r2 r3).2.2.1,.sl [.int .i64,.int .i64,.int .i64,.str] (S.cC r1 r2 r3).2.2.2],[some (.cells [.sl [.int .u8] r1,.int .i64 (S.cC r1 r2 r3).1.1,.int .i64 (S.cC r1 r2 r3).1.2])],[]⟩
def ad1:Env:=cH 80 [true] aH8 Va avN ad0
def avO:aB2->Ee->bo:=λ_ ((r1,r2,r3),())=>⟨r1.length<=140737488355328,.agg [.str (S.kQ r1 r2 r3).2.1,.str (S.kQ r1 r2 r3).2.2.1,.str (S.kQ r1 r2 r3).2.2.2],[some (.cells [.sl [.int .u8] r1,.int .i64 (S.kQ r1 r2 r3).1.1,.int .i64 (S.kQ r1 r2 r3).1.2])],[]⟩
def ad3:Env:=cH 165 [true] aH8 Va avO ad1
def avP:aB2->Ee->bo:=λ_ ((r1,r2,r3),())=>⟨r1.length<=140737488355328,.sl [.str] (S.iK r1 r2 r3).2,[some (.cells [.sl [.int .u8] r1,.int .i64 (S.iK r1 r2 r3).1.1,.int .i64 (S.iK r1 r2 r3).1.2])],[]⟩
def avQ:aB2->Ee->LR:=λ_ ((r1,r2,r3),())=>λ
    |0=>some ⟨Nat,[(7,iN),(3,λk=>.own 300)],[(300,λk=>.row 9 [.str] (S.dB r1 r2 r3 k).2 false),(50000,λk=>.cells [.sl [.int .u8] r1,.int .i64 (S.dB r1 r2 r3 k).1.1,.int .i64 (S.dB r1 r2 r3 k).1.2])],[(Vg.Loc.slot 3,300)],[],[],λk=>S.cc k (S.pg r1 r2 r3),λk=>S.ag (S.pg r1 r2 r3) k⟩
    |_=>none
def ad4:Env:=cH 86 [true] aH8 Va avP ad3
def avR:aB2->Ee->bo:=λ_ ((r1,r2,r3),())=>⟨r1.length<=140737488355328,.agg [.int .i64 (S.iF r1 r2 r3).2.1,.str (S.iF r1 r2 r3).2.2.1,.str (S.iF r1 r2 r3).2.2.2.1,.str (S.iF r1 r2 r3).2.2.2.2.1,.sl [.str] (S.iF r1 r2 r3).2.2.2.2.2.1,.sl [.int .u8] (S.iF r1 r2 r3).2.2.2.2.2.2],[some (.cells [.sl [.int .u8] r1,.int .i64 (S.iF r1 r2 r3).1.1,.int .i64 (S.iF r1 r2 r3).1.2])],[]⟩
def L8:Env:=cH 82 [true] aH8 Va avR ad4
def avS:eN->FR:=λb=>(b.length<=140737488355328/\S.dY b 1=0,.bf [.agg (aB [.int .i64,.str,.slice [.int .i64,.int .i64,.int .i64,.str],.slice [.slice [.int .i64,.str,.str,.str,.slice [.str],.slice [.int .u8]]]] ((S.bp b).1)),.int .i64 ((S.bp b).2:Int)],[])
def avT:eN->LR:=λb=>λ
    |0=>some ⟨Nat,[(25,iN)],[(101100,λk=>.cells [.sl [.int .u8] b,.int .i64 (S.js b k).1.1,.int .i64 (S.js b k).1.2]),(6,λk=>.cells [.int .i64 (S.aH b).2.1,.str (S.aH b).2.2.1,.sl [.int .i64,.int .i64,.int .i64,.str] (S.aH b).2.2.2,.own 300]),(300,λk=>.row 101 [.slice [.int .i64,.str,.str,.str,.slice [.str],.slice [.int .u8]]] (S.js b k).2 false)],[(Vg.Loc.cell 6 3,300)],[301],[],λk=>S.cc k (S.aN b),λk=>S.ag (S.aN b) k⟩
    |2=>some ⟨Nat×Nat,[(29,λk=>.int .i64 ((k.1:Nat):Int)),(7,λk=>.own 301)],[(301,λk=>.row 106 [.int .i64,.str,.str,.str,.slice [.str],.slice [.int .u8]] (S.BX b k.2 k.1).2 false),(101100,λk=>.cells [.sl [.int .u8] b,.int .i64 (S.BX b k.2 k.1).1.1,.int .i64 (S.BX b k.2 k.1).1.2]),(6,λk=>.cells [.int .i64 (S.aH b).2.1,.str (S.aH b).2.2.1,.sl [.int .i64,.int .i64,.int .i64,.str] (S.aH b).2.2.2,.own 300]),(300,λk=>.row 101 [.slice [.int .i64,.str,.str,.str,.slice [.str],.slice [.int .u8]]] (S.js b k.2).2 false)],[(Vg.Loc.slot 7,301)],[],[(25,λk=>.int .i64 ((k.2:Nat):Int))],λk=>S.cc k.1 (S.qE b k.2)/\k.2+1<=S.aN b,λk=>S.ag (S.qE b k.2) k.1⟩
    |_=>none
def avU:Env:=Env.bD 79 [false,false] (bI acC yr L6) L8
def avV:eN->FR:=λb=>(¬S.dY b 1=0,.bf [.agg (aB [.int .i64,.str,.slice [.int .i64,.int .i64,.int .i64,.str],.slice [.slice [.int .i64,.str,.str,.str,.slice [.str],.slice [.int .u8]]]] ((S.bp b).1)),.int .i64 ((S.bp b).2:Int)],[])
def avW:Env:=Env.bD 79 [false,false] (bI acC yr L7) L8
def avX:eN->FR:=λb=>(b.length<=140737488355328,.bf [.agg (aB [.int .i64,.str,.slice [.int .i64,.int .i64,.int .i64,.str],.slice [.slice [.int .i64,.str,.str,.str,.slice [.str],.slice [.int .u8]]]] ((S.bp b).1)),.int .i64 ((S.bp b).2:Int)],[])
def L9:Env:=cS 31 jd avX L8
def av9:sN->FR:=λ(y1,y2,y3)=>(S.bN y1 y2 y3=true,.own 0,[.row 5 [.int .u8] (S.hB y1 y2 y3) false])
def awa:sN->LR:=λ(y1,y2,y3)=>λ
    |0=>some ⟨Nat,[(4,iN),(3,λk=>.own 300)],[(300,λk=>.row 5 [.int .u8] (S.sK y1 y2 y3 k) false)],[(Vg.Loc.slot 3,300)],[101700,101701,101702,11,17,101100,101101,101102],[],λk=>S.D7 y1 y2 y3 k,λk=>S.ag (S.len y3) k⟩
    |_=>none
def ad6:Env:=cS 116 vg av9 L9
def awb:sN->FR:=λ(y1,y2,y3)=>(S.bN y1 y2 y3=true,.str (S.uW y1 y2 y3),[])
def ad7:Env:=cS 47 vg awb ad6
def awc:sN->FR:=λ(y1,y2,y3)=>(True,.bf (aB [.str,.int .i64] (S.im y1 y2 y3)),[])
def ad8:Env:=cS 59 vg awc ad7
def awd:amZ->FR:=λ(y1,y2)=>(True,.bf (aB [.str,.int .i64] (S.mG y1 y2)),[])
def ad9:Env:=cS 22 acz awd ad8
def awe:Ve->aB8->bo:=λt (dd,(er,((),())))=>⟨S.bn dd/\S.bg dd=true/\S.isTerm t=true/\er=0,.bf [],[some (.cells [.sl [.str,.slice [.int .i64]] dd]),some (.cells [.int .i64 0]),some (.cells [.own 60000])],[.row 106 [.int .i64,.str,.str,.str,.slice [.str],.slice [.int .u8]] [S.la dd t] false]⟩
def aea:dD:=bI am5 aza awe
def Vo:dD:=aea
def aeb:Env:=Env.bD 61 [false,true,true,true] Vo ad9
def awf:Ve->aB9->bo:=λt (dd,(er,((),(l,()))))=>⟨S.bn dd/\S.bg dd=true/\S.isTerm t=true/\er=0/\l.length<=100000,.bf [],[some (.cells [.sl [.str,.slice [.int .i64]] dd]),some (.cells [.int .i64 0]),some (.cells [.own 60000]),none],[.row 106 [.int .i64,.str,.str,.str,.slice [.str],.slice [.int .u8]] (l++[S.la dd t]) false]⟩
def aec:dD:=bI am5 azb awf
def aed:dD:=od aec Vo
def aee:Env:=Env.bD 61 [false,true,true,true] aed aeb
def awg:Vf->am4->bo:=λd (er,(ts,()))=>⟨S.Jc d ts/\er=0,.sl [.int .i64,.str,.str,.str,.slice [.str],.slice [.int .u8]] (S.Lm d ts),[some (.cells [.int .i64 0]),some (.cells [.sl [.str] ts])],[]⟩
def awh:Vf->am4->LR:=λd (er,(ts,()))=>λ
    |0=>some ⟨Nat,[(12,iN)],[(3,λk=>.cells [.sl [.str,.slice [.int .i64]] d]),(5,λk=>.cells [.own 300]),(300,λk=>.row 106 [.int .i64,.str,.str,.str,.slice [.str],.slice [.int .u8]] (S.rN d ts k) false),(50000,λk=>.cells [.int .i64 0]),(50001,λk=>.cells [.sl [.str] ts])],[(Vg.Loc.cell 5 0,300)],[],[],λk=>S.gX ts k,λk=>S.ag (S.len ts) k⟩
    |_=>none
def aef:Env:=cH 60 [false,true,true] acD azd awg aee
def awi:Č->FR:=λ(y1,y2,l)=>(S.fV l,.bf (aB [.slice [.int .u8],.int .i64] (S.fE y1 y2 l)),[])
def awj:Č->LR:=λ(y1,y2,l)=>λ
    |0=>some ⟨Nat,[(31,iN)],[(7,λk=>.cells [.int .i64 0]),(8,λk=>.cells [.sl [.str] (S.ax l)]),(10,λk=>.cells [.int .i64 ((S.len y1:Nat):Int),.str (S.root (S.leaves y1)),.sl [.int .i64,.int .i64,.int .i64,.str] (S.cB y1 y2),.own 300]),(300,λk=>.row 101 [.slice [.int .i64,.str,.str,.str,.slice [.str],.slice [.int .u8]]] (S.iL y2 (S.ax l) k) false)],[(Vg.Loc.cell 10 3,300)],[],[],λk=>S.gX y2 k/\S.gv y1 y2=true/\S.bw l=true,λk=>S.ag (S.len y2) k⟩
    |_=>none
def aeg:Env:=cS 23 am6 awi aef
def awk:aBQ->FR:=λ(i,n)=>(S.eM i n,.own 0,[.row 4 [.bool] (S.aZ i n) false])
def awl:aBQ->LR:=λ(i,n)=>λ
    |0=>some ⟨Int×Int×M Bool,[(0,λk=>.int .i64 k.1),(1,λk=>.int .i64 k.2.1),(5,λk=>.own 300)],[(300,λk=>.row 4 [.bool] k.2.2 false)],[(Vg.Loc.slot 5,300)],[],[],λk=>S.j6 i n k,λk=>k.2.1.toNat⟩
    |_=>none
def aeh:Env:=cS 150 aHO awk aeg
def awm:am7->FR:=λ(d,i,n,p)=>(S.dM p,.bf (aB [.str,.int .i64] ((S.kq d i n p,S.eQ d i n p))),[])
def awn:am7->LR:=λ(d,i,n,p)=>λ
    |0=>some ⟨Nat,[(49,iN),(11,λk=>.str (S.jL d i n p k))],[],[],[],[],λk=>S.eQ d i n p=0/\k<=(S.len p:Nat),λk=>S.ag (S.len p) k⟩
    |_=>none
def aei:Env:=cS 68 aze awm aeh
def awo:aBQ->FR:=λ(i,n)=>(S.eM i n,.int .i64 (S.e8 i n:Int),[])
def awp:aBQ->Nat:=λ(i,n)=>n.toNat
def aej:Env:=cS 71 aHO awo aei
def awq:am7->FR:=λ(d,i,n,p)=>(S.mB d i n p,.str (S.kN d i n p),[])
def awr:am7->Nat:=λ(d,i,n,p)=>n.toNat
def aek:Env:=cS 72 aze awq aej
def aws:eN->FR:=λb=>(b.length<=140737488355328,.bf (aB [.slice [.int .i64],.int .i64] (S.b8 b)),[])
def awt:eN->LR:=λb=>λ
    |0=>some ⟨Nat×Int×Int×Int×U,[(24,λk=>.int .i64 ((k.1:Nat):Int)),(7,λk=>.int .i64 k.2.2.2.1),(6,λk=>.own 300)],[(300,λk=>.row 3 [.int .i64] k.2.2.2.2 false),(4,λk=>.cells [.sl [.int .u8] b,.int .i64 k.2.1,.int .i64 k.2.2.1])],[(Vg.Loc.slot 6,300)],[],[],λk=>S.uY b k.1 k.2,λk=>S.ag 1000 k.1⟩
    |_=>none
def ael:Env:=cS 187 jd aws aek
def awu:am8->FR:=λ(n,p,q)=>(True,.bool (S.Ea p q),[])
def aem:Env:=cS 197 azf awu ael
def awv:am8->FR:=λ(n,p,q)=>(True,.bool (S.UM p q),[])
def aen:Env:=cS 198 azf awv aem
def aww:am8->FR:=λ(n,p,q)=>(True,.bool (S.Eb p q),[])
def aeo:Env:=cS 199 azf aww aen
def awx:am9->wF->bo:=λ(a,b) ()=>⟨True,.own 60000,[],[.row 3 [.int .i64] (S.E8 a b) false]⟩
def awy:am9->wF->LR:=λ(a,b) ()=>λ
    |0=>some ⟨U×U×U,[(0,λk=>.sl [.int .i64] k.1),(1,λk=>.sl [.int .i64] k.2.1),(7,λk=>.own 300)],[(300,λk=>.row 3 [.int .i64] k.2.2 false)],[(Vg.Loc.slot 7,300)],[],[],λk=>S.lF S.Ea a b k,λk=>S.jc k⟩
    |_=>none
def aep:dD:=bI azg yr awx
def Vp:dD:=od aep Ġ
def aeq:Env:=Env.bD 196 [false,false,true] Vp aeo
def awz:ana->wF->bo:=λ(a,b) ()=>⟨True,.own 60000,[],[.row 3 [.int .i64] (S.uX a b) false]⟩
def awA:ana->wF->LR:=λ(a,b) ()=>λ
    |0=>some ⟨U×U×U,[(0,λk=>.sl [.int .i64] k.1),(1,λk=>.sl [.int .i64] k.2.1),(7,λk=>.own 300)],[(300,λk=>.row 3 [.int .i64] k.2.2 false)],[(Vg.Loc.slot 7,300)],[],[],λk=>S.lF S.UM a b k,λk=>S.jc k⟩
    |_=>none
def aer:dD:=bI aIe yr awz
def Vq:dD:=od aer Vp
def aes:Env:=Env.bD 196 [false,false,true] Vq aeq
def awB:aCa->wF->bo:=λ(a,b) ()=>⟨True,.own 60000,[],[.row 3 [.int .i64] (S.OS a b) false]⟩
def awC:aCa->wF->LR:=λ(a,b) ()=>λ
    |0=>some ⟨U×U×U,[(0,λk=>.sl [.int .i64] k.1),(1,λk=>.sl [.int .i64] k.2.1),(7,λk=>.own 300)],[(300,λk=>.row 3 [.int .i64] k.2.2 false)],[(Vg.Loc.slot 7,300)],[],[],λk=>S.lF S.Eb a b k,λk=>S.jc k⟩
    |_=>none
def aet:dD:=bI aIf yr awB
def aeu:dD:=od aet Vq
def aev:Env:=Env.bD 196 [false,false,true] aeu aes
def awD:aBV->FR:=λ(a,b)=>(True,.own 0,[.row 3 [.int .i64] (S.E8 a b) false])
def aew:Env:=cS 107 aHV awD aev
def awE:aBV->FR:=λ(a,b)=>(True,.own 0,[.row 3 [.int .i64] (S.uX a b) false])
def aex:Env:=cS 108 aHV awE aew
def awF:aBV->FR:=λ(a,b)=>(True,.own 0,[.row 3 [.int .i64] (S.OS a b) false])
def aey:Env:=cS 109 aHV awF aex
def awG:YB->FR:=λs=>(True,.bool false,[])
def aez:Env:=cS 192 ć awG aey
def awH:amH->FR:=λ(a,b)=>(True,.bool (Op.bytesLess a b),[])
def aeA:Env:=cS 191 ay3 awH aez
def awI:Vh->FR:=λ(x,t)=>(S.xn x,.bf (aB [.int .i64,.bool] (((S.pE x t:Int),S.BY x t))),[])
def awJ:Vh->LR:=λ(x,t)=>λ
    |0=>some ⟨Int×Int,[(7,λk=>.int .i64 k.1),(8,λk=>.int .i64 k.2)],[],[],[],[],λk=>S.rO x t k.1 k.2,λk=>(k.2-k.1).toNat⟩
    |_=>none
def aeB:Env:=cS 104 Pu awI aeA
def awK:anb->FR:=λ(s,t,f)=>(S.BZ t f,.sl [.int .i64] (S.mH t f s),[])
def aeC:Env:=cS 103 azk awK aeB
def awL:anc->aCb->bo:=λs ((),((),(l,())))=>⟨S.sb l,.bf [],[some (.cells [.own 60000]),some (.cells [.fn (.func 107) [] []]),none],[.row 27 [.slice [.int .i64]] (S.xo 1 l) false]⟩
def aeD:dD:=bI azl azh awL
def Vr:dD:=aeD
def aeE:Env:=Env.bD 194 [false,true,true] Vr aeC
def awM:anc->aCc->bo:=λs ((),((),(l,())))=>⟨S.sb l,.bf [],[some (.cells [.own 60000]),some (.cells [.fn (.func 108) [] []]),none],[.row 27 [.slice [.int .i64]] (S.xo 2 l) false]⟩
def aeF:dD:=bI azl azi awM
def Vs:dD:=od aeF Vr
def aeG:Env:=Env.bD 194 [false,true,true] Vs aeE
def awN:anc->aCd->bo:=λs ((),((),(l,())))=>⟨S.sb l,.bf [],[some (.cells [.own 60000]),some (.cells [.fn (.func 109) [] []]),none],[.row 27 [.slice [.int .i64]] (S.xo 3 l) false]⟩
def aeH:dD:=bI azl azj awN
def aeI:dD:=od aeH Vs
def aeJ:Env:=Env.bD 194 [false,true,true] aeI aeG
def awO:anc->aCe->bo:=λs ((),((t,f),(l,())))=>⟨S.BZ t f/\S.small l,.bf [],[some (.cells [.own 60000]),some (.cells [.fn (.func 103) [] [.cQ [.slice [.str]] t 0,.cQ [.slice [.slice [.int .i64]]] f 0],.fn (.func 107) [] [],.fn (.func 108) [] [],.fn (.func 109) [] []]),none],[.row 27 [.slice [.int .i64]] (S.Hu l (S.mH t f s)) false]⟩
def aeK:Env:=cH 195 [false,true,true] azl aIg awO aeJ
def awP:aCf->wF->bo:=λ(l,t,f) ()=>⟨S.E9 l t f,.sl [.int .i64] (S.OT l t f),[],[]⟩
def awQ:aCf->wF->LR:=λ(l,t,f) ()=>λ
    |0=>some ⟨Nat,[(28,iN)],[(5,λk=>.cells [.own 300]),(300,λk=>.row 27 [.slice [.int .i64]] (S.gC (S.mH t f) l k) false),(3,λk=>.cells [.fn (.func 103) [] [.cQ [.slice [.str]] t 0,.cQ [.slice [.slice [.int .i64]]] f 0],.fn (.func 107) [] [],.fn (.func 108) [] [],.fn (.func 109) [] []]),(16,λk=>.cells [.fn (.func 107) [] []]),(20,λk=>.cells [.fn (.func 108) [] []]),(24,λk=>.cells [.fn (.func 109) [] []])],[(Vg.Loc.cell 5 0,300)],[],[],λk=>S.pF l (S.gC (S.mH t f) l k) k,λk=>S.ag (S.len l) k⟩
    |_=>none
def aeL:Env:=cH 106 [false,true] aIh yr awP aeK
def awR:aCg->FR:=λ(l,f)=>(S.fV l,.bf (aB [.slice [.int .i64],.int .i64] (S.mh l f)),[])
def awS:aCg->LR:=λ(l,f)=>λ
    |0=>some ⟨Nat,[(22,iN)],[],[],[],[],λk=>S.Fa f k,λk=>S.ag (S.len f) k⟩
    |_=>none
def aeM:Env:=cS 45 aIi awR aeL
def awT:aCh->FR:=λ(p1,p2,p3,p4,p5,p6,t,e)=>(S.aC p6,.bool (S.KL t e p2 p4 p6),[])
def aeN:Env:=cS 188 aIj awT aeM
def awU:ane->FR:=λ(p1,p2,p3,p4,p5,p6,t)=>(True,.bool (S.KM t p2 p3 p6),[])
def aeO:Env:=cS 190 aIk awU aeN
def awV:Jq->wF->bo:=λ(t,p1,p2,p3,p4,p5,p6) ()=>⟨p6.length<=140737488355328,.own 60000,[],[.bc 191 2 2 [.fn (.func 188) [] [.cQ [.str] t 0,.cQ [.int .i64] (S.b8 p6).2 0],.sl [.int .i64] (S.b8 p6).1,.fn (.func 190) [] [.cQ [.str] t 0],.nil]]⟩
def aeP:Env:=cH 101 [false,false] KQ yr awV aeO
def awW:aCi->FR:=λ(root,n,t,p1,p2,p3,p4,p5,p6)=>(S.B0 t p5 p6,.bf (aB [.slice [.int .i64],.int .i64] (S.iI root n t (p1,p2,p3,p4,p5,p6))),[])
def awX:aCi->LR:=λ(root,n,t,p1,p2,p3,p4,p5,p6)=>λ
    |0=>some ⟨Nat,[(61,iN)],[],[],[],[],λk=>S.ov root n t (p1,p2,p3,p4,p5,p6) k,λk=>S.ag 2 k⟩
    |_=>none
def aeQ:Env:=cS 42 aIl awW aeP
def aw4:aCj->FR:=λ(h1,h2,h3,root)=>(True,.bool (S.vz h1 h2 h3 root),[])
def aeV:Env:=cS 99 aIm aw4 aeQ
def aw5:aCk->FR:=λ(h1,h2,h3,root)=>(True,.fn (.func 99) [] [.cQ [.int .i64,.str,.slice [.int .i64,.int .i64,.int .i64,.str]] (h1,h2,h3) 0,.cQ [.str] root 0],[])
def aeW:Env:=cS 39 aIn aw5 aeV
def aw6:anf->FR:=λ(a1,a2,a3,a4,i,t)=>(0<=i/\i<(S.len a4:Nat),.bool (S.qF a4 i t),[])
def aeX:Env:=cS 40 azm aw6 aeW
def aw8:Jo->FR:=λ(l,s1,s2)=>(True,.bool (S.wB l s1 s2),[])
def aw9:Jo->LR:=λ(l,s1,s2)=>λ
    |0=>some ⟨Nat,[(9,iN)],[],[],[],[],λk=>S.xl l s1 s2 k/\k<=(S.len l:Nat),λk=>S.ag (S.len l) k⟩
    |_=>none
def aeZ:Env:=cS 43 acy aw8 aeX
def ae1:Env:=Env.bD 44 [true] (GW 3) aeZ
def Vt:č->ď->bo:=λ(g1,g2,g3,g4,w,a1,a2,a3,a4,i,j) ((),((xs,q),(l,())))=>⟨S.OZ w a4 i j/\S.Sz j q xs.length l/\S.sZ (g1,g2,g3,g4) w a4 i j=true,.bool true,[some (.cells [.own 50001]),some (.eF 27 (some 60000) xs q),none],[.row 3 [.int .i64] (S.SA l (S.Ak (g1,g2,g3,g4) w a4 i j).1) false]⟩
def Vu:dD:=bI Pv YE Vt
def Vv:dD:=Vu
def ae3:Env:=Env.bD 41 [false,false,false,false,false,true] Vv ae1
def Vw:č->ď->bo:=λ(g1,g2,g3,g4,w,a1,a2,a3,a4,i,j) ((),((xs,q),(l,())))=>⟨S.OZ w a4 i j/\S.Sz j q xs.length l/\S.sZ (g1,g2,g3,g4) w a4 i j=false,.bool false,[some (.cells [.own 50001]),some (.eF 27 (some 50002) xs q),some (.row 3 [.int .i64] l false)],[]⟩
def Vx:dD:=bI Pv YE Vw
def ae4:dD:=od Vx Vv
def ae5:Env:=Env.bD 41 [false,false,false,false,false,true] ae4 ae3
def ae6:Ď->CF:=λ(g1,g2,g3,g4,w,a1,a2,a3,a4,i,j)=>S.B2 27 3 (g1,g2,g3,g4) w a4 i j
def ae7:Env:=Env.ia 41 (Bs YD ae6) ae5
def axc:aCl->FR:=λ(root,l,b)=>(b.length<1099511627776/\S.fV l,.bf (aB [.slice [.int .i64],.int .i64] (((S.kA root l b).1,(S.kA root l b).2))),[])
def axd:aCl->LR:=λ(root,l,b)=>λ
    |0=>some ⟨Nat,[(48,iN),(12,λk=>.own 300)],[(300,λk=>.fo 26 (some 11) (S.conds 27 3 root (S.bp b).1.1 (S.bp b).1.2.1 (S.bp b).1.2.2.1 (S.bp b).1.2.2.2 (S.ax l) k))],[(Vg.Loc.slot 12,300)],[43,301],[],λk=>S.aca b k,λk=>S.ag (S.len (S.bp b).1.2.2.1) k⟩
    |2=>some ⟨Nat×Nat,[(59,λk=>.int .i64 ((k.2:Nat):Int)),(12,λk=>.own 301)],[(301,λk=>.fo 26 (some 11) (S.nJ 27 3 root (S.bp b).1.1 (S.bp b).1.2.1 (S.bp b).1.2.2.1 (S.bp b).1.2.2.2 (S.ax l) k.1 k.2))],[(Vg.Loc.slot 12,301)],[105600,105601,105602,43,56,300],[(48,λk=>.int .i64 ((k.1:Nat):Int))],λk=>S.UU b (S.ax l) k.1 k.2,λk=>S.ag (S.len (S.ax l)) k.2⟩
    |_=>none
def ae8:Env:=cS 13 azn axc ae7
def axg:B9->FR:=λl=>(True,.bool (S.bQ l),[])
def axh:B9->LR:=λl=>λ
    |0=>some ⟨Nat,[(3,iN)],[],[],[],[],λk=>S.fg l k,λk=>S.ag (S.len l) k⟩
    |_=>none
def afg:Env:=cS 161 Po axg ae8
def axi:sN->FR:=λ(y1,y2,y3)=>(True,.bool (S.bN y1 y2 y3),[])
def afh:Env:=cS 272 vg axi afg
def axj:ay1->FR:=λ(b,f)=>(b.length<=140737488355328,.bf [.agg (aB [.int .i64,.int .i64,.int .i64,.str] ((S.dw b f).1)),.int .i64 ((S.dw b f).2.1:Int),.int .i64 ((S.dw b f).2.2:Int)],[])
def afi:Env:=cS 271 q9p axj afh
def axk:eN->FR:=λb=>(b.length<=140737488355328,.bf [.agg (aB [.int .i64,.str,.slice [.int .i64,.int .i64,.int .i64,.str]] ((S.hR b).1)),.int .i64 ((S.hR b).2:Int)],[])
def axl:eN->LR:=λb=>λ
    |0=>some ⟨Nat,[(5,λk=>.int .i64 (S.cw b (S.ix b) k).2.2.1),(11,λk=>.int .i64 (S.cw b (S.ix b) k).2.1),(12,iN)],[(7,λk=>.cells [.int .i64 (S.U1 b),.str (S.U2 b),.own 300]),(300,λk=>.row 219 [.int .i64,.int .i64,.int .i64,.str] (S.cw b (S.ix b) k).1 false)],[(Vg.Loc.cell 7 2,300)],[],[],λk=>S.ve b k,λk=>S.ag (S.Lq b) k⟩
    |_=>none
def afj:Env:=cS 200 jd axk afi
def axm:ang->FR:=λ(a1,a2)=>(True,.bf [.agg (aB [.slice [.int .u8],.int .i64] ((S.gD a1 a2).1)),.int .i64 ((S.gD a1 a2).2:Int)],[])
def afk:Env:=cS 155 aIo axm afj
def axn:aCm->FR:=λ(a1,a2,m)=>(True,.bf [.agg (aB [.slice [.int .u8],.int .i64] ((S.iq a1 a2 m).1)),.str ((S.iq a1 a2 m).2)],[])
def afl:Env:=cS 156 azo axn afk
def axo:aCm->FR:=λ(a1,a2,m)=>(True,.bf [.agg (aB [.slice [.int .u8],.int .i64] ((S.bO a1 a2 m).1)),.int .i64 ((S.bO a1 a2 m).2:Int)],[])
def afm:Env:=cS 112 azo axo afl
def axp:ang->FR:=λ(a1,a2)=>(True,.bf [.agg (aB [.slice [.int .u8],.int .i64] ((S.fM a1 a2).1)),.sl [.str] ((S.fM a1 a2).2)],[])
def axq:ang->LR:=λ(a1,a2)=>λ
    |0=>some ⟨Nat,[(7,iN),(6,λk=>.own 300)],[(4,λk=>.cells [.sl [.int .u8] (S.qI a1 a2 k),.int .i64 (S.bO a1 a2 64).1.2]),(300,λk=>.row 9 [.str] (S.nK (S.bO a1 a2 64).1.1 k) false)],[(Vg.Loc.slot 6,300)],[],[],λk=>S.xq a1 a2 k,λk=>S.ag (S.Ln a1 a2) k⟩
    |_=>none
def afn:Env:=cS 157 aIo axp afm
def axr:ang->FR:=λ(a1,a2)=>(True,.bf [.agg (aB [.slice [.int .u8],.int .i64] ((S.e9 a1 a2).1)),.agg (aB [.int .i64,.str,.slice [.int .i64,.int .i64,.int .i64,.str]] ((S.e9 a1 a2).2))],[])
def afo:Env:=cS 110 aIo axr afn
def axs:ani->FR:=λ(b,kind)=>(True,.agg (aB [.slice [.int .u8],.int .i64] (S.gQ b kind)),[])
def afp:Env:=cS 111 anh axs afo
def axt:ang->FR:=λ(a1,a2)=>(True,.int .i64 (S.jT a1 a2:Int),[])
def afq:Env:=cS 114 aIo axt afp
def axB:ang->FR:=λ(a1,a2)=>(True,.bf [.agg (aB [.slice [.int .u8],.int .i64] ((S.uPf a1 a2).1)),.agg (aB [.int .i64,.str,.str,.str,.slice [.str],.slice [.int .u8]] ((S.uPf a1 a2).2))],[])
def afz:Env:=cS 113 aIo axB afq
def axC:eN->FR:=λb=>(True,.bf [.agg (aB [.int .i64,.str,.slice [.int .i64,.int .i64,.int .i64,.str],.slice [.slice [.int .i64,.str,.str,.str,.slice [.str],.slice [.int .u8]]]] ((S.bp b).1)),.int .i64 ((S.bp b).2:Int)],[])
def axD:eN->LR:=λb=>λ
    |0=>some ⟨Nat,[(7,iN)],[(4,λk=>.cells [.sl [.int .u8] (S.ef b k).1.1,.int .i64 (S.ef b k).1.2]),(6,λk=>.cells [.int .i64 (S.uH b).2.1,.str (S.uH b).2.2.1,.sl [.int .i64,.int .i64,.int .i64,.str] (S.uH b).2.2.2,.own 300]),(300,λk=>.row 208 [.slice [.int .i64,.str,.str,.str,.slice [.str],.slice [.int .u8]]] (S.ef b k).2 false)],[(Vg.Loc.cell 6 3,300)],[301],[],λk=>S.aOs b k,λk=>S.ag (S.uvN b) k⟩
    |2=>some ⟨Nat×Nat,[(11,λk=>.int .i64 ((k.1:Nat):Int)),(10,λk=>.own 301)],[(301,λk=>.row 211 [.int .i64,.str,.str,.str,.slice [.str],.slice [.int .u8]] (S.uRw b k.2 k.1).2 false),(4,λk=>.cells [.sl [.int .u8] (S.uRw b k.2 k.1).1.1,.int .i64 (S.uRw b k.2 k.1).1.2]),(6,λk=>.cells [.int .i64 (S.uH b).2.1,.str (S.uH b).2.2.1,.sl [.int .i64,.int .i64,.int .i64,.str] (S.uH b).2.2.2,.own 300]),(300,λk=>.row 208 [.slice [.int .i64,.str,.str,.str,.slice [.str],.slice [.int .u8]]] (S.ef b k.2).2 false)],[(Vg.Loc.slot 10,301)],[],[(7,λk=>.int .i64 ((k.2:Nat):Int))],λk=>S.aNn b k.2 k.1,λk=>S.ag (S.aP3 b k.2) k.1⟩
    |_=>none
def afA:Env:=cS 46 jd axC afz
def axE:amJ->FR:=λl=>(True,.sl [.int .i64] (S.vv l),[])
def afB:Env:=cS 276 aHQ axE afA
def axG:Jo->FR:=λ(l,s1,s2)=>(True,.sl [.int .i64] (S.Oc l s1 s2),[])
def aWo:Jo->LR:=λ(l,s1,s2)=>λ
    |0=>some ⟨Nat,[(6,iN),(5,λk=>.own 300)],[(300,λk=>.row 3 [.int .i64] (S.aM8 l s1 s2 k) false)],[(Vg.Loc.slot 5,300)],[],[],λk=>S.gX (S.vv l) k,λk=>S.ag (S.len (S.vv l)) k⟩
    |_=>none
def afC:Env:=cS 205 acy axG afB
def axH:Đ->FR:=λ(a,b,o)=>(True,.sl [.int .i64] (S.aRS o a b),[])
def aWp:Đ->LR:=λ(a,b,o)=>λ
    |0=>some ⟨Nat,[(8,iN),(7,λk=>.own 300)],[(300,λk=>.row 3 [.int .i64] (S.aM9 o a b k) false)],[(Vg.Loc.slot 7,300)],[],[],λk=>S.cc k 1000,λk=>S.ag 1000 k⟩
    |_=>none
def afD:Env:=cS 208 acE axH afC
def aWq:eN->FR:=λb=>(b.length<=140737488355328,.bf (aB [.slice [.int .i64],.int .i64] (S.b8 b)),[])
def aWr:eN->LR:=λb=>λ
    |0=>some ⟨Nat×Int×Int×U,[(9,λk=>.int .i64 ((k.1:Nat):Int)),(5,λk=>.int .i64 k.2.1),(8,λk=>.int .i64 k.2.2.1),(7,λk=>.own 300)],[(300,λk=>.row 3 [.int .i64] k.2.2.2 false)],[(Vg.Loc.slot 7,300)],[],[],λk=>S.aNZ b k.1 k.2,λk=>S.ag 1000 k.1⟩
    |_=>none
def aTF:Env:=cS 275 jd aWq afD
def afE:aCi->FR:=λ(root,n,t,p1,p2,p3,p4,p5,p6)=>(S.aN0 root n t p5 p6,.bf (aB [.slice [.int .i64],.bool] (((S.iI root n t (p1,p2,p3,p4,p5,p6)).1,decide ((S.iI root n t (p1,p2,p3,p4,p5,p6)).2=0)))),[])
def axI:Env:=cS 204 aIl afE aTF
def afT:Pw->FR:=λ(s,t,f)=>(S.BZ t f,.sl [.int .i64] (S.mH t f s),[])
def aWs:Pw->LR:=λ(s,t,f)=>λ
    |0=>some ⟨Nat,[(7,iN)],[],[],[],[],λk=>S.aP5 t s k,λk=>S.ag (S.len t) k⟩
    |_=>none
def aOr:Env:=cS 206 KR afT axI
def aGB:aB5->FR:=λl=>(S.aNb l/\S.small l/\¬(S.jY l (l.length-1)).1=0,.int .i64 (S.aOm l:Int),[])
def aWt:aB5->LR:=λl=>λ
    |0=>some ⟨Nat×Int,[(4,λk=>.int .i64 ((k.1:Nat):Int)),(3,λk=>.int .i64 k.2)],[],[],[],[],λk=>S.aNe l k.2 k.1,λk=>k.1⟩
    |_=>none
def aPO:Env:=cS 207 aIa aGB aOr
def aWu:anj->FR:=λ(l,t,f)=>(S.aQZ l t f,.sl [.int .i64] (S.aM0 (S.mH t f) l),[])
def aWv:anj->Nat:=λ(l,t,f)=>S.len l
def aTG:Env:=cS 118 acF aWu aPO
def aWw:aCg->FR:=λ(l,f)=>(S.mT l f=true/\S.small l,.sl [.int .i64] (S.OT l (S.ax l) f),[])
def aTH:Env:=cS 49 aIi aWw aTG
def aWx:aCo->FR:=λ(s1,s2,s3,s4,t,p1,p2,p3,p4,p5,p6)=>(S.aN0 s4 s3 t p5 p6,.bf (aB [.slice [.int .i64],.bool] (((S.iI s4 s3 t (p1,p2,p3,p4,p5,p6)).1,S.aQc (s1,s2,s3,s4) t (p1,p2,p3,p4,p5,p6)))),[])
def aTI:Env:=cS 117 azq aWx aTH
def aWy:ank->FR:=λ(a1,a2,a3,a4,t)=>(S.aQj a3 a4 t,.bf (aB [.slice [.slice [.int .i64]],.bool] ((S.fdR a3 a4 t,S.Fc a3 a4 t (S.len a3)))),[])
def aWz:ank->LR:=λ(a1,a2,a3,a4,t)=>λ
    |0=>some ⟨Nat,[(7,iN),(6,λk=>.own 300)],[(300,λk=>.row 27 [.slice [.int .i64]] (S.aNa a3 a4 t k) false)],[(Vg.Loc.slot 6,300)],[301],[],λk=>S.aP4 a3 a4 t k,λk=>S.ag (S.len t) k⟩
    |2=>some ⟨Nat×Nat,[(9,λk=>.int .i64 ((k.1:Nat):Int)),(8,λk=>.own 301)],[(301,λk=>.row 3 [.int .i64] (S.xp a3 a4 t k.2 k.1) false),(300,λk=>.row 27 [.slice [.int .i64]] (S.aNa a3 a4 t k.2) false)],[(Vg.Loc.slot 8,301)],[],[(7,λk=>.int .i64 ((k.2:Nat):Int))],λk=>S.aNo a3 a4 t k.2 k.1,λk=>S.ag (S.len a3) k.1⟩
    |_=>none
def aTJ:Env:=cS 48 azr aWy aTI
def aWA:aCl->FR:=λ(root,l,b)=>(b.length<1099511627776/\S.fV l,.bf (aB [.slice [.int .i64],.int .i64] (((S.kA root l b).1,(S.kA root l b).2))),[])
def aTK:Env:=cS 14 azn aWA aTJ
def aWB:aB2->Cc->bo:=λ_ (d,(l,()))=>⟨True,.bf [.own 60000,.int .i64 (S.wz (l,d))],[none,none],[.row 5 [.int .u8] (S.wy (l,d)) false]⟩
def aTL:dD:=bI aH8 HG aWB
def aTM:dD:=od aTL Vm
def aTN:Env:=Env.bD 142 [true] aTM aTK
def aWC:am3->FR:=λ(a1,a2,a3,a4)=>(S.qD a4,.bf [.own 0,.int .i64 ((((S.kv a1 a2 a3 a4).1,(S.kv a1 a2 a3 a4).2)).2:Int)],[.row 5 [.int .u8] ((((S.kv a1 a2 a3 a4).1,(S.kv a1 a2 a3 a4).2)).1) false])
def aWD:am3->LR:=λ(a1,a2,a3,a4)=>λ
    |0=>some ⟨Nat,[(25,iN)],[(4,λk=>.cells [.own 300,.bool (S.iG (S.cY a1 a2 a3 a4 k))]),(300,λk=>.row 5 [.int .u8] (S.bytesOf (S.cY a1 a2 a3 a4 k)) false)],[(Vg.Loc.cell 4 0,300)],[101300,302],[],λk=>S.kz a3 a4 k,λk=>S.ag (S.len a4) k⟩
    |2=>some ⟨Nat×Nat,[(37,λk=>.int .i64 ((k.1:Nat):Int))],[(4,λk=>.cells [.own 302,.bool (S.iG (S.dN a1 a2 a3 a4 k.2 k.1))]),(302,λk=>.row 5 [.int .u8] (S.bytesOf (S.dN a1 a2 a3 a4 k.2 k.1)) false)],[(Vg.Loc.cell 4 0,302)],[103400,300],[(25,λk=>.int .i64 ((k.2:Nat):Int))],λk=>S.iH a3 a4 k.2 k.1,λk=>S.ag (S.len (S.iE a4 k.2)) k.1⟩
    |_=>none
def aTO:Env:=cS 63 azc aWC aTN
def aWE:Č->FR:=λ(y1,y2,l)=>(S.fV l,.bf [.own 0,.int .i64 ((((S.fE y1 y2 l).1,(S.fE y1 y2 l).2)).2:Int)],[.row 5 [.int .u8] ((((S.fE y1 y2 l).1,(S.fE y1 y2 l).2)).1) false])
def aWF:Č->LR:=λ(y1,y2,l)=>λ
    |0=>some ⟨Nat,[(31,iN)],[(7,λk=>.cells [.int .i64 0]),(8,λk=>.cells [.sl [.str] (S.ax l)]),(10,λk=>.cells [.int .i64 ((S.len y1:Nat):Int),.str (S.root (S.leaves y1)),.sl [.int .i64,.int .i64,.int .i64,.str] (S.cB y1 y2),.own 300]),(300,λk=>.row 101 [.slice [.int .i64,.str,.str,.str,.slice [.str],.slice [.int .u8]]] (S.iL y2 (S.ax l) k) false)],[(Vg.Loc.cell 10 3,300)],[],[],λk=>S.gX y2 k/\S.gv y1 y2=true/\S.bw l=true,λk=>S.ag (S.len y2) k⟩
    |_=>none
def aTP:Env:=cS 23 am6 aWE aTO
def aWG:aXT->FR:=λ(root,b)=>(True,.bool (S.O7 root b),[])
def aTQ:Env:=cS 10 aZh aWG aTP
def aWH:amD->FR:=λ_=>(True,.bool true,[])
def aTR:Env:=cS 12 q0p aWH aTQ
def aTT:aCl->FR:=λ(root,l,b)=>(True,.bool true,[])
def aWI:Env:=cS 3 azn aTT aTR
end Go.J
namespace Go.Vg
open Go Go.Shelf Go.RowKit Go.Proofs
variable [HP]
def encS(s:B8):Value:=.string ⟨s.toArray⟩
variable {A:Nat->Prop}{w w':World}{e:Nat}{P:Program}{args:Array Value}{f:FuncId}{G:Nat->Option GD}{ρ:Ren}
def Cr:∀(l:O) (cs:M Value),dJ (bx w A [.str]) cs l->cs=l.map encS/\∀s∈l,s.length<=maxLen
 |[],cs,h=>by grind[dJ]
 |s::l,cs,⟨c1,c2,hc,h1,h2⟩=>by
  subst hc;obtain⟨v,b7,rfl,hv,rfl⟩:=h1;obtain⟨g1,g2⟩:=Cr l c2 h2;obtain⟨rfl,hl⟩:=hv;refine⟨by rw [g1];rfl,λs' jW=>?_⟩;rcases P!.1 jW with rfl|jW
  . exact hl
  grind
def De:∀(l:O),(∀s∈l,s.length<=maxLen)->dJ (bx w A [.str]) (l.map encS) l
 |[],_=>rfl
 |s::l,h=>⟨[encS s],l.map encS,rfl,by
   exact⟨_,[],rfl,by exact⟨rfl,h s z!⟩,rfl⟩,De l λs' jW=>h s' x!⟩
def YM:∀(l:U) (cs:M Value),dJ (bx w A [.int .i64]) cs l->cs=l.map (Value.int .i64)/\∀z∈l,lo .i64<=z/\z<=hi .i64
 |[],cs,h=>by grind[dJ]
 |s::l,cs,⟨c1,c2,hc,h1,h2⟩=>by
  subst hc;obtain⟨v,b7,rfl,hv,rfl⟩:=h1;obtain⟨g1,g2⟩:=YM l c2 h2;obtain⟨rfl,hl⟩:=hv;refine⟨by rw [g1];rfl,λs' jW=>?_⟩;rcases P!.1 jW with rfl|jW
  . exact hl
  grind
def JD:∀(l:U),(∀z∈l,lo .i64<=z/\z<=hi .i64)->dJ (bx w A [.int .i64]) (l.map (Value.int .i64)) l
 |[],_=>rfl
 |s::l,h=>⟨[.int .i64 s],l.map (Value.int .i64),rfl,by
   exact⟨_,[],rfl,by exact⟨rfl,h s z!⟩,rfl⟩,JD l λs' jW=>h s' x!⟩
def SU{row:M Ty}{l:M (Row row)}{v:Value}{xs:M Value}(hA:∀b,A b->b<w.heap.size)(hb:Below w.heap.size w w')(ho:w'.ownsRow w.heap.size e row.length v l.length xs)(hr:dJ (bx w' A row) xs l):
  ∃A' az,lu w A w' v (.own 0) [.row e row l false] A' az:=by
 have hblk:∀b,ai v=some b->w.heap.size<=b:=by
  intro b fb;rcases ho.2 with⟨rfl,_⟩|⟨g,cap,cur,rfl,hg,_⟩
  . cases fb
  grind[ai,Option.some.injEq]
 have h1:v.oneCell'=true:=by
  rcases ho.2 with⟨rfl,_⟩|⟨g,cap,cur,rfl,hg,_⟩<;>rfl
 have ho0:w'.ownsRow 0 e row.length v l.length xs:=by
  refine⟨ho.1,?_⟩;rcases ho.2 with h|⟨g,cap,cur,g1,g2,g3⟩
  . grind
  grind
 refine⟨A,λ_=>v,{os:=hb.os,tape:=hb.tape,output:=hb.output,size:=hb.size,same:=hb.block,mono:=λ_ h=>h,iP:=λ_ _ h=>h,bound:=λb h=>I? (hA b h) hb.size,res:= ?_,rows:= ?_,apart:= ?_}⟩
 . simp_all[aa,trivial]
 . intro i ab hi;match i,hi with
   |0,hi=>
    simp at hi;subst hi;refine⟨⟨xs,ho0,hr,λb fb=>?_⟩,hblk⟩;grind
   |i+1,hi=>grind
 grind
def Vz {α γ:Type}(f:α->γ)(l:M α)(j:Nat)(d:γ)(hj:j<l.length):(l.map f).getD j d=f l[j]:=by
 grind
def Ej{row:M Ty}(hA:∀b,A b->b<w.heap.size)
  (h:Calls P f args w λe w'=>e= .returned (.slice none 0 0)/\w'=w):Calls P f args w λex w'=>∃v,ex= .returned v/\∃A' az,lu w A w' v (.own 0) [.row e row [] false] A' az:=
 h.mono λex w' ⟨he,hw⟩=>by
  subst hw;exact⟨_,he,SU (xs:=[]) hA (Below.refl _ _) ⟨z!,.inl ⟨rfl,rfl⟩⟩ rfl⟩
def sc{A:Nat->Prop}{row:M Ty}{l:M (Row row)}{xs:M Value}(hA:∀b,A b->b<w.heap.size)
  (hr:∀w',dJ (bx w' A row) xs l)
  (h:Calls P f args w λex w'=>∃v',ex= .returned v'/\w'.ownsRow w.heap.size e row.length v' l.length xs/\v'≠ .slice none 0 0/\Below w.heap.size w w'):
  Calls P f args w λex w'=>∃v,ex= .returned v/\∃A' az,lu w A w' v (.own 0) [.row e row l false] A' az:=
 h.mono λex w' ⟨v',he,ho,_,hb⟩=>⟨v',he,SU hA hb ho (hr w')⟩
def SV{β:Nat->Value}{row:M Ty}{args:M Value}{l:M (Row row)}(h:ae w A β args [.sl row l]):∃a cap cs,args=[.slice a l.length cap]/\l.length<=cap/\cap<=maxLen/\dJ (bx w A row) cs l/\
  (cs≠ []->∃b o,a=some ⟨b,o,none⟩/\A b/\w.rangeAt b o cs):=by
 simp [ae] at h;grind[aa,Rd]
def JE(L:SlLaysN.n42 P ρ){F:Row (PS.flat [.one (.slice [.str])])->Prop×AV×M AB}
  (hF:∀l:O,F l=(l.length<=1099511627776,.own 0,[.row (ρ.t 26) [.str] l false])):Valid P G (ρ.f 42) (eD [.one (.slice [.str])] F):=by
 intro w A β args bc pre res bs hA hG bm hs hp;unfold eD at hs;split at hs
 . rename_i x hx;have jW:=hs;rw [hF x] at jW;obtain⟨rfl,rfl,rfl⟩:=jW;obtain⟨g1,g2⟩:=rF _ hx bm;obtain⟨a,cap,cs,rfl,h1,h2,h3,h4⟩:=SV (row:=[.str]) (l:=x) g1;obtain⟨rfl,hl⟩:=Cr x cs h3;cases x with
   |nil=>cases a with
    |none=>simp_all[Ej,AnyG.slices_Clone_string_nil]
    |some ad=>exact sc (xs:=[]) hA (λ_=>rfl) (AnyG.slices_Clone_string_zero L ad cap w)
   |cons s x=>
    obtain⟨b,o,rfl,Li,hr⟩:=h4 z!;refine sc (xs:=(s::x).map encS) hA (λ_=>De _ hl) ?_
    have:=AnyG.slices_Clone_string L b o (s::x).length cap ((s::x).map λs=>⟨s.toArray⟩) w z! w! (λj hj=>by
     refine hr j _ ?_;simp at hj;rw [Vz _ _ _ _ hj,B?,D! hj];rfl)
    have e1:(((s::x).map λs=>(⟨s.toArray⟩:ByteArray)).take (s::x).length).map Value.string=(s::x).map encS:=by
     rw [t? z!,List.map_map];rfl
    grind
 grind
def JF(L:SlLaysN.n41 P ρ){F:Row (PS.flat [.one (.slice [.int .i64])])->Prop×AV×M AB}
  (hF:∀l:U,F l=(l.length<=1099511627776,.own 0,[.row (ρ.t 23) [.int .i64] l false])):Valid P G (ρ.f 41) (eD [.one (.slice [.int .i64])] F):=by
 intro w A β args bc pre res bs hA hG bm hs hp;unfold eD at hs;split at hs
 . rename_i x hx;have jW:=hs;rw [hF x] at jW;obtain⟨rfl,rfl,rfl⟩:=jW;obtain⟨g1,g2⟩:=rF _ hx bm;obtain⟨a,cap,cs,rfl,h1,h2,h3,h4⟩:=SV (row:=[.int .i64]) (l:=x) g1;obtain⟨rfl,hl⟩:=YM x cs h3;cases x with
   |nil=>cases a with
    |none=>simp_all[Ej,AnyG.slices_Clone_int_nil]
    |some ad=>exact sc (xs:=[]) hA (λ_=>rfl) (AnyG.slices_Clone_int_zero L ad cap w)
   |cons s x=>
    obtain⟨b,o,rfl,Li,hr⟩:=h4 z!;refine sc (xs:=(s::x).map (Value.int .i64)) hA (λ_=>JD _ hl) ?_
    have:=AnyG.slices_Clone_int L b o (s::x).length cap (s::x) w z! w! (λj hj=>by
     refine hr j _ ?_;grind)
    grind
 grind
end Go.Vg
namespace Go.Vg
open Go Go.Shelf Go.RowKit Go.Proofs Go.Sort Go.Lib
variable [HP]
theorem Cs(a b:B8):ltOf S.lL a b=Op.bytesLess a b:=by
 grind[ltOf,S.lL,Op.bytesLess]
def ahR:SWO (ltOf S.lL) where
 irrefl x:=by grind[Cs,S.eS]
 trans x y z h1 h2:=by grind[Cs,S.mz]
 ntrans x y z h1 h2:=by
  grind[Cs,S.pd,S.mz]
def YN(x y:B8)(h1:ltOf S.lL x y=false)(h2:ltOf S.lL y x=false):x=y:=by
 grind[Cs,S.pd]
def HW {α:Type}[Inhabited α](enc:α->Value)(w:World)(tz off:Nat)(d:Array α){c:Array Value}{e:TypeId}{fr:Nat×Nat}(h:w.heap[tz]? =some (.cells c e fr)):
  (putRow enc w tz off d).heap[tz]? =some (.cells (putCells enc off d c) e fr):=by
 grind[putRow,mapBlock,onCells]
theorem Aa {α:Type}[Inhabited α](enc:α->Value)(w:World)(tz off k:Nat)(d:Array α)(h:k≠tz):(putRow enc w tz off d).heap[k]? =w.heap[k]? :=by
 simp_all[putRow,mapBlock,Array.getElem?_modify,Ne.symm]
theorem size_putRow {α:Type}[Inhabited α](enc:α->Value)(w:World)(tz off:Nat)(d:Array α):(putRow enc w tz off d).heap.size=w.heap.size:=by
 simp_all
theorem Ct(l:O)(c:Array Value)(h:l.length<=c.size):(putCells encS 0 l.toArray c).toList.take l.length=l.map encS:=by
 apply List.ext_getElem?;intro k;by_cases hk:k<l.length
 . grind[putCells,Array.getElem?_eq_getElem]
 grind
def Cu {α:Type}[Inhabited α](enc:α->Value)(d:Array α)(c:Array Value):(putCells enc 0 d c).size=c.size:=by simp [putCells]
variable {G:Nat->Option GD}{ρ:Ren}{P:Program}
def Ls {P:Program}(L:SlLaysF.n6 P ρ){g e:Nat}(eg:∀args w,(callFunc g args).run P w= .ok (.enter g args) w)
  (aIS:∀(x y:B8) (w:World),Calls P g #[encS x,encS y] w λe w'=>e= .returned (.int .i64 (S.lL x y))/\w'=w)
  {F:Row (TA.dp [.own 50000,.fn (.func g) [] []])->fB [.row e [.str]]->bo}
  (hF:∀l:O,F () (l,())= {pre:=l.length<=1099511627776,res:=.bf [],heap:=[some (.row e [.str] (S.fm l) false)],new:=[]}):
  aF P G (ρ.f 6) (bI [.own 50000,.fn (.func g) [] []] [.row e [.str]] F):=by
 intro w A β args bc hs r hA hG bm fi vr oc hp hlen DW;unfold bI at oc;split at oc
 . rename_i cs dX;split at oc
   . rename_i x y hx hy;obtain⟨l,u⟩:=y;simp only [Option.some.injEq] at oc;have hxu:x=():=rfl;subst hxu;rw [hF l] at oc;subst oc;obtain⟨g1,g2⟩:=CR dX hx bm;obtain⟨q1,q2,q3⟩:=GV (w:=w) (A:=A) (β:=β) [.row e [.str]] hs (l,u) 50000 hy fi;have hb:=q2 0 (.row e [.str] l false) rfl;have aoG:hs.length=1:=by grind
     simp only [TA.qm,TA.put,ae] at g1;obtain⟨v0,b7,rfl,ġ,v1,aIT,rfl,hv1,rfl⟩:=g1;simp only [aa] at ġ hv1;obtain⟨ġ,kT⟩:=ġ;obtain⟨a1,a2,rfl,ha1,ha2⟩:=hv1;simp only [TA.qm,ae,List.drop_nil,List.take_nil] at ha1 ha2;have ea1:a1= #[]:=by grind
     have ea2:a2= #[]:=by grind
     subst ea1;subst ea2;obtain⟨xs,ho,sh,lR⟩:=hb;obtain⟨rfl,hl⟩:=Cr l xs sh;have Gk:∀s∈S.fm l,s.length<=maxLen:=λs jW=>hl s ((List.mergeSort_perm l _).subset jW);have PR:(S.fm l).length=l.length:=(List.mergeSort_perm l _).length_eq;simp only [L?,n?] at lR;rcases ho.2 with⟨VV,hn2⟩|⟨g0,cap,cur,hv,_,VA,Q9,VB,dQ,AF⟩
     . 
      have Ta:l=[]:=d?.1 hn2;subst Ta;rw [ġ,VV];have Zh:S.fm []=[]:=d?.1 PR;rw [Zh];refine(AnyF.slices_SortFunc_none {L with} none 0 (.func (.func g) #[] #[]) w).mono λex w' ⟨he,hw⟩=>?_;subst hw;refine⟨_,he,A,β,{os:=rfl,tape:=rfl,output:=rfl,size:=S! _,same:=λ_ _ _=>rfl,mono:=λb h=>⟨h,rfl⟩,iP:=λ_ _ h=>.inl h,bound:=hA,res:=by simp only [aa];exact⟨#[],rfl,by rfl⟩,kept:= ?_,rows:= ?_,apart:= ?_}⟩
      . intro i ab hi;match i,hi with
        |0,hi=>
         simp only [List.getElem?_cons_zero,Option.some.injEq] at hi;subst hi;exact⟨⟨_,ho,sh,x!⟩,rfl⟩
        |i+1,hi=>simp at hi
      . grind
      . intro k k' b hk fj _ _;rcases hk with⟨i,ab,rfl,_,hi⟩|⟨j,_,hj⟩
        . rcases fj with⟨i',Df,rfl,_,fN⟩|⟨j,_,hj⟩
          . grind
          grind
        . simp at hj
     . have VC:g0<w.heap.size:=(Q!.1 VA).1;simp only [O?,List.length_nil,r?,Nat.mul_one] at dQ AF
       have Wj:∀j,j<l.length->cur[j]? =some (encS (l.toArray)[j]!):=λj hj=>by
        have h1:(cur.toList.take l.length)[j]? =some (encS l[j]):=by rw [AF,B?,D! hj];rfl
        rw [o?,M! hj,U?] at h1;rw [h1];simp [hj]
       have hH:Holds encS w g0 0 l.toArray:=λj hj=>by
        have gn:j<l.length:=by simpa using hj
        refine⟨?_,?_⟩
        . simp only [World.cell?,VA];simpa using Wj j gn
        . simp only [World.frozen?,VA];simp
       rw [ġ,hv];have hc:=Any.slices_SortFunc_total L encS (λ_=>rfl) S.lL ahR g #[] g0 0 cap l.toArray w eg (λm os dk _ x y=>(aIS x y _).mono λex w' ⟨he,hw⟩=>⟨he,0, #[],by rw [hw];rfl⟩) hH VC x! YN
       have e1:(l.toArray.toList.mergeSort λx y=>!(ltOf S.lL) y x)=S.fm l:=by
        unfold S.fm;simp only [List.toList_toArray,Cs]
       rw [e1] at hc;refine hc.mono λex w' ⟨he,n,os,hw⟩=>?_;have hw0:(putRow encS (Go.Sort.ahead w n) g0 0 (S.fm l).toArray).heap[g0]? =some (.cells (putCells encS 0 (S.fm l).toArray cur) e (0,0)):=HW encS (Go.Sort.ahead w n) g0 0 _ VA
       have hg1:w'.heap[g0]? =some (.cells (putCells encS 0 (S.fm l).toArray cur) e (0,0)):=by
        grind[sortWorld,grow,Array.getElem?_append_left,size_putRow]
       have Au:∀b,b<w.heap.size->b≠g0->w'.heap[b]? =w.heap[b]? :=λb hb fh=>by
        grind[sortWorld,grow,Array.getElem?_append_left,size_putRow,Aa,encS,Go.Sort.ahead]
       have oC:w.heap.size<=w'.heap.size:=by
        rw [hw];unfold sortWorld grow;simp only [Array.size_append,size_putRow];exact Nat.le_add_right _ _
       have hHM:HM β 1 g0:=⟨0,w!,by rw [show β (50000+0)=β 50000 from rfl,hv];rfl⟩;have azD:¬A g0:=lR g0 (by rw [hv];rfl);refine⟨_,he,A,β,{os:=by rw [hw];rfl,tape:=by rw [hw];rfl,output:=by rw [hw];rfl,size:=oC,same:= ?_,mono:= ?_,iP:=λ_ _ h=>.inl h,bound:=λb h=>I? (hA b h) oC,res:=by simp only [aa];exact⟨#[],rfl,by rfl⟩,kept:= ?_,rows:= ?_,apart:= ?_}⟩
       . grind
       . grind
       . intro i ab hi;match i,hi with
         |0,hi=>
          simp only [c?,A!] at hi;subst hi;refine⟨⟨(S.fm l).map encS,⟨z!,.inr ⟨g0,cap,_,?_,U! _,hg1,w!,VB,by rw [Cu];simpa using dQ,?_⟩⟩,De _ Gk,by simpa using lR⟩,rfl⟩
          . rw [PR];exact hv
          grind[Ct]
         |i+1,hi=>simp at hi
       . intro j ab hj;simp at hj
       . intro k k' b hk fj _ _;rcases hk with⟨i,ab,rfl,_,hi⟩|⟨j,_,hj⟩
         . rcases fj with⟨i',Df,rfl,_,fN⟩|⟨j,_,hj⟩
           . match i,i',hi,fN with
             |0,0,_,_=>rfl
             |i+1,_,hi,_=>simp at hi
             |0,i+1,_,fN=>simp at fN
           . simp at hj
         . simp at hj
   grind
 grind
def Ģ {P:Program}{f:FuncId}{args:Array Value}{w:World}{A:Nat->Prop}{β:Nat->Value}{e nn:Nat}{l m:O}(hm:m.Perm l)(hA:∀b,A b->b<w.heap.size)(hn:nn=1)
  (hb:BR w A β 50000 (.row e [.str] l false)) (hlen:l.length<=1099511627776)
  (rv:β 50000= .slice none 0 0->l=[]->Calls P f args w λex w'=>ex= .returned (.tuple #[])/\w'=w)
  (aoI:∀g0 cap,β 50000= .slice (some ⟨g0,0,none⟩) l.length cap->Holds encS w g0 0 l.toArray->g0<w.heap.size->l.length<4611686018427387904->Calls P f args w λex w'=>ex= .returned (.tuple #[])/\∃n os,w'=grow (putRow encS (Go.Sort.ahead w n) g0 0 m.toArray) os):
  Calls P f args w λex w'=>∃v,ex= .returned v/\∃A' az,It w A β nn w' v {pre:=l.length<=1099511627776,res:=.bf [],heap:=[some (.row e [.str] m false)],new:=[]} A' az:=by
 obtain⟨xs,ho,sh,lR⟩:=hb;obtain⟨rfl,hl⟩:=Cr l xs sh;have Gk:∀s∈m,s.length<=maxLen:=λs jW=>hl s (hm.subset jW);have PR:m.length=l.length:=hm.length_eq;simp only [L?,n?] at lR;rcases ho.2 with⟨VV,hn2⟩|⟨g0,cap,cur,hv,_,VA,Q9,VB,dQ,AF⟩
 . 
  have Ta:l=[]:=d?.1 hn2;subst Ta;have Zh:m=[]:=d?.1 PR;rw [Zh];refine(rv VV rfl).mono λex w' ⟨he,hw⟩=>?_;subst hw;refine⟨_,he,A,β,{os:=rfl,tape:=rfl,output:=rfl,size:=S! _,same:=λ_ _ _=>rfl,mono:=λb h=>⟨h,rfl⟩,iP:=λ_ _ h=>.inl h,bound:=hA,res:=by simp only [aa];exact⟨#[],rfl,by rfl⟩,kept:= ?_,rows:= ?_,apart:= ?_}⟩
  . intro i ab hi;match i,hi with
    |0,hi=>
     simp only [List.getElem?_cons_zero,Option.some.injEq] at hi;subst hi;exact⟨⟨_,ho,sh,x!⟩,rfl⟩
    |i+1,hi=>grind
  . grind
  . intro k k' b hk fj _ _;rcases hk with⟨i,ab,rfl,_,hi⟩|⟨j,_,hj⟩
    . rcases fj with⟨i',Df,rfl,_,fN⟩|⟨j,_,hj⟩
      . match i,i',hi,fN with
        |0,0,_,_=>rfl
        |i+1,_,hi,_=>simp at hi
        |0,i+1,_,fN=>simp at fN
      . simp at hj
    grind
 . have VC:g0<w.heap.size:=(Q!.1 VA).1;simp only [O?,List.length_nil,r?,Nat.mul_one] at dQ AF
   have Wj:∀j,j<l.length->cur[j]? =some (encS (l.toArray)[j]!):=λj hj=>by
    have h1:(cur.toList.take l.length)[j]? =some (encS l[j]):=by rw [AF,B?,D! hj];rfl
    rw [o?,M! hj,U?] at h1;rw [h1];simp [hj]
   have hH:Holds encS w g0 0 l.toArray:=λj hj=>by
    have gn:j<l.length:=by simpa using hj
    refine⟨?_,?_⟩
    . simp only [World.cell?,VA];simpa using Wj j gn
    . simp only [World.frozen?,VA];simp
   refine(aoI g0 cap hv hH VC w!).mono λex w' ⟨he,n,os,hw⟩=>?_;have hw0:(putRow encS (Go.Sort.ahead w n) g0 0 m.toArray).heap[g0]? =some (.cells (putCells encS 0 m.toArray cur) e (0,0)):=HW encS (Go.Sort.ahead w n) g0 0 _ VA
   have hg1:w'.heap[g0]? =some (.cells (putCells encS 0 m.toArray cur) e (0,0)):=by
    rw [hw];unfold grow;simp only;rw [Array.getElem?_append_left (by rw [size_putRow];exact VC)];exact hw0
   have Au:∀b,b<w.heap.size->b≠g0->w'.heap[b]? =w.heap[b]? :=λb hb fh=>by
    rw [hw];unfold grow;simp only;rw [Array.getElem?_append_left (by rw [size_putRow];exact hb),Aa encS (Go.Sort.ahead w n) g0 0 b _ fh];rfl
   have oC:w.heap.size<=w'.heap.size:=by
    rw [hw];unfold grow;simp only [Array.size_append,size_putRow];exact Nat.le_add_right _ _
   have hHM:HM β 1 g0:=⟨0,w!,by rw [show β (50000+0)=β 50000 from rfl,hv];rfl⟩;have azD:¬A g0:=lR g0 (by rw [hv];rfl);refine⟨_,he,A,β,{os:=by rw [hw];rfl,tape:=by rw [hw];rfl,output:=by rw [hw];rfl,size:=oC,same:= ?_,mono:= ?_,iP:=λ_ _ h=>.inl h,bound:=λb h=>I? (hA b h) oC,res:=by simp only [aa];exact⟨#[],rfl,by simp [ae]⟩,kept:= ?_,rows:= ?_,apart:= ?_}⟩
   . intro b hb fh;rw [hn] at fh;exact Au b hb (λh=>fh (h▸hHM))
   . intro b Li;exact⟨Li,Au b (hA b Li) (λh=>azD (h▸Li))⟩
   . intro i ab hi;match i,hi with
     |0,hi=>
      simp only [c?,A!] at hi;subst hi;refine⟨⟨m.map encS,⟨z!,.inr ⟨g0,cap,_,?_,U! _,hg1,w!,VB,by rw [Cu];simpa using dQ,?_⟩⟩,De _ Gk,by simpa using lR⟩,rfl⟩
      . rw [PR];exact hv
      . have:=Ct m cur w!;simpa using this
     |i+1,hi=>simp at hi
   . intro j ab hj;simp at hj
   . intro k k' b hk fj _ _;rcases hk with⟨i,ab,rfl,_,hi⟩|⟨j,_,hj⟩
     . rcases fj with⟨i',Df,rfl,_,fN⟩|⟨j,_,hj⟩
       . match i,i',hi,fN with
         |0,0,_,_=>rfl
         |i+1,_,hi,_=>simp at hi
         |0,i+1,_,fN=>simp at fN
       . simp at hj
     . simp at hj
def KX{f:FuncId}{e:Nat}{m:O->O}(hm:∀l,(m l).Perm l)
  {F:Row (TA.dp [.own 50000])->fB [.row e [.str]]->bo}
  (hF:∀l:O,F () (l,())= {pre:=l.length<=1099511627776,res:=.bf [],heap:=[some (.row e [.str] (m l) false)],new:=[]})
  (rv:∀w,Calls P f #[.slice none 0 0] w λex w'=>ex= .returned (.tuple #[])/\w'=w)
  (aoI:∀(l:O) w g0 cap,Holds encS w g0 0 l.toArray->g0<w.heap.size->l.length<4611686018427387904->Calls P f #[.slice (some ⟨g0,0,none⟩) l.length cap] w λex w'=>ex= .returned (.tuple #[])/\∃n os,w'=grow (putRow encS (Go.Sort.ahead w n) g0 0 (m l).toArray) os):
  aF P G f (bI [.own 50000] [.row e [.str]] F):=by
 intro w A β args bc hs r hA hG bm fi vr oc hp hlen DW;unfold bI at oc;split at oc
 . rename_i cs dX;split at oc
   . rename_i x y hx hy;obtain⟨l,u⟩:=y;simp only [Option.some.injEq] at oc;have hxu:x=():=rfl;subst hxu;rw [hF l] at oc;subst oc;obtain⟨g1,g2⟩:=CR dX hx bm;obtain⟨q1,q2,q3⟩:=GV (w:=w) (A:=A) (β:=β) [.row e [.str]] hs (l,u) 50000 hy fi;have hb:=q2 0 (.row e [.str] l false) rfl;have aoG:hs.length=1:=by grind
     simp only [TA.qm,TA.put,ae] at g1;obtain⟨v0,b7,rfl,ġ,rfl⟩:=g1;simp [aa] at ġ;refine Ģ (hm l) hA aoG hb hp (λVV _=>?_) (λg0 cap hv hH hg hl=>?_)
     . grind
     grind
   grind
 grind
def ahS(l:O):(l.mergeSort λx y=>decide (x<=y))=S.fm l:=by
 grind[S.fm,bytesLess_eq,decide_eq_true,decide_eq_false]
def Lt(L:SlLaysM.n6 P ρ){e:Nat}{F:Row (TA.dp [.own 50000])->fB [.row e [.str]]->bo}
  (hF:∀l:O,F () (l,())= {pre:=l.length<=1099511627776,res:=.bf [],heap:=[some (.row e [.str] (S.fm l) false)],new:=[]}):
  aF P G (ρ.f 6) (bI [.own 50000] [.row e [.str]] F):=
 KX S.BC hF (AnyM.slices_Sort_string_none L none 0) (λl w g0 cap hH hg hl=>by
  have hc:=AnyM.slices_Sort_string L g0 0 cap l w hH hg hl;rw [ahS] at hc;exact hc)
def PT(L:SlLaysN.n36 P ρ){e:Nat}{F:Row (TA.dp [.own 50000])->fB [.row e [.str]]->bo}
  (hF:∀l:O,F () (l,())= {pre:=l.length<=1099511627776,res:=.bf [],heap:=[some (.row e [.str] (S.OH l) false)],new:=[]}):
  aF P G (ρ.f 36) (bI [.own 50000] [.row e [.str]] F):=
 KX List.reverse_perm hF (AnyG.slices_Reverse_string_empty L none 0) (λl w g0 cap hH hg hl=>
  (AnyG.slices_Reverse_string L g0 0 cap l w hH w!).mono λex w' ⟨he,n,hw⟩=>⟨he,n, #[],by rw [hw];rfl⟩)
end Go.Vg
namespace Go.Proofs
open Go.Shelf
def Tryz.KY:Go.Shelf.Ren:=⟨λ|7=>218|10=>284|n=>n,λ|23=>305|26=>9|3=>27|28=>308|0=>0|27=>307|33=>123|4=>4|n=>n,λ|n=>n⟩
def Tryz.afF:Go.Proofs.SlLaysZ.n7 Tryz.prog Tryz.KY:={
 mixed:=by kernel_rfl
 f7:=⟨Tryz.f218.name,by decide,Tryz.func218.trans (congrArg some y!)⟩
 f10:=⟨Tryz.f284.name,by decide,Tryz.func284.trans (congrArg some y!)⟩
 t0:=Tryz.underlying0
 a0:=Tryz.isAgg0
 z0:=Tryz.sizeOf0
 v0:=Tryz.zeroValue0
 t4:=Tryz.underlying4
 a4:=Tryz.isAgg4
 z4:=Tryz.sizeOf4
 v4:=Tryz.zeroValue4
 t23:=Tryz.underlying305
 a23:=Tryz.isAgg305
 z23:=Tryz.sizeOf305
 v23:=Tryz.zeroValue305
 t26:=Tryz.underlying9
 a26:=Tryz.isAgg9
 z26:=Tryz.sizeOf9
 v26:=Tryz.zeroValue9
 t27:=Tryz.underlying307
 a27:=Tryz.isAgg307
 z27:=Tryz.sizeOf307
 v27:=Tryz.zeroValue307
 t28:=Tryz.underlying308
 a28:=Tryz.isAgg308
 z28:=Tryz.sizeOf308
 v28:=Tryz.zeroValue308
 t33:=Tryz.underlying123
 a33:=Tryz.isAgg123
 z33:=Tryz.sizeOf123
 v33:=Tryz.zeroValue123}
def Tryz.Ek:Go.Shelf.Ren:=⟨λ|6=>217|8=>283|9=>97|11=>310|13=>185|12=>184|23=>265|24=>266|14=>257|15=>258|16=>259|17=>260|18=>261|19=>262|20=>191|21=>263|22=>264|25=>298|26=>299|27=>300|28=>301|29=>302|30=>270|31=>314|n=>n,λ|26=>9|28=>308|24=>56|0=>0|3=>3|37=>283|48=>323|50=>357|4=>4|40=>350|39=>349|45=>193|5=>5|9=>9|51=>380|55=>384|57=>396|58=>341|33=>123|n=>n,λ|n=>n⟩
def Tryz.ahT:Go.Proofs.SlLaysZ.n6 Tryz.prog Tryz.Ek:={
 mixed:=by kernel_rfl
 f6:=⟨Tryz.f217.name,by decide,Tryz.func217.trans (congrArg some y!)⟩
 f8:=⟨Tryz.f283.name,by decide,Tryz.func283.trans (congrArg some y!)⟩
 f11:=⟨Tryz.f310.name,by decide,Tryz.func310.trans (congrArg some y!)⟩
 t0:=Tryz.underlying0
 a0:=Tryz.isAgg0
 z0:=Tryz.sizeOf0
 v0:=Tryz.zeroValue0
 t24:=Tryz.underlying56
 a24:=Tryz.isAgg56
 z24:=Tryz.sizeOf56
 v24:=Tryz.zeroValue56
 t26:=Tryz.underlying9
 a26:=Tryz.isAgg9
 z26:=Tryz.sizeOf9
 v26:=Tryz.zeroValue9
 t28:=Tryz.underlying308
 a28:=Tryz.isAgg308
 z28:=Tryz.sizeOf308
 v28:=Tryz.zeroValue308
 i26:=by kernel_rfl}
def Tryz.YO:Go.Shelf.Ren:=⟨λ|6=>97|8=>185|9=>184|19=>265|20=>266|21=>257|22=>258|23=>259|24=>260|25=>261|26=>262|27=>191|28=>263|29=>264|36=>298|31=>299|32=>300|37=>301|38=>302|39=>270|41=>314|n=>n,λ|27=>56|29=>9|3=>3|32=>283|26=>56|0=>0|44=>323|46=>357|4=>4|36=>350|35=>349|41=>193|5=>5|9=>9|53=>380|57=>384|63=>396|64=>341|n=>n,λ|n=>n⟩
def Tryz.VD:Go.Proofs.SlLaysM.n6 Tryz.prog Tryz.YO:={
 mixed:=by kernel_rfl
 f6:=⟨Tryz.f97.name,by decide,Tryz.func97.trans (congrArg some y!)⟩
 f8:=Tryz.func185.trans (congrArg some y!)
 f9:=⟨Tryz.f184.name,by decide,Tryz.func184.trans (congrArg some y!)⟩
 f19:=Tryz.func265.trans (congrArg some y!)
 f20:=Tryz.func266.trans (congrArg some y!)
 f21:=⟨Tryz.f257.name,by decide,Tryz.func257.trans (congrArg some y!)⟩
 f22:=⟨Tryz.f258.name,by decide,Tryz.func258.trans (congrArg some y!)⟩
 f23:=⟨Tryz.f259.name,by decide,Tryz.func259.trans (congrArg some y!)⟩
 f24:=⟨Tryz.f260.name,by decide,Tryz.func260.trans (congrArg some y!)⟩
 f25:=⟨Tryz.f261.name,by decide,Tryz.func261.trans (congrArg some y!)⟩
 f26:=⟨Tryz.f262.name,by decide,Tryz.func262.trans (congrArg some y!)⟩
 f27:=⟨Tryz.f191.name,by decide,Tryz.func191.trans (congrArg some y!)⟩
 f28:=⟨Tryz.f263.name,by decide,Tryz.func263.trans (congrArg some y!)⟩
 f29:=⟨Tryz.f264.name,by decide,Tryz.func264.trans (congrArg some y!)⟩
 f31:=Tryz.func299.trans (congrArg some y!)
 f32:=Tryz.func300.trans (congrArg some y!)
 f36:=⟨Tryz.f298.name,by decide,Tryz.func298.trans (congrArg some y!)⟩
 f37:=⟨Tryz.f301.name,by decide,Tryz.func301.trans (congrArg some y!)⟩
 f38:=⟨Tryz.f302.name,by decide,Tryz.func302.trans (congrArg some y!)⟩
 f39:=⟨Tryz.f270.name,by decide,Tryz.func270.trans (congrArg some y!)⟩
 f41:=⟨Tryz.f314.name,by decide,Tryz.func314.trans (congrArg some y!)⟩
 t0:=Tryz.underlying0
 a0:=Tryz.isAgg0
 z0:=Tryz.sizeOf0
 v0:=Tryz.zeroValue0
 t3:=Tryz.underlying3
 a3:=Tryz.isAgg3
 z3:=Tryz.sizeOf3
 v3:=Tryz.zeroValue3
 t4:=Tryz.underlying4
 a4:=Tryz.isAgg4
 z4:=Tryz.sizeOf4
 v4:=Tryz.zeroValue4
 t5:=Tryz.underlying5
 a5:=Tryz.isAgg5
 z5:=Tryz.sizeOf5
 v5:=Tryz.zeroValue5
 t9:=Tryz.underlying9
 a9:=Tryz.isAgg9
 z9:=Tryz.sizeOf9
 v9:=Tryz.zeroValue9
 t26:=Tryz.underlying56
 a26:=Tryz.isAgg56
 z26:=Tryz.sizeOf56
 v26:=Tryz.zeroValue56
 t27:=Tryz.underlying56
 a27:=Tryz.isAgg56
 z27:=Tryz.sizeOf56
 v27:=Tryz.zeroValue56
 t29:=Tryz.underlying9
 a29:=Tryz.isAgg9
 z29:=Tryz.sizeOf9
 v29:=Tryz.zeroValue9
 t32:=Tryz.underlying283
 a32:=Tryz.isAgg283
 z32:=Tryz.sizeOf283
 v32:=Tryz.zeroValue283
 t35:=Tryz.underlying349
 a35:=Tryz.isAgg349
 z35:=Tryz.sizeOf349
 v35:=Tryz.zeroValue349
 t36:=Tryz.underlying350
 a36:=Tryz.isAgg350
 z36:=Tryz.sizeOf350
 v36:=Tryz.zeroValue350
 t41:=Tryz.underlying193
 a41:=Tryz.isAgg193
 z41:=Tryz.sizeOf193
 v41:=Tryz.zeroValue193
 t44:=Tryz.underlying323
 a44:=Tryz.isAgg323
 z44:=Tryz.sizeOf323
 v44:=Tryz.zeroValue323
 t46:=Tryz.underlying357
 a46:=Tryz.isAgg357
 z46:=Tryz.sizeOf357
 v46:=Tryz.zeroValue357
 t53:=Tryz.underlying380
 a53:=Tryz.isAgg380
 z53:=Tryz.sizeOf380
 v53:=Tryz.zeroValue380
 t57:=Tryz.underlying384
 a57:=Tryz.isAgg384
 z57:=Tryz.sizeOf384
 v57:=Tryz.zeroValue384
 t63:=Tryz.underlying396
 a63:=Tryz.isAgg396
 z63:=Tryz.sizeOf396
 v63:=Tryz.zeroValue396
 t64:=Tryz.underlying341
 a64:=Tryz.isAgg341
 z64:=Tryz.sizeOf341
 v64:=Tryz.zeroValue341}
def Tryz.PU:Go.Shelf.Ren:=⟨λ|42=>306|n=>n,λ|25=>56|26=>9|4=>4|n=>n,λ|n=>n⟩
def Tryz.ģ:Go.Proofs.SlLaysN.n42 Tryz.prog Tryz.PU:={
 mixed:=by kernel_rfl
 f42:=⟨Tryz.f306.name,by decide,Tryz.func306.trans (congrArg some y!)⟩
 t4:=Tryz.underlying4
 a4:=Tryz.isAgg4
 z4:=Tryz.sizeOf4
 v4:=Tryz.zeroValue4
 t25:=Tryz.underlying56
 a25:=Tryz.isAgg56
 z25:=Tryz.sizeOf56
 v25:=Tryz.zeroValue56
 t26:=Tryz.underlying9
 a26:=Tryz.isAgg9
 z26:=Tryz.sizeOf9
 v26:=Tryz.zeroValue9
 i26:=by kernel_rfl}
def Tryz.PV:Go.Shelf.Ren:=⟨λ|41=>105|n=>n,λ|22=>27|23=>3|4=>4|n=>n,λ|n=>n⟩
def Tryz.Ĥ:Go.Proofs.SlLaysN.n41 Tryz.prog Tryz.PV:={
 mixed:=by kernel_rfl
 f41:=⟨Tryz.f105.name,by decide,Tryz.func105.trans (congrArg some y!)⟩
 t4:=Tryz.underlying4
 a4:=Tryz.isAgg4
 z4:=Tryz.sizeOf4
 v4:=Tryz.zeroValue4
 t22:=Tryz.underlying27
 a22:=Tryz.isAgg27
 z22:=Tryz.sizeOf27
 v22:=Tryz.zeroValue27
 t23:=Tryz.underlying3
 a23:=Tryz.isAgg3
 z23:=Tryz.sizeOf3
 v23:=Tryz.zeroValue3
 i23:=by kernel_rfl}
def Tryz.ĥ:Go.Shelf.Ren:=⟨λ|6=>307|15=>185|14=>316|28=>265|29=>266|20=>319|21=>320|22=>321|23=>322|24=>323|25=>324|26=>325|27=>326|46=>327|47=>299|48=>300|49=>328|50=>329|57=>330|n=>n,λ|22=>56|24=>9|25=>368|3=>3|39=>283|0=>0|53=>323|55=>357|4=>4|46=>350|45=>349|50=>193|5=>5|9=>9|66=>380|70=>384|76=>396|77=>341|n=>n,λ|n=>n⟩
def Tryz.aFh:Go.Proofs.SlLaysF.n6 Tryz.prog Tryz.ĥ:={
 mixed:=by kernel_rfl
 f6:=⟨Tryz.f307.name,by decide,Tryz.func307.trans (congrArg some y!)⟩
 f14:=⟨Tryz.f316.name,by decide,Tryz.func316.trans (congrArg some y!)⟩
 f15:=Tryz.func185.trans (congrArg some y!)
 f20:=⟨Tryz.f319.name,by decide,Tryz.func319.trans (congrArg some y!)⟩
 f21:=⟨Tryz.f320.name,by decide,Tryz.func320.trans (congrArg some y!)⟩
 f22:=⟨Tryz.f321.name,by decide,Tryz.func321.trans (congrArg some y!)⟩
 f23:=⟨Tryz.f322.name,by decide,Tryz.func322.trans (congrArg some y!)⟩
 f24:=⟨Tryz.f323.name,by decide,Tryz.func323.trans (congrArg some y!)⟩
 f25:=⟨Tryz.f324.name,by decide,Tryz.func324.trans (congrArg some y!)⟩
 f26:=⟨Tryz.f325.name,by decide,Tryz.func325.trans (congrArg some y!)⟩
 f27:=⟨Tryz.f326.name,by decide,Tryz.func326.trans (congrArg some y!)⟩
 f28:=Tryz.func265.trans (congrArg some y!)
 f29:=Tryz.func266.trans (congrArg some y!)
 f46:=⟨Tryz.f327.name,by decide,Tryz.func327.trans (congrArg some y!)⟩
 f47:=Tryz.func299.trans (congrArg some y!)
 f48:=Tryz.func300.trans (congrArg some y!)
 f49:=⟨Tryz.f328.name,by decide,Tryz.func328.trans (congrArg some y!)⟩
 f50:=⟨Tryz.f329.name,by decide,Tryz.func329.trans (congrArg some y!)⟩
 f57:=⟨Tryz.f330.name,by decide,Tryz.func330.trans (congrArg some y!)⟩
 t0:=Tryz.underlying0
 a0:=Tryz.isAgg0
 z0:=Tryz.sizeOf0
 v0:=Tryz.zeroValue0
 t3:=Tryz.underlying3
 a3:=Tryz.isAgg3
 z3:=Tryz.sizeOf3
 v3:=Tryz.zeroValue3
 t4:=Tryz.underlying4
 a4:=Tryz.isAgg4
 z4:=Tryz.sizeOf4
 v4:=Tryz.zeroValue4
 t5:=Tryz.underlying5
 a5:=Tryz.isAgg5
 z5:=Tryz.sizeOf5
 v5:=Tryz.zeroValue5
 t9:=Tryz.underlying9
 a9:=Tryz.isAgg9
 z9:=Tryz.sizeOf9
 v9:=Tryz.zeroValue9
 t22:=Tryz.underlying56
 a22:=Tryz.isAgg56
 z22:=Tryz.sizeOf56
 v22:=Tryz.zeroValue56
 a24:=Tryz.isAgg9
 z24:=Tryz.sizeOf9
 t25:=Tryz.underlying368
 a25:=Tryz.isAgg368
 z25:=Tryz.sizeOf368
 v25:=Tryz.zeroValue368
 t39:=Tryz.underlying283
 a39:=Tryz.isAgg283
 z39:=Tryz.sizeOf283
 v39:=Tryz.zeroValue283
 t45:=Tryz.underlying349
 a45:=Tryz.isAgg349
 z45:=Tryz.sizeOf349
 v45:=Tryz.zeroValue349
 t46:=Tryz.underlying350
 a46:=Tryz.isAgg350
 z46:=Tryz.sizeOf350
 v46:=Tryz.zeroValue350
 t50:=Tryz.underlying193
 a50:=Tryz.isAgg193
 z50:=Tryz.sizeOf193
 v50:=Tryz.zeroValue193
 t53:=Tryz.underlying323
 a53:=Tryz.isAgg323
 z53:=Tryz.sizeOf323
 v53:=Tryz.zeroValue323
 t55:=Tryz.underlying357
 a55:=Tryz.isAgg357
 z55:=Tryz.sizeOf357
 v55:=Tryz.zeroValue357
 t66:=Tryz.underlying380
 a66:=Tryz.isAgg380
 z66:=Tryz.sizeOf380
 v66:=Tryz.zeroValue380
 t70:=Tryz.underlying384
 a70:=Tryz.isAgg384
 z70:=Tryz.sizeOf384
 v70:=Tryz.zeroValue384
 t76:=Tryz.underlying396
 a76:=Tryz.isAgg396
 z76:=Tryz.sizeOf396
 v76:=Tryz.zeroValue396
 t77:=Tryz.underlying341
 a77:=Tryz.isAgg341
 z77:=Tryz.sizeOf341
 v77:=Tryz.zeroValue341}
def Tryz.YP:Go.Shelf.Ren:=⟨λ|36=>174|n=>n,λ|25=>56|26=>9|3=>3|4=>4|0=>0|n=>n,λ|n=>n⟩
def Tryz.axJ:Go.Proofs.SlLaysN.n36 Tryz.prog Tryz.YP:={
 mixed:=by kernel_rfl
 f36:=⟨Tryz.f174.name,by decide,Tryz.func174.trans (congrArg some y!)⟩
 t0:=Tryz.underlying0
 a0:=Tryz.isAgg0
 z0:=Tryz.sizeOf0
 v0:=Tryz.zeroValue0
 t3:=Tryz.underlying3
 a3:=Tryz.isAgg3
 z3:=Tryz.sizeOf3
 v3:=Tryz.zeroValue3
 t4:=Tryz.underlying4
 a4:=Tryz.isAgg4
 z4:=Tryz.sizeOf4
 v4:=Tryz.zeroValue4
 t25:=Tryz.underlying56
 a25:=Tryz.isAgg56
 z25:=Tryz.sizeOf56
 v25:=Tryz.zeroValue56
 t26:=Tryz.underlying9
 a26:=Tryz.isAgg9
 z26:=Tryz.sizeOf9
 v26:=Tryz.zeroValue9}
end Go.Proofs
namespace Go.Proofs
open Go.RowKit Go.Maps Go.Sort Go.Shelf
def Tryz.aoJ(m:Nat):AnyZ.SortsIn Tryz.prog Tryz.Ek Fence.wide m:=
 ⟨λtz off cap ss W hH hblk dQ=>callsIn_wide.2 (AnyM.slices_Sort_string Tryz.VD tz off cap ss W hH hblk dQ),
  λp cap W=>callsIn_wide.2 (AnyM.slices_Sort_string_none Tryz.VD p cap W)⟩
def Tryz.QX(mb:Option Nat)(W:World):CallsIn Fence.wide 5 Tryz.prog 218 #[.map mb] W λe w'=>e= .returned (.func (.func 284) #[] #[.pointer (some ⟨W.heap.size,0,none⟩)])/\w'=W.alloc (.cells #[.map mb] 305):=
 AnyZ.keys_in Tryz.afF Fence.wide 5 trivial rfl mb W
set_option maxHeartbeats 1000000 in
theorem Tryz.vC {H:Type}(b nn:Nat)(D0:DataW H)(R:Value->Option (DataW H×M MemPlace))(w:World)(j9:w.ownsMap Tryz.prog 9 R b nn D0)(aaZ:Maps.size D0<=maxLen)(CB:Maps.size D0*16<=140737488355328):
  CallsIn Fence.wide 5 Tryz.prog 217 #[.func (.func 284) #[] #[.pointer (some ⟨w.heap.size,0,none⟩)]] (w.alloc (.cells #[.map (some b)] 305)) λe w'=>∃(v:Value) (ss:O),e= .returned v/\ss.Perm (strKeys D0)/\
   w'.ownsRow (w.alloc (.cells #[.map (some b)] 305)).heap.size 9 1 v ss.length ((ss.mergeSort (λx y=>decide (x<=y))).map encStr)/\(v= .slice none 0 0↔ss=[])/\Below (w.alloc (.cells #[.map (some b)] 305)).heap.size (w.alloc (.cells #[.map (some b)] 305)) w':=by
 have y6:=j9.lt
 have Rw:SeqGives Fence.wide 2 Tryz.prog 284 #[.pointer (some ⟨w.heap.size,0,none⟩)] encStr (λss=>ss.Perm (strKeys D0)) (Maps.size D0) (w.alloc (.cells #[.map (some b)] 305)):=
  AnyZ.keys_gives (ρ:=Tryz.KY) {Tryz.afF with} Fence.wide _ trivial rfl w! w.heap.size b nn D0 _ z! z! (by
   obtain⟨es,clock,hb,Ft,hs,hD⟩:=j9;exact⟨es,clock,(Below.heap_alloc _ _ b y6).trans hb,Ft,hs,hD⟩)
 exact AnyZ.sorted_in Tryz.ahT Fence.wide 5 trivial trivial trivial trivial rfl w! (Tryz.aoJ _) (enters_of Tryz.func97 y! rfl) 284 #[.pointer (some ⟨w.heap.size,0,none⟩)] trivial (enters_of Tryz.func284 y! rfl) _ _ aaZ CB _ Rw
end Go.Proofs
namespace Go.Proofs
open Go.Shelf Go.RowKit Go.Lib Go.Sort
variable {x y:B8}{G:Nat->Option Vg.GD}{F:Vg.Row (Vg.TA.dp [.own 50000])->Vg.fB [.row 9 [.str]]->Vg.bo}
theorem axK(h:Op.bytesLess x y=true):S.lL x y= -1:=by unfold S.lL;rw [if_pos h]
def axL(h:Op.bytesLess x y=false)(h2:(!x==y)=true):S.lL x y=1:=by
 have fh:x≠y:=by simpa using h2
 unfold S.lL;rw [h];rcases S.pd x y with t|t|t
 . rw [t] at h;cases h
 . exact absurd t fh
 . rw [t];rfl
def axM(h:Op.bytesLess x y=false)(h2:(!x==y)=false):S.lL x y=0:=by
 have he:x=y:=by simpa using h2
 subst he;unfold S.lL;rw [h];rfl
def Tryz.Ħ(x:ByteArray)(w:World):Calls Tryz.prog 270 #[.string x] w λe w'=>e= .returned (.bool false)/\w'=w:=by
 go_enter Tryz.func270,Tryz.ntmps270
 go_wp2
 go_ret
 exact⟨z!,rfl⟩
set_option maxHeartbeats 1000000 in
def Tryz.VE(x y:B8)(w:World):Calls Tryz.prog 282 #[Vg.encS x,Vg.encS y] w λe w'=>e= .returned (.int .i64 (S.lL x y))/\w'=w:=by
 unfold Vg.encS;go_enter Tryz.func282,Tryz.ntmps282
 go_wp2_with (go_at_call 270;refine(Tryz.Ħ _ _).mono ?_;rintro e w' ⟨rfl,rfl⟩)
 all_goals go_ret
 all_goals refine⟨?_,rfl⟩
 all_goals first
  |(rw [axK (by assumption)];rfl)
  |(rw [axL (by assumption) (by assumption)];rfl)
  |(rw [axM (by assumption) (by assumption)];rfl)
def Tryz.axN{F:Vg.Row (Vg.TA.dp [.own 50000,.fn (.func 282) [] []])->Vg.fB [.row 9 [.str]]->Vg.bo}
  (hF:∀l:O,F () (l,())= {pre:=l.length<=1099511627776,res:=.bf [],heap:=[some (.row 9 [.str] (S.fm l) false)],new:=[]}):
  Vg.aF Tryz.prog G 307 (Vg.bI [.own 50000,.fn (.func 282) [] []] [.row 9 [.str]] F):=
 Vg.Ls Tryz.aFh (enters_of Tryz.func282 y! rfl) Tryz.VE hF
def Tryz.aoK
 (hF:∀l:O,F () (l,())= {pre:=l.length<=1099511627776,res:=.bf [],heap:=[some (.row 9 [.str] (S.fm l) false)],new:=[]}):
 Vg.aF Tryz.prog G 97 (Vg.bI [.own 50000] [.row 9 [.str]] F):=Vg.Lt Tryz.VD hF
def Tryz.aFi
 (hF:∀l:O,F () (l,())= {pre:=l.length<=1099511627776,res:=.bf [],heap:=[some (.row 9 [.str] (S.OH l) false)],new:=[]}):
 Vg.aF Tryz.prog G 174 (Vg.bI [.own 50000] [.row 9 [.str]] F):=Vg.PT Tryz.axJ hF
end Go.Proofs
namespace Go.DM
open Go Go.Vg Go.Maps Go.RowKit Go.ChangeShapes
variable {H:Type}{base n b:Nat}{e:TypeId}{v:Value}{w w':World}{zs:List Int}{Q:Nat->Prop}{P:Program}{q:IntKind}{s:B8}
def items:DataW H->U
 |.slice ls _=>ls.filterMap λd=>match d with|.lit (.int _ z)=>some z|_=>none
 |_=>[]
def YQ(zs:U):items (H:=H) (.slice (lits .i64 zs) [])=zs:=by
 induction zs with
 |nil=>rfl
 |cons z zs ih=>
  simp only [items,lits,G?,List.filterMap_cons] at ih |-;rw [ih]
def FF(h:w.ownsInts base e .i64 v zs):items (H:=H) (rowDatum .i64 v zs)=zs:=by
 rcases h.datum (H:=H) with⟨h1,h2⟩|h1
 . rw [h1,h2];rfl
 . rw [h1];exact YQ zs
def Repr(D:DataW H)(m:B8->U):Prop:=IsMap D/\∀s,items (D.atKey (.string s) .nil)=m s/\(has D (.string s)=true↔m s≠ [])
def Repr.empty:Repr (H:=H) (.map []) (λ_=>[]):=⟨isMap_empty,λs=>⟨rfl,by simp [has]⟩⟩
theorem Repr.ext {D:DataW H}{m m':B8->U}(h:Repr D m)(e:∀s,m s=m' s):Repr D m':=by
 rw [<-funext e];exact h
theorem Repr.put {D:DataW H}{m m':B8->U}(h:Repr D m){t:B8}{w:World}{base:Nat}{e:TypeId}{v:Value}{zs:U}(ho:w.ownsInts base e .i64 v zs)(hz:zs≠ [])
  (h1:m' t=zs) (h2:∀s,s≠t->m' s=m s):Repr (D.put (.string t) (rowDatum .i64 v zs)) m':=by
 refine⟨h.1.put _ _,λs=>?_⟩;by_cases hs:s=t
 . subst hs;refine⟨?_,?_⟩
   . rw [atKey_put_same h.1 (by trivial),FF ho,h1]
   . rw [has_put_same h.1 (by trivial),h1];simp [hz]
 . have fh:Lit.string s≠Lit.string t:=λhh=>hs (by injection hh);rw [atKey_put_other fh,has_put_other fh,h2 s hs];exact h.2 s
def aoL(h:w.ownsInts base e .i64 v zs)(hq:∀g,v.ownBlock=some g->Q g):Rd w Q (.slice [.int .i64]) v zs:=by
 obtain⟨ho,hw⟩:=h
 have hz:∀z∈zs,lo .i64<=z/\z<=hi .i64:=λz hz=>by
  have:=hw z hz;simp [Lit.wf,IntKind.min,IntKind.max,IntKind.signed,IntKind.bits] at this;simp only [lo,hi];omega
 simp only [Rd];rcases ho.2 with⟨rfl,h0⟩|⟨g,cap,cur,rfl,hg,hh,hn,hc,dQ,AF⟩
 . have :zs=[]:=d?.1 h0;subst this;exact⟨none,0,[],rfl,S! _,U! _,rfl,λh=>absurd rfl h⟩
 . refine⟨some ⟨g,0,none⟩,cap,zs.map (Value.int .i64),rfl,hn,hc,JD zs hz,λ_=>⟨g,0,rfl,hq g rfl,λj v hj=>?_⟩⟩;have:=ho.cells (g:=g) rfl j v hj;rwa [Addr.add_mid] at this
def HX(w:World)(c:Array Value)(e:TypeId)(o:Obj)(j:Nat):((w.alloc (.cells c e)).alloc o).cell? ⟨w.heap.size,j,none⟩=c[j]? :=by
 have h1:((w.alloc (.cells c e)).alloc o).heap[w.heap.size]? =some (.cells c e (0,0)):=by
  rw [((World.grownBy_alloc (w.alloc (.cells c e)) o none).block w.heap.size z! z!)];exact(MapKept.heap_alloc w _).1
 simp [World.cell?,h1]
def JG{size:Nat}{xs:M Value}(h:w.ownsRow base e size v n xs):∃av cp,v= .slice av n cp/\(0<n->∃g,av=some ⟨g,0,none⟩/\base<=g/\g<w.heap.size):=by
 have hl:=h.lt;rcases h.2 with⟨rfl,h0⟩|⟨g,cap,cur,rfl,hg,_⟩
 . exact⟨none,0,by rw [h0],λh=>by omega⟩
 . exact⟨_,cap,rfl,λ_=>⟨g,rfl,hl g rfl⟩⟩
def Ab(h:Below w.heap.size w w'):w.grownBy w' none:=⟨h.os,h.tape,h.output,h.size,λi hi _=>h.block i hi⟩
def xB{k:TypeId}{D:DataW H}(h:w.ownsGroups P k base e q b n D)(hb:Below w.heap.size w w'):w'.ownsGroups P k base e q b n D:=
 h.kept (Ab hb) z! (λes clock _ x _=>by cases x.val.ownBlock<;>simp)
def ħ{k:TypeId}{D:DataW H}(h:w.ownsGroups P k base e q b n D):b<w.heap.size:=by
 obtain⟨es,clock,hb,_⟩:=h;exact(Q!.1 hb).1
def PW{k:TypeId}{D:DataW H}(h:w.ownsGroups P k base e q b n D)(hb:Below w.heap.size w w'){No:Nat->Prop}(hn:∀g,No g->w.heap.size<=g):w'.Shuns b No:=by
 have h1:w.Shuns b (λ_=>False):=λ_ _ _ _ _ _ _ hf=>hf;exact(h1.reno (No':=No) h (λg hg=>.inr (hn g hg))).kept (Ab hb) (ħ h) z!
def SX{g cp n:Nat}{l:O}(h:w.ownsRow base e 1 (.slice (some ⟨g,0,none⟩) n cp) n (l.map encS)){j:Nat}(hj:j<l.length):w.cell? ⟨g,0+j,none⟩=some (encS (l.getD j [])):=by
 have:=h.cells (g:=g) rfl j (encS (l.getD j [])) (by rw [B?,D! hj,G!,D! hj];rfl);rwa [Addr.add_mid] at this
def YR{row:Option Nat}(h:w.grownBy w' row){a:Addr}(hl:a.block<w.heap.size)(hn:some a.block≠row)(hc:w.cell? a=some v):w'.cell? a=some v:=
 (World.cell?_of_block (h.block _ hl hn)).trans hc
def YS {k:TypeId}(hk:P.underlying k=some .string)(h:s.length<=maxLen):keyOf P k (.string ⟨s.toArray⟩)=some (.string s):=by
 have:=Go.WideMaps.keyOf_string_mk (P:=P) (k:=k) (s:=⟨s.toArray⟩) hk (by simpa [ByteArray.size] using h);simpa using this
def axO {wr:World}{g:Nat}{v':Value}{o:Obj}{n cp:Nat}(Tn:∀No:Nat->Prop,wr.Shuns b No->∀g,v.ownBlock=some g->¬No g)(hs:wr.Shuns b (λg'=>(Value.slice (some ⟨g,0,none⟩) n cp).ownBlock=some g'))
  (J7:v'.ownBlock=v.ownBlock\/v'.ownBlock=some (wr.alloc o).heap.size) (hg:g<wr.heap.size):∀g',v'.ownBlock=some g'->¬((Value.slice (some ⟨g,0,none⟩) n cp).ownBlock=some g'):=λg' xR hh=>by
 rcases J7 with h|h
 . rw [h] at xR;exact Tn _ hs g' xR hh
 . rw [h] at xR;simp only [Value.ownBlock,A!] at xR hh;simp at xR;omega
def PX{k:TypeId}{D:DataW H}(h:w.ownsGroups P k base e q b n D):w.ownsMap P k (rowElem w base e q) b n D:=by
 obtain⟨es,clock,hb,F,hs,hD,_⟩:=h;exact⟨es,clock,hb,F,hs,hD⟩
def JH{k:TypeId}{R:Value->Option (DataW H×M MemPlace)}{D:DataW H}(h:w.ownsMap P k R b n D):Maps.size D<=n:=by
 obtain⟨es,clock,hb,F,hs,rfl⟩:=h;rw [size_eq,length_sorted];simpa using hs
def Ĩ(docs:O)(a b:Int)(x:B8):x∈S.dA docs a b↔S.Aj docs a (b-a).toNat 0 x≠ []:=by
 unfold S.dA;rw [S.jk,S.EX];simp [S.Aj]
def ahU{R:Value->Option (DataW H×M MemPlace)}{k:TypeId}{D:DataW H}(h:w.ownsMap P k R b n D)(K:Keyed P k)(hk:P.underlying k=some .string){docs:O}{f t:Int}
  (hr:Repr D (S.Aj docs f (t-f).toNat 0)) {ss:O} (hs:ss.Perm (strKeys D)):ss.mergeSort (λx y=>decide (x<=y))=S.dA docs f t/\ss.length=(S.dA docs f t).length/\(∀s∈S.dA docs f t,s.length<=maxLen)/\(S.dA docs f t).length<=n:=by
 obtain⟨es,hD,hpw,_⟩:=h.entries K;obtain⟨ZA,hD',hko⟩:=h.keysOf;have hle:=strKeys_le h hk;have dQ:=JH h;obtain rfl :es=ZA:=by rw [hD] at hD';simpa using hD'
 subst hD;have hi:S.uG (S.dA docs f t):=S.l7 _;have lI:=perm_strKeys hpw (λp hp=>by obtain⟨v,hv⟩:=hko p hp;obtain⟨x,_,hx,_⟩:=Maps.keyOf_str hk hv;exact⟨x,hx⟩) (S.Ky hi) (λx=>by rw [Ĩ,(hr.2 x).2]);have qg:=hs.trans lI.symm
 have hlen:(S.dA docs f t).length<=n:=by
  rw [lI.length_eq];simpa [strKeys,size_eq] using dQ
 refine⟨?_,qg.length_eq,λs jW=>hle s (lI.subset jW),hlen⟩;have e1:ss.mergeSort leB=(S.dA docs f t).mergeSort leB:=mergeSort_of_perm qg
 have e2:(S.dA docs f t).mergeSort leB=S.dA docs f t:=by
  refine List.mergeSort_of_pairwise (hi.imp λ{a b} lQ=>?_);rw [Go.Proofs.bytesLess_eq] at lQ;simp only [leB,H!] at lQ |-;exact List.le_of_lt lQ
 exact e1.trans e2
def ahV(hs:s.length<=maxLen)(hv:Rd w Q (.slice [.int .i64]) v zs):bx w Q [.str,.slice [.int .i64]] [.string ⟨s.toArray⟩,v] (s,zs):=by
 simp only [bx];refine⟨_,[v],rfl,?_,v,[],rfl,hv,rfl⟩;simp only [Rd];exact⟨rfl,hs⟩
def SY {α:Type}{R:M Value->α->Prop}:∀(l:M α) (cs c:M Value) (x:α),dJ R cs l->R c x->dJ R (cs++c) (l++[x])
 |[],cs,c,x,h,hx=>by
   simp only [dJ] at h;subst h;exact⟨c,[],z!,hx,rfl⟩
 |y::l,cs,c,x,⟨c1,c2,hc,h1,h2⟩,hx=>by
  subst hc;exact⟨c1,c2++c,z!,h1,SY l c2 c x h2 hx⟩
def aoM(h:w'.ownsInts base e .i64 v zs)(hb:Below w.heap.size w w')(hl:∀g,v.ownBlock=some g->g<w.heap.size)(hq:∀g,base<=g->g<w.heap.size->Q g):Rd w Q (.slice [.int .i64]) v zs:=by
 have h':w.ownsInts base e .i64 v zs:=by
  refine⟨⟨h.1.1,?_⟩,h.2⟩;rcases h.1.2 with hn|⟨g,cap,cur,rfl,hg,hh,rest⟩
  . exact .inl hn
  . exact .inr ⟨g,cap,cur,rfl,hg,(hb.block g (hl g rfl)).symm.trans hh,rest⟩
 exact aoL h' (λg hg=>hq g (h'.1.lt g hg).1 (hl g hg))
theorem VF(w:World)(a b:Value)(t:TypeId):∀j u,[a,b][j]? =some u->(w.alloc (.cells #[a,b] t)).cell? ((⟨w.heap.size,0,none⟩:Addr).add j)=some u:=by
 intro j u hj;rw [Addr.add_mid,r?];have h1:(w.alloc (.cells #[a,b] t)).heap[w.heap.size]? =some (.cells #[a,b] t (0,0)):=(MapKept.heap_alloc w _).1;simp only [World.cell?,h1];simpa using hj
end Go.DM
namespace Go.Proofs
open Go Go.Vg Go.Maps Go.RowKit Go.ChangeShapes Go.DM Go.WideMaps
theorem Tryz.afG:Keyed Tryz.prog 9:=string_keyed Tryz.underlying9
def Tryz.aFj:(Tryz.prog.info? 3).map (λi=>(i.zero,i.size,i.bytes))=some (some (.int .i64 0),1,8):=by kernel_rfl
def Tryz.axP:(Tryz.prog.info? 228).map (λi=>(i.zero,i.size,i.bytes))=some (some (.agg #[.string ⟨#[]⟩,.slice none 0 0]),2,40):=by kernel_rfl
def Tryz.afH(w:World):(zeroValue 27).run Tryz.prog w= .ok (.slice none 0 0) w:=by kernel_rfl
def Tryz.aoN(mb:Option Nat)(W:World):Calls Tryz.prog 218 #[.map mb] W λe w'=>e= .returned (.func (.func 284) #[] #[.pointer (some ⟨W.heap.size,0,none⟩)])/\w'=W.alloc (.cells #[.map mb] 305):=callsIn_wide.1 (Tryz.QX mb W)
set_option maxRecDepth 100000 in
set_option maxHeartbeats 4000000 in
theorem Tryz.ĩ {H:Type}(docs:O)(f t:Int)(da:Option Addr)(cap:Nat)(w:World)
  (hp:S.oY docs f t) (h4:∀j,(docs.getD j []).length<=2000) (dv:Nat->Value)
  (hd:∀j,j<docs.length->∃b o aj cj,da=some ⟨b,o,none⟩/\b<w.heap.size/\w.cell? ⟨b,o+j,none⟩=some (dv j)/\dv j= .slice aj (docs.getD j []).length cj)
  (sk:∀(j:Nat) (W:World),j<docs.length->Below w.heap.size w W->Calls Tryz.prog 216 #[dv j] W λe w'=>∃v,e= .returned v/\w'.ownsRow W.heap.size 9 1 v (S.gB docs 0 j).length ((S.gB docs 0 j).map encS)/\Below W.heap.size W w')
  (VG:∀(j:Nat),∀s∈S.gB docs 0 j,s.length<=maxLen):
  Calls Tryz.prog 123 #[.slice da docs.length cap,.agg #[.int .i64 f,.int .i64 t]] w λe w'=>∃v xs W1,e= .returned (.tuple #[v,.int .i64 0])/\Below w.heap.size w w'/\Below W1.heap.size W1 w'/\w.heap.size<=W1.heap.size/\
   w'.ownsRow W1.heap.size 228 2 v (S.make docs f t).length xs/\dJ (bx W1 (λb=>w.heap.size<=b/\b<W1.heap.size) [.str,.slice [.int .i64]]) xs (S.make docs f t):=by
 have hmm:= @run_makeMap Tryz.prog;have h0:0<=f:=hp.1;have h1:f<=t:=hp.2.1;have h2:t<=docs.length:=hp.2.2.1;have h3:docs.length<=1000:=hp.2.2.2.1;obtain⟨i0,hi,hz0,hz1,hz2⟩:=info_parts Tryz.aFj;obtain⟨i1,hi1,hy0,hy1,hy2⟩:=info_parts Tryz.axP;go_enter Tryz.func123,Tryz.ntmps123
 go_wp2
 go_loopw [39] (λi wr=>∃k:Nat,k<=docs.length/\i= .int .i64 k/\wr=w.alloc (.cells #[.int .i64 f,.int .i64 t] 98))
  (λi _=>docs.length-(intOf i).toNat)
 case atStart=>exact⟨0,U! _,rfl,rfl⟩
 case round=>
  obtain⟨k,hk,rfl,rfl⟩:=hrel;by_cases jU:k<docs.length
  . obtain⟨b,o,aj,cj,rfl,hb,hc,hv⟩:=hd k jU;rw [hv] at hc;have hl:=h4 k;generalize (docs.getD k []).length=n at hc hl
    have sF:(w.alloc (.cells #[.int .i64 f,.int .i64 t] 98)).cell? ⟨b,o+k,none⟩=some (.slice aj n cj):=by
     rw [<-hc];exact World.cell?_of_block ((World.grownBy_alloc w _ none).block b hb z!)
    clear hd sk;go_wp2
    go_roundw
    case rel=>exact⟨k+1,w!,by go_num,by first|rfl|trivial⟩
    case measure=>simp [intOf];omega
  . have :k=docs.length:=by omega
    subst this;clear jU;go_wp2
    go_loopw [9] (λi wr=>∃k:Nat,i= .int .i64 (f+k)/\f+k<=t/\∃(m:Nat) (D:DataW H),m<=4000*k/\wr.ownsGroups Tryz.prog 9 (w.heap.size+2) 3 .i64 (w.heap.size+1) m D/\Repr D (S.Aj docs f k 0)/\
      Below w.heap.size w wr/\wr.cell? ⟨w.heap.size,1,none⟩=some (.int .i64 t)/\w.heap.size+2<=wr.heap.size)
     (λi _=>(t-intOf i).toNat)
    case atStart=>
     have dQ:(w.alloc (.cells #[.int .i64 f,.int .i64 t] 98)).heap.size=w.heap.size+1:=by simp
     have hg:=World.ownsGroups_made (H:=H) (w.alloc (.cells #[.int .i64 f,.int .i64 t] 98)) Tryz.prog 9 3 .i64;rw [dQ] at hg;refine⟨0,z!,by simpa using h1,0,_,S! _,hg,Repr.empty.ext (λs=>(S.aAO docs f s).symm),((Below.refl _ _).alloc (S! _) _).alloc z! _,?_,z!⟩;rw [HX];rfl
    case round=>
     obtain⟨k,rfl,hk,m,D,hm,j9,Rz,hnx,aoO,hws⟩:=hrel;by_cases jU:f+k<t
     . obtain⟨n,hn⟩:∃n:Nat,f+(k:Int)=n:=⟨(f+k).toNat,w!⟩;have hnl:n<docs.length:=by omega
       obtain⟨b,o,aj,cj,rfl,hb,hc,hv⟩:=hd n hnl;have hs:=sk n wr hnl hnx;rw [hv] at hs hc;have sF:wr.cell? ⟨b,o+n,none⟩=some (.slice aj (docs.getD n []).length cj):=(hnx.cell (by exact hb)).trans hc;have eL:S.gB docs 0 n=S.gB docs f k:=by unfold S.gB;rw [hn];simp
       rw [eL] at hs;have Mb:=VG n;rw [eL] at Mb;obtain⟨VH,rfl⟩:∃x,x=wr:=⟨wr,rfl⟩;have hL:(S.gB docs f k).length<=4000:=by unfold S.gB;exact S.Xs hp _
       simp only [hn] at hk |-;generalize (docs.getD n []).length=dl at sF hs;clear hd sk hc hv
       go_wp2_with (first
        |(go_at_call 216;refine hs.mono ?_;rintro e w1 ⟨vs,rfl,mP,MS⟩;obtain⟨av,cp,rfl,Tu⟩:=JG mP)
        |go_in)
       have aFk:=xB j9 MS;have aIW:w1.Shuns (w.heap.size+1) (λg=>(Value.slice av (S.gB docs f k).length cp).ownBlock=some g):=PW j9 MS (λg hg=>(mP.lt g hg).1);have aIX:Below w.heap.size w w1:=hnx.trans (MS.mono w!);have aFl:w1.cell? ⟨w.heap.size,1,none⟩=some (.int .i64 t):=(MS.cell (by show w.heap.size<VH.heap.size;omega)).trans aoO;have aIY:VH.heap.size<=w1.heap.size:=MS.size;clear hs MS sF
       go_loopw [62] (λi wq=>∃j:Nat,i= .int .i64 j/\j<=(S.gB docs f k).length/\∃(m2:Nat) (D2:DataW H),m2<=m+j/\wq.ownsGroups Tryz.prog 9 (w.heap.size+2) 3 .i64 (w.heap.size+1) m2 D2/\Repr D2 (S.Aj docs f k j)/\
         wq.Shuns (w.heap.size+1) (λg=>(Value.slice av (S.gB docs f k).length cp).ownBlock=some g)/\Below w.heap.size w wq/\wq.cell? ⟨w.heap.size,1,none⟩=some (.int .i64 t)/\
         wq.ownsRow VH.heap.size 9 1 (.slice av (S.gB docs f k).length cp) (S.gB docs f k).length ((S.gB docs f k).map encS)/\VH.heap.size<=wq.heap.size)
        (λi _=>(S.gB docs f k).length-(intOf i).toNat)
       case atStart=>exact⟨0,rfl,U! _,m,D,w!,aFk,Rz,aIW,aIX,aFl,mP,aIY⟩
       case round=>
        obtain⟨j,rfl,hj,m2,D2,hm2,Ī,VI,aoP,aoQ,aoR,ī,hwq⟩:=hrel;by_cases Nr:j<(S.gB docs f k).length
        . obtain⟨g,rfl,hg1,Dl⟩:=Tu w!;have qh:=SX ī Nr;rw [Nat.zero_add] at qh;have SZ:=YS (P:=Tryz.prog) Tryz.underlying9 (Mb _ (S.bC _ j [] Nr));have azE:=S.akT (docs:=docs) (a:=f) (k:=k) Nr;have aoS:=λs=>S.aha (docs:=docs) (a:=f) (k:=k) (j:=j) Nr (s:=s);have aFm:=S.akU docs f k j ((S.gB docs f k).getD j []);unfold Vg.encS at qh;generalize (S.gB docs f k).getD j []=sj at qh SZ azE aoS aFm;have aIZ:g<wr.heap.size:=(ī.lt g rfl).2;have afI:m2<maxLen:=by unfold maxLen;omega
          clear VG Mb Tu
          go_wp2_with (first
           |(at_lookup;refine wpList_lookup_groups_shuns _ rfl _ _ 305 rfl 9 27 3 .i64 Tryz.afG Tryz.underlying305 (Tryz.afH _) (w.heap.size+2) (w.heap.size+1) m2 _ rfl Ī afI _ _ rfl SZ ?_;intro v zs hat xQ hzl aoT Tn)
           |(at_builtin;refine wpList_append_own_at _ rfl _ _ 27 rfl (w.heap.size+2) 3 i0 (.int .i64 0) 1 8 Tryz.underlying27 hi hz0 hz1 hz2 rfl (by decide) _ _ _ rfl (xQ.1.alloc _) ⟨wr.heap.size,0,none⟩ 1 1 [.int .i64 n] rfl rfl (cell_one_new _ _ _) (ints_oneCell .i64 [(n:Int)]) (by unfold maxLen;omega) w! (by simp;omega) ?_;intro v' w3 aoU VJ JT J7)
           |(at_mapUpdate;have vt:=axO Tn aoP J7 aIZ;refine wpList_mapUpdate_back_shuns _ rfl _ _ _ 305 rfl Tryz.afG Tryz.underlying305 SZ Ī afI xQ aoP vt aoT rfl rfl rfl ((World.grownBy_alloc _ _ _).trans VJ) (xQ.appended aoU (WalkArith.wf_i64 w!)) (by simp;omega) (J7.imp id (λh=>⟨_,h,z!⟩)) ?_;intro w4 aFn Mc aI0)
           |go_in)
          have kU:=(World.grownBy_alloc wr _ _).trans VJ;have hw3:wr.heap.size<=w3.heap.size:=kU.size;have hvb:∀g',v.ownBlock=some g'->w.heap.size+2<=g':=λg' xR=>(xQ.1.lt g' xR).1;refine⟨⟨j+1,by go_num,w!,m2+1,_,w!,aFn,?_,aI0,?_,?_,?_,?_⟩,by simp [intOf];omega⟩
          . refine VI.put (xQ.appended aoU (WalkArith.wf_i64 w!)) z! ?_ aoS;rw [azE,hn];have:=FF (H:=H) xQ;rw [<-hat,(VI.2 sj).1] at this;rw [this]
          . exact aoQ.groups xQ kU Mc aoQ.size w! w!
          . refine YR Mc (by show w.heap.size<w3.heap.size;omega) (by show some w.heap.size≠some (w.heap.size+1);simp) (YR kU (by show w.heap.size<wr.heap.size;omega) ?_ aoR);show some w.heap.size≠v.ownBlock;intro h;have:=hvb _ h.symm;omega
          . refine(ī.kept kU (.inr ?_)).kept Mc (.inr ?_)
            . intro h;exact Tn _ aoP g h.symm rfl
            . intro h;simp only [Value.ownBlock,A!] at h;omega
          . exact X? hwq (X? hw3 Mc.size)
        . have :j=(S.gB docs f k).length:=by omega
          subst this;clear Nr VG Mb;have aFo:=VI.ext (λs=>S.ahb (docs:=docs) (a:=f) (k:=k) (j:=(S.gB docs f k).length) w! s);clear VI;go_wp2
          exact⟨⟨k+1,by rw [show f+((k+1:Nat):Int)=(n:Int)+1 by omega],w!,m2,D2,w!,Ī,aFo,aoQ,aoR,w!⟩,by simp [intOf];omega⟩
     . have hk2:t=f+k:=by omega
       have uL:(t-f).toNat=k:=by omega
       have Bd:=PX j9;have hcS:=callsIn_wide.1 (Tryz.vC (w.heap.size+1) m D _ wr Bd (by have:=JH Bd;unfold maxLen;omega) (by have:=JH Bd;omega));have IZ:=λ(ss:O) (hss:ss.Perm (strKeys D))=>ahU (docs:=docs) (f:=f) (t:=t) Bd Tryz.afG Tryz.underlying9 (by rw [uL];exact Rz) hss;obtain⟨VH,rfl⟩:∃x,x=wr:=⟨wr,rfl⟩;clear hd sk VG;subst hk2
       go_wp2_with (first
        |(go_at_call 218;refine(Tryz.aoN _ _).mono ?_;rintro e w4 ⟨rfl,rfl⟩)
        |(go_at_call 217;refine hcS.mono ?_;rintro e w5 ⟨vs,ss,rfl,hS,mP,JT,hb5⟩;obtain⟨hk3,hk4,Dk,hk6⟩:=IZ ss hS;rw [hk3,hk4] at mP;obtain⟨av,cp,rfl,Tu⟩:=JG mP)
        |go_in)
       have aoV:Below VH.heap.size VH w5:=((Below.refl _ VH).alloc (S! _) _).trans (hb5.mono z!);have aoW:=xB j9 aoV;have aI4:Below w.heap.size w w5:=hnx.trans (aoV.mono w!);have aLG:VH.heap.size<=w5.heap.size:=aoV.size;clear hcS IZ Bd hb5 j9 hS JT hk3
       go_loopw [12,79] (λd i wq=>∃j:Nat,i= .int .i64 j/\j<=(S.dA docs f (f+k)).length/\∃xs,wq.ownsRow w5.heap.size 228 2 d j xs/\
         dJ (bx w5 (λb=>w.heap.size<=b/\b<w5.heap.size) [.str,.slice [.int .i64]]) xs (S.CX docs f (f+k) j)/\Below w5.heap.size w5 wq)
        (λ_ i _=>(S.dA docs f (f+k)).length-(intOf i).toNat)
       case atStart=>exact⟨0,rfl,U! _,[],World.ownsRow_nil _ _ _ _,rfl,Below.refl _ _⟩
       case round=>
        obtain⟨j,rfl,hj,xs,Ĭ,YT,Gh⟩:=hrel;by_cases Nr:j<(S.dA docs f (f+k)).length
        . obtain⟨g,rfl,hg1,Dl⟩:=Tu w!;have afJ:=SX mP Nr;have qh:wr.cell? ⟨g,0+j,none⟩=some (Vg.encS ((S.dA docs f (f+k)).getD j [])):=(Gh.cell Dl).trans afJ;rw [Nat.zero_add] at qh;have IZ:=Dk _ (S.bC _ j [] Nr);have SZ:=YS (P:=Tryz.prog) Tryz.underlying9 IZ;have aoX:=λtt (ht:(S.dA docs f (f+k)).getD j []=tt)=>S.Uq (docs:=docs) (a:=f) (b:=f+k) (k:=j) (j:=k) Nr uL.symm ht;unfold Vg.encS at qh;have aFp:=xB aoW Gh;have aI5:wr.Shuns (w.heap.size+1) (λg=>w5.heap.size<=g):=PW aoW Gh (λg hg=>hg);have aI6:=λs=>(Rz.2 s).1;generalize (S.dA docs f (f+k)).getD j []=sj at qh SZ IZ aoX;have afI:m<maxLen:=by unfold maxLen;omega
          clear afJ Dk
          go_wp2_with (first
           |(at_lookup;refine wpList_lookup_groups_shuns _ rfl _ _ 305 rfl 9 27 3 .i64 Tryz.afG Tryz.underlying305 (Tryz.afH _) (w.heap.size+2) (w.heap.size+1) m _ rfl aFp afI _ _ rfl SZ ?_;intro v zs hat xQ hzl aoT Tn;obtain⟨av2,cp2,rfl,aLH⟩:=JG xQ.1)
           |(at_builtin;refine wpList_append_own_at _ rfl _ _ 126 rfl w5.heap.size 228 i1 (.agg #[.string ⟨#[]⟩,.slice none 0 0]) 2 40 Tryz.underlying126 hi1 hy0 hy1 hy2 rfl (by decide) _ j xs rfl (Ĭ.alloc _) ⟨wr.heap.size,0,none⟩ 1 1 [.string ⟨sj.toArray⟩,.slice av2 zs.length cp2] rfl rfl (VF _ _ _ _) (by intro u hu;simp at hu;rcases hu with rfl|rfl<;>rfl) (by unfold maxLen;omega) w! (by have:=Gh.size;simp;omega) ?_;intro v' w6 aFq VJ JT J7)
           |go_in)
          have sh:Rd w5 (λb=>w.heap.size<=b/\b<w5.heap.size) (.slice [.int .i64]) (.slice av2 zs.length cp2) zs:=
           aoM xQ Gh (λg' xR=>by have:=Tn _ aI5 g' xR;omega) (λg' h1 h2=>⟨w!,h2⟩)
          have hz:zs=S.dS docs f sj k:=by
           have e1:=FF (H:=H) xQ;rw [<-hat,aI6] at e1;rw [<-e1];simp [S.Aj]
          have kU:=(World.grownBy_alloc wr (.cells #[.string ⟨sj.toArray⟩,.slice av2 zs.length cp2] 228) _).trans VJ;refine⟨⟨j+1,by go_num,w!,xs++[.string ⟨sj.toArray⟩,.slice av2 zs.length cp2],aFq,?_,?_⟩,by simp [intOf];omega⟩
          . rw [<-aoX sj rfl,<-hz];exact SY _ _ _ _ YT (ahV IZ sh)
          . exact Gh.grown kU Gh.size (λg' xR=>(Ĭ.lt g' xR).1)
        . have hje:j=(S.dA docs f (f+k)).length:=by omega
          subst hje;rw [S.Xu w!] at YT;clear Tu Dk;go_wp2
          go_ret2
          refine⟨_,xs,w5,rfl,aI4.trans (Gh.mono w!),Gh,w!,?_,YT⟩;have Tg:(S.make docs f (f+k)).length=(S.dA docs f (f+k)).length:=by simp [S.make]
          rw [Tg];exact Ĭ
set_option maxRecDepth 100000 in
set_option maxHeartbeats 4000000 in
def Tryz.ĭ(docs:O)(f t:Int)(da:Option Addr)(cap:Nat)(w:World)(hc:1000<docs.length\/f<0\/t<f\/(docs.length:Int)<t):
  Calls Tryz.prog 123 #[.slice da docs.length cap,.agg #[.int .i64 f,.int .i64 t]] w λe w'=>e= .returned (.tuple #[.slice none 0 0,.int .i64 1])/\Below w.heap.size w w':=by
 generalize docs.length=n at hc;go_enter Tryz.func123,Tryz.ntmps123
 go_wp2
 all_goals (go_ret2;exact⟨rfl,(Below.refl _ _).alloc (S! _) _⟩)
set_option maxRecDepth 100000 in
set_option maxHeartbeats 4000000 in
def Tryz.Į(docs:O)(f t:Int)(da:Option Addr)(cap:Nat)(w:World)(h0:0<=f)(h1:f<=t)(h2:t<=docs.length)(h3:docs.length<=1000)(dv:Nat->Value)
  (hd:∀j,j<docs.length->∃b o aj cj,da=some ⟨b,o,none⟩/\b<w.heap.size/\w.cell? ⟨b,o+j,none⟩=some (dv j)/\dv j= .slice aj (docs.getD j []).length cj)
  (hc:¬∀j,j<docs.length->(docs.getD j []).length<=2000):
  Calls Tryz.prog 123 #[.slice da docs.length cap,.agg #[.int .i64 f,.int .i64 t]] w λe w'=>e= .returned (.tuple #[.slice none 0 0,.int .i64 1])/\Below w.heap.size w w':=by
 go_enter Tryz.func123,Tryz.ntmps123
 go_wp2
 go_loopw [39] (λi wr=>∃k:Nat,k<=docs.length/\i= .int .i64 k/\wr=w.alloc (.cells #[.int .i64 f,.int .i64 t] 98)/\∀j,j<k->(docs.getD j []).length<=2000)
  (λi _=>docs.length-(intOf i).toNat)
 case atStart=>exact⟨0,U! _,rfl,rfl,λj hj=>by omega⟩
 case round=>
  obtain⟨k,hk,rfl,rfl,kU⟩:=hrel;by_cases jU:k<docs.length
  . obtain⟨b,o,aj,cj,rfl,hb,oO,hv⟩:=hd k jU;rw [hv] at oO
    have sF:(w.alloc (.cells #[.int .i64 f,.int .i64 t] 98)).cell? ⟨b,o+k,none⟩=some (.slice aj (docs.getD k []).length cj):=by
     rw [<-oO];exact World.cell?_of_block ((World.grownBy_alloc w _ none).block b hb z!)
    clear hd oO hv hc;by_cases hl:(docs.getD k []).length<=2000
    . have Nn:∀j,j<k+1->(docs.getD j []).length<=2000:=λj hj=>by
       by_cases e:j=k
       . subst e;exact hl
       . exact kU j w!
      clear kU;generalize (docs.getD k []).length=n at sF hl;go_wp2
      go_roundw
      case rel=>exact⟨k+1,w!,by go_num,by first|rfl|trivial,Nn⟩
      case measure=>simp [intOf];omega
    . clear kU;generalize (docs.getD k []).length=n at sF hl;go_wp2
      go_ret2
      exact⟨rfl,(Below.refl _ _).alloc (S! _) _⟩
  . exact absurd (λj hj=>kU j w!) hc
end Go.Proofs
namespace Go.S
variable {docs:List B8}
theorem YU{a:Int}{j:Nat}:∀s∈gB docs a j,s.length<=maxLen:=λs hs=>by
 have h1:=(jk _ _).1 hs;simp only [bM,List.mem_map] at h1;obtain⟨w,_,rfl⟩:=h1;have:=CU w [] z!;unfold jN maxLen;omega
def ahW{f t:Int}(h:eZ docs f t=true):oY docs f t/\∀j,(docs.getD j []).length<=2000:=by
 simp only [eZ,B!,Z!,H!] at h;obtain⟨h1,h2,h3,h4,h5⟩:=h;refine⟨⟨h3,h4,h5,w!,λd hd=>by have:=h1 d hd;omega⟩,λj=>?_⟩;by_cases hj:j<docs.length
 . have:=h1 _ (bC docs j [] hj);omega
 . rw [G!,List.getElem?_eq_none w!];simp
end Go.S
namespace Go.DM
open Go Go.Vg Go.Maps Go.RowKit Go.Proofs
def afK {w:World}{A:Nat->Prop}{τ:Ty}:∀(l:M (D τ)) (cs:M Value),dJ (bx w A [τ]) cs l->cs.length=l.length/\∀(j:Nat) (x:D τ),l[j]? =some x->Rd w A τ (cs.getD j undef) x
 |[],cs,h=>by simp only [dJ] at h;subst h;exact⟨rfl,λj x hx=>by simp at hx⟩
 |y::l,cs,⟨c1,c2,hc,h1,h2⟩=>by
  subst hc;simp only [bx] at h1;obtain⟨v,b7,rfl,hv,rfl⟩:=h1;obtain⟨g1,g2⟩:=afK l c2 h2;refine⟨by simp [g1],λj x hx=>?_⟩;cases j with
  |zero=>simp at hx;subst hx;exact hv
  |succ j=>simpa using g2 j x (by simpa using hx)
theorem VK(b:B8):IE [.one (.slice [.int .u8])] [.sl [.int .u8] b]=some b:=rfl
set_option maxRecDepth 100000 in
def YV {G:Nat->Option GD}{Fs:Row (PS.flat [.one (.slice [.int .u8])])->Prop×AV×M AB}(sk:Valid Tryz.prog G 216 (eD [.one (.slice [.int .u8])] Fs))
  (hFs:∀b:B8,Fs b=(S.small b,.own 0,[.row 9 [.str] (S.sorted (S.bM b)) false]))
  {F:Row (PS.flat [.one (.slice [.slice [.int .u8]]),.agg [.int .i64,.int .i64]])->Prop×AV×M AB}
  (hF:∀(docs:O) (f t:Int),F (docs,f,t)=(True,.bf [.sl [.str,.slice [.int .i64]] (S.lD docs f t).1,.int .i64 ((S.lD docs f t).2:Int)],[])):
  Valid Tryz.prog G 123 (eD [.one (.slice [.slice [.int .u8]]),.agg [.int .i64,.int .i64]] F):=by
 intro w A β args bc pre res bs hA hG bm hs hp;unfold eD at hs;split at hs
 . rename_i x hx;obtain⟨docs,f,t⟩:=x;change O at docs;change Int at f;change Int at t;have jW:=hs;rw [hF docs f t] at jW;simp only [A!,Prod.mk.injEq] at jW;obtain⟨rfl,rfl,rfl⟩:=jW;obtain⟨g1,g2⟩:=rF _ hx bm;clear hs hp hx bm g2;change ae w A β args [.sl [.slice [.int .u8]] docs,.agg [.int .i64 f,.int .i64 t]] at g1;simp only [ae,aa] at g1;obtain⟨vd,b7,rfl,hvd,va,aIT,rfl,⟨arr,rfl,AQ⟩,rfl⟩:=g1;obtain⟨u1,us,e1,⟨rfl,hf⟩,u2,Ib,rfl,⟨rfl,ht⟩,rfl⟩:=AQ;obtain rfl :arr= #[.int .i64 f,.int .i64 t]:=by apply Array.ext';simpa using e1
   simp only [Rd] at hvd;obtain⟨a,cap,cs,rfl,Q9,VB,YT,ay⟩:=hvd;obtain⟨oO,dX⟩:=afK (τ:=.slice [.int .u8]) docs cs YT
   have hd:∀j,j<docs.length->∃b o aj cj,a=some ⟨b,o,none⟩/\b<w.heap.size/\w.cell? ⟨b,o+j,none⟩=some (cs.getD j undef)/\cs.getD j undef= .slice aj (docs.getD j []).length cj:=by
    intro j hj;obtain⟨b,o,rfl,Li,hr⟩:=ay (by intro h;rw [h] at oO;simp at oO;omega);have h1:=dX j (docs.getD j []) (by rw [G!,D! hj];rfl);simp only [Rd] at h1;obtain⟨aj,cj,fZ,h2,_⟩:=h1;refine⟨b,o,aj,cj,rfl,hA b Li,hr j _ ?_,h2⟩;rw [G!,D! w!];rfl
   show Calls Tryz.prog 123 #[.slice a docs.length cap,.agg #[.int .i64 f,.int .i64 t]] w _
   have bad:Calls Tryz.prog 123 #[.slice a docs.length cap,.agg #[.int .i64 f,.int .i64 t]] w (λe w'=>e= .returned (.tuple #[.slice none 0 0,.int .i64 1])/\Below w.heap.size w w')->S.eZ docs f t=false->
     Calls Tryz.prog 123 #[.slice a docs.length cap,.agg #[.int .i64 f,.int .i64 t]] w (λe w'=>∃v,e= .returned v/\∃A' az,lu w A w' v (.bf [.sl [.str,.slice [.int .i64]] (S.lD docs f t).1,.int .i64 ((S.lD docs f t).2:Int)]) [] A' az):=by
    intro hc hb;refine hc.mono λe w' ⟨he,y6⟩=>⟨_,he,A,β,{os:=y6.os,tape:=y6.tape,output:=y6.output,size:=y6.size,same:=y6.block,mono:=λ_ h=>h,iP:=λ_ _ h=>h,bound:=λb h=>Nat.lt_of_lt_of_le (hA b h) y6.size,res:= ?_,rows:=λi ab hi=>by simp at hi,apart:=λi j b hi=>by simp at hi}⟩;have e2:S.lD docs f t=([],1):=by unfold S.lD;rw [hb];rfl
    rw [e2];simp only [aa,ae];refine⟨_,rfl,_,_,rfl,?_,_,_,rfl,⟨rfl,by simp only [lo,hi];omega⟩,rfl⟩;simp only [Rd];exact⟨none,0,[],rfl,S! _,U! _,rfl,λh=>absurd rfl h⟩
   cases PY:S.eZ docs f t with
   |false=>
    refine bad ?_ PY;by_cases hc:1000<docs.length\/f<0\/t<f\/(docs.length:Int)<t
    . exact Tryz.ĭ docs f t a cap w hc
    . refine Tryz.Į docs f t a cap w w! w! w! w! _ hd λkU=>?_
      have :S.eZ docs f t=true:=by
       simp only [S.eZ,B!,Z!,H!];refine⟨λd po=>?_,w!,w!,w!,w!⟩;obtain⟨i,fN,rfl⟩:=j? po;have:=kU i fN;rw [G!,D! fN] at this;simp only [Option.getD_some] at this;omega
      rw [this] at PY;cases PY
   |true=>
    obtain⟨hmp,h4⟩:=S.ahW PY
    have aFr:∀(j:Nat) (W:World),j<docs.length->Below w.heap.size w W->Calls Tryz.prog 216 #[cs.getD j undef] W λe w'=>∃v,e= .returned v/\w'.ownsRow W.heap.size 9 1 v (S.gB docs 0 j).length ((S.gB docs 0 j).map Vg.encS)/\Below W.heap.size W w':=by
     intro j W hj hW;have hk:cg w W A A:=λb hb=>⟨hb,hW.block b (hA b hb)⟩;have h1:=F3 hk _ _ _ (dX j (docs.getD j []) (by rw [G!,D! hj];rfl))
     have h2:=sk W A β [cs.getD j undef] [.sl [.int .u8] (docs.getD j [])] (S.small (docs.getD j [])) (.own 0) [.row 9 [.str] (S.sorted (S.bM (docs.getD j []))) false]
      (λb hb=>I? (hA b hb) hW.size) (λi d hi=>(hG i d hi).mono hk) (by simp only [ae,aa];exact⟨_,_,rfl,h1,rfl⟩)
      (by unfold eD;rw [VK];simp only [hFs]) (by have:=h4 j;unfold S.small;omega)
     refine h2.mono λe w' ⟨v,he,A',az,tZ⟩=>⟨v,he,?_,tZ.os,tZ.tape,tZ.output,tZ.size,tZ.same⟩;have hr:=tZ.res;simp only [aa] at hr;obtain⟨⟨xs,ho,sh,_⟩,hblk⟩:=tZ.rows 0 _ rfl;obtain⟨rfl,_⟩:=Cr _ xs sh;have eK:S.gB docs 0 j=S.sorted (S.bM (docs.getD j [])):=by unfold S.gB;simp
     rw [eK,hr.1];refine⟨ho.1,?_⟩;rcases ho.2 with hn|⟨g,j7,cur,hv,_,rest⟩
     . exact .inl hn
     . exact .inr ⟨g,j7,cur,hv,hblk g (by rw [hv];rfl),rest⟩
    refine(Tryz.ĩ (H:=Unit) docs f t a cap w hmp h4 _ hd aFr (λj s hs=>S.YU s hs)).mono λe w' ⟨v,xs,W1,he,y6,azF,hW1,ho,sh⟩=>?_;have e2:S.lD docs f t=(S.make docs f t,0):=by unfold S.lD;rw [PY];rfl
    rw [e2];refine⟨_,he,λb=>A b\/(w.heap.size<=b/\b<w'.heap.size),β,{os:=y6.os,tape:=y6.tape,output:=y6.output,size:=y6.size,same:=y6.block,mono:=λ_ h=>.inl h,iP:=λb hb h=>?_,bound:=λb h=>?_,res:= ?_,rows:=λi ab hi=>by simp at hi,apart:=λi j b hi=>by simp at hi}⟩
    . rcases h with h|h
      . exact h
      . omega
    . rcases h with h|h
      . exact I? (hA b h) y6.size
      . exact h.2
    . simp only [aa,ae];refine⟨_,rfl,_,_,rfl,?_,_,_,rfl,⟨rfl,by simp only [lo,hi];omega⟩,rfl⟩;have hk:cg W1 w' (λb=>w.heap.size<=b/\b<W1.heap.size) (λb=>A b\/(w.heap.size<=b/\b<w'.heap.size)):=λb hb=>⟨.inr ⟨hb.1,I? hb.2 azF.size⟩,azF.block b hb.2⟩;have aI8:=br (λc x hx=>bz hk _ c x hx) _ _ sh;simp only [Rd];rcases ho.2 with⟨rfl,h0⟩|⟨g,j7,cur,rfl,hg,hh,hn,hc,dQ,AF⟩
      . have hm0:S.make docs f t=[]:=d?.1 h0;rw [hm0];exact⟨none,0,[],rfl,S! _,U! _,rfl,λh=>absurd rfl h⟩
      . refine⟨some ⟨g,0,none⟩,j7,xs,rfl,hn,hc,aI8,λ_=>⟨g,0,rfl,.inr ⟨w!,(Q!.1 hh).1⟩,λj u hj=>?_⟩⟩;have:=ho.cells (g:=g) rfl j u hj;rwa [Addr.add_mid] at this
 . cases hs
end Go.DM
namespace Go.Vg
open Go
variable [HP]
theorem ZR.trans {w w1 w2:World}{p:Value}:∀ {z z1 z2:Z},ZR w p w1 z z1->ZR w1 p w2 z1 z2->ZR w p w2 z z2
 |.n,.n,.n,_,_|.s _,.s _,.s _,_,_=>trivial
 |.g _ _ _,.g _ _ _,.g _ _ _,⟨h1,h2,h3⟩,⟨g1,g2,g3⟩=>⟨h1.trans g1,h2.trans g2,λv h=>g3 v (h3 v h)⟩
theorem sV.trans {w w1 w2:World}{A S A1 S1 A2 S2:Nat->Prop}{p v1 v2:Value}{z:Z}{r1 r2:AV×Z}(h:sV w A S z w1 A1 S1 p v1 r1)(g:sV w1 A1 S1 r1.2 w2 A2 S2 p v2 r2):sV w A S z w2 A2 S2 p v2 r2 where
 kin:=h.kin.trans g.kin
 os:=g.os.trans h.os
 tape:=g.tape.trans h.tape
 output:=g.output.trans h.output
 size:=X? h.size g.size
 same b hb hs:=(g.same b (I? hb h.size) λK2=>(h.Ml b K2).1.elim hs λh=>absurd hb w!).trans (h.same b hb hs)
 mono b hb:=g.mono b (h.mono b hb)
 iP b hb ha:=h.iP b hb (g.iP b (I? hb h.size) ha)
 bound:=g.bound
 Ml b hb:=⟨(g.Ml b hb).1.elim (λh1=>(h.Ml b h1).1) λh1=>.inr (X? h.size h1),(g.Ml b hb).2⟩
 res:=g.res
 hb:=g.hb
variable {A S:Nat->Prop}{p:Value}{w:World}{z:Z}{P:Program}{f:FuncId}{β:Nat->Value}
theorem sV.zero(hA:∀b,A b->b<w.heap.size)(hS:∀b,S b->¬A b/\b<w.heap.size)(h:HB w S p z):sV w A S z w A S p undef (.undef,z):=
 ⟨ZR.refl (λ_ _=>rfl) h,rfl,rfl,rfl,S! _,λ_ _ _=>rfl,λ_ h=>h,λ_ _ h=>h,hA,λb hb=>⟨.inl hb,hS b hb⟩,λ_=>rfl,h⟩
def S0 {w:World}{A:Nat->Prop}{p:Value}:∀ {xs:M Value} {l:M CF} {k:Nat} {F:CF},tS w A p xs l->l[k]? =some F->∃v,xs[k]? =some v/\JM w A p v F
 |x::xs,G::l,0,F,h,hk=>by
  simp only [c?,A!] at hk;subst hk;exact⟨x,rfl,h.1⟩
 |x::xs,G::l,k+1,F,h,hk=>S0 (k:=k) h.2 (by simpa using hk)
 |[],[],k,F,_,hk=>by cases hk
structure PI (w:World) (A S:Nat->Prop) (p:Value) (l:List CF) (z:Z) (k:Nat) (w':World):Prop where
 at_:∃A' S' z',sV w A S z w' A' S' p undef (.undef,z')/\(bZ (l.drop k) z').1/\(bZ (l.drop k) z').2=(bZ l z).2
theorem PI.step(hP:HP.is P){w1:World}{l:M CF}{k:Nat}{xs:M Value}(h:PI w A S p l z k w1)(hc:tS w A p xs l)(hA:∀b,A b->b<w.heap.size)(hS:∀b,S b->¬A b/\b<w.heap.size)(hk:k<l.length):
  ∃f a2,xs[k]? =some (.func (.func f) #[] a2)/\cV P f/\Calls P f a2 w1 λe w2=>∃c:Bool,e= .returned (.bool c)/\(c=true->PI w A S p l z (k+1) w2)/\(c=false->∃A' S',sV w A S z w2 A' S' p undef (.undef,(bZ l z).2.2)/\(bZ l z).2.1=false):=by
 obtain⟨A',S',z',h1,h2,h3⟩:=h.at_;have hl:l[k]? =some l[k]:=D! hk;obtain⟨v,hv,hC⟩:=S0 hc hl;have hd:l.drop k=l[k]::l.drop (k+1):=List.drop_eq_getElem_cons hk;rw [hd] at h2 h3;generalize l[k]=F at hC h2 h3 hl hd;simp only [bZ] at h2 h3;obtain⟨q0,q1,q2⟩:=h2
 obtain⟨c,q1⟩:∃c,(F z').2.1= .bool c:=by
  revert q1;cases (F z').2.1<;>simp [isB]
 obtain⟨h0,f,a2,rfl,hC⟩:=hC;obtain⟨hf,hC⟩:=hC P hP;refine⟨f,a2,hv,hf,?_⟩;have hK:cg w w1 A A':=λb hb=>⟨h1.mono b hb,h1.same b (hA b hb) λhs=>(hS b hs).1 hb⟩;refine(hC w1 A' z' S' hK h1.bound (λb hb=>(h1.Ml b hb).2) h1.hb q0).mono λe w2 ⟨v,he,A2,S2,g⟩=>?_;have ID:v= .bool c:=by have:=g.res (λ_=>undef);rw [q1] at this;exact this
 subst ID;refine⟨c,he,λhc=>?_,λhc=>?_⟩
 . subst hc;simp only [q1,bv,L!] at q2 h3;have g':sV w1 A' S' z' w2 A2 S2 p undef (.undef,(F z').2.2):={g with res:=λ_=>rfl};exact⟨A2,S2,_,h1.trans g',q2 trivial,h3⟩
 . subst hc;simp only [q1,bv,O!] at h3;have g':sV w1 A' S' z' w2 A2 S2 p undef (.undef,(F z').2.2):={g with res:=λ_=>rfl};rw [<-h3];exact⟨A2,S2,h1.trans g',rfl⟩
def Lu{ops:Array Oper}{Q:Exit->Act->World->Prop}{a:Act}{rest:M Oper}{dst:Option Tmp}{x:Operand}{ty:TypeId}{pos:String}{after:Array Edge}{f:FuncId}{a2:Array Value}
  (hx:a.eval x= .func (.func f) #[] a2) (hf:cV P f) (h:Calls P f a2 w λe w'=>∃v,e= .returned v/\wpList P ops Q rest (a.put dst v) w'):
  wpList P ops Q (⟨dst,.call ⟨.value x, #[], #[]⟩,ty,pos,after,none⟩::rest) a w:=by
 have gf:(execOp a.eval ⟨dst,.call ⟨.value x, #[], #[]⟩,ty,pos,after,none⟩).run P w= .ok (.enter f a2) w:=by
  have:=hf a2 w;simp only [execOp,resolve,hx,Deferred.ofValue,Sem.run_bind,Sem.run_pure,Result.andThen_ok,invoke];simpa using this
 have aFs:Region.wanted ⟨dst,.call ⟨.value x, #[], #[]⟩,ty,pos,after,none⟩ (yielded ops a.tmps)=true:=rfl;refine wpList_step λK hK=>?_;rw [if_pos aFs];unfold Oper.wp;rw [gf];refine h.mono λe w' ⟨v,he,hr⟩=>?_;subst he;exact hK _ _ hr
def WalkC(P:Program)(f:FuncId):Prop:=∀(w:World) (A S:Nat->Prop) (p:Value) (l:M CF) (z:Z) (xs:M Value) (b0 cap:Nat) (ad:Option Addr),(∀b,A b->b<w.heap.size)->(∀b,S b->¬A b/\b<w.heap.size)->HB w S p z->
    (bZ l z).1->tS w A p xs l->l.length<=maxLen->(l≠ []->b0<w.heap.size/\¬S b0/\w.rangeAt b0 0 xs)->(l≠ []->ad=some ⟨b0,0,none⟩)->
    Calls P f #[.slice ad l.length cap] w λe w'=>e= .returned (.int .i64 (bif (bZ l z).2.1 then 0 else 6))/\∃A' S',sV w A S z w' A' S' p undef (.undef,(bZ l z).2.2)
def WalkC.fo(hw:WalkC P f){e k0:Nat}{k:Option Nat}{l:M CF}{z:Z}(hA:∀b,A b->b<w.heap.size)(hS:∀b,S b->¬A b/\b<w.heap.size)(hH:HB w S p z)
  (um:(bZ l z).1) (hb:BR w A β k0 (.fo e k l)) (hp:∀j,k=some j->p=β j) (hSb:∀b,ai (β k0)=some b->¬S b):
  Calls P f #[β k0] w λe w'=>e= .returned (.int .i64 (bif (bZ l z).2.1 then 0 else 6))/\∃A' S',sV w A S z w' A' S' p undef (.undef,(bZ l z).2.2):=by
 obtain⟨xs,h1,h2,h3⟩:=hb;rcases h1.2 with⟨g1,g2⟩|⟨g,cap,cur,g1,_,hg,g4,g5,_,_⟩
 . rw [g1];have :l=[]:=V! g2;subst this;exact hw w A S p [] z xs 0 0 none hA hS hH um (h3 p hp) z! (λh=>absurd rfl h) (λh=>absurd rfl h)
 . rcases kg h1 with⟨q1,_⟩|⟨b,j7,q1,q2,q3,q4⟩
   . rw [q1] at g1;cases g1
   . rw [q1];rw [q1] at g1;simp only [Value.slice.injEq,A!,Addr.mk.injEq,z?] at g1;obtain⟨rfl,_,_⟩:=g1;exact hw w A S p l z xs b j7 _ hA hS hH um (h3 p hp) w! (λ_=>⟨(Q!.1 hg).1,hSb b (by rw [q1];rfl),q4⟩) (λ_=>rfl)
def PZ {w:World}{S:Nat->Prop}{e:Nat}:∀n,pa w S e (List.replicate n (.slice none 0 0)) (List.replicate n [])
 |0=>trivial
 |n+1=>⟨World.ownsRow_nil w 0 e 1,z!,nofun,PZ n⟩
def S3 {w:World}{A:Nat->Prop}{β:Nat->Value}:∀ {n:Nat} {xs:M Value},ae w A β xs (List.replicate n .nil)->xs=List.replicate n (.slice none 0 0)
 |0,xs,h=>h
 |n+1,xs,h=>by
  obtain⟨v,vs,rfl,h1,h2⟩:=h;rw [S3 h2,List.replicate_succ];rw [show v=_ from h1]
def S4 {w:World}{S A:Nat->Prop}{e:Nat}:∀ {xs:M Value} {l:M U},(∀u∈xs,∀b,ai u=some b->A b)->pa w S e xs l->dJ (bx w A [.slice [.int .i64]]) xs l
 |[],[],_,_=>rfl
 |v::vs,x::l,hA,⟨h1,h2,h3,h4⟩=>by
  refine⟨[v],vs,rfl,⟨v,[],rfl,?_,rfl⟩,S4 (λu hu=>hA u (E! _ hu)) h4⟩
  have sh:dJ (bx w A [.int .i64]) (x.map (Value.int .i64)) x:=by
   clear h1 h3;induction x with
   |nil=>rfl
   |cons n x ih=>exact⟨[_],_,rfl,⟨_,[],rfl,⟨rfl,h2 n (I! ..)⟩,rfl⟩,ih λm hm=>h2 m (E! _ hm)⟩
  rcases kg h1 with⟨g1,g2⟩|⟨b,cap,g1,g2,g3,g4⟩
  . have :x=[]:=V! g2;subst this;exact⟨none,0,[],g1,S! _,z!,rfl,λh=>absurd rfl h⟩
  . exact⟨_,cap,_,g1,g2,g3,sh,λ_=>⟨b,0,rfl,hA v (I! ..) b (by rw [g1];rfl),g4⟩⟩
def pa.mem {w:World}{S:Nat->Prop}{e:Nat}:∀ {xs:M Value} {l:M U},pa w S e xs l->∀u∈xs,∀b,ai u=some b->S b
 |v::vs,x::l,⟨_,_,h3,h4⟩,u,hu,b,hb=>by
  rcases P!.1 hu with rfl|hu
  . exact(h3 b hb).1
  . exact pa.mem h4 u hu b hb
 |[],_,_,u,hu,_,_=>by cases hu
def aFt{k b:Nat}{ab:AB}(h:BR w A β k ab)(hb:ai (β k)=some b):b<w.heap.size:=by
 cases ab with
 |mp b2 es ck=>
  obtain⟨h1,h2,_⟩:=h;rw [h1] at hb;simp only [ai,A!] at hb;subst hb;exact(Q!.1 h2).1
 |arr _ _|fvar _ _|cells _=>
  obtain⟨b',arr,e,h1,h2,_⟩:=h;rw [h1] at hb;simp only [ai,A!] at hb;subst hb;exact(Q!.1 h2).1
 |row _ _ _ _|views _ _ _ _ _|fo _ _ _|bc _ _ _ _|eF _ _ _ _=>
  obtain⟨xs,h1,_⟩:=h;rcases h1.2 with⟨hn,_⟩|⟨g,cap,cur,hv,_,hg,_⟩
  . rw [hn] at hb;simp [ai] at hb
  . rw [hv] at hb;simp only [ai,A!] at hb;subst hb;exact(Q!.1 hg).1
 |iu _ _ _ _ _=>
  obtain⟨xs,v0,h1,_⟩:=h;rcases h1.2 with⟨hn,_⟩|⟨g,cap,cur,hv,_,hg,_⟩
  . rw [hn] at hb;simp [ai] at hb
  . rw [hv] at hb;simp only [ai,A!] at hb;subst hb;exact(Q!.1 hg).1
def JI(b:Bool):aa w A β (.int .i64 (bif b then 0 else 6)) (RF b):=by
 cases b<;>exact⟨rfl,by decide,by decide⟩
def QY{G:Nat->Option GD}{ei:Nat}(hw:WalkC P f):aF P G f (GW ei):=by
 intro w A β args bc hs r hA hG bm fi vr jW hp hlen DW
 have VL:∀k,ae w A β args [.own k]->args=[β k]:=λk h=>by
  obtain⟨v,vs,rfl,h1,h2⟩:=h;simp only [ae] at h2;subst h2;rw [h1.1]
 unfold GW at jW;split at jW
 . rename_i e k l;simp only [A!,bk.run,bk.rows,bk.MP,bk.Kj,runT_eq] at jW;subst jW;have Eo:=fi 0 _ rfl;rw [VL _ bm];refine(hw.fo (S:=λ_=>False) (z:=.n) (p:=k.elim undef β) (k0:=50000) hA nofun trivial hp Eo (λj hj=>by rw [hj];rfl) nofun).mono ?_;rintro e' w' ⟨rfl,A',S',g⟩;refine⟨_,rfl,A',β,⟨g.os,g.tape,g.output,g.size,λb hb _=>g.same b hb id,λb hb=>⟨g.mono b hb,g.same b (hA b hb) id⟩,λb hb ha=>.inl (g.iP b hb ha),g.bound,JI _,?_,nofun,?_⟩⟩
   . intro i ab h;match i,h with
     |0,h=>cases h
     |_+1,h=>cases h
   . rintro k k' b (⟨i,ab,_,_,h⟩|⟨j,_,h⟩) _ _ _
     . match i,h with
       |0,h=>cases h
       |_+1,h=>cases h
     . simp at h
 . rename_i e l t;simp only [A!,bk.run,bk.rows,bk.MP,bk.Kj,runT_eq] at jW;subst jW;have Eo:=fi 0 _ rfl;rw [VL _ bm];obtain⟨b,arr,e0,c1,c2,c3,c4,c5⟩:=fi 1 _ rfl;obtain⟨v,vs,ha,⟨rfl,Tj⟩,K6⟩:=c4;simp only [ae] at K6;subst K6;have AQ:arr= #[.string ⟨t.toArray⟩]:=by apply Array.ext';exact ha
   subst AQ;have hbs:=(Q!.1 c2).1;have hS:∀g,g=b->¬A g/\g<w.heap.size:=by rintro g rfl;exact⟨c3,hbs⟩
   refine(hw.fo (S:=λg=>g=b) (z:=.s t) (p:=β 50001) (k0:=50000) hA hS ⟨b,e0,c1,c2,Tj,rfl⟩ hp Eo (λj hj=>by cases hj;rfl) (λg hg Uc=>?_)).mono ?_
   . subst Uc;have:=vr 0 1 g z! z! hg (by rw [c1];rfl);cases this
   rintro e' w' ⟨rfl,A',S',g⟩;have KZ:=g.kin
   have hhb:=g.hb;generalize (bZ l (.s t)).2.2=z' at KZ hhb;cases z' with
   |n=>cases KZ
   |g _ _ _=>cases KZ
   |s t'=>
   obtain⟨b',e1,d1,d2,d3,d4⟩:=hhb
   have Mo:b'=b:=by
    have c1':β 50001= .pointer (some ⟨b,0,none⟩):=c1;rw [c1'] at d1;simp only [Value.pointer.injEq,A!,Addr.mk.injEq,z?] at d1;exact d1.symm
   subst Mo;have hM:∀x,x=b'->HM β 2 x:=by rintro x rfl;exact⟨1,by decide,by rw [c1];rfl⟩
   refine⟨_,rfl,A',β,⟨g.os,g.tape,g.output,g.size,λx hx hm=>g.same x hx λhs=>hm (hM x hs),λx hx=>⟨g.mono x hx,g.same x (hA x hx) λhs=>(hS x hs).1 hx⟩,λx hx ha=>.inl (g.iP x hx ha),g.bound,JI _,?_,nofun,?_⟩⟩
   . intro i ab h;match i,h with
     |0,h=>cases h
     |1,h=>
      simp only [List.getElem?_cons_succ,c?,A!] at h;subst h;exact⟨⟨b',_,e1,c1,d2,(g.Ml b' d4).2.1,⟨_,[],rfl,⟨rfl,d3⟩,rfl⟩,by simp [Value.oneCell']⟩,rfl⟩
     |_+2,h=>cases h
   . have hk:∀k,AS ⟨(bZ l (.s t)).1,RF (bZ l (.s t)).2.1,[none,some (.cells [.str (Z.s t').txt])],[]⟩ k->k=50001:=by
      rintro k (⟨i,ab,rfl,_,h⟩|⟨j,_,h⟩)
      . match i,h with
        |0,h=>cases h
        |1,_=>rfl
        |_+2,h=>cases h
      . simp at h
     intro k k' x h1 h2 _ _;rw [hk k h1,hk k' h2]
 . rename_i e l e2 n cs;simp only [A!,bk.run,bk.rows,bk.MP,bk.Kj,runT_eq] at jW;subst jW;obtain⟨dX,hp⟩:=hp;subst dX;have Eo:=fi 0 _ rfl;rw [VL _ bm];obtain⟨b,arr,e0,c1,c2,c3,c4,c5⟩:=fi 1 _ rfl;obtain⟨v,vs,ha,⟨aI9,hv1⟩,K6⟩:=c4;simp only [ae] at K6;subst K6;subst aI9;have AQ:arr= #[β 50002]:=by apply Array.ext';exact ha
   subst AQ;have aJa:=fi 2 _ rfl;obtain⟨xs,f1,f2,f3⟩:=aJa;have hxs:=S3 (f3 β);subst hxs;have hbs:=(Q!.1 c2).1;have hrl:∀g,ai (β 50002)=some g->g<w.heap.size:=λg hg=>aFt (fi 2 _ rfl) hg
   have fh:∀g,ai (β 50002)=some g->g≠b:=λg hg Uc=>by
    subst Uc;have:=vr 2 1 g z! z! hg (by rw [c1];rfl);cases this
   have hS:∀g,g=b\/ai (β 50002)=some g->¬A g/\g<w.heap.size:=by
    rintro g (rfl|hg)
    . exact⟨c3,hbs⟩
    . exact⟨f2 g hg,hrl g hg⟩
   have JT:∀u∈List.replicate n (Value.slice none 0 0),∀g,ai u≠some g:=λu hu g=>by
    rw [(List.mem_replicate.1 hu).2];nofun
   have hH:HB w (λg=>g=b\/ai (β 50002)=some g) (β 50001) (.g e2 ei (List.replicate n [])):=by
    refine⟨b,e0,β 50002,_,c1,c2,.inl rfl,hv1,by simpa using f1,λg hg=>⟨.inr hg,fh g hg,λu hu=>JT u hu g⟩,λu hu=>JT u hu b,PZ n⟩
   refine(hw.fo (S:=λg=>g=b\/ai (β 50002)=some g) (z:=.g e2 ei (List.replicate n [])) (p:=β 50001) (k0:=50000) hA hS hH hp Eo (λj hj=>by cases hj;rfl) (λg hg Uc=>?_)).mono ?_
   . rcases Uc with rfl|Dl
     . have:=vr 0 1 g z! z! hg (by rw [c1];rfl);cases this
     . have:=vr 0 2 g z! z! hg Dl;cases this
   rintro e' w' ⟨rfl,A',S',g⟩;have KZ:=g.kin
   have hhb:=g.hb;generalize (bZ l (.g e2 ei (List.replicate n []))).2.2=z' at KZ hhb;cases z' with
   |n=>cases KZ
   |s _=>cases KZ
   |g e3 ei3 l'=>
   obtain⟨rfl,rfl,aoO⟩:=KZ;obtain⟨b',e1,v',ys,d1,d2,d3,d4,d5,d6,d7,d8⟩:=hhb;have c1':β 50001= .pointer (some ⟨b,0,none⟩):=c1
   have Mo:b'=b:=by
    rw [c1'] at d1;simp only [Value.pointer.injEq,A!,Addr.mk.injEq,z?] at d1;exact d1.symm
   subst Mo
   have hvv:v'=β 50002:=by
    obtain⟨b2,e4,q1,q2⟩:=aoO (β 50002) ⟨b',e0,c1,c2⟩;rw [c1'] at q1;simp only [Value.pointer.injEq,A!,Addr.mk.injEq,z?] at q1;subst q1;rw [d2] at q2;simp only [A!,Obj.cells.injEq] at q2;have:=q2.1;simpa using this
   subst hvv
   have hM:∀x,x=b'\/ai (β 50002)=some x->HM β 3 x:=by
    rintro x (rfl|hx)
    . exact⟨1,by decide,by rw [c1];rfl⟩
    . exact⟨2,by decide,hx⟩
   have V8:∀x,(∃u∈ys,ai u=some x)->S' x:=λx ⟨u,hu,hx⟩=>pa.mem d8 u hu x hx;refine⟨_,rfl,λx=>A' x\/∃u∈ys,ai u=some x,β,⟨g.os,g.tape,g.output,g.size,λx hx hm=>g.same x hx λhs=>hm (hM x hs),λx hx=>⟨.inl (g.mono x hx),g.same x (hA x hx) λhs=>(hS x hs).1 hx⟩,λx hx ha=>?_,λx hx=>?_,JI _,?_,nofun,?_⟩⟩
   . rcases ha with ha|ha
     . exact .inl (g.iP x hx ha)
     . rcases(g.Ml x (V8 x ha)).1 with hs|hs
       . exact .inr (hM x hs)
       . omega
   . rcases hx with hx|hx
     . exact g.bound x hx
     . exact(g.Ml x (V8 x hx)).2.2
   . intro i ab h;match i,h with
     |0,h=>cases h
     |1,h=>
      simp only [List.getElem?_cons_succ,c?,A!] at h;subst h;refine⟨⟨b',_,e1,c1,d2,?_,⟨_,[],rfl,⟨rfl,d4⟩,rfl⟩,by simpa using d4⟩,rfl⟩;rintro(ha|⟨u,hu,hx⟩)
      . exact(g.Ml b' d3).2.1 ha
      . exact d7 u hu hx
     |2,h=>
      simp only [List.getElem?_cons_succ,c?,A!] at h;subst h;refine⟨⟨ys,d5,S4 (λu hu x hx=>.inr ⟨u,hu,hx⟩) d8,λx hx=>?_⟩,rfl⟩;obtain⟨q1,q2,q3⟩:=d6 x hx;simp only [L?,n?];rintro(ha|⟨u,hu,hx⟩)
      . exact(g.Ml x q1).2.1 ha
      . exact q3 u hu hx
     |_+3,h=>cases h
   . have hk:∀k,AS ⟨(List.replicate n AV.nil=List.replicate n .nil/\(bZ l (.g e2 ei (List.replicate n []))).1),RF (bZ l (.g e2 ei (List.replicate n []))).2.1,[none,some (.cells [.own 50002]),some (.row e2 [.slice [.int .i64]] (Z.g e2 ei l').rows false)],[]⟩ k->k=50001\/k=50002:=by
      rintro k (⟨i,ab,rfl,_,h⟩|⟨j,_,h⟩)
      . match i,h with
        |0,h=>cases h
        |1,_=>exact .inl rfl
        |2,_=>exact .inr rfl
        |_+3,h=>cases h
      . simp at h
     intro k k' x h1 h2 hx Dg
     have vt:ai (β 50001)=some x->ai (β 50002)=some x->False:=λq1 q2=>by
      rw [c1'] at q1;simp only [ai,A!] at q1;exact fh x q2 q1.symm
     rcases hk k h1 with rfl|rfl<;>rcases hk k' h2 with rfl|rfl
     . rfl
     . exact(vt hx Dg).elim
     . exact(vt Dg hx).elim
     . rfl
 . cases jW
end Go.Vg
namespace Go.Proofs
open Go Go.RowKit Go.ChangeShapes Go.Vg
set_option maxRecDepth 100000 in
set_option maxHeartbeats 4000000 in
def Tryz.VM(w:World)(A S:Nat->Prop)(p:Value)(l:M CF)(z:Z)(xs:M Value)(b0 cap:Nat)(hA:∀b,A b->b<w.heap.size)(hS:∀b,S b->¬A b/\b<w.heap.size)(hH:HB w S p z)
  (um:(bZ l z).1) (hc:tS w A p xs l) (hl:l.length<=maxLen) (hb:l≠ []->b0<w.heap.size/\¬S b0/\w.rangeAt b0 0 xs) (ad:Option Addr) (had:l≠ []->ad=some ⟨b0,0,none⟩):
  Calls Tryz.prog 44 #[.slice ad l.length cap] w λe w'=>e= .returned (.int .i64 (bif (bZ l z).2.1 then 0 else 6))/\∃A' S',sV w A S z w' A' S' p undef (.undef,(bZ l z).2.2):=by
 go_enter Tryz.func44,Tryz.ntmps44
 go_wp2
 go_loopw [7] (λi wr=>∃k:Nat,k<=l.length/\i= .int .i64 k/\Aside (PI w A S p l z k wr)) (λi _=>l.length-(intOf i).toNat)
 case atStart=>exact⟨0,U! _,rfl,⟨A,S,z,sV.zero hA hS hH,um,rfl⟩⟩
 case round=>
  have hl2:l.length<=9223372036854775807:=by have:=hl;unfold maxLen at this;omega
  obtain⟨k,hk,rfl,HI⟩:=hrel;by_cases jU:k<l.length
  . obtain⟨f,a2,hx,hf,wU⟩:=PI.step (P:=Tryz.prog) rfl HI hc hA hS jU;have fh:l≠ []:=by rintro rfl;simp at jU
    obtain⟨MS,K7,hb3⟩:=hb fh;have aJc:=had fh;subst aJc
    have qh:wr.cell? ⟨b0,k,none⟩=some (.func (.func f) #[] a2):=by
     have h1:=hb3 k _ hx;rw [r?] at h1;obtain⟨A',S',z',g,_⟩:=HI.at_;rw [<-h1];exact World.cell?_of_block (g.same b0 MS K7)
    clear hb hb3 had;go_wp2_with (first|(refine Lu rfl hf (wU.mono ?_);rintro e w2 ⟨c,rfl,hT,hF⟩;refine⟨_,rfl,?_⟩;cases c)|go_in)
    . go_ret
      obtain⟨A',S',g,hz⟩:=hF trivial;rw [hz];exact⟨rfl,A',S',g⟩
    . exact⟨⟨k+1,w!,by go_num,hT rfl⟩,by simp [intOf];omega⟩
  . have :k=l.length:=by omega
    subst this;obtain⟨A',S',z',g,h1,h2⟩:=HI.at_;rw [List.drop_length] at h2;simp only [bZ] at h2;have e1:(bZ l z).2.1=true:=by rw [<-h2]
    have e2:(bZ l z).2.2=z':=by rw [<-h2]
    clear hb h1 h2 hc um;go_wp2
    go_ret
    rw [e1,e2];exact⟨rfl,A',S',g⟩
def Tryz.į {G:Nat->Option GD}:aF Tryz.prog G 44 (GW 3):=QY λw A S p l z xs b0 cap ad h1 h2 h3 h4 h5 h6 h7 h8=>Tryz.VM w A S p l z xs b0 cap h1 h2 h3 h4 h5 h6 h7 ad h8
end Go.Proofs
namespace Go.J
open Go Vg Go.Proofs
def cL:č->ď->bo:=λ(g1,g2,g3,g4,w,a1,a2,a3,a4,i,j) y=>
 let r:=bif S.sZ (g1,g2,g3,g4) w a4 i j then Vt (g1,g2,g3,g4,w,a1,a2,a3,a4,i,j) y else Vw (g1,g2,g3,g4,w,a1,a2,a3,a4,i,j) y
 ⟨S.OZ w a4 i j/\S.Sz j y.2.1.2 y.2.1.1.length y.2.2.1,r.res,r.heap,r.new⟩
def ao1 {G:Nat->Option GD}(hy:aF Tryz.prog G 41 Vu)(hn:aF Tryz.prog G 41 Vx):EA G 41 (Bs YD ae6):=by
 have hv:aF Tryz.prog G 41 (bI Pv YE cL):=by
  refine aF.cases hy hn λx y h=>?_;obtain⟨g1,g2,g3,g4,w,a1,a2,a3,a4,i,j⟩:=x;obtain⟨_,⟨xs,q⟩,l,_⟩:=y;cases hb:S.sZ (g1,g2,g3,g4) w a4 i j with
  |true=>exact .inl ⟨⟨h.1,h.2,hb⟩,by simp only [cL,hb,L!]⟩
  |false=>exact .inr ⟨⟨h.1,h.2,hb⟩,by simp only [cL,hb,O!]⟩
 refine W3 (λ_ h=>h) (cV.k Tryz.func41 y!) hv λx z h=>?_;obtain⟨g1,g2,g3,g4,w,a1,a2,a3,a4,i,j⟩:=x;cases z with
 |s t=>exact h.elim
 |n=>exact h.elim
 |g e ei l=>
  obtain⟨rfl,rfl,h1,h2⟩:=h;refine⟨27,3,l,j.toNat,_,rfl,rfl,h2.2.1,⟨_,rfl⟩,λxs hx=>⟨cL (g1,g2,g3,g4,w,a1,a2,a3,a4,i,j) ((),((xs,j.toNat),(l.getD j.toNat [],()))),y!,⟨h1,h2.1,by show _<xs.length;rw [hx];exact h2.2.1,h2.2.2⟩,?_,?_⟩⟩
  . show(cL (g1,g2,g3,g4,w,a1,a2,a3,a4,i,j) ((),((xs,j.toNat),(l.getD j.toNat [],())))).res= .bool (S.sZ (g1,g2,g3,g4) w a4 i j);cases hb:S.sZ (g1,g2,g3,g4) w a4 i j<;>simp only [cL,hb,L!,O!]<;>rfl
  . cases hb:S.sZ (g1,g2,g3,g4) w a4 i j with
    |true=>exact .inr ⟨by simp only [cL,hb,L!];rfl,by simp only [cL,hb,L!,Vt,S.O0,Q?]⟩
    |false=>exact .inl ⟨by simp only [cL,hb,O!,Vw,S.O0];rfl,by simp only [cL,hb,O!];rfl⟩
end Go.J
