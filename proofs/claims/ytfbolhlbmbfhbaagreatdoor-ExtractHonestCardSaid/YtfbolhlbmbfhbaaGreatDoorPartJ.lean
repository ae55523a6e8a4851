import Derived.Test.YtfbolhlbmbfhbaaGreatDoorPartI
import Derived.Test.YtfbolhlbmbfhbaaGreatDoorCards
import Derived.Test.YtfbolhlbmbfhbaaGreatDoorTie
import Derived.Deep.DeepHandedRow
import Derived.ProofKit
import Derived.OpenShut
set_option linter.all false
namespace Go.Proofs.YtfbolhlbmbfhbaaGreatDoor
open Go Go.Vg Go.ChangeShapes Go.WideShapes Go.ChangeAt Go.RowKit
theorem own:ownKnob Tryz.prog.godebug=none:=by kernel_rfl
def laidOut:laidOutB Tryz.prog=true:=by kernel_rfl
set_option maxRecDepth 100000 in
def aLZ {W:World}(h:laidMet Tryz.prog [("rubrick/sha.begin",Rows.laid_rubrick_sha_begin),("rubrick/sha.rounds",Rows.laid_rubrick_sha_rounds),("rubrick/utf.letters",Rows.laid_rubrick_utf_letters),("rubrick/utf.shifts",Rows.laid_rubrick_utf_shifts)] W):∀i d,Go.J.G0 i=some d->auo W (λb=>b<W.heap.size) i d:=by
 intro i d a;match i,a with
 |0,a=>
  cases a;exact Q5 (k:=.u32) (zs:=[1779033703,3144134277,1013904242,2773480762,1359893119,2600822924,528734635,1541459225]) h (.head _) y! y! Tryz.underlying254 Tryz.underlying253 y! y! (by decide) (by simp[yu,po,lo,hi,Row.hd,Row.tl,DI.toInt])
 |1,a=>
  cases a
  exact Q4 (k:=.i64) (zss:=[[65,90],[97,122],[192,214],[216,246],[248,255],[913,929],[931,937],[945,969],[1024,1119]]) h (.tail _ (.tail _ (.head _))) y! y! Tryz.underlying410 Tryz.underlying409 y! y! rfl (λi f H=>by
   match i,H with
   |0,H|1,H=>cases H;exact⟨rfl,Tryz.underlying3,y!⟩
   |i+2,H=>simp at H) (by decide) (by decide) (by simp[yu,po,lo,hi,Row.hd,Row.tl,DI.toInt])
 |2,a=>
  cases a;exact Q5 (k:=.u32) (zs:=[1116352408,1899447441,3049323471,3921009573,961987163,1508970993,2453635748,2870763221,3624381080,310598401,607225278,1426881987,1925078388,2162078206,2614888103,3248222580,3835390401,4022224774,264347078,604807628,770255983,1249150122,1555081692,1996064986,2554220882,2821834349,2952996808,3210313671,3336571891,3584528711,113926993,338241895,666307205,773529912,1294757372,1396182291,1695183700,1986661051,2177026350,2456956037,2730485921,2820302411,3259730800,3345764771,3516065817,3600352804,4094571909,275423344,430227734,506948616,659060556,883997877,958139571,1322822218,1537002063,1747873779,1955562222,2024104815,2227730452,2361852424,2428436474,2756734187,3204031479,3329325298]) h (.tail _ (.head _)) y! y! Tryz.underlying453 Tryz.underlying253 y! y! (by decide) (by simp[yu,po,lo,hi,Row.hd,Row.tl,DI.toInt,S.Bo])
 |3,a=>
  cases a
  exact Q4 (k:=.i64) (zss:=[[65,90,32],[192,214,32],[216,222,32],[913,929,32],[931,937,32],[1024,1039,80],[1040,1071,32]]) h (.tail _ (.tail _ (.tail _ (.head _)))) y! y! Tryz.underlying463 Tryz.underlying462 y! y! rfl (λi f H=>by
   match i,H with
   |0,H|1,H|2,H=>cases H;exact⟨rfl,Tryz.underlying3,y!⟩
   |i+3,H=>simp at H) (by decide) (by decide) (by simp[yu,po,lo,hi,Row.hd,Row.tl,DI.toInt])
 |_+4,a=>cases a
def aPD(w:World)(c:Array Value):World:={w with heap:=w.heap.modify 0 λ
    |.cells _ t frozen=>.cells c t frozen
    |o=>o}
def aPE(w:World)(c:Array Value):World:={w with heap:=w.heap.modify 1 λ
    |.cells _ t frozen=>.cells c t frozen
    |o=>o}
def aPF(w:World)(c:Array Value):World:={w with heap:=w.heap.modify 2 λ
    |.cells _ t frozen=>.cells c t frozen
    |o=>o}
def aPG(w:World)(c:Array Value):World:={w with heap:=w.heap.modify 3 λ
    |.cells _ t frozen=>.cells c t frozen
    |o=>o}
noncomputable def Hf (o:Os):World:=aPG (aPF (aPE (aPD (World.holding Tryz.prog o ⟨#[], #[],[]⟩) #[.int .u32 1779033703,.int .u32 3144134277,.int .u32 1013904242,.int .u32 2773480762,.int .u32 1359893119,.int .u32 2600822924,.int .u32 528734635,.int .u32 1541459225]) #[.int .i64 65,.int .i64 90,.int .i64 97,.int .i64 122,.int .i64 192,.int .i64 214,.int .i64 216,.int .i64 246,.int .i64 248,.int .i64 255,.int .i64 913,.int .i64 929,.int .i64 931,.int .i64 937,.int .i64 945,.int .i64 969,.int .i64 1024,.int .i64 1119]) #[.int .u32 1116352408,.int .u32 1899447441,.int .u32 3049323471,.int .u32 3921009573,.int .u32 961987163,.int .u32 1508970993,.int .u32 2453635748,.int .u32 2870763221,.int .u32 3624381080,.int .u32 310598401,.int .u32 607225278,.int .u32 1426881987,.int .u32 1925078388,.int .u32 2162078206,.int .u32 2614888103,.int .u32 3248222580,.int .u32 3835390401,.int .u32 4022224774,.int .u32 264347078,.int .u32 604807628,.int .u32 770255983,.int .u32 1249150122,.int .u32 1555081692,.int .u32 1996064986,.int .u32 2554220882,.int .u32 2821834349,.int .u32 2952996808,.int .u32 3210313671,.int .u32 3336571891,.int .u32 3584528711,.int .u32 113926993,.int .u32 338241895,.int .u32 666307205,.int .u32 773529912,.int .u32 1294757372,.int .u32 1396182291,.int .u32 1695183700,.int .u32 1986661051,.int .u32 2177026350,.int .u32 2456956037,.int .u32 2730485921,.int .u32 2820302411,.int .u32 3259730800,.int .u32 3345764771,.int .u32 3516065817,.int .u32 3600352804,.int .u32 4094571909,.int .u32 275423344,.int .u32 430227734,.int .u32 506948616,.int .u32 659060556,.int .u32 883997877,.int .u32 958139571,.int .u32 1322822218,.int .u32 1537002063,.int .u32 1747873779,.int .u32 1955562222,.int .u32 2024104815,.int .u32 2227730452,.int .u32 2361852424,.int .u32 2428436474,.int .u32 2756734187,.int .u32 3204031479,.int .u32 3329325298]) #[.int .i64 65,.int .i64 90,.int .i64 32,.int .i64 192,.int .i64 214,.int .i64 32,.int .i64 216,.int .i64 222,.int .i64 32,.int .i64 913,.int .i64 929,.int .i64 32,.int .i64 931,.int .i64 937,.int .i64 32,.int .i64 1024,.int .i64 1039,.int .i64 80,.int .i64 1040,.int .i64 1071,.int .i64 32]
def aYn:Valid Tryz.prog Go.J.G0 7 (fo Go.J.a1j λ_=>(True,.bool true,[])):=Go.J.a7M
def aWt(o:Os):laidMet Tryz.prog Rows.extractHonestRow.laid ((Hf o).forCall (λ_ _=>0) ⟨#[], #[.slice none 0 0,.slice none 0 0,.slice none 0 0,.int .i64 0],[]⟩).memory:=
 laidMet_of_run' 8 y! y!
def aYo(o:Os){H:Type}(e:TypeId×Value->H):∃p,DataW.whole e Tryz.prog ((Hf o).forCall (λ_ _=>0) ⟨#[], #[.slice none 0 0,.slice none 0 0,.slice none 0 0,.int .i64 0],[]⟩).memory Tryz.f7.params.toList Rows.extractHonestSpec.vars false (#[.slice none 0 0,.slice none 0 0,.slice none 0 0,.int .i64 0]:Array Value).toList 8=some ([.nil,.nil,.nil,.lit (.int .i64 0)],[],p):=
 ⟨[],y!⟩
set_option maxRecDepth 100000 in
def aWO(o:Os)(S:o.Started)(H:Type)(e:TypeId×Value->H)(F:Stop.Interp):
  ReturnsInHanded {} Tryz.checked o 7 .any ((OpenSpec.ofChange Rows.extractHonestSpec).preRow e Tryz.prog Tryz.f7 Rows.extractHonestRow.domain false Rows.extractHonestRow.laid) (((OpenSpec.ofChange Rows.extractHonestSpec).at F).post e Tryz.prog Tryz.f7 false true false false):=by
 obtain⟨p,h⟩:=aYo o e
 refine returnsInHanded_of_row (C:=Tryz.checked) (s:=OpenSpec.ofChange Rows.extractHonestSpec) own S y! Tryz.func7
  (witness_row_at (enc:=e) (C:=Tryz.checked) false (Hf o) #[.slice none 0 0,.slice none 0 0,.slice none 0 0,.int .i64 0] rfl y! y! y!
    (OpenSpec.preRow_of_cond 8 h y! (λk f=>by cases f) y! (aWt o))) ?_
 intro W B a d G b T g _ _ _ i _ _;refine SH (s:=Rows.extractHonestSpec) (bM.of af4) laidOut aYn (show PS.ofs gm Tryz.f7.params.toList=_ by kernel_rfl) y! (show Tryz.f7.resultTypes= #[4] by kernel_rfl) Tryz.underlying4 rfl ?_ (aLZ i) T g;intro H d c;have j:Tryz.f7.params.toList.length=4:=by kernel_rfl
 rw[j] at c;match d,c with
 |[d0,d1,d2,d3],_=>rfl
end Go.Proofs.YtfbolhlbmbfhbaaGreatDoor
