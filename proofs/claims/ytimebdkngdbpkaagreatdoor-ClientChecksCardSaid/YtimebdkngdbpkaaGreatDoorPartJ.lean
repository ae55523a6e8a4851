/- ClientChecks: for every input the given Go function returns true and leaves its arguments as they were. Conditions: none. -/
import Derived.Test.YtimebdkngdbpkaaGreatDoorPartI
import Derived.Test.YtimebdkngdbpkaaGreatDoorCards
import Derived.Test.YtimebdkngdbpkaaGreatDoorTie
import Derived.Deep.DeepHandedRow
import Derived.ProofKit
import Derived.OpenShut
set_option linter.unusedVariables false
set_option linter.unusedSimpArgs false
set_option linter.unusedSectionVars false
set_option linter.defProp false
set_option linter.unusedVariables false
namespace Go.Proofs.YtimebdkngdbpkaaGreatDoor
open Go Go.Vg Go.ChangeShapes Go.WideShapes Go.ChangeAt Go.RowKit
theorem own:ownKnob Tryz.prog.godebug=none:=by kernel_rfl
theorem laidOut:laidOutB Tryz.prog=true:=by kernel_rfl
set_option maxRecDepth 100000 in
theorem aFy {W:World}(h:laidMet Tryz.prog [("rubrick/sha.begin",Rows.laid_rubrick_sha_begin),("rubrick/sha.rounds",Rows.laid_rubrick_sha_rounds),("rubrick/utf.letters",Rows.laid_rubrick_utf_letters),("rubrick/utf.shifts",Rows.laid_rubrick_utf_shifts)] W):∀i d,Go.J.G0 i=some d->oB W (λb=>b<W.heap.size) i d:=by
 intro i d hd;match i,hd with
 |0,hd=>
  cases hd
  exact Pe (k:=.i64) (zss:=[[65,90],[97,122],[192,214],[216,246],[248,255],[913,929],[931,937],[945,969],[1024,1119]]) h (.tail _ (.tail _ (.head _))) y! y! Tryz.underlying345 Tryz.underlying344 y! y! rfl (λi f hf=>by
   match i,hf with
   |0,hf|1,hf=>cases hf;exact⟨rfl,Tryz.underlying3,y!⟩
   |i+2,hf=>simp at hf) (by decide) (by decide) (by simp [xr,ph,lo,hi,Row.hd,Row.tl,DI.toInt])
 |1,hd=>
  cases hd;exact Ph (k:=.u32) (zs:=[1779033703,3144134277,1013904242,2773480762,1359893119,2600822924,528734635,1541459225]) h (.head _) y! y! Tryz.underlying324 Tryz.underlying323 y! y! (by decide) (by simp [xr,ph,lo,hi,Row.hd,Row.tl,DI.toInt])
 |2,hd=>
  cases hd
  exact Pe (k:=.i64) (zss:=[[65,90,32],[192,214,32],[216,222,32],[913,929,32],[931,937,32],[1024,1039,80],[1040,1071,32]]) h (.tail _ (.tail _ (.tail _ (.head _)))) y! y! Tryz.underlying395 Tryz.underlying394 y! y! rfl (λi f hf=>by
   match i,hf with
   |0,hf|1,hf|2,hf=>cases hf;exact⟨rfl,Tryz.underlying3,y!⟩
   |i+3,hf=>simp at hf) (by decide) (by decide) (by simp [xr,ph,lo,hi,Row.hd,Row.tl,DI.toInt])
 |3,hd=>
  cases hd;exact Ph (k:=.u32) (zs:=[1116352408,1899447441,3049323471,3921009573,961987163,1508970993,2453635748,2870763221,3624381080,310598401,607225278,1426881987,1925078388,2162078206,2614888103,3248222580,3835390401,4022224774,264347078,604807628,770255983,1249150122,1555081692,1996064986,2554220882,2821834349,2952996808,3210313671,3336571891,3584528711,113926993,338241895,666307205,773529912,1294757372,1396182291,1695183700,1986661051,2177026350,2456956037,2730485921,2820302411,3259730800,3345764771,3516065817,3600352804,4094571909,275423344,430227734,506948616,659060556,883997877,958139571,1322822218,1537002063,1747873779,1955562222,2024104815,2227730452,2361852424,2428436474,2756734187,3204031479,3329325298]) h (.tail _ (.head _)) y! y! Tryz.underlying400 Tryz.underlying323 y! y! (by decide) (by simp [xr,ph,lo,hi,Row.hd,Row.tl,DI.toInt,S.xU])
 |_+4,hd=>cases hd
def aJd(w:World)(cs:Array Value):World:={w with heap:=w.heap.modify 0 λ
    |.cells _ t frozen=>.cells cs t frozen
    |o=>o}
def aJe(w:World)(cs:Array Value):World:={w with heap:=w.heap.modify 1 λ
    |.cells _ t frozen=>.cells cs t frozen
    |o=>o}
def aJf(w:World)(cs:Array Value):World:={w with heap:=w.heap.modify 2 λ
    |.cells _ t frozen=>.cells cs t frozen
    |o=>o}
def aJg(w:World)(cs:Array Value):World:={w with heap:=w.heap.modify 3 λ
    |.cells _ t frozen=>.cells cs t frozen
    |o=>o}
noncomputable def FJ (os:Os):World:=aJg (aJf (aJe (aJd (World.holding Tryz.prog os ⟨#[], #[],[]⟩) #[.int .i64 65,.int .i64 90,.int .i64 97,.int .i64 122,.int .i64 192,.int .i64 214,.int .i64 216,.int .i64 246,.int .i64 248,.int .i64 255,.int .i64 913,.int .i64 929,.int .i64 931,.int .i64 937,.int .i64 945,.int .i64 969,.int .i64 1024,.int .i64 1119]) #[.int .u32 1779033703,.int .u32 3144134277,.int .u32 1013904242,.int .u32 2773480762,.int .u32 1359893119,.int .u32 2600822924,.int .u32 528734635,.int .u32 1541459225]) #[.int .i64 65,.int .i64 90,.int .i64 32,.int .i64 192,.int .i64 214,.int .i64 32,.int .i64 216,.int .i64 222,.int .i64 32,.int .i64 913,.int .i64 929,.int .i64 32,.int .i64 931,.int .i64 937,.int .i64 32,.int .i64 1024,.int .i64 1039,.int .i64 80,.int .i64 1040,.int .i64 1071,.int .i64 32]) #[.int .u32 1116352408,.int .u32 1899447441,.int .u32 3049323471,.int .u32 3921009573,.int .u32 961987163,.int .u32 1508970993,.int .u32 2453635748,.int .u32 2870763221,.int .u32 3624381080,.int .u32 310598401,.int .u32 607225278,.int .u32 1426881987,.int .u32 1925078388,.int .u32 2162078206,.int .u32 2614888103,.int .u32 3248222580,.int .u32 3835390401,.int .u32 4022224774,.int .u32 264347078,.int .u32 604807628,.int .u32 770255983,.int .u32 1249150122,.int .u32 1555081692,.int .u32 1996064986,.int .u32 2554220882,.int .u32 2821834349,.int .u32 2952996808,.int .u32 3210313671,.int .u32 3336571891,.int .u32 3584528711,.int .u32 113926993,.int .u32 338241895,.int .u32 666307205,.int .u32 773529912,.int .u32 1294757372,.int .u32 1396182291,.int .u32 1695183700,.int .u32 1986661051,.int .u32 2177026350,.int .u32 2456956037,.int .u32 2730485921,.int .u32 2820302411,.int .u32 3259730800,.int .u32 3345764771,.int .u32 3516065817,.int .u32 3600352804,.int .u32 4094571909,.int .u32 275423344,.int .u32 430227734,.int .u32 506948616,.int .u32 659060556,.int .u32 883997877,.int .u32 958139571,.int .u32 1322822218,.int .u32 1537002063,.int .u32 1747873779,.int .u32 1955562222,.int .u32 2024104815,.int .u32 2227730452,.int .u32 2361852424,.int .u32 2428436474,.int .u32 2756734187,.int .u32 3204031479,.int .u32 3329325298]
theorem aQd:Valid Tryz.prog Go.J.G0 3 (eD Go.J.azn λ_=>(True,.bool true,[])):=Go.J.aWN
theorem aPQ(os:Os):laidMet Tryz.prog Rows.clientChecksRow.laid ((FJ os).forCall (λ_ _=>0) ⟨#[], #[.string ⟨#[]⟩,.slice none 0 0,.slice none 0 0],[]⟩).memory:=
 laidMet_of_run' 8 y! y!
theorem aQe(os:Os){H:Type}(enc:TypeId×Value->H):∃places,DataW.whole enc Tryz.prog ((FJ os).forCall (λ_ _=>0) ⟨#[], #[.string ⟨#[]⟩,.slice none 0 0,.slice none 0 0],[]⟩).memory Tryz.f3.params.toList Rows.clientChecksSpec.vars false (#[.string ⟨#[]⟩,.slice none 0 0,.slice none 0 0]:Array Value).toList 8=some ([.lit (.string []),.nil,.nil],[],places):=
 ⟨[],y!⟩
set_option maxRecDepth 100000 in
theorem aQb(os:Os)(started:os.Started)(H:Type)(enc:TypeId×Value->H)(F:Stop.Interp):
  ReturnsInHanded {} Tryz.checked os 3 .any ((OpenSpec.ofChange Rows.clientChecksSpec).preRow enc Tryz.prog Tryz.f3 Rows.clientChecksRow.domain false Rows.clientChecksRow.laid) (((OpenSpec.ofChange Rows.clientChecksSpec).at F).post enc Tryz.prog Tryz.f3 false true false false):=by
 obtain⟨places,hx⟩:=aQe os enc
 refine returnsInHanded_of_row (C:=Tryz.checked) (s:=OpenSpec.ofChange Rows.clientChecksSpec) own started y! Tryz.func3
  (witness_row_at (enc:=enc) (C:=Tryz.checked) false (FJ os) #[.string ⟨#[]⟩,.slice none 0 0,.slice none 0 0] rfl y! y! y!
    (OpenSpec.preRow_of_cond 8 hx y! (λk hk=>by cases hk) y! (aPQ os))) ?_
 intro W base args ds gs before DL hW _ _ _ hL _ _;refine QK (s:=Rows.clientChecksSpec) (bA.of acv) laidOut aQd (show PS.ofs fc Tryz.f3.params.toList=_ by kernel_rfl) y! (show Tryz.f3.resultTypes= #[4] by kernel_rfl) Tryz.underlying4 rfl ?_ (aFy hL) DL hW;intro H ds AR;have hn:Tryz.f3.params.toList.length=3:=by kernel_rfl
 rw [hn] at AR;match ds,AR with
 |[d0,d1,d2],_=>rfl
theorem aRA:Tryz.pinned.checked.prog.funcNamed Rows.clientChecksRow.func=some 3:=by kernel_rfl
theorem aQS:(Rows.clientChecksRow.inPlace==Tryz.pinned.checked.prog.inPlace 3)=true:=by kernel_rfl
theorem aQT:(Rows.clientChecksRow.unfollowed==Tryz.pinned.checked.prog.unfollowed 3)=true:=by kernel_rfl
theorem aQU:(Rows.clientChecksRow.recurses==Tryz.pinned.checked.prog.recurses 3)=true:=by kernel_rfl
theorem aQV:(Rows.clientChecksRow.named==Tryz.pinned.checked.prog.varsNamed 3)=true:=by kernel_rfl
theorem aRB:joinedFacts Tryz.pinned.checked.prog 3 Tryz.f3 (OpenSpec.ofChange Rows.clientChecksSpec).bare Rows.clientChecksRow=true:=by
 unfold joinedFacts;rw [aQS,aQT,aQU,aQV];kernel_rfl
theorem aRC:Tryz.f3.isInstance Tryz.pinned.checked.prog Rows.clientChecksRow.origin Rows.clientChecksRow.targs:=of_decide_eq_true y!
theorem aRD:Tryz.f3.isWrapper Tryz.pinned.checked.prog Rows.clientChecksRow.wrapper Rows.clientChecksRow.mainSum:=by unfold Func.isWrapper;first|(rw [if_pos (by decide+kernel)];kernel_rfl)|(rw [if_neg (by decide+kernel)];exact⟨rfl,rfl⟩)
theorem aQD:Rows.ClientChecksSaid:=
 OpenClaim.holds_of_cond 3 Tryz.f3 rfl rfl rfl rfl rfl rfl rfl ⟨rfl,rfl,rfl,rfl,rfl⟩ rfl rfl rfl rfl rfl aRA Tryz.func3 aRB aRC aRD
  (λos started H enc _ F=>by rw [OpenClaim.pre_eq_preRow];exact aQb os started H enc F)
theorem aQf(f:FuncId)(fn:Func)(hf:Tryz.pinned.checked.prog.funcNamed "rubrick/rubricklaw20.ClientChecks"=some f)(Tq:Tryz.pinned.checked.prog.funcs[f]? =some fn):
  false=Tryz.pinned.checked.prog.looks []/\∀(j:Nat) t,fn.params[j]? =some t->Tryz.pinned.checked.prog.wantsStandIn t=false:=by
 obtain rfl :f=3:=W? ((show Tryz.prog.funcNamed "rubrick/rubricklaw20.ClientChecks"=some 3 by kernel_rfl).symm.trans hf) |>.symm
 obtain rfl :fn=Tryz.f3:=(W? (Tryz.func3.symm.trans Tq)).symm;refine⟨y!,λj t ht=>?_⟩;have h1:(Tryz.f3.params.toList.all λt=>!Tryz.prog.wantsStandIn t)=true:=by kernel_rfl
 have h2:=Z!.1 h1 t (by simpa using Array.mem_of_getElem? ht);have h3:Tryz.prog.wantsStandIn t=false:=by simpa using h2
 exact h3
theorem clientChecks_card:Rows.ClientChecksCardSaid:=
 Claim7.holds_tied_plain_at .later [] _ _ _ _ aQD (λ_ h=>by cases h) y! (λ_ h=>by cases h) clientChecks_row_tie rfl ⟨rfl,rfl⟩ y! rfl aQf y!
#print axioms clientChecks_card
end Go.Proofs.YtimebdkngdbpkaaGreatDoor
