import Derived.Test.YtfaedenbhlgnpaaGreatDoorPartE
import Derived.Test.YtfaedenbhlgnpaaGreatDoorProg
import Derived.WalkKit
import Derived.Below
import Derived.Lib.SlBuf
import Derived.Lib.MakeNoZero
import Derived.Lib.SlFresh
import Derived.Shelf.RegionOpenPlain
import Derived.Deep.LoopGhost
import Derived.Deep.Draws
import Derived.Laws.Externs
import Derived.BigCall
import Derived.Deep.RegionHeld3
import Derived.BigGuard
set_option linter.unusedVariables false
set_option linter.unusedSimpArgs false
section
namespace Go.S
theorem MN {docs:List (List UInt8)} {a:Int} {j:Nat}:∀s∈eM docs a j,s.length≤maxLen:=fun s hs=>by
 have h1:=(fN _ _).1 hs
 simp only [bH,List.mem_map] at h1
 obtain⟨w,_,rfl⟩:=h1
 have :=vM w [] (by simp)
 unfold gf maxLen
 omega
theorem U9 {docs:List (List UInt8)} {f t:Int}(h:dD docs f t=true):kG docs f t∧∀j,(docs.getD j []).length≤2000:=by
 simp only [dD,Bool.and_eq_true,List.all_eq_true,decide_eq_true_eq] at h
 obtain⟨h1,h2,h3,h4,h5⟩:=h
 refine⟨⟨h3,h4,h5,by omega,fun d hd=>by have :=h1 d hd;omega⟩,fun j=> ?_⟩
 by_cases hj:j<docs.length
 · have :=h1 _ (bo docs j [] hj)
   omega
 · rw [List.getD_eq_getElem?_getD,List.getElem?_eq_none (by omega)];simp
end Go.S
namespace Go.DM
open Go Go.Vg Go.Maps Go.RowKit Go.Proofs
theorem TD {w:World} {A:Nat→Prop} {τ:Ty}:∀(l:List (D τ)) (cs:List Value),bX (bh w A [τ]) cs l→cs.length=l.length∧∀(j:Nat) (x:D τ),l[j]? =some x→Rd w A τ (cs.getD j undef) x
 | [],cs,h=>by simp only [bX] at h;subst h;exact⟨rfl,fun j x hx=>by simp at hx⟩
 |y::l,cs,⟨c1,c2,hc,h1,h2⟩=>by
  subst hc
  simp only [bh] at h1
  obtain⟨v,bG,rfl,hv,rfl⟩:=h1
  obtain⟨g1,g2⟩:=TD l c2 h2
  refine⟨by simp [g1],fun j x hx=> ?_⟩
  cases j with
  |zero=>simp at hx;subst hx;exact hv
  |succ j=>simpa using g2 j x (by simpa using hx)
theorem Kq(b:List UInt8):DR [.one (.slice [.int .u8])] [.sl [.int .u8] b]=some b:=rfl
set_option maxRecDepth 100000 in
theorem MO {G:Nat→Option GD} {Fs:Row (PS.flat [.one (.slice [.int .u8])])→Prop×AV×List AB}(sS:Valid Tryz.prog G 126 (aC [.one (.slice [.int .u8])] Fs))
  (hFs:∀b:List UInt8,Fs b=(S.small b, .own 0,[.row 9 [.str] (S.sorted (S.bH b)) false]))
  {F:Row (PS.flat [.one (.slice [.slice [.int .u8]]), .agg [.int .i64, .int .i64]])→Prop×AV×List AB}
  (hF:∀(docs:List (List UInt8)) (f t:Int),F (docs,f,t)=(True, .cB [.sl [.str, .slice [.int .i64]] (S.gn docs f t).1, .int .i64 ((S.gn docs f t).2:Int)],[])):
  Valid Tryz.prog G 107 (aC [.one (.slice [.slice [.int .u8]]), .agg [.int .i64, .int .i64]] F):=by
 intro w A β args cC pre res bs hA hG bx hs hp
 unfold aC at hs
 split at hs
 · rename_i x hx
   obtain⟨docs,f,t⟩:=x
   change List (List UInt8) at docs
   change Int at f
   change Int at t
   have gQ:=hs
   rw [hF docs f t] at gQ
   simp only [Option.some.injEq,Prod.mk.injEq] at gQ
   obtain⟨rfl,rfl,rfl⟩:=gQ
   obtain⟨g1,g2⟩:=ph _ hx bx
   clear hs hp hx bx g2
   change ae w A β args [.sl [.slice [.int .u8]] docs, .agg [.int .i64 f, .int .i64 t]] at g1
   simp only [ae,aa] at g1
   obtain⟨vd,bG,rfl,hvd,va,afW,rfl,⟨arr,rfl,Vv⟩,rfl⟩:=g1
   obtain⟨u1,us,e1,⟨rfl,hf⟩,u2,xd,rfl,⟨rfl,ht⟩,rfl⟩:=Vv
   obtain rfl :arr= #[.int .i64 f, .int .i64 t]:=by apply Array.ext';simpa using e1
   simp only [Rd] at hvd
   obtain⟨a,cap,cs,rfl,GY,Po,BN,aE⟩:=hvd
   obtain⟨gz,c8⟩:=TD (τ:= .slice [.int .u8]) docs cs BN
   have hd:∀j,j<docs.length→∃b o aj cj,a=some ⟨b,o,none⟩∧b<w.heap.size∧w.cell? ⟨b,o+j,none⟩=some (cs.getD j undef)∧cs.getD j undef= .slice aj (docs.getD j []).length cj:=by
    intro j hj
    obtain⟨b,o,rfl,wh,hr⟩:=aE (by intro h;rw [h] at gz;simp at gz;omega)
    have h1:=c8 j (docs.getD j []) (by rw [List.getD_eq_getElem?_getD,List.getElem?_eq_getElem hj];rfl)
    simp only [Rd] at h1
    obtain⟨aj,cj,eO,h2,_⟩:=h1
    refine⟨b,o,aj,cj,rfl,hA b wh,hr j _ ?_,h2⟩
    rw [List.getD_eq_getElem?_getD,List.getElem?_eq_getElem (by omega)];rfl
   show Calls Tryz.prog 107 #[.slice a docs.length cap, .agg #[.int .i64 f, .int .i64 t]] w _
   have bad:Calls Tryz.prog 107 #[.slice a docs.length cap, .agg #[.int .i64 f, .int .i64 t]] w (fun e w'=>e= .returned (.tuple #[.slice none 0 0, .int .i64 1])∧Below w.heap.size w w')→S.dD docs f t=false→
     Calls Tryz.prog 107 #[.slice a docs.length cap, .agg #[.int .i64 f, .int .i64 t]] w (fun e w'=>∃v,e= .returned v∧∃A' aI,jM w A w' v (.cB [.sl [.str, .slice [.int .i64]] (S.gn docs f t).1, .int .i64 ((S.gn docs f t).2:Int)]) [] A' aI):=by
    intro hc hb
    refine hc.mono fun e w' ⟨he,ot⟩=>⟨_,he,A,β,{os:=ot.os,tape:=ot.tape,output:=ot.output,size:=ot.size,same:=ot.block,mono:=fun _ h=>h,kg:=fun _ _ h=>h,bound:=fun b h=>Nat.lt_of_lt_of_le (hA b h) ot.size,res:= ?_,rows:=fun i ab hi=>by simp at hi,apart:=fun i j b hi=>by simp at hi}⟩
    have e2:S.gn docs f t=([],1):=by unfold S.gn;rw [hb];rfl
    rw [e2]
    simp only [aa,ae]
    refine⟨_,rfl,_,_,rfl,?_,_,_,rfl,⟨rfl,by simp only [lo,hi];omega⟩,rfl⟩
    simp only [Rd]
    exact⟨none,0,[],rfl,Nat.le_refl _,Nat.zero_le _,rfl,fun h=>absurd rfl h⟩
   cases Fq:S.dD docs f t with
   |false=>
    refine bad ?_ Fq
    by_cases hc:1000<docs.length∨f<0∨t<f∨(docs.length:Int)<t
    · exact Tryz.PA docs f t a cap w hc
    · refine Tryz.PB docs f t a cap w (by omega) (by omega) (by omega) (by omega) _ hd fun ja=> ?_
      have :S.dD docs f t=true :=by
       simp only [S.dD,Bool.and_eq_true,List.all_eq_true,decide_eq_true_eq]
       refine⟨fun d CW=> ?_,by omega,by omega,by omega,by omega⟩
       obtain⟨i,gU,rfl⟩:=List.getElem_of_mem CW
       have :=ja i gU
       rw [List.getD_eq_getElem?_getD,List.getElem?_eq_getElem gU] at this
       simp only [Option.getD_some] at this
       omega
      rw [this] at Fq;cases Fq
   |true=>
    obtain⟨hmp,h4⟩:=S.U9 Fq
    have alb:∀(j:Nat) (W:World),j<docs.length→Below w.heap.size w W→Calls Tryz.prog 126 #[cs.getD j undef] W fun e w'=>∃v,e= .returned v∧w'.ownsRow W.heap.size 9 1 v (S.eM docs 0 j).length ((S.eM docs 0 j).map Vg.encS)∧Below W.heap.size W w':=by
     intro j W hj hW
     have hk:cL w W A A:=fun b hb=>⟨hb,hW.block b (hA b hb)⟩
     have h1:=yd hk _ _ _ (c8 j (docs.getD j []) (by rw [List.getD_eq_getElem?_getD,List.getElem?_eq_getElem hj];rfl))
     have h2:=sS W A β [cs.getD j undef] [.sl [.int .u8] (docs.getD j [])] (S.small (docs.getD j [])) (.own 0) [.row 9 [.str] (S.sorted (S.bH (docs.getD j []))) false]
      (fun b hb=>Nat.lt_of_lt_of_le (hA b hb) hW.size) (fun i d hi=>(hG i d hi).mono hk) (by simp only [ae,aa];exact⟨_,_,rfl,h1,rfl⟩)
      (by unfold aC;rw [Kq];simp only [hFs]) (by have :=h4 j;unfold S.small;omega)
     refine h2.mono fun e w' ⟨v,he,A',aI,oY⟩=>⟨v,he,?_,oY.os,oY.tape,oY.output,oY.size,oY.same⟩
     have hr:=oY.res
     simp only [aa] at hr
     obtain⟨⟨xs,ho,qF,_⟩,hblk⟩:=oY.rows 0 _ rfl
     obtain⟨rfl,_⟩:=zz _ xs qF
     have eK:S.eM docs 0 j=S.sorted (S.bH (docs.getD j [])):=by unfold S.eM;simp
     rw [eK,hr.1]
     refine⟨ho.1,?_⟩
     rcases ho.2 with hn|⟨g,hX,cur,hv,_,rest⟩
     · exact .inl hn
     · exact .inr ⟨g,hX,cur,hv,hblk g (by rw [hv];rfl),rest⟩
    refine(Tryz.Pw (H:=Unit) docs f t a cap w hmp h4 _ hd alb (fun j s hs=>S.MN s hs)).mono fun e w' ⟨v,xs,W1,he,ot,afY,hW1,ho,qF⟩=> ?_
    have e2:S.gn docs f t=(S.make docs f t,0):=by unfold S.gn;rw [Fq];rfl
    rw [e2]
    refine⟨_,he,fun b=>A b∨(w.heap.size≤b∧b<w'.heap.size),β,{os:=ot.os,tape:=ot.tape,output:=ot.output,size:=ot.size,same:=ot.block,mono:=fun _ h=> .inl h,kg:=fun b hb h=> ?_,bound:=fun b h=> ?_,res:= ?_,rows:=fun i ab hi=>by simp at hi,apart:=fun i j b hi=>by simp at hi}⟩
    · rcases h with h|h
      · exact h
      · omega
    · rcases h with h|h
      · exact Nat.lt_of_lt_of_le (hA b h) ot.size
      · exact h.2
    · simp only [aa,ae]
      refine⟨_,rfl,_,_,rfl,?_,_,_,rfl,⟨rfl,by simp only [lo,hi];omega⟩,rfl⟩
      have hk:cL W1 w' (fun b=>w.heap.size≤b∧b<W1.heap.size) (fun b=>A b∨(w.heap.size≤b∧b<w'.heap.size)):=fun b hb=>⟨.inr ⟨hb.1,Nat.lt_of_lt_of_le hb.2 afY.size⟩,afY.block b hb.2⟩
      have aoD:=bA (fun c x hx=>bB hk _ c x hx) _ _ qF
      simp only [Rd]
      rcases ho.2 with⟨rfl,h0⟩|⟨g,hX,cur,rfl,hg,hh,hn,hc,cR,BS⟩
      · have hm0:S.make docs f t= []:=List.length_eq_zero_iff.1 h0
        rw [hm0]
        exact⟨none,0,[],rfl,Nat.le_refl _,Nat.zero_le _,rfl,fun h=>absurd rfl h⟩
      · refine⟨some ⟨g,0,none⟩,hX,xs,rfl,hn,hc,aoD,fun _=>⟨g,0,rfl, .inr ⟨by omega,(Array.getElem?_eq_some_iff.1 hh).1⟩,fun j u hj=> ?_⟩⟩
        have :=ho.cells (g:=g) rfl j u hj
        rwa [Addr.add_mid] at this
 · cases hs
end Go.DM

end
section
namespace Go.Proofs
open Go Go.RowKit Go.ChangeShapes Go.Lib
set_option maxRecDepth 100000 in
set_option maxHeartbeats 4000000 in
theorem Tryz.Ł(w:World):Calls Tryz.prog 122 #[.int .u64 1, .int .u64 64] w fun e w'=>e= .returned (.tuple #[.int .u64 0, .int .u64 64])∧w'=w:=by
 go_enter Tryz.func122,Tryz.ntmps122
 go_wp2
 go_ret2
 exact⟨by kernel_rfl,rfl⟩
set_option maxRecDepth 100000 in
set_option maxHeartbeats 4000000 in
theorem Tryz.alc(w:World):Calls Tryz.prog 90 #[.int .u64 1, .int .u64 64] w fun e w'=>e= .returned (.tuple #[.int .u64 0, .int .u64 64])∧w'=w:=by
 go_enter Tryz.func90,Tryz.ntmps90
 go_wp2_with (go_at_call 122;refine(Tryz.Ł _).mono ?_;rintro e w1 ⟨rfl,rfl⟩)
 go_ret2
 exact⟨by kernel_rfl,rfl⟩
theorem Lib.PC {P:Program}(w0 wr:World)(h N:Nat)(acc:List UInt8)(k:Nat)(cap:Nat)(t ty e:TypeId)(hu:P.underlying t=some (.slice e))(hs:(P.info? e).map (·.size)=some 1)
  (hb:Buf w0 wr h N acc) (hk:k≤acc.length) (hk0:0<k) (oP:acc.length+k≤N):
  ∃wr',(Builtin.copy_ #[t,t] ty #[tailV h N acc.length, .slice (some ⟨h,0,none⟩) k cap]).run P wr= .ok (.int .i64 (k:Int)) wr'∧Buf w0 wr' h N (acc++acc.take k):=by
 obtain⟨l,hl⟩:∃l,l=acc.take k:=⟨_,rfl⟩
 have KE:l.length=k:=by rw [hl,List.length_take];omega
 have dJ:¬N=acc.length:=by omega
 have hr:=run_copy_cells (P:=P) wr t t ty e h acc.length (N-acc.length) (N-acc.length) ⟨h,0,none⟩ l.length cap (l.map fun x=>Value.int .u8 (x.toNat:Int)) hu hs (by rw [List.length_map];exact(Nat.min_eq_left (by omega)).symm)
  (fun j u hj=>by
    rw [List.getElem?_map] at hj
    obtain⟨x,hx,rfl⟩:=Option.map_eq_some_iff.1 hj
    have sk:=(List.getElem?_eq_some_iff.1 hx).1
    rw [hl,List.getElem?_take_of_lt (by omega)] at hx
    have :=hb.holds j x hx
    have e:(⟨h,0,none⟩:Addr).add j=⟨h,j,none⟩:=by unfold Addr.add;split<;>simp_all
    rw [e];exact this)
  (fun j hj=>by rw [List.length_map] at hj;exact hb.there _ (by omega)) (fun j hj=>by rw [List.length_map] at hj;exact hb.free _ (by omega))
  (fun u zN=>by obtain⟨x,_,rfl⟩:=List.mem_map.1 zN;rfl)
 rw [List.length_map] at hr
 refine⟨_,by unfold tailV;rw [if_neg dJ,←KE];exact hr,?_⟩
 have Vz:=World.cell?_setCells_in h (l.map fun x=>Value.int .u8 (x.toNat:Int)) acc.length wr (fun j hj=>by rw [List.length_map] at hj;exact hb.there _ (by omega))
 have nu:=World.cell?_setCells_out h (l.map fun x=>Value.int .u8 (x.toNat:Int)) acc.length wr
 rw [←hl]
 refine⟨?_,?_,?_,?_,by rw [List.length_append];omega⟩
 · exact below_setCells h (Nat.le_refl _) _ _ hb.below
 · intro j hj
   by_cases h1:acc.length≤j∧j<acc.length+l.length
   · obtain⟨d,rfl⟩:∃d,j=acc.length+d:=⟨j-acc.length,by omega⟩
     rw [Vz d (by rw [List.length_map];omega)]
     rfl
   · rw [nu ⟨h,j,none⟩ (fun _ _=>by rw [List.length_map];show j<_∨_≤j;omega)]
     exact hb.there j hj
 · intro j hj
   rw [World.frozen?_setCells]
   exact hb.free j hj
 · intro j x hx
   by_cases h1:j<acc.length
   · rw [List.getElem?_append_left h1] at hx
     rw [nu ⟨h,j,none⟩ (fun _ _=>Or.inl h1)]
     exact hb.holds j x hx
   · rw [List.getElem?_append_right (by omega)] at hx
     obtain⟨d,rfl⟩:∃d,j=acc.length+d:=⟨j-acc.length,by omega⟩
     rw [Nat.add_sub_cancel_left] at hx
     have hd:d<l.length:=(List.getElem?_eq_some_iff.1 hx).1
     rw [Vz d (by rw [List.length_map];exact hd)]
     simp [List.getElem_map,(List.getElem?_eq_some_iff.1 hx).2]
theorem Tryz.TF:(Tryz.prog.info? 5).map (·.size)=some 1:=by kernel_rfl
theorem Tryz.adA(w:World):(Go.sizeOf 5).run Tryz.prog w= .ok 1 w:=by kernel_rfl
set_option maxRecDepth 100000 in
set_option maxHeartbeats 4000000 in
theorem Tryz.Kr(b o c:Nat)(w:World)(j6:w.cell? ⟨b,o,none⟩=some (.int .u8 255)):
  Calls Tryz.prog 56 #[.slice (some ⟨b,o,none⟩) 1 c, .int .i64 64] w fun e w'=>∃v',e= .returned v'∧FreshBytes w.heap.size w' v' (List.replicate 64 255)∧Below w.heap.size w w':=by
 have mixed:Tryz.prog.follows .mixedOrders=true :=by kernel_rfl
 obtain⟨cs,ł,hle,_⟩:=Lib.run_makeNoZero (P:=Tryz.prog) w #[3] 26 5 Tryz.underlying26 64 (by omega)
 have qH:(callFunc 91 #[.int .i64 64]).run Tryz.prog w= .ok (.value (.slice (some ⟨w.heap.size,0,none⟩) 64 cs.size)) ((w.alloc (.cells cs 5)).drewN 2):=by
  rw [run_callFunc_extern Tryz.func91 (by kernel_rfl) (by kernel_rfl) (by kernel_rfl) (e:=Extern.BytealgMakeNoZero.makeNoZero #[3] #[26]) (by kernel_rfl)]
  have :(Extern.BytealgMakeNoZero.makeNoZero #[3] #[26] #[.int .i64 64]).run Tryz.prog w=_:=ł
  rw [this];rfl
 clear ł
 have i1:(64:Int)≤(cs.size:Int):=by omega
 have B0:=Lib.Buf.start w cs 5 64 2 hle
 have hH:HoldsBytes w (.slice (some ⟨b,o,none⟩) 1 c) [255]:=by
  refine⟨some ⟨b,o,none⟩,c,rfl,fun h=>(by cases h),?_⟩
  intro a ha j x hx
  simp only [Option.some.injEq] at ha
  subst ha
  have hj:j=0:=by
   have :=(List.getElem?_eq_some_iff.1 hx).1
   simp at this;omega
  subst hj
  simp only [List.getElem?_cons_zero,Option.some.injEq] at hx
  subst hx
  simpa [Addr.add] using j6
 obtain⟨w1,VY,B1⟩:=Lib.copy_part (P:=Tryz.prog) w _ w.heap.size 64 [] [255] (.slice (some ⟨b,o,none⟩) 1 c) 26 3 5 Tryz.underlying26 Tryz.TF (Nat.le_refl _) B0 hH (by simp)
 rw [List.length_nil,Lib.tailV_zero] at VY
 rw [List.nil_append] at B1
 go_enter Tryz.func56,Tryz.ntmps56
 go_wp2_with (first
  |(go_at_call 90;refine(Tryz.alc _).mono ?_;rintro e w2 ⟨rfl,rfl⟩)
  |(at_builtin;refine Lib.wpList_copy_run _ rfl _ _ 26 26 rfl _ _ rfl rfl VY ?_))
 have HB1:Aside (Lib.Buf w2 w1 w2.heap.size 64 [255]):=B1
 clear B1 B0 VY qH hH
 go_loopw [10,11] (fun s10 _ wr=>∃k:Nat,(k=1∨k=2∨k=4∨k=8∨k=16∨k=32∨k=64)∧s10= .int .i64 k∧Aside (Lib.Buf w2 wr w2.heap.size 64 (List.replicate k 255)))
  (fun s10 _ _=>64-(RowKit.intOf s10).toNat)
 case atStart=>exact⟨1,by omega,rfl,HB1⟩
 case round=>
  obtain⟨k,hk,rfl,HB⟩:=hrel
  by_cases eD:k<64
  · have Ji:k+k≤64:=by omega
    have yj:0<k:=by omega
    have TK:k+k=2∨k+k=4∨k+k=8∨k+k=16∨k+k=32∨k+k=64:=by omega
    clear hk
    have aq6:∀W,(Instr.slice 26 (.slice (some ⟨w2.heap.size,0,none⟩) 64 64) (some (.int .i64 (k:Int))) none none).run Tryz.prog W= .ok (Lib.tailV w2.heap.size 64 k) W:=fun W=>Lib.run_slice_tailV W 26 5 Tryz.underlying26 Tryz.adA _ 64 k (by omega)
    have HBd:Lib.Buf w2 wr.drew w2.heap.size 64 (List.replicate k 255):=⟨⟨HB.below.os,HB.below.tape,HB.below.output,HB.below.size,HB.below.block⟩,HB.there,HB.free,HB.holds,HB.fits⟩
    have Za:(k:Int)≤64:=by omega
    obtain⟨w3,hr3,B3⟩:=Lib.PC (P:=Tryz.prog) w2 wr.drew w2.heap.size 64 (List.replicate k 255) k 64 26 3 5 Tryz.underlying26 Tryz.TF HBd (by simp) yj (by simp;omega)
    rw [List.length_replicate] at hr3
    have e3:List.replicate k (255:UInt8)++(List.replicate k 255).take k=List.replicate (k+k) 255:=by
     rw [List.take_of_length_le (by simp),List.replicate_append_replicate]
    rw [e3] at B3
    have HB3:Aside (Lib.Buf w2 w3 w2.heap.size 64 (List.replicate (k+k) 255)):=B3
    clear B3 e3
    have PF:min (k:Int) 64=(k:Int):=by omega
    go_wp2
    go_region_held3 (fun _=>True) (trivial) (first|(refine Lib.wp_copy_run _ (.tmp 70) (.tmp 73) 26 26 rfl _ _ rfl rfl hr3 ?_))
    go_roundw
    case rel=>
     have hw:IntKind.i64.wrap ((k:Int)+(k:Int))=((k+k:Nat):Int):=by rw [IntKind.wrap_i64];omega
     exact⟨_,_,_,_,_,_,_,_,_,_,_,_,_,_,_,_,_,⟨k+k,by omega,by rw [hw],HB3⟩,rfl⟩
    case measure=>
     have hw:IntKind.i64.wrap ((k:Int)+(k:Int))=((k+k:Nat):Int):=by rw [IntKind.wrap_i64];omega
     simp [RowKit.intOf,hw];omega
  · have Za:k=64:=by omega
    subst Za
    go_wp2
    go_ret
    exact⟨_,rfl,HB.fresh (by simp) (by unfold maxLen;omega),HB.below⟩
end Go.Proofs

end
section
namespace Go.Proofs
open Go Go.Vg Go.Lib
theorem adB {w:World} {Q:Nat→Prop} {B:Nat} {v:Value} {l:List UInt8}(h:FreshBytes B w v l)(hl:l≠ [])(hq:∀b,B≤b→b<w.heap.size→Q b):Rd w Q (.slice [.int .u8]) v l:=by
 obtain⟨g,cap,zs,rfl,hB,hle,ri,hz,hr,hb,hc,_⟩:=h
 have hlen:(zs.take l.length).length=l.length:=by rw [List.length_take];omega
 have gB:∀(j:Nat) (x:UInt8),l[j]? =some x→w.cell? ⟨g,j,none⟩=some (.int .u8 (x.toNat:Int)):=by
  intro j x hx
  have hj:=(List.getElem?_eq_some_iff.1 hx).1
  rw [hc j (by omega)]
  have e:(bytesOf (zs.take l.length))[j]? =some x:=by rw [hb];exact hx
  unfold bytesOf at e
  rw [List.getElem?_map,List.getElem?_take_of_lt hj] at e
  obtain⟨y,hy,e2⟩:=Option.map_eq_some_iff.1 e
  have hm:=hr y (List.mem_of_getElem? hy)
  rw [List.getD_eq_getElem?_getD,hy]
  simp only [Option.getD_some]
  congr 2
  rw [←e2]
  simp only [UInt8.toNat_ofNat']
  omega
 simp only [Rd]
 refine⟨some ⟨g,0,none⟩,cap,l.map fun x=>Value.int .u8 (x.toNat:Int),rfl,hle,ri,?_,fun _=>⟨g,0,rfl,?_,fun j u hj=> ?_⟩⟩
 · clear gB hlen hb hle hl
   induction l with
   |nil=>simp [bX]
   |cons x l ih=>
    simp only [List.map_cons,bX]
    refine⟨[Value.int .u8 (x.toNat:Int)],l.map fun x=>Value.int .u8 (x.toNat:Int),rfl,?_,ih⟩
    simp only [bh]
    refine⟨_,[],rfl,?_,rfl⟩
    simp only [Rd]
    have :=x.toNat_lt
    refine⟨rfl,?_,?_⟩
    · simp only [lo,DI.toInt];exact Int.natCast_nonneg _
    · simp only [hi,DI.toInt,Row.hd];omega
 · have h0:0<l.length:=List.length_pos_iff.2 hl
   exact hq g hB (World.block_lt_of_cell? w _ (gB 0 _ (List.getElem?_eq_getElem h0)))
 · rw [List.getElem?_map] at hj
   obtain⟨x,hx,rfl⟩:=Option.map_eq_some_iff.1 hj
   rw [Nat.zero_add]
   exact gB j x hx
theorem Tryz.GL {G:Nat→Option GD} {F:Row (PS.flat [.one (.slice [.int .u8]), .one (.int .i64)])→Prop×AV×List AB}
  (hF:∀(b:List UInt8) (n:Int),F (b,n)=(S.JU b n, .sl [.int .u8] S.clean,[])):
  Valid Tryz.prog G 56 (aC [.one (.slice [.int .u8]), .one (.int .i64)] F):=by
 intro w A β args cC pre res bs hA hG bx hs hp
 unfold aC at hs
 split at hs
 · rename_i x hx
   obtain⟨b,n⟩:=x
   change List UInt8 at b
   change Int at n
   rw [hF b n] at hs
   simp only [Option.some.injEq,Prod.mk.injEq] at hs
   obtain⟨rfl,rfl,rfl⟩:=hs
   obtain⟨g1,g2⟩:=ph _ hx bx
   clear hx bx g2
   change ae w A β args [.sl [.int .u8] b, .int .i64 n] at g1
   obtain⟨rfl,rfl⟩:=hp
   simp only [ae,aa] at g1
   obtain⟨vb,bG,rfl,hvb,vn,afW,rfl,⟨rfl,_⟩,rfl⟩:=g1
   simp only [Rd] at hvb
   obtain⟨a,cap,cs,rfl,GY,Po,BN,aE⟩:=hvb
   simp only [bX,bh] at BN
   obtain⟨c1,c2,rfl,⟨v,bG,rfl,hv,rfl⟩,rfl⟩:=BN
   simp only [Rd] at hv
   obtain⟨bb,o,rfl,wh,TG⟩:=aE (by simp)
   have hc:=TG 0 v rfl
   rw [hv.1,Nat.add_zero] at hc
   refine(Tryz.Kr bb o cap w hc).mono fun e w' ⟨v',he,hf,ot⟩=>⟨v',he,fun b=>A b∨(w.heap.size≤b∧b<w'.heap.size),β,
    {os:=ot.os,tape:=ot.tape,output:=ot.output,size:=ot.size,same:=ot.block,mono:=fun _ h=> .inl h,kg:=fun b hb h=> ?_,bound:=fun b h=> ?_,res:= ?_,rows:=fun i ab hi=>by simp at hi,apart:=fun i j b hi=>by simp at hi}⟩
   · rcases h with h|h
     · exact h
     · omega
   · rcases h with h|h
     · exact Nat.lt_of_lt_of_le (hA b h) ot.size
     · exact h.2
   · simp only [aa]
     exact adB (l:=S.clean) hf (by unfold S.clean;simp) fun b h1 h2=> .inr ⟨h1,h2⟩
 · cases hs
end Go.Proofs

end
