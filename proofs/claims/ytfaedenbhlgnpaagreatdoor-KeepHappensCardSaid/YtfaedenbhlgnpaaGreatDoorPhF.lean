import Derived.Test.YtfaedenbhlgnpaaGreatDoorPhE
import Derived.WalkKit
import Derived.Test.YtfaedenbhlgnpaaGreatDoorProg
import Derived.Below
import Derived.Lib.SlBuf
import Derived.Lib.MakeNoZero
import Derived.Lib.SlFresh
import Derived.Shelf.RegionOpenPlain
import Derived.Deep.LoopGhost
import Derived.Deep.Draws
import Derived.Laws.Externs
import Derived.BigCall
import Derived.Deep.RegionHeld3
import Derived.BigGuard
set_option linter.unusedVariables false
set_option linter.unusedSimpArgs false
section
namespace Go.Proofs
open Go Go.Vg Go.Maps Go.RowKit Go.ChangeShapes Go.DM Go.WideMaps
theorem Tryz.Un:Keyed Tryz.prog 9:=string_keyed Tryz.underlying9
theorem Tryz.apL:(Tryz.prog.info? 3).map (fun i=>(i.zero,i.size,i.bytes))=some (some (.int .i64 0),1,8):=by kernel_rfl
theorem Tryz.agO:(Tryz.prog.info? 136).map (fun i=>(i.zero,i.size,i.bytes))=some (some (.agg #[.string ⟨#[]⟩, .slice none 0 0]),2,40):=by kernel_rfl
theorem Tryz.Uo(w:World):(zeroValue 50).run Tryz.prog w= .ok (.slice none 0 0) w:=by kernel_rfl
theorem Tryz.ach(mb:Option Nat)(W:World):Calls Tryz.prog 128 #[.map mb] W fun e w'=>e= .returned (.func (.func 140) #[] #[.pointer (some ⟨W.heap.size,0,none⟩)])∧w'=W.alloc (.cells #[.map mb] 196):=callsIn_wide.1 (Tryz.GZ mb W)
set_option maxRecDepth 100000 in
set_option maxHeartbeats 4000000 in
theorem Tryz.Qc {H:Type}(docs:List (List UInt8))(f t:Int)(da:Option Addr)(cap:Nat)(w:World)
  (hp:S.eG docs f t) (h4:∀j,(docs.getD j []).length≤2000) (dv:Nat→Value)
  (hd:∀j,j<docs.length→∃b o aj cj,da=some ⟨b,o,none⟩∧b<w.heap.size∧w.cell? ⟨b,o+j,none⟩=some (dv j)∧dv j= .slice aj (docs.getD j []).length cj)
  (tf:∀(j:Nat) (W:World),j<docs.length→Below w.heap.size w W→Calls Tryz.prog 126 #[dv j] W fun e w'=>∃v,e= .returned v∧w'.ownsRow W.heap.size 9 1 v (S.eT docs 0 j).length ((S.eT docs 0 j).map encS)∧Below W.heap.size W w')
  (K8:∀(j:Nat),∀s∈S.eT docs 0 j,s.length≤maxLen):
  Calls Tryz.prog 107 #[.slice da docs.length cap, .agg #[.int .i64 f, .int .i64 t]] w fun e w'=>∃v xs W1,e= .returned (.tuple #[v, .int .i64 0])∧Below w.heap.size w w'∧Below W1.heap.size W1 w'∧w.heap.size≤W1.heap.size∧
   w'.ownsRow W1.heap.size 136 2 v (S.make docs f t).length xs∧b9 (bk W1 (fun b=>w.heap.size≤b∧b<W1.heap.size) [.str, .slice [.int .i64]]) xs (S.make docs f t):=by
 have hmm:= @run_makeMap Tryz.prog;have h0:0≤f:=hp.1;have h1:f≤t:=hp.2.1;have h2:t≤docs.length:=hp.2.2.1;have h3:docs.length≤1000:=hp.2.2.2.1;obtain⟨i0,hi,hz0,hz1,hz2⟩:=info_parts Tryz.apL;obtain⟨i1,hi1,hy0,hy1,hy2⟩:=info_parts Tryz.agO;go_enter Tryz.func107,Tryz.ntmps107
 go_wp2
 go_loopw [39] (fun i wr=>∃k:Nat,k≤docs.length∧i= .int .i64 k∧wr=w.alloc (.cells #[.int .i64 f, .int .i64 t] 88))
  (fun i _=>docs.length-(intOf i).toNat)
 case atStart=>exact⟨0,Nat.zero_le _,rfl,rfl⟩
 case round=>
  obtain⟨k,hk,rfl,rfl⟩:=hrel;by_cases eM:k<docs.length
  · obtain⟨b,o,aj,cj,rfl,hb,hc,hv⟩:=hd k eM;rw [hv] at hc;have hl:=h4 k;generalize (docs.getD k []).length=n at hc hl
    have nZ:(w.alloc (.cells #[.int .i64 f, .int .i64 t] 88)).cell? ⟨b,o+k,none⟩=some (.slice aj n cj):=by
     rw [←hc];exact World.cell?_of_block ((World.grownBy_alloc w _ none).block b hb (by simp))
    clear hd tf;go_wp2
    go_roundw
    case rel=>exact⟨k+1,by omega,by go_num,by first|rfl|trivial⟩
    case measure=>simp [intOf];omega
  · have :k=docs.length:=by omega
    subst this;clear eM;go_wp2
    go_loopw [9] (fun i wr=>∃k:Nat,i= .int .i64 (f+k)∧f+k≤t∧∃(m:Nat) (D:DataW H),m≤4000*k∧wr.ownsGroups Tryz.prog 9 (w.heap.size+2) 3 .i64 (w.heap.size+1) m D∧Repr D (S.sV docs f k 0)∧
      Below w.heap.size w wr∧wr.cell? ⟨w.heap.size,1,none⟩=some (.int .i64 t)∧w.heap.size+2≤wr.heap.size)
     (fun i _=>(t-intOf i).toNat)
    case atStart=>
     have cU:(w.alloc (.cells #[.int .i64 f, .int .i64 t] 88)).heap.size=w.heap.size+1:=by simp
     have hg:=World.ownsGroups_made (H:=H) (w.alloc (.cells #[.int .i64 f, .int .i64 t] 88)) Tryz.prog 9 3 .i64;rw [cU] at hg;refine⟨0,by simp,by simpa using h1,0,_,Nat.le_refl _,hg,Repr.empty.ext (fun s=>(S.ake docs f s).symm),((Below.refl _ _).alloc (Nat.le_refl _) _).alloc (by simp) _,?_,by simp⟩;rw [zU];rfl
    case round=>
     obtain⟨k,rfl,hk,m,D,hm,fV,aci,hnx,atX,hws⟩:=hrel;by_cases eM:f+k<t
     · obtain⟨n,hn⟩:∃n:Nat,f+(k:Int)=n:=⟨(f+k).toNat,by omega⟩;have Wo:n<docs.length:=by omega
       obtain⟨b,o,aj,cj,rfl,hb,hc,hv⟩:=hd n Wo;have hs:=tf n wr Wo hnx;rw [hv] at hs hc;have nZ:wr.cell? ⟨b,o+n,none⟩=some (.slice aj (docs.getD n []).length cj):=(hnx.cell (by exact hb)).trans hc;have eL:S.eT docs 0 n=S.eT docs f k:=by unfold S.eT;rw [hn];simp
       rw [eL] at hs;have CQ:=K8 n;rw [eL] at CQ;obtain⟨K9,rfl⟩:∃x,x=wr:=⟨wr,rfl⟩;have hL:(S.eT docs f k).length≤4000:=by unfold S.eT;exact S.uW hp _
       simp only [hn] at hk ⊢;generalize (docs.getD n []).length=dl at nZ hs;clear hd tf hc hv
       go_wp2_with (first
        |(go_at_call 126;refine hs.mono ?_;rintro e w1 ⟨vs,rfl,ko,Oy⟩;obtain⟨av,cp,rfl,JV⟩:=A7 ko)
        |go_in)
       have apM:=rq fV Oy;have atY:w1.Shuns (w.heap.size+1) (fun g=>(Value.slice av (S.eT docs f k).length cp).ownBlock=some g):=FH fV Oy (fun g hg=>(ko.lt g hg).1);have atZ:Below w.heap.size w w1:=hnx.trans (Oy.mono (by omega));have apN:w1.cell? ⟨w.heap.size,1,none⟩=some (.int .i64 t):=(Oy.cell (by show w.heap.size<K9.heap.size;omega)).trans atX;have at0:K9.heap.size≤w1.heap.size:=Oy.size;clear hs Oy nZ
       go_loopw [62] (fun i wq=>∃j:Nat,i= .int .i64 j∧j≤(S.eT docs f k).length∧∃(m2:Nat) (D2:DataW H),m2≤m+j∧wq.ownsGroups Tryz.prog 9 (w.heap.size+2) 3 .i64 (w.heap.size+1) m2 D2∧Repr D2 (S.sV docs f k j)∧
         wq.Shuns (w.heap.size+1) (fun g=>(Value.slice av (S.eT docs f k).length cp).ownBlock=some g)∧Below w.heap.size w wq∧wq.cell? ⟨w.heap.size,1,none⟩=some (.int .i64 t)∧
         wq.ownsRow K9.heap.size 9 1 (.slice av (S.eT docs f k).length cp) (S.eT docs f k).length ((S.eT docs f k).map encS)∧K9.heap.size≤wq.heap.size)
        (fun i _=>(S.eT docs f k).length-(intOf i).toNat)
       case atStart=>exact⟨0,rfl,Nat.zero_le _,m,D,by omega,apM,aci,atY,atZ,apN,ko,at0⟩
       case round=>
        obtain⟨j,rfl,hj,m2,D2,hm2,Qd,La,acj,ack,acm,Qe,hwq⟩:=hrel;by_cases sJ:j<(S.eT docs f k).length
        · obtain⟨g,rfl,hg1,hg2⟩:=JV (by omega);have kz:=H9 Qe sJ;rw [Nat.zero_add] at kz;have Ib:=Nx (P:=Tryz.prog) Tryz.underlying9 (CQ _ (S.bo _ j [] sJ));have ai5:=S.XF (docs:=docs) (a:=f) (k:=k) sJ;have acn:=fun s=>S.Vx (docs:=docs) (a:=f) (k:=k) (j:=j) sJ (s:=s);have apO:=S.XG docs f k j ((S.eT docs f k).getD j []);unfold Vg.encS at kz;generalize (S.eT docs f k).getD j []=sj at kz Ib ai5 acn apO;have at1:g<wr.heap.size:=(Qe.lt g rfl).2;have Up:m2<maxLen:=by unfold maxLen;omega
          clear K8 CQ JV
          go_wp2_with (first
           |(at_lookup;refine wpList_lookup_groups_shuns _ rfl _ _ 196 rfl 9 50 3 .i64 Tryz.Un Tryz.underlying196 (Tryz.Uo _) (w.heap.size+2) (w.heap.size+1) m2 _ rfl Qd Up _ _ rfl Ib ?_;intro v zs Mf xI N6 aco GA)
           |(at_builtin;refine wpList_append_own_at _ rfl _ _ 50 rfl (w.heap.size+2) 3 i0 (.int .i64 0) 1 8 Tryz.underlying50 hi hz0 hz1 hz2 rfl (by decide) _ _ _ rfl (xI.1.alloc _) ⟨wr.heap.size,0,none⟩ 1 1 [.int .i64 n] rfl rfl (cell_one_new _ _ _) (ints_oneCell .i64 [(n:Int)]) (by unfold maxLen;omega) (by omega) (by simp;omega) ?_;intro v' w3 acp Lb Lv uz)
           |(at_mapUpdate;have xr:=agN GA acj uz at1;refine wpList_mapUpdate_back_shuns _ rfl _ _ _ 196 rfl Tryz.Un Tryz.underlying196 Ib Qd Up xI acj xr aco rfl rfl rfl ((World.grownBy_alloc _ _ _).trans Lb) (xI.appended acp (WalkArith.wf_i64 (by omega))) (by simp;omega) (uz.imp id (fun h=>⟨_,h,by simp⟩)) ?_;intro w4 apP CR at2)
           |go_in)
          have jf:=(World.grownBy_alloc wr _ _).trans Lb;have hw3:wr.heap.size≤w3.heap.size:=jf.size;have hvb:∀g',v.ownBlock=some g'→w.heap.size+2≤g':=fun g' wx=>(xI.1.lt g' wx).1;refine⟨⟨j+1,by go_num,by omega,m2+1,_,by omega,apP,?_,at2,?_,?_,?_,?_⟩,by simp [intOf];omega⟩
          · refine La.put (xI.appended acp (WalkArith.wf_i64 (by omega))) (by simp) ?_ acn;rw [ai5,hn];have :=yb (H:=H) xI;rw [←Mf,(La.2 sj).1] at this;rw [this]
          · exact ack.groups xI jf CR ack.size (by omega) (by omega)
          · refine Nw CR (by show w.heap.size<w3.heap.size;omega) (by show some w.heap.size≠some (w.heap.size+1);simp) (Nw jf (by show w.heap.size<wr.heap.size;omega) ?_ acm);show some w.heap.size≠v.ownBlock;intro h;have :=hvb _ h.symm;omega
          · refine(Qe.kept jf (.inr ?_)).kept CR (.inr ?_)
            · intro h;exact GA _ acj g h.symm rfl
            · intro h;simp only [Value.ownBlock,Option.some.injEq] at h;omega
          · exact Nat.le_trans hwq (Nat.le_trans hw3 CR.size)
        · have :j=(S.eT docs f k).length:=by omega
          subst this;clear sJ K8 CQ;have apQ:=La.ext (fun s=>S.Vy (docs:=docs) (a:=f) (k:=k) (j:=(S.eT docs f k).length) (by omega) s);clear La;go_wp2
          exact⟨⟨k+1,by rw [show f+((k+1:Nat):Int)=(n:Int)+1 by omega],by omega,m2,D2,by omega,Qd,apQ,ack,acm,by omega⟩,by simp [intOf];omega⟩
     · have J8:t=f+k:=by omega
       have Ux:(t-f).toNat=k:=by omega
       have uy:=FI fV;have hcS:=callsIn_wide.1 (Tryz.p8 (w.heap.size+1) m D _ wr uy (by have :=A8 uy;unfold maxLen;omega) (by have :=A8 uy;omega));have E9:=fun(ss:List (List UInt8)) (hss:ss.Perm (strKeys D))=>V5 (docs:=docs) (f:=f) (t:=t) uy Tryz.Un Tryz.underlying9 (by rw [Ux];exact aci) hss;obtain⟨K9,rfl⟩:∃x,x=wr:=⟨wr,rfl⟩;clear hd tf K8;subst J8
       go_wp2_with (first
        |(go_at_call 128;refine(Tryz.ach _ _).mono ?_;rintro e w4 ⟨rfl,rfl⟩)
        |(go_at_call 127;refine hcS.mono ?_;rintro e w5 ⟨vs,ss,rfl,hS,ko,Lv,hb5⟩;obtain⟨hk3,hk4,tv,hk6⟩:=E9 ss hS;rw [hk3,hk4] at ko;obtain⟨av,cp,rfl,JV⟩:=A7 ko)
        |go_in)
       have acq:Below K9.heap.size K9 w5:=((Below.refl _ K9).alloc (Nat.le_refl _) _).trans (hb5.mono (by simp));have acr:=rq fV acq;have at6:Below w.heap.size w w5:=hnx.trans (acq.mono (by omega));have awF:K9.heap.size≤w5.heap.size:=acq.size;clear hcS E9 uy hb5 fV hS Lv hk3
       go_loopw [12,79] (fun d i wq=>∃j:Nat,i= .int .i64 j∧j≤(S.bP docs f (f+k)).length∧∃xs,wq.ownsRow w5.heap.size 136 2 d j xs∧
         b9 (bk w5 (fun b=>w.heap.size≤b∧b<w5.heap.size) [.str, .slice [.int .i64]]) xs (S.jv docs f (f+k) j)∧Below w5.heap.size w5 wq)
        (fun _ i _=>(S.bP docs f (f+k)).length-(intOf i).toNat)
       case atStart=>exact⟨0,rfl,Nat.zero_le _,[],World.ownsRow_nil _ _ _ _,rfl,Below.refl _ _⟩
       case round=>
        obtain⟨j,rfl,hj,xs,Qf,B8,wo⟩:=hrel;by_cases sJ:j<(S.bP docs f (f+k)).length
        · obtain⟨g,rfl,hg1,hg2⟩:=JV (by omega);have Uq:=H9 ko sJ;have kz:wr.cell? ⟨g,0+j,none⟩=some (Vg.encS ((S.bP docs f (f+k)).getD j [])):=(wo.cell hg2).trans Uq;rw [Nat.zero_add] at kz;have E9:=tv _ (S.bo _ j [] sJ);have Ib:=Nx (P:=Tryz.prog) Tryz.underlying9 E9;have acs:=fun tt (ht:(S.bP docs f (f+k)).getD j []=tt)=>S.zq (docs:=docs) (a:=f) (b:=f+k) (k:=j) (j:=k) sJ Ux.symm ht;unfold Vg.encS at kz;have apR:=rq acr wo;have at7:wr.Shuns (w.heap.size+1) (fun g=>w5.heap.size≤g):=FH acr wo (fun g hg=>hg);have aua:=fun s=>(aci.2 s).1;generalize (S.bP docs f (f+k)).getD j []=sj at kz Ib E9 acs;have Up:m<maxLen:=by unfold maxLen;omega
          clear Uq tv
          go_wp2_with (first
           |(at_lookup;refine wpList_lookup_groups_shuns _ rfl _ _ 196 rfl 9 50 3 .i64 Tryz.Un Tryz.underlying196 (Tryz.Uo _) (w.heap.size+2) (w.heap.size+1) m _ rfl apR Up _ _ rfl Ib ?_;intro v zs Mf xI N6 aco GA;obtain⟨av2,cp2,rfl,awG⟩:=A7 xI.1)
           |(at_builtin;refine wpList_append_own_at _ rfl _ _ 89 rfl w5.heap.size 136 i1 (.agg #[.string ⟨#[]⟩, .slice none 0 0]) 2 40 Tryz.underlying89 hi1 hy0 hy1 hy2 rfl (by decide) _ j xs rfl (Qf.alloc _) ⟨wr.heap.size,0,none⟩ 1 1 [.string ⟨sj.toArray⟩, .slice av2 zs.length cp2] rfl rfl (K7 _ _ _ _) (by intro u hu;simp at hu;rcases hu with rfl|rfl<;>rfl) (by unfold maxLen;omega) (by omega) (by have :=wo.size;simp;omega) ?_;intro v' w6 apS Lb Lv uz)
           |go_in)
          have qU:Rd w5 (fun b=>w.heap.size≤b∧b<w5.heap.size) (.slice [.int .i64]) (.slice av2 zs.length cp2) zs:=
           acg xI wo (fun g' wx=>by have :=GA _ at7 g' wx;omega) (fun g' h1 h2=>⟨by omega,h2⟩)
          have hz:zs=S.bD docs f sj k:=by
           have e1:=yb (H:=H) xI;rw [←Mf,aua] at e1;rw [←e1];simp [S.sV]
          have jf:=(World.grownBy_alloc wr (.cells #[.string ⟨sj.toArray⟩, .slice av2 zs.length cp2] 136) _).trans Lb;refine⟨⟨j+1,by go_num,by omega,xs++ [.string ⟨sj.toArray⟩, .slice av2 zs.length cp2],apS,?_,?_⟩,by simp [intOf];omega⟩
          · rw [←acs sj rfl,←hz];exact Ia _ _ _ _ B8 (V6 E9 qU)
          · exact wo.grown jf wo.size (fun g' wx=>(Qf.lt g' wx).1)
        · have hje:j=(S.bP docs f (f+k)).length:=by omega
          subst hje;rw [S.BJ (by omega)] at B8;clear JV tv;go_wp2
          go_ret2
          refine⟨_,xs,w5,rfl,at6.trans (wo.mono (by omega)),wo,by omega,?_,B8⟩;have yC:(S.make docs f (f+k)).length=(S.bP docs f (f+k)).length:=by simp [S.make]
          rw [yC];exact Qf
set_option maxRecDepth 100000 in
set_option maxHeartbeats 4000000 in
theorem Tryz.Qg(docs:List (List UInt8))(f t:Int)(da:Option Addr)(cap:Nat)(w:World)(hc:1000<docs.length∨f<0∨t<f∨(docs.length:Int)<t):
  Calls Tryz.prog 107 #[.slice da docs.length cap, .agg #[.int .i64 f, .int .i64 t]] w fun e w'=>e= .returned (.tuple #[.slice none 0 0, .int .i64 1])∧Below w.heap.size w w':=by
 generalize docs.length=n at hc;go_enter Tryz.func107,Tryz.ntmps107
 go_wp2
 all_goals (go_ret2;exact⟨rfl,(Below.refl _ _).alloc (Nat.le_refl _) _⟩)
set_option maxRecDepth 100000 in
set_option maxHeartbeats 4000000 in
theorem Tryz.Qh(docs:List (List UInt8))(f t:Int)(da:Option Addr)(cap:Nat)(w:World)(h0:0≤f)(h1:f≤t)(h2:t≤docs.length)(h3:docs.length≤1000)(dv:Nat→Value)
  (hd:∀j,j<docs.length→∃b o aj cj,da=some ⟨b,o,none⟩∧b<w.heap.size∧w.cell? ⟨b,o+j,none⟩=some (dv j)∧dv j= .slice aj (docs.getD j []).length cj)
  (hc:¬∀j,j<docs.length→(docs.getD j []).length≤2000):
  Calls Tryz.prog 107 #[.slice da docs.length cap, .agg #[.int .i64 f, .int .i64 t]] w fun e w'=>e= .returned (.tuple #[.slice none 0 0, .int .i64 1])∧Below w.heap.size w w':=by
 go_enter Tryz.func107,Tryz.ntmps107
 go_wp2
 go_loopw [39] (fun i wr=>∃k:Nat,k≤docs.length∧i= .int .i64 k∧wr=w.alloc (.cells #[.int .i64 f, .int .i64 t] 88)∧∀j,j<k→(docs.getD j []).length≤2000)
  (fun i _=>docs.length-(intOf i).toNat)
 case atStart=>exact⟨0,Nat.zero_le _,rfl,rfl,fun j hj=>by omega⟩
 case round=>
  obtain⟨k,hk,rfl,rfl,jf⟩:=hrel;by_cases eM:k<docs.length
  · obtain⟨b,o,aj,cj,rfl,hb,gG,hv⟩:=hd k eM;rw [hv] at gG
    have nZ:(w.alloc (.cells #[.int .i64 f, .int .i64 t] 88)).cell? ⟨b,o+k,none⟩=some (.slice aj (docs.getD k []).length cj):=by
     rw [←gG];exact World.cell?_of_block ((World.grownBy_alloc w _ none).block b hb (by simp))
    clear hd gG hv hc;by_cases hl:(docs.getD k []).length≤2000
    · have Oq:∀j,j<k+1→(docs.getD j []).length≤2000:=fun j hj=>by
       by_cases e:j=k
       · subst e;exact hl
       · exact jf j (by omega)
      clear jf;generalize (docs.getD k []).length=n at nZ hl;go_wp2
      go_roundw
      case rel=>exact⟨k+1,by omega,by go_num,by first|rfl|trivial,Oq⟩
      case measure=>simp [intOf];omega
    · clear jf;generalize (docs.getD k []).length=n at nZ hl;go_wp2
      go_ret2
      exact⟨rfl,(Below.refl _ _).alloc (Nat.le_refl _) _⟩
  · exact absurd (fun j hj=>jf j (by omega)) hc
end Go.Proofs

end
section
namespace Go.S
theorem Ny {docs:List (List UInt8)} {a:Int} {j:Nat}:∀s∈eT docs a j,s.length≤maxLen:=fun s hs=>by
 have h1:=(fW _ _).1 hs;simp only [aW,List.mem_map] at h1;obtain⟨w,_,rfl⟩:=h1;have :=v8 w [] (by simp);unfold dF maxLen;omega
theorem V7 {docs:List (List UInt8)} {f t:Int}(h:cF docs f t=true):eG docs f t∧∀j,(docs.getD j []).length≤2000:=by
 simp only [cF,Bool.and_eq_true,List.all_eq_true,decide_eq_true_eq] at h;obtain⟨h1,h2,h3,h4,h5⟩:=h;refine⟨⟨h3,h4,h5,by omega,fun d hd=>by have :=h1 d hd;omega⟩,fun j=> ?_⟩;by_cases hj:j<docs.length
 · have :=h1 _ (bo docs j [] hj);omega
 · rw [List.getD_eq_getElem?_getD,List.getElem?_eq_none (by omega)];simp
end Go.S
namespace Go.DM
open Go Go.Vg Go.Maps Go.RowKit Go.Proofs
theorem Ur {w:World} {A:Nat→Prop} {τ:Ty}:∀(l:List (D τ)) (cs:List Value),b9 (bk w A [τ]) cs l→cs.length=l.length∧∀(j:Nat) (x:D τ),l[j]? =some x→Rd w A τ (cs.getD j undef) x
 | [],cs,h=>by simp only [b9] at h;subst h;exact⟨rfl,fun j x hx=>by simp at hx⟩
 |y::l,cs,⟨c1,c2,hc,h1,h2⟩=>by
  subst hc;simp only [bk] at h1;obtain⟨v,bK,rfl,hv,rfl⟩:=h1;obtain⟨g1,g2⟩:=Ur l c2 h2;refine⟨by simp [g1],fun j x hx=> ?_⟩;cases j with
  |zero=>simp at hx;subst hx;exact hv
  |succ j=>simpa using g2 j x (by simpa using hx)
theorem Lc(b:List UInt8):D5 [.one (.slice [.int .u8])] [.sl [.int .u8] b]=some b:=rfl
set_option maxRecDepth 100000 in
theorem Nz {G:Nat→Option GD} {Fs:Row (PS.flat [.one (.slice [.int .u8])])→Prop×AV×List AB}(tf:Valid Tryz.prog G 126 (ar [.one (.slice [.int .u8])] Fs))
  (hFs:∀b:List UInt8,Fs b=(S.small b, .own 0,[.row 9 [.str] (S.sorted (S.aW b)) false]))
  {F:Row (PS.flat [.one (.slice [.slice [.int .u8]]), .agg [.int .i64, .int .i64]])→Prop×AV×List AB}
  (hF:∀(docs:List (List UInt8)) (f t:Int),F (docs,f,t)=(True, .cD [.sl [.str, .slice [.int .i64]] (S.gy docs f t).1, .int .i64 ((S.gy docs f t).2:Int)],[])):
  Valid Tryz.prog G 107 (ar [.one (.slice [.slice [.int .u8]]), .agg [.int .i64, .int .i64]] F):=by
 intro w A β args cz pre res bs hA hG bw hs hp;unfold ar at hs;split at hs
 · rename_i x hx;obtain⟨docs,f,t⟩:=x;change List (List UInt8) at docs;change Int at f;change Int at t;have gX:=hs;rw [hF docs f t] at gX;simp only [Option.some.injEq,Prod.mk.injEq] at gX;obtain⟨rfl,rfl,rfl⟩:=gX;obtain⟨g1,g2⟩:=pE _ hx bw;clear hs hp hx bw g2;change af w A β args [.sl [.slice [.int .u8]] docs, .agg [.int .i64 f, .int .i64 t]] at g1;simp only [af,aa] at g1;obtain⟨vd,bK,rfl,hvd,va,ai4,rfl,⟨arr,rfl,Wu⟩,rfl⟩:=g1;obtain⟨u1,us,e1,⟨rfl,hf⟩,u2,xo,rfl,⟨rfl,ht⟩,rfl⟩:=Wu;obtain rfl :arr= #[.int .i64 f, .int .i64 t]:=by apply Array.ext';simpa using e1
   simp only [Rd] at hvd;obtain⟨a,cap,cs,rfl,He,P5,B8,aG⟩:=hvd;obtain⟨gG,dc⟩:=Ur (τ:= .slice [.int .u8]) docs cs B8
   have hd:∀j,j<docs.length→∃b o aj cj,a=some ⟨b,o,none⟩∧b<w.heap.size∧w.cell? ⟨b,o+j,none⟩=some (cs.getD j undef)∧cs.getD j undef= .slice aj (docs.getD j []).length cj:=by
    intro j hj;obtain⟨b,o,rfl,wz,hr⟩:=aG (by intro h;rw [h] at gG;simp at gG;omega);have h1:=dc j (docs.getD j []) (by rw [List.getD_eq_getElem?_getD,List.getElem?_eq_getElem hj];rfl);simp only [Rd] at h1;obtain⟨aj,cj,eW,h2,_⟩:=h1;refine⟨b,o,aj,cj,rfl,hA b wz,hr j _ ?_,h2⟩;rw [List.getD_eq_getElem?_getD,List.getElem?_eq_getElem (by omega)];rfl
   show Calls Tryz.prog 107 #[.slice a docs.length cap, .agg #[.int .i64 f, .int .i64 t]] w _
   have bad:Calls Tryz.prog 107 #[.slice a docs.length cap, .agg #[.int .i64 f, .int .i64 t]] w (fun e w'=>e= .returned (.tuple #[.slice none 0 0, .int .i64 1])∧Below w.heap.size w w')→S.cF docs f t=false→
     Calls Tryz.prog 107 #[.slice a docs.length cap, .agg #[.int .i64 f, .int .i64 t]] w (fun e w'=>∃v,e= .returned v∧∃A' aJ,j3 w A w' v (.cD [.sl [.str, .slice [.int .i64]] (S.gy docs f t).1, .int .i64 ((S.gy docs f t).2:Int)]) [] A' aJ):=by
    intro hc hb;refine hc.mono fun e w' ⟨he,oI⟩=>⟨_,he,A,β,{os:=oI.os,tape:=oI.tape,output:=oI.output,size:=oI.size,same:=oI.block,mono:=fun _ h=>h,kE:=fun _ _ h=>h,bound:=fun b h=>Nat.lt_of_lt_of_le (hA b h) oI.size,res:= ?_,rows:=fun i ab hi=>by simp at hi,apart:=fun i j b hi=>by simp at hi}⟩;have e2:S.gy docs f t=([],1):=by unfold S.gy;rw [hb];rfl
    rw [e2];simp only [aa,af];refine⟨_,rfl,_,_,rfl,?_,_,_,rfl,⟨rfl,by simp only [lo,hi];omega⟩,rfl⟩;simp only [Rd];exact⟨none,0,[],rfl,Nat.le_refl _,Nat.zero_le _,rfl,fun h=>absurd rfl h⟩
   cases FJ:S.cF docs f t with
   |false=>
    refine bad ?_ FJ;by_cases hc:1000<docs.length∨f<0∨t<f∨(docs.length:Int)<t
    · exact Tryz.Qg docs f t a cap w hc
    · refine Tryz.Qh docs f t a cap w (by omega) (by omega) (by omega) (by omega) _ hd fun jf=> ?_
      have :S.cF docs f t=true :=by
       simp only [S.cF,Bool.and_eq_true,List.all_eq_true,decide_eq_true_eq];refine⟨fun d C8=> ?_,by omega,by omega,by omega,by omega⟩;obtain⟨i,hX,rfl⟩:=List.getElem_of_mem C8;have :=jf i hX;rw [List.getD_eq_getElem?_getD,List.getElem?_eq_getElem hX] at this;simp only [Option.getD_some] at this;omega
      rw [this] at FJ;cases FJ
   |true=>
    obtain⟨hmp,h4⟩:=S.V7 FJ
    have apT:∀(j:Nat) (W:World),j<docs.length→Below w.heap.size w W→Calls Tryz.prog 126 #[cs.getD j undef] W fun e w'=>∃v,e= .returned v∧w'.ownsRow W.heap.size 9 1 v (S.eT docs 0 j).length ((S.eT docs 0 j).map Vg.encS)∧Below W.heap.size W w':=by
     intro j W hj hW;have hk:cP w W A A:=fun b hb=>⟨hb,hW.block b (hA b hb)⟩;have h1:=yu hk _ _ _ (dc j (docs.getD j []) (by rw [List.getD_eq_getElem?_getD,List.getElem?_eq_getElem hj];rfl))
     have h2:=tf W A β [cs.getD j undef] [.sl [.int .u8] (docs.getD j [])] (S.small (docs.getD j [])) (.own 0) [.row 9 [.str] (S.sorted (S.aW (docs.getD j []))) false]
      (fun b hb=>Nat.lt_of_lt_of_le (hA b hb) hW.size) (fun i d hi=>(hG i d hi).mono hk) (by simp only [af,aa];exact⟨_,_,rfl,h1,rfl⟩)
      (by unfold ar;rw [Lc];simp only [hFs]) (by have :=h4 j;unfold S.small;omega)
     refine h2.mono fun e w' ⟨v,he,A',aJ,po⟩=>⟨v,he,?_,po.os,po.tape,po.output,po.size,po.same⟩;have hr:=po.res;simp only [aa] at hr;obtain⟨⟨xs,ho,qU,_⟩,hblk⟩:=po.rows 0 _ rfl;obtain⟨rfl,_⟩:=zT _ xs qU;have eK:S.eT docs 0 j=S.sorted (S.aW (docs.getD j [])):=by unfold S.eT;simp
     rw [eK,hr.1];refine⟨ho.1,?_⟩;rcases ho.2 with hn|⟨g,im,cur,hv,_,rest⟩
     · exact .inl hn
     · exact .inr ⟨g,im,cur,hv,hblk g (by rw [hv];rfl),rest⟩
    refine(Tryz.Qc (H:=Unit) docs f t a cap w hmp h4 _ hd apT (fun j s hs=>S.Ny s hs)).mono fun e w' ⟨v,xs,W1,he,oI,ai6,hW1,ho,qU⟩=> ?_;have e2:S.gy docs f t=(S.make docs f t,0):=by unfold S.gy;rw [FJ];rfl
    rw [e2];refine⟨_,he,fun b=>A b∨(w.heap.size≤b∧b<w'.heap.size),β,{os:=oI.os,tape:=oI.tape,output:=oI.output,size:=oI.size,same:=oI.block,mono:=fun _ h=> .inl h,kE:=fun b hb h=> ?_,bound:=fun b h=> ?_,res:= ?_,rows:=fun i ab hi=>by simp at hi,apart:=fun i j b hi=>by simp at hi}⟩
    · rcases h with h|h
      · exact h
      · omega
    · rcases h with h|h
      · exact Nat.lt_of_lt_of_le (hA b h) oI.size
      · exact h.2
    · simp only [aa,af];refine⟨_,rfl,_,_,rfl,?_,_,_,rfl,⟨rfl,by simp only [lo,hi];omega⟩,rfl⟩;have hk:cP W1 w' (fun b=>w.heap.size≤b∧b<W1.heap.size) (fun b=>A b∨(w.heap.size≤b∧b<w'.heap.size)):=fun b hb=>⟨.inr ⟨hb.1,Nat.lt_of_lt_of_le hb.2 ai6.size⟩,ai6.block b hb.2⟩;have auc:=bE (fun c x hx=>bF hk _ c x hx) _ _ qU;simp only [Rd];rcases ho.2 with⟨rfl,h0⟩|⟨g,im,cur,rfl,hg,hh,hn,hc,cU,Cc⟩
      · have hm0:S.make docs f t= []:=List.length_eq_zero_iff.1 h0;rw [hm0];exact⟨none,0,[],rfl,Nat.le_refl _,Nat.zero_le _,rfl,fun h=>absurd rfl h⟩
      · refine⟨some ⟨g,0,none⟩,im,xs,rfl,hn,hc,auc,fun _=>⟨g,0,rfl, .inr ⟨by omega,(Array.getElem?_eq_some_iff.1 hh).1⟩,fun j u hj=> ?_⟩⟩;have :=ho.cells (g:=g) rfl j u hj;rwa [Addr.add_mid] at this
 · cases hs
end Go.DM

end
section
namespace Go.Proofs
open Go Go.RowKit Go.ChangeShapes Go.Lib
set_option maxRecDepth 100000 in
set_option maxHeartbeats 4000000 in
theorem Tryz.acu(w:World):Calls Tryz.prog 122 #[.int .u64 1, .int .u64 64] w fun e w'=>e= .returned (.tuple #[.int .u64 0, .int .u64 64])∧w'=w:=by
 go_enter Tryz.func122,Tryz.ntmps122
 go_wp2
 go_ret2
 exact⟨by kernel_rfl,rfl⟩
set_option maxRecDepth 100000 in
set_option maxHeartbeats 4000000 in
theorem Tryz.apU(w:World):Calls Tryz.prog 90 #[.int .u64 1, .int .u64 64] w fun e w'=>e= .returned (.tuple #[.int .u64 0, .int .u64 64])∧w'=w:=by
 go_enter Tryz.func90,Tryz.ntmps90
 go_wp2_with (go_at_call 122;refine(Tryz.acu _).mono ?_;rintro e w1 ⟨rfl,rfl⟩)
 go_ret2
 exact⟨by kernel_rfl,rfl⟩
theorem Lib.Qi {P:Program}(w0 wr:World)(h N:Nat)(acc:List UInt8)(k:Nat)(cap:Nat)(t ty e:TypeId)(hu:P.underlying t=some (.slice e))(hs:(P.info? e).map (·.size)=some 1)
  (hb:Buf w0 wr h N acc) (hk:k≤acc.length) (hk0:0<k) (pa:acc.length+k≤N):
  ∃wr',(Builtin.copy_ #[t,t] ty #[tailV h N acc.length, .slice (some ⟨h,0,none⟩) k cap]).run P wr= .ok (.int .i64 (k:Int)) wr'∧Buf w0 wr' h N (acc++acc.take k):=by
 obtain⟨l,hl⟩:∃l,l=acc.take k:=⟨_,rfl⟩;have Lp:l.length=k:=by rw [hl,List.length_take];omega
 have dD:¬N=acc.length:=by omega
 have hr:=run_copy_cells (P:=P) wr t t ty e h acc.length (N-acc.length) (N-acc.length) ⟨h,0,none⟩ l.length cap (l.map fun x=>Value.int .u8 (x.toNat:Int)) hu hs (by rw [List.length_map];exact(Nat.min_eq_left (by omega)).symm)
  (fun j u hj=>by
    rw [List.getElem?_map] at hj;obtain⟨x,hx,rfl⟩:=Option.map_eq_some_iff.1 hj;have sJ:=(List.getElem?_eq_some_iff.1 hx).1;rw [hl,List.getElem?_take_of_lt (by omega)] at hx;have :=hb.holds j x hx;have e:(⟨h,0,none⟩:Addr).add j=⟨h,j,none⟩:=by unfold Addr.add;split<;>simp_all
    rw [e];exact this)
  (fun j hj=>by rw [List.length_map] at hj;exact hb.there _ (by omega)) (fun j hj=>by rw [List.length_map] at hj;exact hb.free _ (by omega))
  (fun u Af=>by obtain⟨x,_,rfl⟩:=List.mem_map.1 Af;rfl)
 rw [List.length_map] at hr;refine⟨_,by unfold tailV;rw [if_neg dD,←Lp];exact hr,?_⟩;have Wy:=World.cell?_setCells_in h (l.map fun x=>Value.int .u8 (x.toNat:Int)) acc.length wr (fun j hj=>by rw [List.length_map] at hj;exact hb.there _ (by omega));have nB:=World.cell?_setCells_out h (l.map fun x=>Value.int .u8 (x.toNat:Int)) acc.length wr;rw [←hl];refine⟨?_,?_,?_,?_,by rw [List.length_append];omega⟩
 · exact below_setCells h (Nat.le_refl _) _ _ hb.below
 · intro j hj;by_cases h1:acc.length≤j∧j<acc.length+l.length
   · obtain⟨d,rfl⟩:∃d,j=acc.length+d:=⟨j-acc.length,by omega⟩;rw [Wy d (by rw [List.length_map];omega)];rfl
   · rw [nB ⟨h,j,none⟩ (fun _ _=>by rw [List.length_map];show j<_∨_≤j;omega)];exact hb.there j hj
 · intro j hj;rw [World.frozen?_setCells];exact hb.free j hj
 · intro j x hx;by_cases h1:j<acc.length
   · rw [List.getElem?_append_left h1] at hx;rw [nB ⟨h,j,none⟩ (fun _ _=>Or.inl h1)];exact hb.holds j x hx
   · rw [List.getElem?_append_right (by omega)] at hx;obtain⟨d,rfl⟩:∃d,j=acc.length+d:=⟨j-acc.length,by omega⟩;rw [Nat.add_sub_cancel_left] at hx;have hd:d<l.length:=(List.getElem?_eq_some_iff.1 hx).1;rw [Wy d (by rw [List.length_map];exact hd)];simp [List.getElem_map,(List.getElem?_eq_some_iff.1 hx).2]
theorem Tryz.Us:(Tryz.prog.info? 5).map (·.size)=some 1:=by kernel_rfl
theorem Tryz.agT(w:World):(Go.sizeOf 5).run Tryz.prog w= .ok 1 w:=by kernel_rfl
set_option maxRecDepth 100000 in
set_option maxHeartbeats 4000000 in
theorem Tryz.Ld(b o c:Nat)(w:World)(kz:w.cell? ⟨b,o,none⟩=some (.int .u8 255)):
  Calls Tryz.prog 56 #[.slice (some ⟨b,o,none⟩) 1 c, .int .i64 64] w fun e w'=>∃v',e= .returned v'∧FreshBytes w.heap.size w' v' (List.replicate 64 255)∧Below w.heap.size w w':=by
 have mixed:Tryz.prog.follows .mixedOrders=true :=by kernel_rfl
 obtain⟨cs,acv,hle,_⟩:=Lib.run_makeNoZero (P:=Tryz.prog) w #[3] 26 5 Tryz.underlying26 64 (by omega)
 have qW:(callFunc 91 #[.int .i64 64]).run Tryz.prog w= .ok (.value (.slice (some ⟨w.heap.size,0,none⟩) 64 cs.size)) ((w.alloc (.cells cs 5)).drewN 2):=by
  rw [run_callFunc_extern Tryz.func91 (by kernel_rfl) (by kernel_rfl) (by kernel_rfl) (e:=Extern.BytealgMakeNoZero.makeNoZero #[3] #[26]) (by kernel_rfl)];have :(Extern.BytealgMakeNoZero.makeNoZero #[3] #[26] #[.int .i64 64]).run Tryz.prog w=_:=acv;rw [this];rfl
 clear acv;have i1:(64:Int)≤(cs.size:Int):=by omega
 have B0:=Lib.Buf.start w cs 5 64 2 hle
 have hH:HoldsBytes w (.slice (some ⟨b,o,none⟩) 1 c) [255]:=by
  refine⟨some ⟨b,o,none⟩,c,rfl,fun h=>(by cases h),?_⟩;intro a ha j x hx;simp only [Option.some.injEq] at ha;subst ha
  have hj:j=0:=by
   have :=(List.getElem?_eq_some_iff.1 hx).1;simp at this;omega
  subst hj;simp only [List.getElem?_cons_zero,Option.some.injEq] at hx;subst hx;simpa [Addr.add] using kz
 obtain⟨w1,W0,B1⟩:=Lib.copy_part (P:=Tryz.prog) w _ w.heap.size 64 [] [255] (.slice (some ⟨b,o,none⟩) 1 c) 26 3 5 Tryz.underlying26 Tryz.Us (Nat.le_refl _) B0 hH (by simp);rw [List.length_nil,Lib.tailV_zero] at W0;rw [List.nil_append] at B1;go_enter Tryz.func56,Tryz.ntmps56
 go_wp2_with (first
  |(go_at_call 90;refine(Tryz.apU _).mono ?_;rintro e w2 ⟨rfl,rfl⟩)
  |(at_builtin;refine Lib.wpList_copy_run _ rfl _ _ 26 26 rfl _ _ rfl rfl W0 ?_))
 have HB1:Aside (Lib.Buf w2 w1 w2.heap.size 64 [255]):=B1;clear B1 B0 W0 qW hH
 go_loopw [10,11] (fun s10 _ wr=>∃k:Nat,(k=1∨k=2∨k=4∨k=8∨k=16∨k=32∨k=64)∧s10= .int .i64 k∧Aside (Lib.Buf w2 wr w2.heap.size 64 (List.replicate k 255)))
  (fun s10 _ _=>64-(RowKit.intOf s10).toNat)
 case atStart=>exact⟨1,by omega,rfl,HB1⟩
 case round=>
  obtain⟨k,hk,rfl,HB⟩:=hrel;by_cases eM:k<64
  · have J8:k+k≤64:=by omega
    have yA:0<k:=by omega
    have Ux:k+k=2∨k+k=4∨k+k=8∨k+k=16∨k+k=32∨k+k=64:=by omega
    clear hk;have awH:∀W,(Instr.slice 26 (.slice (some ⟨w2.heap.size,0,none⟩) 64 64) (some (.int .i64 (k:Int))) none none).run Tryz.prog W= .ok (Lib.tailV w2.heap.size 64 k) W:=fun W=>Lib.run_slice_tailV W 26 5 Tryz.underlying26 Tryz.agT _ 64 k (by omega);have HBd:Lib.Buf w2 wr.drew w2.heap.size 64 (List.replicate k 255):=⟨⟨HB.below.os,HB.below.tape,HB.below.output,HB.below.size,HB.below.block⟩,HB.there,HB.free,HB.holds,HB.fits⟩;have ß:(k:Int)≤64:=by omega
    obtain⟨w3,hr3,B3⟩:=Lib.Qi (P:=Tryz.prog) w2 wr.drew w2.heap.size 64 (List.replicate k 255) k 64 26 3 5 Tryz.underlying26 Tryz.Us HBd (by simp) yA (by simp;omega);rw [List.length_replicate] at hr3
    have e3:List.replicate k (255:UInt8)++(List.replicate k 255).take k=List.replicate (k+k) 255:=by
     rw [List.take_of_length_le (by simp),List.replicate_append_replicate]
    rw [e3] at B3;have HB3:Aside (Lib.Buf w2 w3 w2.heap.size 64 (List.replicate (k+k) 255)):=B3;clear B3 e3;have Ql:min (k:Int) 64=(k:Int):=by omega
    go_wp2
    go_region_held3 (fun _=>True) (trivial) (first|(refine Lib.wp_copy_run _ (.tmp 70) (.tmp 73) 26 26 rfl _ _ rfl rfl hr3 ?_))
    go_roundw
    case rel=>
     have hw:IntKind.i64.wrap ((k:Int)+(k:Int))=((k+k:Nat):Int):=by rw [IntKind.wrap_i64];omega
     exact⟨_,_,_,_,_,_,_,_,_,_,_,_,_,_,_,_,_,⟨k+k,by omega,by rw [hw],HB3⟩,rfl⟩
    case measure=>
     have hw:IntKind.i64.wrap ((k:Int)+(k:Int))=((k+k:Nat):Int):=by rw [IntKind.wrap_i64];omega
     simp [RowKit.intOf,hw];omega
  · have ß:k=64:=by omega
    subst ß;go_wp2
    go_ret
    exact⟨_,rfl,HB.fresh (by simp) (by unfold maxLen;omega),HB.below⟩
end Go.Proofs

end
section
namespace Go.Proofs
open Go Go.Vg Go.Lib
theorem agU {w:World} {Q:Nat→Prop} {B:Nat} {v:Value} {l:List UInt8}(h:FreshBytes B w v l)(hl:l≠ [])(hq:∀b,B≤b→b<w.heap.size→Q b):Rd w Q (.slice [.int .u8]) v l:=by
 obtain⟨g,cap,zs,rfl,hB,hle,rC,hz,hr,hb,hc,_⟩:=h;have hlen:(zs.take l.length).length=l.length:=by rw [List.length_take];omega
 have gI:∀(j:Nat) (x:UInt8),l[j]? =some x→w.cell? ⟨g,j,none⟩=some (.int .u8 (x.toNat:Int)):=by
  intro j x hx;have hj:=(List.getElem?_eq_some_iff.1 hx).1;rw [hc j (by omega)];have e:(bytesOf (zs.take l.length))[j]? =some x:=by rw [hb];exact hx
  unfold bytesOf at e;rw [List.getElem?_map,List.getElem?_take_of_lt hj] at e;obtain⟨y,hy,e2⟩:=Option.map_eq_some_iff.1 e;have hm:=hr y (List.mem_of_getElem? hy);rw [List.getD_eq_getElem?_getD,hy];simp only [Option.getD_some];congr 2
  rw [←e2];simp only [UInt8.toNat_ofNat'];omega
 simp only [Rd];refine⟨some ⟨g,0,none⟩,cap,l.map fun x=>Value.int .u8 (x.toNat:Int),rfl,hle,rC,?_,fun _=>⟨g,0,rfl,?_,fun j u hj=> ?_⟩⟩
 · clear gI hlen hb hle hl;induction l with
   |nil=>simp [b9]
   |cons x l ih=>
    simp only [List.map_cons,b9];refine⟨[Value.int .u8 (x.toNat:Int)],l.map fun x=>Value.int .u8 (x.toNat:Int),rfl,?_,ih⟩;simp only [bk];refine⟨_,[],rfl,?_,rfl⟩;simp only [Rd];have :=x.toNat_lt;refine⟨rfl,?_,?_⟩
    · simp only [lo,DI.toInt];exact Int.natCast_nonneg _
    · simp only [hi,DI.toInt,Row.hd];omega
 · have h0:0<l.length:=List.length_pos_iff.2 hl;exact hq g hB (World.block_lt_of_cell? w _ (gI 0 _ (List.getElem?_eq_getElem h0)))
 · rw [List.getElem?_map] at hj;obtain⟨x,hx,rfl⟩:=Option.map_eq_some_iff.1 hj;rw [Nat.zero_add];exact gI j x hx
theorem Tryz.G1 {G:Nat→Option GD} {F:Row (PS.flat [.one (.slice [.int .u8]), .one (.int .i64)])→Prop×AV×List AB}
  (hF:∀(b:List UInt8) (n:Int),F (b,n)=(S.KK b n, .sl [.int .u8] S.clean,[])):
  Valid Tryz.prog G 56 (ar [.one (.slice [.int .u8]), .one (.int .i64)] F):=by
 intro w A β args cz pre res bs hA hG bw hs hp;unfold ar at hs;split at hs
 · rename_i x hx;obtain⟨b,n⟩:=x;change List UInt8 at b;change Int at n;rw [hF b n] at hs;simp only [Option.some.injEq,Prod.mk.injEq] at hs;obtain⟨rfl,rfl,rfl⟩:=hs;obtain⟨g1,g2⟩:=pE _ hx bw;clear hx bw g2;change af w A β args [.sl [.int .u8] b, .int .i64 n] at g1;obtain⟨rfl,rfl⟩:=hp;simp only [af,aa] at g1;obtain⟨vb,bK,rfl,hvb,vn,ai4,rfl,⟨rfl,_⟩,rfl⟩:=g1;simp only [Rd] at hvb;obtain⟨a,cap,cs,rfl,He,P5,B8,aG⟩:=hvb;simp only [b9,bk] at B8;obtain⟨c1,c2,rfl,⟨v,bK,rfl,hv,rfl⟩,rfl⟩:=B8;simp only [Rd] at hv;obtain⟨bb,o,rfl,wz,Ut⟩:=aG (by simp);have hc:=Ut 0 v rfl;rw [hv.1,Nat.add_zero] at hc
   refine(Tryz.Ld bb o cap w hc).mono fun e w' ⟨v',he,hf,oI⟩=>⟨v',he,fun b=>A b∨(w.heap.size≤b∧b<w'.heap.size),β,
    {os:=oI.os,tape:=oI.tape,output:=oI.output,size:=oI.size,same:=oI.block,mono:=fun _ h=> .inl h,kE:=fun b hb h=> ?_,bound:=fun b h=> ?_,res:= ?_,rows:=fun i ab hi=>by simp at hi,apart:=fun i j b hi=>by simp at hi}⟩
   · rcases h with h|h
     · exact h
     · omega
   · rcases h with h|h
     · exact Nat.lt_of_lt_of_le (hA b h) oI.size
     · exact h.2
   · simp only [aa];exact agU (l:=S.clean) hf (by unfold S.clean;simp) fun b h1 h2=> .inr ⟨h1,h2⟩
 · cases hs
end Go.Proofs

end
