import Derived.Test.YtmonnkdlphjngaaGreatDoorPartF
import Derived.WalkKit
set_option linter.unusedVariables false
set_option linter.unusedSimpArgs false
section
namespace Go.Proofs
open Go Go.Vg Go.Maps Go.RowKit Go.ChangeShapes Go.DM Go.WideMaps
theorem Tryz.ad0:Keyed Tryz.prog 9:=string_keyed Tryz.underlying9
theorem Tryz.aHc:(Tryz.prog.info? 3).map (fun i=>(i.zero,i.size,i.bytes))=some (some (.int .i64 0),1,8):=by kernel_rfl
theorem Tryz.ayD:(Tryz.prog.info? 179).map (fun i=>(i.zero,i.size,i.bytes))=some (some (.agg #[.string ⟨#[]⟩, .slice none 0 0]),2,40):=by kernel_rfl
theorem Tryz.ad1(w:World):(zeroValue 177).run Tryz.prog w= .ok (.slice none 0 0) w:=by kernel_rfl
theorem Tryz.apa(mb:Option Nat)(W:World):Calls Tryz.prog 196 #[.map mb] W fun e w'=>e= .returned (.func (.func 247) #[] #[.pointer (some ⟨W.heap.size,0,none⟩)])/\w'=W.alloc (.cells #[.map mb] 265):=callsIn_wide.1 (Tryz.NJ mb W)
set_option maxRecDepth 100000 in
set_option maxHeartbeats 4000000 in
theorem Tryz.Xv {H:Type}(docs:List B8)(f t:Int)(da:Option Addr)(cap:Nat)(w:World)
  (hp:S.gq docs f t) (h4:∀j,(docs.getD j []).length<=2000) (dv:Nat->Value)
  (hd:∀j,j<docs.length->∃b o aj cj,da=some ⟨b,o,none⟩/\b<w.heap.size/\w.cell? ⟨b,o+j,none⟩=some (dv j)/\dv j= .slice aj (docs.getD j []).length cj)
  (BJ:∀(j:Nat) (W:World),j<docs.length->Below w.heap.size w W->Calls Tryz.prog 194 #[dv j] W fun e w'=>∃v,e= .returned v/\w'.ownsRow W.heap.size 9 1 v (S.gr docs 0 j).length ((S.gr docs 0 j).map encS)/\Below W.heap.size W w')
  (RG:∀(j:Nat),∀s∈S.gr docs 0 j,s.length<=maxLen):
  Calls Tryz.prog 140 #[.slice da docs.length cap, .agg #[.int .i64 f, .int .i64 t]] w fun e w'=>∃v xs W1,e= .returned (.tuple #[v, .int .i64 0])/\Below w.heap.size w w'/\Below W1.heap.size W1 w'/\w.heap.size<=W1.heap.size/\
   w'.ownsRow W1.heap.size 179 2 v (S.make docs f t).length xs/\eu (bT W1 (fun b=>w.heap.size<=b/\b<W1.heap.size) [.str, .slice [.int .i64]]) xs (S.make docs f t):=by
 have hmm:= @run_makeMap Tryz.prog;have h0:0<=f:=hp.1;have h1:f<=t:=hp.2.1;have h2:t<=docs.length:=hp.2.2.1;have h3:docs.length<=1000:=hp.2.2.2.1;obtain⟨i0,hi,hz0,hz1,hz2⟩:=info_parts Tryz.aHc;obtain⟨i1,hi1,hy0,hy1,hy2⟩:=info_parts Tryz.ayD;go_enter Tryz.func140,Tryz.ntmps140
 go_wp2
 go_loopw [39] (fun i wr=>∃k:Nat,k<=docs.length/\i= .int .i64 k/\wr=w.alloc (.cells #[.int .i64 f, .int .i64 t] 99))
  (fun i _=>docs.length-(intOf i).toNat)
 case atStart=>exact⟨0,K! _,rfl,rfl⟩
 case round=>
  obtain⟨k,hk,rfl,rfl⟩:=hrel;by_cases kU:k<docs.length
  . obtain⟨b,o,aj,cj,rfl,hb,hc,hv⟩:=hd k kU;rw [hv] at hc;have hl:=h4 k;generalize (docs.getD k []).length=n at hc hl
    have rq:(w.alloc (.cells #[.int .i64 f, .int .i64 t] 99)).cell? ⟨b,o+k,none⟩=some (.slice aj n cj):=by
     rw [<-hc];exact World.cell?_of_block ((World.grownBy_alloc w _ none).block b hb z!)
    clear hd BJ;go_wp2
    go_roundw
    case rel=>exact⟨k+1,w!,by go_num,by first|rfl|trivial⟩
    case measure=>simp [intOf];omega
  . have :k=docs.length:=by omega
    subst this;clear kU;go_wp2
    go_loopw [9] (fun i wr=>∃k:Nat,i= .int .i64 (f+k)/\f+k<=t/\∃(m:Nat) (D:DataW H),m<=4000*k/\wr.ownsGroups Tryz.prog 9 (w.heap.size+2) 3 .i64 (w.heap.size+1) m D/\Repr D (S.ya docs f k 0)/\
      Below w.heap.size w wr/\wr.cell? ⟨w.heap.size,1,none⟩=some (.int .i64 t)/\w.heap.size+2<=wr.heap.size)
     (fun i _=>(t-intOf i).toNat)
    case atStart=>
     have fj:(w.alloc (.cells #[.int .i64 f, .int .i64 t] 99)).heap.size=w.heap.size+1:=by simp
     have hg:=World.ownsGroups_made (H:=H) (w.alloc (.cells #[.int .i64 f, .int .i64 t] 99)) Tryz.prog 9 3 .i64;rw [fj] at hg;refine⟨0,z!,by simpa using h1,0,_,O! _,hg,Repr.empty.ext (fun s=>(S.aBK docs f s).symm),((Below.refl _ _).alloc (O! _) _).alloc z! _,?_,z!⟩;rw [Fp];rfl
    case round=>
     obtain⟨k,rfl,hk,m,D,hm,jN,apb,hnx,aJR,hws⟩:=hrel;by_cases kU:f+k<t
     . obtain⟨n,hn⟩:∃n:Nat,f+(k:Int)=n:=⟨(f+k).toNat,w!⟩;have hnl:n<docs.length:=by omega
       obtain⟨b,o,aj,cj,rfl,hb,hc,hv⟩:=hd n hnl;have hs:=BJ n wr hnl hnx;rw [hv] at hs hc;have rq:wr.cell? ⟨b,o+n,none⟩=some (.slice aj (docs.getD n []).length cj):=(hnx.cell (by exact hb)).trans hc;have eL:S.gr docs 0 n=S.gr docs f k:=by unfold S.gr;rw [hn];simp
       rw [eL] at hs;have Jp:=RG n;rw [eL] at Jp;obtain⟨RH,rfl⟩:∃x,x=wr:=⟨wr,rfl⟩;have hL:(S.gr docs f k).length<=4000:=by unfold S.gr;exact S.zA hp _
       simp only [hn] at hk |-;generalize (docs.getD n []).length=dl at rq hs;clear hd BJ hc hv
       go_wp2_with (first
        |(go_at_call 194;refine hs.mono ?_;rintro e w1 ⟨vs,rfl,lK,VD⟩;obtain⟨av,cp,rfl,PQ⟩:=GR lK)
        |go_in)
       have aHd:=vB jN VD;have aJS:w1.Shuns (w.heap.size+1) (fun g=>(Value.slice av (S.gr docs f k).length cp).ownBlock=some g):=MG jN VD (fun g hg=>(lK.lt g hg).1);have aJT:Below w.heap.size w w1:=hnx.trans (VD.mono w!);have aHe:w1.cell? ⟨w.heap.size,1,none⟩=some (.int .i64 t):=(VD.cell (by show w.heap.size<RH.heap.size;omega)).trans aJR;have aJU:RH.heap.size<=w1.heap.size:=VD.size;clear hs VD rq
       go_loopw [62] (fun i wq=>∃j:Nat,i= .int .i64 j/\j<=(S.gr docs f k).length/\∃(m2:Nat) (D2:DataW H),m2<=m+j/\wq.ownsGroups Tryz.prog 9 (w.heap.size+2) 3 .i64 (w.heap.size+1) m2 D2/\Repr D2 (S.ya docs f k j)/\
         wq.Shuns (w.heap.size+1) (fun g=>(Value.slice av (S.gr docs f k).length cp).ownBlock=some g)/\Below w.heap.size w wq/\wq.cell? ⟨w.heap.size,1,none⟩=some (.int .i64 t)/\
         wq.ownsRow RH.heap.size 9 1 (.slice av (S.gr docs f k).length cp) (S.gr docs f k).length ((S.gr docs f k).map encS)/\RH.heap.size<=wq.heap.size)
        (fun i _=>(S.gr docs f k).length-(intOf i).toNat)
       case atStart=>exact⟨0,rfl,K! _,m,D,w!,aHd,apb,aJS,aJT,aHe,lK,aJU⟩
       case round=>
        obtain⟨j,rfl,hj,m2,D2,hm2,Xw,RJ,apc,apd,ape,Xx,hwq⟩:=hrel;by_cases zJ:j<(S.gr docs f k).length
        . obtain⟨g,rfl,hg1,hg2⟩:=PQ w!;have pV:=Pn Xx zJ;rw [Nat.zero_add] at pV;have Pq:=UO (P:=Tryz.prog) Tryz.underlying9 (Jp _ (S.bq _ j [] zJ));have aAH:=S.aiV (docs:=docs) (a:=f) (k:=k) zJ;have apf:=fun s=>S.aff (docs:=docs) (a:=f) (k:=k) (j:=j) zJ (s:=s);have aHf:=S.aiW docs f k j ((S.gr docs f k).getD j []);unfold Vg.encS at pV;generalize (S.gr docs f k).getD j []=sj at pV Pq aAH apf aHf;have aJV:g<wr.heap.size:=(Xx.lt g rfl).2;have ad2:m2<maxLen:=by unfold maxLen;omega
          clear RG Jp PQ
          go_wp2_with (first
           |(at_lookup;refine wpList_lookup_groups_shuns _ rfl _ _ 265 rfl 9 177 3 .i64 Tryz.ad0 Tryz.underlying265 (Tryz.ad1 _) (w.heap.size+2) (w.heap.size+1) m2 _ rfl Xw ad2 _ _ rfl Pq ?_;intro v zs hat CP hzl apg PK)
           |(at_builtin;refine wpList_append_own_at _ rfl _ _ 177 rfl (w.heap.size+2) 3 i0 (.int .i64 0) 1 8 Tryz.underlying177 hi hz0 hz1 hz2 rfl (by decide) _ _ _ rfl (CP.1.alloc _) ⟨wr.heap.size,0,none⟩ 1 1 [.int .i64 n] rfl rfl (cell_one_new _ _ _) (ints_oneCell .i64 [(n:Int)]) (by unfold maxLen;omega) w! (by simp;omega) ?_;intro v' w3 aph RK R7 Hr)
           |(at_mapUpdate;have IE:=ayC PK apc Hr aJV;refine wpList_mapUpdate_back_shuns _ rfl _ _ _ 265 rfl Tryz.ad0 Tryz.underlying265 Pq Xw ad2 CP apc IE apg rfl rfl rfl ((World.grownBy_alloc _ _ _).trans RK) (CP.appended aph (WalkArith.wf_i64 w!)) (by simp;omega) (Hr.imp id (fun h=>⟨_,h,z!⟩)) ?_;intro w4 aHg Jq aJW)
           |go_in)
          have na:=(World.grownBy_alloc wr _ _).trans RK;have hw3:wr.heap.size<=w3.heap.size:=na.size;have hvb:∀g',v.ownBlock=some g'->w.heap.size+2<=g':=fun g' CQ=>(CP.1.lt g' CQ).1;refine⟨⟨j+1,by go_num,w!,m2+1,_,w!,aHg,?_,aJW,?_,?_,?_,?_⟩,by simp [intOf];omega⟩
          . refine RJ.put (CP.appended aph (WalkArith.wf_i64 w!)) z! ?_ apf;rw [aAH,hn];have :=Dn (H:=H) CP;rw [<-hat,(RJ.2 sj).1] at this;rw [this]
          . exact apd.groups CP na Jq apd.size w! w!
          . refine UN Jq (by show w.heap.size<w3.heap.size;omega) (by show some w.heap.size≠some (w.heap.size+1);simp) (UN na (by show w.heap.size<wr.heap.size;omega) ?_ ape);show some w.heap.size≠v.ownBlock;intro h;have :=hvb _ h.symm;omega
          . refine(Xx.kept na (.inr ?_)).kept Jq (.inr ?_)
            . intro h;exact PK _ apc g h.symm rfl
            . intro h;simp only [Value.ownBlock,A!] at h;omega
          . exact f? hwq (f? hw3 Jq.size)
        . have :j=(S.gr docs f k).length:=by omega
          subst this;clear zJ RG Jp;have aHh:=RJ.ext (fun s=>S.afg (docs:=docs) (a:=f) (k:=k) (j:=(S.gr docs f k).length) w! s);clear RJ;go_wp2
          exact⟨⟨k+1,by rw [show f+((k+1:Nat):Int)=(n:Int)+1 by omega],w!,m2,D2,w!,Xw,aHh,apd,ape,w!⟩,by simp [intOf];omega⟩
     . have hk2:t=f+k:=by omega
       have hkk:(t-f).toNat=k:=by omega
       have yW:=MH jN;have hcS:=callsIn_wide.1 (Tryz.tM (w.heap.size+1) m D _ wr yW (by have :=GS yW;unfold maxLen;omega) (by have :=GS yW;omega));have Gq:=fun(ss:List B8) (hss:ss.Perm (strKeys D))=>afV (docs:=docs) (f:=f) (t:=t) yW Tryz.ad0 Tryz.underlying9 (by rw [hkk];exact apb) hss;obtain⟨RH,rfl⟩:∃x,x=wr:=⟨wr,rfl⟩;clear hd BJ RG;subst hk2
       go_wp2_with (first
        |(go_at_call 196;refine(Tryz.apa _ _).mono ?_;rintro e w4 ⟨rfl,rfl⟩)
        |(go_at_call 195;refine hcS.mono ?_;rintro e w5 ⟨vs,ss,rfl,hS,lK,R7,hb5⟩;obtain⟨hk3,hk4,CG,hk6⟩:=Gq ss hS;rw [hk3,hk4] at lK;obtain⟨av,cp,rfl,PQ⟩:=GR lK)
        |go_in)
       have api:Below RH.heap.size RH w5:=((Below.refl _ RH).alloc (O! _) _).trans (hb5.mono z!);have apj:=vB jN api;have aJ0:Below w.heap.size w w5:=hnx.trans (api.mono w!);have aMf:RH.heap.size<=w5.heap.size:=api.size;clear hcS Gq yW hb5 jN hS R7 hk3
       go_loopw [12,79] (fun d i wq=>∃j:Nat,i= .int .i64 j/\j<=(S.cE docs f (f+k)).length/\∃xs,wq.ownsRow w5.heap.size 179 2 d j xs/\
         eu (bT w5 (fun b=>w.heap.size<=b/\b<w5.heap.size) [.str, .slice [.int .i64]]) xs (S.lP docs f (f+k) j)/\Below w5.heap.size w5 wq)
        (fun _ i _=>(S.cE docs f (f+k)).length-(intOf i).toNat)
       case atStart=>exact⟨0,rfl,K! _,[],World.ownsRow_nil _ _ _ _,rfl,Below.refl _ _⟩
       case round=>
        obtain⟨j,rfl,hj,xs,Xy,UP,DY⟩:=hrel;by_cases zJ:j<(S.cE docs f (f+k)).length
        . obtain⟨g,rfl,hg1,hg2⟩:=PQ w!;have ad3:=Pn lK zJ;have pV:wr.cell? ⟨g,0+j,none⟩=some (Vg.encS ((S.cE docs f (f+k)).getD j [])):=(DY.cell hg2).trans ad3;rw [Nat.zero_add] at pV;have Gq:=CG _ (S.bq _ j [] zJ);have Pq:=UO (P:=Tryz.prog) Tryz.underlying9 Gq;have apk:=fun tt (ht:(S.cE docs f (f+k)).getD j []=tt)=>S.EE (docs:=docs) (a:=f) (b:=f+k) (k:=j) (j:=k) zJ hkk.symm ht;unfold Vg.encS at pV;have aHi:=vB apj DY;have aJ1:wr.Shuns (w.heap.size+1) (fun g=>w5.heap.size<=g):=MG apj DY (fun g hg=>hg);have aJ2:=fun s=>(apb.2 s).1;generalize (S.cE docs f (f+k)).getD j []=sj at pV Pq Gq apk;have ad2:m<maxLen:=by unfold maxLen;omega
          clear ad3 CG
          go_wp2_with (first
           |(at_lookup;refine wpList_lookup_groups_shuns _ rfl _ _ 265 rfl 9 177 3 .i64 Tryz.ad0 Tryz.underlying265 (Tryz.ad1 _) (w.heap.size+2) (w.heap.size+1) m _ rfl aHi ad2 _ _ rfl Pq ?_;intro v zs hat CP hzl apg PK;obtain⟨av2,cp2,rfl,aMg⟩:=GR CP.1)
           |(at_builtin;refine wpList_append_own_at _ rfl _ _ 100 rfl w5.heap.size 179 i1 (.agg #[.string ⟨#[]⟩, .slice none 0 0]) 2 40 Tryz.underlying100 hi1 hy0 hy1 hy2 rfl (by decide) _ j xs rfl (Xy.alloc _) ⟨wr.heap.size,0,none⟩ 1 1 [.string ⟨sj.toArray⟩, .slice av2 zs.length cp2] rfl rfl (RF _ _ _ _) (by intro u hu;simp at hu;rcases hu with rfl|rfl<;>rfl) (by unfold maxLen;omega) w! (by have :=DY.size;simp;omega) ?_;intro v' w6 aHj RK R7 Hr)
           |go_in)
          have rM:Rd w5 (fun b=>w.heap.size<=b/\b<w5.heap.size) (.slice [.int .i64]) (.slice av2 zs.length cp2) zs:=
           ao9 CP DY (fun g' CQ=>by have :=PK _ aJ1 g' CQ;omega) (fun g' h1 h2=>⟨w!,h2⟩)
          have hz:zs=S.cm docs f sj k:=by
           have e1:=Dn (H:=H) CP;rw [<-hat,aJ2] at e1;rw [<-e1];simp [S.ya]
          have na:=(World.grownBy_alloc wr (.cells #[.string ⟨sj.toArray⟩, .slice av2 zs.length cp2] 179) _).trans RK;refine⟨⟨j+1,by go_num,w!,xs++ [.string ⟨sj.toArray⟩, .slice av2 zs.length cp2],aHj,?_,?_⟩,by simp [intOf];omega⟩
          . rw [<-apk sj rfl,<-hz];exact Po _ _ _ _ UP (afW Gq rM)
          . exact DY.grown na DY.size (fun g' CQ=>(Xy.lt g' CQ).1)
        . have hje:j=(S.cE docs f (f+k)).length:=by omega
          subst hje;rw [S.HN w!] at UP;clear PQ CG;go_wp2
          go_ret2
          refine⟨_,xs,w5,rfl,aJ0.trans (DY.mono w!),DY,w!,?_,UP⟩;have PC:(S.make docs f (f+k)).length=(S.cE docs f (f+k)).length:=by simp [S.make]
          rw [PC];exact Xy
set_option maxRecDepth 100000 in
set_option maxHeartbeats 4000000 in
theorem Tryz.Xz(docs:List B8)(f t:Int)(da:Option Addr)(cap:Nat)(w:World)(hc:1000<docs.length\/f<0\/t<f\/(docs.length:Int)<t):
  Calls Tryz.prog 140 #[.slice da docs.length cap, .agg #[.int .i64 f, .int .i64 t]] w fun e w'=>e= .returned (.tuple #[.slice none 0 0, .int .i64 1])/\Below w.heap.size w w':=by
 generalize docs.length=n at hc;go_enter Tryz.func140,Tryz.ntmps140
 go_wp2
 all_goals (go_ret2;exact⟨rfl,(Below.refl _ _).alloc (O! _) _⟩)
set_option maxRecDepth 100000 in
set_option maxHeartbeats 4000000 in
theorem Tryz.XA(docs:List B8)(f t:Int)(da:Option Addr)(cap:Nat)(w:World)(h0:0<=f)(h1:f<=t)(h2:t<=docs.length)(h3:docs.length<=1000)(dv:Nat->Value)
  (hd:∀j,j<docs.length->∃b o aj cj,da=some ⟨b,o,none⟩/\b<w.heap.size/\w.cell? ⟨b,o+j,none⟩=some (dv j)/\dv j= .slice aj (docs.getD j []).length cj)
  (hc:¬∀j,j<docs.length->(docs.getD j []).length<=2000):
  Calls Tryz.prog 140 #[.slice da docs.length cap, .agg #[.int .i64 f, .int .i64 t]] w fun e w'=>e= .returned (.tuple #[.slice none 0 0, .int .i64 1])/\Below w.heap.size w w':=by
 go_enter Tryz.func140,Tryz.ntmps140
 go_wp2
 go_loopw [39] (fun i wr=>∃k:Nat,k<=docs.length/\i= .int .i64 k/\wr=w.alloc (.cells #[.int .i64 f, .int .i64 t] 99)/\∀j,j<k->(docs.getD j []).length<=2000)
  (fun i _=>docs.length-(intOf i).toNat)
 case atStart=>exact⟨0,K! _,rfl,rfl,fun j hj=>by omega⟩
 case round=>
  obtain⟨k,hk,rfl,rfl,na⟩:=hrel;by_cases kU:k<docs.length
  . obtain⟨b,o,aj,cj,rfl,hb,rp,hv⟩:=hd k kU;rw [hv] at rp
    have rq:(w.alloc (.cells #[.int .i64 f, .int .i64 t] 99)).cell? ⟨b,o+k,none⟩=some (.slice aj (docs.getD k []).length cj):=by
     rw [<-rp];exact World.cell?_of_block ((World.grownBy_alloc w _ none).block b hb z!)
    clear hd rp hv hc;by_cases hl:(docs.getD k []).length<=2000
    . have Vz:∀j,j<k+1->(docs.getD j []).length<=2000:=fun j hj=>by
       by_cases e:j=k
       . subst e;exact hl
       . exact na j w!
      clear na;generalize (docs.getD k []).length=n at rq hl;go_wp2
      go_roundw
      case rel=>exact⟨k+1,w!,by go_num,by first|rfl|trivial,Vz⟩
      case measure=>simp [intOf];omega
    . clear na;generalize (docs.getD k []).length=n at rq hl;go_wp2
      go_ret2
      exact⟨rfl,(Below.refl _ _).alloc (O! _) _⟩
  . exact absurd (fun j hj=>na j w!) hc
end Go.Proofs

end
section
namespace Go.S
theorem UQ {docs:List B8} {a:Int} {j:Nat}:∀s∈gr docs a j,s.length<=maxLen:=fun s hs=>by
 have h1:=(gR _ _).1 hs;simp only [aY,List.mem_map] at h1;obtain⟨w,_,rfl⟩:=h1;have :=AU w [] z!;unfold eU maxLen;omega
theorem afX {docs:List B8} {f t:Int}(h:c8 docs f t=true):gq docs f t/\∀j,(docs.getD j []).length<=2000:=by
 simp only [c8,B!,W!,H!] at h;obtain⟨h1,h2,h3,h4,h5⟩:=h;refine⟨⟨h3,h4,h5,w!,fun d hd=>by have :=h1 d hd;omega⟩,fun j=> ?_⟩;by_cases hj:j<docs.length
 . have :=h1 _ (bq docs j [] hj);omega
 . rw [I!,List.getElem?_eq_none w!];simp
end Go.S
namespace Go.DM
open Go Go.Vg Go.Maps Go.RowKit Go.Proofs
theorem ad4 {w:World} {A:Nat->Prop} {τ:Ty}:∀(l:List (D τ)) (cs:List Value),eu (bT w A [τ]) cs l->cs.length=l.length/\∀(j:Nat) (x:D τ),l[j]? =some x->Rd w A τ (cs.getD j undef) x
 | [],cs,h=>by simp only [eu] at h;subst h;exact⟨rfl,fun j x hx=>by simp at hx⟩
 |y::l,cs,⟨c1,c2,hc,h1,h2⟩=>by
  subst hc;simp only [bT] at h1;obtain⟨v,cK,rfl,hv,rfl⟩:=h1;obtain⟨g1,g2⟩:=ad4 l c2 h2;refine⟨by simp [g1],fun j x hx=> ?_⟩;cases j with
  |zero=>simp at hx;subst hx;exact hv
  |succ j=>simpa using g2 j x (by simpa using hx)
theorem RL(b:B8):Ku [.one (.slice [.int .u8])] [.sl [.int .u8] b]=some b:=rfl
set_option maxRecDepth 100000 in
theorem UR {G:Nat->Option GD} {Fs:Row (PS.flat [.one (.slice [.int .u8])])->Prop×AV×List AB}(BJ:Valid Tryz.prog G 194 (db [.one (.slice [.int .u8])] Fs))
  (hFs:∀b:B8,Fs b=(S.small b, .own 0,[.row 9 [.str] (S.sorted (S.aY b)) false]))
  {F:Row (PS.flat [.one (.slice [.slice [.int .u8]]), .agg [.int .i64, .int .i64]])->Prop×AV×List AB}
  (hF:∀(docs:List B8) (f t:Int),F (docs,f,t)=(True, .bA [.sl [.str, .slice [.int .i64]] (S.jK docs f t).1, .int .i64 ((S.jK docs f t).2:Int)],[])):
  Valid Tryz.prog G 140 (db [.one (.slice [.slice [.int .u8]]), .agg [.int .i64, .int .i64]] F):=by
 intro w A β args cZ pre res bs hA hG cw hs hp;unfold db at hs;split at hs
 . rename_i x hx;obtain⟨docs,f,t⟩:=x;change List B8 at docs;change Int at f;change Int at t;have mO:=hs;rw [hF docs f t] at mO;simp only [A!,Prod.mk.injEq] at mO;obtain⟨rfl,rfl,rfl⟩:=mO;obtain⟨g1,g2⟩:=xd _ hx cw;clear hs hp hx cw g2;change ak w A β args [.sl [.slice [.int .u8]] docs, .agg [.int .i64 f, .int .i64 t]] at g1;simp only [ak,af] at g1;obtain⟨vd,cK,rfl,hvd,va,aJN,rfl,⟨arr,rfl,ahD⟩,rfl⟩:=g1;obtain⟨u1,us,e1,⟨rfl,hf⟩,u2,FJ,rfl,⟨rfl,ht⟩,rfl⟩:=ahD;obtain rfl :arr= #[.int .i64 f, .int .i64 t]:=by apply Array.ext';simpa using e1
   simp only [Rd] at hvd;obtain⟨a,cap,cs,rfl,NZ,RB,UP,aM⟩:=hvd;obtain⟨rp,fx⟩:=ad4 (τ:= .slice [.int .u8]) docs cs UP
   have hd:∀j,j<docs.length->∃b o aj cj,a=some ⟨b,o,none⟩/\b<w.heap.size/\w.cell? ⟨b,o+j,none⟩=some (cs.getD j undef)/\cs.getD j undef= .slice aj (docs.getD j []).length cj:=by
    intro j hj;obtain⟨b,o,rfl,IF,hr⟩:=aM (by intro h;rw [h] at rp;simp at rp;omega);have h1:=fx j (docs.getD j []) (by rw [I!,E! hj];rfl);simp only [Rd] at h1;obtain⟨aj,cj,jd,h2,_⟩:=h1;refine⟨b,o,aj,cj,rfl,hA b IF,hr j _ ?_,h2⟩;rw [I!,E! w!];rfl
   show Calls Tryz.prog 140 #[.slice a docs.length cap, .agg #[.int .i64 f, .int .i64 t]] w _
   have bad:Calls Tryz.prog 140 #[.slice a docs.length cap, .agg #[.int .i64 f, .int .i64 t]] w (fun e w'=>e= .returned (.tuple #[.slice none 0 0, .int .i64 1])/\Below w.heap.size w w')->S.c8 docs f t=false->
     Calls Tryz.prog 140 #[.slice a docs.length cap, .agg #[.int .i64 f, .int .i64 t]] w (fun e w'=>∃v,e= .returned v/\∃A' aS,lA w A w' v (.bA [.sl [.str, .slice [.int .i64]] (S.jK docs f t).1, .int .i64 ((S.jK docs f t).2:Int)]) [] A' aS):=by
    intro hc hb;refine hc.mono fun e w' ⟨he,Bq⟩=>⟨_,he,A,β,{os:=Bq.os,tape:=Bq.tape,output:=Bq.output,size:=Bq.size,same:=Bq.block,mono:=fun _ h=>h,nh:=fun _ _ h=>h,bound:=fun b h=>Nat.lt_of_lt_of_le (hA b h) Bq.size,res:= ?_,rows:=fun i ab hi=>by simp at hi,apart:=fun i j b hi=>by simp at hi}⟩;have e2:S.jK docs f t=([],1):=by unfold S.jK;rw [hb];rfl
    rw [e2];simp only [af,ak];refine⟨_,rfl,_,_,rfl,?_,_,_,rfl,⟨rfl,by simp only [lo,hi];omega⟩,rfl⟩;simp only [Rd];exact⟨none,0,[],rfl,O! _,K! _,rfl,fun h=>absurd rfl h⟩
   cases MI:S.c8 docs f t with
   |false=>
    refine bad ?_ MI;by_cases hc:1000<docs.length\/f<0\/t<f\/(docs.length:Int)<t
    . exact Tryz.Xz docs f t a cap w hc
    . refine Tryz.XA docs f t a cap w w! w! w! w! _ hd fun na=> ?_
      have :S.c8 docs f t=true :=by
       simp only [S.c8,B!,W!,H!];refine⟨fun d wQ=> ?_,w!,w!,w!,w!⟩;obtain⟨i,jO,rfl⟩:=List.getElem_of_mem wQ;have :=na i jO;rw [I!,E! jO] at this;simp only [Option.getD_some] at this;omega
      rw [this] at MI;cases MI
   |true=>
    obtain⟨hmp,h4⟩:=S.afX MI
    have aHk:∀(j:Nat) (W:World),j<docs.length->Below w.heap.size w W->Calls Tryz.prog 194 #[cs.getD j undef] W fun e w'=>∃v,e= .returned v/\w'.ownsRow W.heap.size 9 1 v (S.gr docs 0 j).length ((S.gr docs 0 j).map Vg.encS)/\Below W.heap.size W w':=by
     intro j W hj hW;have hk:dC w W A A:=fun b hb=>⟨hb,hW.block b (hA b hb)⟩;have h1:=DH hk _ _ _ (fx j (docs.getD j []) (by rw [I!,E! hj];rfl))
     have h2:=BJ W A β [cs.getD j undef] [.sl [.int .u8] (docs.getD j [])] (S.small (docs.getD j [])) (.own 0) [.row 9 [.str] (S.sorted (S.aY (docs.getD j []))) false]
      (fun b hb=>Y? (hA b hb) hW.size) (fun i d hi=>(hG i d hi).mono hk) (by simp only [ak,af];exact⟨_,_,rfl,h1,rfl⟩)
      (by unfold db;rw [RL];simp only [hFs]) (by have :=h4 j;unfold S.small;omega)
     refine h2.mono fun e w' ⟨v,he,A',aS,sH⟩=>⟨v,he,?_,sH.os,sH.tape,sH.output,sH.size,sH.same⟩;have hr:=sH.res;simp only [af] at hr;obtain⟨⟨xs,ho,rM,_⟩,hblk⟩:=sH.rows 0 _ rfl;obtain⟨rfl,_⟩:=Aj _ xs rM;have eK:S.gr docs 0 j=S.sorted (S.aY (docs.getD j [])):=by unfold S.gr;simp
     rw [eK,hr.1];refine⟨ho.1,?_⟩;rcases ho.2 with hn|⟨g,l4,cur,hv,_,rest⟩
     . exact .inl hn
     . exact .inr ⟨g,l4,cur,hv,hblk g (by rw [hv];rfl),rest⟩
    refine(Tryz.Xv (H:=Unit) docs f t a cap w hmp h4 _ hd aHk (fun j s hs=>S.UQ s hs)).mono fun e w' ⟨v,xs,W1,he,Bq,aAI,hW1,ho,rM⟩=> ?_;have e2:S.jK docs f t=(S.make docs f t,0):=by unfold S.jK;rw [MI];rfl
    rw [e2];refine⟨_,he,fun b=>A b\/(w.heap.size<=b/\b<w'.heap.size),β,{os:=Bq.os,tape:=Bq.tape,output:=Bq.output,size:=Bq.size,same:=Bq.block,mono:=fun _ h=> .inl h,nh:=fun b hb h=> ?_,bound:=fun b h=> ?_,res:= ?_,rows:=fun i ab hi=>by simp at hi,apart:=fun i j b hi=>by simp at hi}⟩
    . rcases h with h|h
      . exact h
      . omega
    . rcases h with h|h
      . exact Y? (hA b h) Bq.size
      . exact h.2
    . simp only [af,ak];refine⟨_,rfl,_,_,rfl,?_,_,_,rfl,⟨rfl,by simp only [lo,hi];omega⟩,rfl⟩;have hk:dC W1 w' (fun b=>w.heap.size<=b/\b<W1.heap.size) (fun b=>A b\/(w.heap.size<=b/\b<w'.heap.size)):=fun b hb=>⟨.inr ⟨hb.1,Y? hb.2 aAI.size⟩,aAI.block b hb.2⟩;have aJ4:=bZ (fun c x hx=>b4 hk _ c x hx) _ _ rM;simp only [Rd];rcases ho.2 with⟨rfl,h0⟩|⟨g,l4,cur,rfl,hg,hh,hn,hc,fj,Cx⟩
      . have hm0:S.make docs f t= []:=R?.1 h0;rw [hm0];exact⟨none,0,[],rfl,O! _,K! _,rfl,fun h=>absurd rfl h⟩
      . refine⟨some ⟨g,0,none⟩,l4,xs,rfl,hn,hc,aJ4,fun _=>⟨g,0,rfl, .inr ⟨w!,(E?.1 hh).1⟩,fun j u hj=> ?_⟩⟩;have :=ho.cells (g:=g) rfl j u hj;rwa [Addr.add_mid] at this
 . cases hs
end Go.DM

end
