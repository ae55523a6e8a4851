import Derived.Test.YtmonnkdlphjngaaGreatDoorPartF
import Derived.Maps.GroupsBeside
import Derived.Sort.KeysCollected
import Derived.Sort.Walk0
import Derived.WalkKit
set_option linter.unusedVariables false
set_option linter.unusedSimpArgs false
section
namespace Go.DM
open Go Go.Vg Go.Maps Go.RowKit Go.ChangeShapes
section
variable {H:Type}
def items:DataW H->List Int
 | .slice ls _=>ls.filterMap fun d=>match d with| .lit (.int _ z)=>some z|_=>none
 |_=> []
theorem RW(zs:List Int):items (H:=H) (.slice (lits .i64 zs) [])=zs:=by
 induction zs with
 |nil=>rfl
 |cons z zs ih=>
  simp only [items,lits,T?,List.filterMap_cons] at ih |-;rw [ih]
theorem Aq {w:World} {base:Nat} {e:TypeId} {v:Value} {zs:List Int}(h:w.ownsInts base e .i64 v zs):items (H:=H) (rowDatum .i64 v zs)=zs:=by
 rcases h.datum (H:=H) with⟨h1,h2⟩|h1
 . rw [h1,h2];rfl
 . rw [h1];exact RW zs
def Repr(D:DataW H)(m:List UInt8->List Int):Prop :=IsMap D/\∀s,items (D.atKey (.string s) .nil)=m s/\(has D (.string s)=true↔m s≠ [])
theorem Repr.empty:Repr (H:=H) (.map []) (fun _=> []):=⟨isMap_empty,fun s=>⟨rfl,by simp [has]⟩⟩
theorem Repr.ext {D:DataW H} {m m':List UInt8->List Int}(h:Repr D m)(e:∀s,m s=m' s):Repr D m':=by
 rw [<-funext e];exact h
theorem Repr.put {D:DataW H} {m m':List UInt8->List Int}(h:Repr D m) {t:List UInt8} {w:World} {base:Nat} {e:TypeId} {v:Value} {zs:List Int}(ho:w.ownsInts base e .i64 v zs)(hz:zs≠ [])
  (h1:m' t=zs) (h2:∀s,s≠t->m' s=m s):Repr (D.put (.string t) (rowDatum .i64 v zs)) m':=by
 refine⟨h.1.put _ _,fun s=> ?_⟩;by_cases hs:s=t
 . subst hs;refine⟨?_,?_⟩
   . rw [atKey_put_same h.1 (by trivial),Aq ho,h1]
   . rw [has_put_same h.1 (by trivial),h1];simp [hz]
 . have dR:Lit.string s≠Lit.string t:=fun hh=>hs (by injection hh);rw [atKey_put_other dR,has_put_other dR,h2 s hs];exact h.2 s
theorem amC {w:World} {Q:Nat->Prop} {base:Nat} {e:TypeId} {v:Value} {zs:List Int}(h:w.ownsInts base e .i64 v zs)(hq:∀g,v.ownBlock=some g->Q g):Rd w Q (.slice [.int .i64]) v zs:=by
 obtain⟨ho,hw⟩:=h
 have hz:∀z∈zs,lo .i64<=z/\z<=hi .i64:=fun z hz=>by
  have :=hw z hz;simp [Lit.wf,IntKind.min,IntKind.max,IntKind.signed,IntKind.bits] at this;simp only [lo,hi];omega
 simp only [Rd];rcases ho.2 with⟨rfl,h0⟩|⟨g,cap,cur,rfl,hg,hh,hn,hc,cZ,zy⟩
 . have :zs= []:=M?.1 h0;subst this;exact⟨none,0,[],rfl,N! _,J! _,rfl,fun h=>absurd rfl h⟩
 . refine⟨some ⟨g,0,none⟩,cap,zs.map (Value.int .i64),rfl,hn,hc,C9 zs hz,fun _=>⟨g,0,rfl,hq g rfl,fun j v hj=> ?_⟩⟩;have :=ho.cells (g:=g) rfl j v hj;rwa [Addr.add_mid] at this
end
end Go.DM
namespace Go.DM
open Go Go.Vg Go.Maps Go.RowKit Go.ChangeShapes
section
variable {H:Type} {P:Program}
theorem Ca(w:World)(c:Array Value)(e:TypeId)(o:Obj)(j:Nat):((w.alloc (.cells c e)).alloc o).cell? ⟨w.heap.size,j,none⟩=c[j]? :=by
 have h1:((w.alloc (.cells c e)).alloc o).heap[w.heap.size]? =some (.cells c e (0,0)):=by
  rw [((World.grownBy_alloc (w.alloc (.cells c e)) o none).block w.heap.size (by simp) (by simp))];exact(MapKept.heap_alloc w _).1
 simp [World.cell?,h1]
theorem Dc {w:World} {base:Nat} {e:TypeId} {size:Nat} {v:Value} {n:Nat} {xs:List Value}(h:w.ownsRow base e size v n xs):∃av cp,v= .slice av n cp/\(0<n->∃g,av=some ⟨g,0,none⟩/\base<=g/\g<w.heap.size):=by
 have hl:=h.lt;rcases h.2 with⟨rfl,h0⟩|⟨g,cap,cur,rfl,hg,_⟩
 . exact⟨none,0,by rw [h0],fun h=>by omega⟩
 . exact⟨_,cap,rfl,fun _=>⟨g,rfl,hl g rfl⟩⟩
theorem vB {w w':World}(h:Below w.heap.size w w'):w.grownBy w' none:=⟨h.os,h.tape,h.output,h.size,fun i hi _=>h.block i hi⟩
theorem sJ {w w':World} {k:TypeId} {base:Nat} {e:TypeId} {q:IntKind} {b n:Nat} {D:DataW H}(h:w.ownsGroups P k base e q b n D)(hb:Below w.heap.size w w'):w'.ownsGroups P k base e q b n D:=
 h.kept (vB hb) (by simp) (fun es clock _ x _=>by cases x.val.ownBlock<;>simp)
theorem UD {w:World} {k:TypeId} {base:Nat} {e:TypeId} {q:IntKind} {b n:Nat} {D:DataW H}(h:w.ownsGroups P k base e q b n D):b<w.heap.size:=by
 obtain⟨es,clock,hb,_⟩:=h;exact(G?.1 hb).1
theorem Ia {w w':World} {k:TypeId} {base:Nat} {e:TypeId} {q:IntKind} {b n:Nat} {D:DataW H}(h:w.ownsGroups P k base e q b n D)(hb:Below w.heap.size w w') {No:Nat->Prop}(hn:∀g,No g->w.heap.size<=g):w'.Shuns b No:=by
 have h1:w.Shuns b (fun _=>False):=fun _ _ _ _ _ _ _ hf=>hf;exact(h1.reno (No':=No) h (fun g hg=> .inr (hn g hg))).kept (vB hb) (UD h) (by simp)
theorem LN {w:World} {base:Nat} {e:TypeId} {g cp:Nat} {n:Nat} {l:List (List UInt8)}(h:w.ownsRow base e 1 (.slice (some ⟨g,0,none⟩) n cp) n (l.map encS)) {j:Nat}(hj:j<l.length):w.cell? ⟨g,0+j,none⟩=some (encS (l.getD j [])):=by
 have :=h.cells (g:=g) rfl j (encS (l.getD j [])) (by rw [J?,D! hj,H!,D! hj];rfl);rwa [Addr.add_mid] at this
end
end Go.DM
namespace Go.DM
open Go Go.Vg Go.Maps Go.RowKit Go.ChangeShapes
section
variable {H:Type} {P:Program}
theorem RX {w w':World} {row:Option Nat}(h:w.grownBy w' row) {a:Addr} {v:Value}(hl:a.block<w.heap.size)(hn:some a.block≠row)(hc:w.cell? a=some v):w'.cell? a=some v:=
 (World.cell?_of_block (h.block _ hl hn)).trans hc
theorem RY {k:TypeId}(hk:P.underlying k=some .string) {s:List UInt8}(h:s.length<=maxLen):keyOf P k (.string ⟨s.toArray⟩)=some (.string s):=by
 have :=Go.WideMaps.keyOf_string_mk (P:=P) (k:=k) (s:=⟨s.toArray⟩) hk (by simpa [ByteArray.size] using h);simpa using this
theorem avD {wr:World} {b g:Nat} {v v':Value} {o:Obj} {n cp:Nat}(J4:∀No:Nat->Prop,wr.Shuns b No->∀g,v.ownBlock=some g->¬No g)(hs:wr.Shuns b (fun g'=>(Value.slice (some ⟨g,0,none⟩) n cp).ownBlock=some g'))
  (wF:v'.ownBlock=v.ownBlock\/v'.ownBlock=some (wr.alloc o).heap.size) (hg:g<wr.heap.size):∀g',v'.ownBlock=some g'->¬((Value.slice (some ⟨g,0,none⟩) n cp).ownBlock=some g'):=fun g' yz hh=>by
 rcases wF with h|h
 . rw [h] at yz;exact J4 _ hs g' yz hh
 . rw [h] at yz;simp only [Value.ownBlock,A!] at yz hh;simp at yz;omega
end
end Go.DM
namespace Go.DM
open Go Go.Vg Go.Maps Go.RowKit Go.ChangeShapes
section
variable {H:Type} {P:Program}
theorem Ib {w:World} {k:TypeId} {base:Nat} {e:TypeId} {q:IntKind} {b n:Nat} {D:DataW H}(h:w.ownsGroups P k base e q b n D):w.ownsMap P k (rowElem w base e q) b n D:=by
 obtain⟨es,clock,hb,F,hs,hD,_⟩:=h;exact⟨es,clock,hb,F,hs,hD⟩
theorem Dd {w:World} {k:TypeId} {R:Value->Option (DataW H×List MemPlace)} {b n:Nat} {D:DataW H}(h:w.ownsMap P k R b n D):Maps.size D<=n:=by
 obtain⟨es,clock,hb,F,hs,rfl⟩:=h;rw [size_eq,length_sorted];simpa using hs
theorem UE(docs:List (List UInt8))(a b:Int)(x:List UInt8):x∈S.cu docs a b↔S.uO docs a (b-a).toNat 0 x≠ []:=by
 unfold S.cu;rw [S.iA,S.z7];simp [S.uO]
theorem adi {w:World} {R:Value->Option (DataW H×List MemPlace)} {k:TypeId} {b n:Nat} {D:DataW H}(h:w.ownsMap P k R b n D)(K:Keyed P k)(hk:P.underlying k=some .string) {docs:List (List UInt8)} {f t:Int}
  (hr:Repr D (S.uO docs f (t-f).toNat 0)) {ss:List (List UInt8)} (hs:ss.Perm (strKeys D)):ss.mergeSort (fun x y=>decide (x<=y))=S.cu docs f t/\ss.length=(S.cu docs f t).length/\(∀s∈S.cu docs f t,s.length<=maxLen)/\(S.cu docs f t).length<=n:=by
 obtain⟨es,hD,hpw,_⟩:=h.entries K;obtain⟨SS,hD',hko⟩:=h.keysOf;have hle:=strKeys_le h hk;have cZ:=Dd h;obtain rfl :es=SS:=by rw [hD] at hD';simpa using hD'
 subst hD;have hi:S.tm (S.cu docs f t):=S.lf _;have eB:=perm_strKeys hpw (fun p hp=>by obtain⟨v,hv⟩:=hko p hp;obtain⟨x,_,hx,_⟩:=Maps.keyOf_str hk hv;exact⟨x,hx⟩) (S.DW hi) (fun x=>by rw [UE,(hr.2 x).2]);have hp1:=hs.trans eB.symm
 have hlen:(S.cu docs f t).length<=n:=by
  rw [eB.length_eq];simpa [strKeys,size_eq] using cZ
 refine⟨?_,hp1.length_eq,fun s ie=>hle s (eB.subset ie),hlen⟩;have e1:ss.mergeSort leB=(S.cu docs f t).mergeSort leB:=mergeSort_of_perm hp1
 have e2:(S.cu docs f t).mergeSort leB=S.cu docs f t:=by
  refine List.mergeSort_of_pairwise (hi.imp fun {a b} gv=> ?_);rw [Go.Proofs.bytesLess_eq] at gv;simp only [leB,I!] at gv |-;exact List.le_of_lt gv
 exact e1.trans e2
end
end Go.DM
namespace Go.DM
open Go Go.Vg Go.Maps Go.RowKit Go.ChangeShapes
section
variable {H:Type} {P:Program}
theorem FP {w:World} {base:Nat} {e:TypeId} {q:IntKind} {v:Value} {zs:List Int}(h:w.ownsInts base e q v zs):v.oneCell'=true :=by
 rcases h.1.2 with⟨rfl,_⟩|⟨g,cap,cur,rfl,_⟩<;>rfl
theorem adj {w:World} {Q:Nat->Prop} {s:List UInt8} {v:Value} {zs:List Int}(hs:s.length<=maxLen)(hv:Rd w Q (.slice [.int .i64]) v zs):bC w Q [.str, .slice [.int .i64]] [.string ⟨s.toArray⟩,v] (s,zs):=by
 simp only [bC];refine⟨_,[v],rfl,?_,v,[],rfl,hv,rfl⟩;simp only [Rd];exact⟨rfl,hs⟩
theorem LO {α:Type} {R:List Value->α->Prop}:∀(l:List α) (cs:List Value) (c:List Value) (x:α),E2 R cs l->R c x->E2 R (cs++c) (l++ [x])
 | [],cs,c,x,h,hx=>by
   simp only [E2] at h;subst h;exact⟨c,[],by simp,hx,rfl⟩
 |y::l,cs,c,x,⟨c1,c2,hc,h1,h2⟩,hx=>by
  subst hc;exact⟨c1,c2++c,by simp,h1,LO l c2 c x h2 hx⟩
theorem amD {w w':World} {base:Nat} {e:TypeId} {v:Value} {zs:List Int} {Q:Nat->Prop}(h:w'.ownsInts base e .i64 v zs)(hb:Below w.heap.size w w')(hl:∀g,v.ownBlock=some g->g<w.heap.size)(hq:∀g,base<=g->g<w.heap.size->Q g):Rd w Q (.slice [.int .i64]) v zs:=by
 have h':w.ownsInts base e .i64 v zs:=by
  refine⟨⟨h.1.1,?_⟩,h.2⟩;rcases h.1.2 with hn|⟨g,cap,cur,rfl,hg,hh,rest⟩
  . exact .inl hn
  . exact .inr ⟨g,cap,cur,rfl,hg,(hb.block g (hl g rfl)).symm.trans hh,rest⟩
 exact amC h' (fun g hg=>hq g (h'.1.lt g hg).1 (hl g hg))
theorem Pl(w:World)(a b:Value)(t:TypeId):∀j u,[a,b][j]? =some u->(w.alloc (.cells #[a,b] t)).cell? ((⟨w.heap.size,0,none⟩:Addr).add j)=some u:=by
 intro j u hj;rw [Addr.add_mid,r?];have h1:(w.alloc (.cells #[a,b] t)).heap[w.heap.size]? =some (.cells #[a,b] t (0,0)):=(MapKept.heap_alloc w _).1;simp only [World.cell?,h1];simpa using hj
end
end Go.DM

end
section
namespace Go.Proofs
open Go Go.Vg Go.Maps Go.RowKit Go.ChangeShapes Go.DM Go.WideMaps
theorem Tryz.abd:Keyed Tryz.prog 9:=string_keyed Tryz.underlying9
theorem Tryz.aFg:(Tryz.prog.info? 3).map (fun i=>(i.zero,i.size,i.bytes))=some (some (.int .i64 0),1,8):=by kernel_rfl
theorem Tryz.avE:(Tryz.prog.info? 179).map (fun i=>(i.zero,i.size,i.bytes))=some (some (.agg #[.string ⟨#[]⟩, .slice none 0 0]),2,40):=by kernel_rfl
theorem Tryz.abe(w:World):(zeroValue 177).run Tryz.prog w= .ok (.slice none 0 0) w:=by kernel_rfl
theorem Tryz.amE(mb:Option Nat)(W:World):Calls Tryz.prog 196 #[.map mb] W fun e w'=>e= .returned (.func (.func 247) #[] #[.pointer (some ⟨W.heap.size,0,none⟩)])/\w'=W.alloc (.cells #[.map mb] 265):=callsIn_wide.1 (Tryz.Ks mb W)
set_option maxRecDepth 100000 in
set_option maxHeartbeats 4000000 in
theorem Tryz.UF {H:Type}(docs:List (List UInt8))(f t:Int)(da:Option Addr)(cap:Nat)(w:World)
  (hp:S.fA docs f t) (h4:∀j,(docs.getD j []).length<=2000) (dv:Nat->Value)
  (hd:∀j,j<docs.length->∃b o aj cj,da=some ⟨b,o,none⟩/\b<w.heap.size/\w.cell? ⟨b,o+j,none⟩=some (dv j)/\dv j= .slice aj (docs.getD j []).length cj)
  (yM:∀(j:Nat) (W:World),j<docs.length->Below w.heap.size w W->Calls Tryz.prog 194 #[dv j] W fun e w'=>∃v,e= .returned v/\w'.ownsRow W.heap.size 9 1 v (S.fB docs 0 j).length ((S.fB docs 0 j).map encS)/\Below W.heap.size W w')
  (Pm:∀(j:Nat),∀s∈S.fB docs 0 j,s.length<=maxLen):
  Calls Tryz.prog 140 #[.slice da docs.length cap, .agg #[.int .i64 f, .int .i64 t]] w fun e w'=>∃v xs W1,e= .returned (.tuple #[v, .int .i64 0])/\Below w.heap.size w w'/\Below W1.heap.size W1 w'/\w.heap.size<=W1.heap.size/\
   w'.ownsRow W1.heap.size 179 2 v (S.make docs f t).length xs/\E2 (bC W1 (fun b=>w.heap.size<=b/\b<W1.heap.size) [.str, .slice [.int .i64]]) xs (S.make docs f t):=by
 have hmm:= @run_makeMap Tryz.prog;have h0:0<=f:=hp.1;have h1:f<=t:=hp.2.1;have h2:t<=docs.length:=hp.2.2.1;have h3:docs.length<=1000:=hp.2.2.2.1;obtain⟨i0,hi,hz0,hz1,hz2⟩:=info_parts Tryz.aFg;obtain⟨i1,hi1,hy0,hy1,hy2⟩:=info_parts Tryz.avE;go_enter Tryz.func140,Tryz.ntmps140
 go_wp2
 go_loopw [39] (fun i wr=>∃k:Nat,k<=docs.length/\i= .int .i64 k/\wr=w.alloc (.cells #[.int .i64 f, .int .i64 t] 99))
  (fun i _=>docs.length-(intOf i).toNat)
 case atStart=>exact⟨0,J! _,rfl,rfl⟩
 case round=>
  obtain⟨k,hk,rfl,rfl⟩:=hrel;by_cases fP:k<docs.length
  . obtain⟨b,o,aj,cj,rfl,hb,hc,hv⟩:=hd k fP;rw [hv] at hc;have hl:=h4 k;generalize (docs.getD k []).length=n at hc hl
    have pj:(w.alloc (.cells #[.int .i64 f, .int .i64 t] 99)).cell? ⟨b,o+k,none⟩=some (.slice aj n cj):=by
     rw [<-hc];exact World.cell?_of_block ((World.grownBy_alloc w _ none).block b hb (by simp))
    clear hd yM;go_wp2
    go_roundw
    case rel=>exact⟨k+1,by omega,by go_num,by first|rfl|trivial⟩
    case measure=>simp [intOf];omega
  . have :k=docs.length:=by omega
    subst this;clear fP;go_wp2
    go_loopw [9] (fun i wr=>∃k:Nat,i= .int .i64 (f+k)/\f+k<=t/\∃(m:Nat) (D:DataW H),m<=4000*k/\wr.ownsGroups Tryz.prog 9 (w.heap.size+2) 3 .i64 (w.heap.size+1) m D/\Repr D (S.uO docs f k 0)/\
      Below w.heap.size w wr/\wr.cell? ⟨w.heap.size,1,none⟩=some (.int .i64 t)/\w.heap.size+2<=wr.heap.size)
     (fun i _=>(t-intOf i).toNat)
    case atStart=>
     have cZ:(w.alloc (.cells #[.int .i64 f, .int .i64 t] 99)).heap.size=w.heap.size+1:=by simp
     have hg:=World.ownsGroups_made (H:=H) (w.alloc (.cells #[.int .i64 f, .int .i64 t] 99)) Tryz.prog 9 3 .i64;rw [cZ] at hg;refine⟨0,by simp,by simpa using h1,0,_,N! _,hg,Repr.empty.ext (fun s=>(S.az5 docs f s).symm),((Below.refl _ _).alloc (N! _) _).alloc (by simp) _,?_,by simp⟩;rw [Ca];rfl
    case round=>
     obtain⟨k,rfl,hk,m,D,hm,gN,amF,hnx,aIX,hws⟩:=hrel;by_cases fP:f+k<t
     . obtain⟨n,hn⟩:∃n:Nat,f+(k:Int)=n:=⟨(f+k).toNat,by omega⟩;have hnl:n<docs.length:=by omega
       obtain⟨b,o,aj,cj,rfl,hb,hc,hv⟩:=hd n hnl;have hs:=yM n wr hnl hnx;rw [hv] at hs hc;have pj:wr.cell? ⟨b,o+n,none⟩=some (.slice aj (docs.getD n []).length cj):=(hnx.cell (by exact hb)).trans hc;have eL:S.fB docs 0 n=S.fB docs f k:=by unfold S.fB;rw [hn];simp
       rw [eL] at hs;have E3:=Pm n;rw [eL] at E3;obtain⟨Pn,rfl⟩:∃x,x=wr:=⟨wr,rfl⟩;have hL:(S.fB docs f k).length<=4000:=by unfold S.fB;exact S.xe hp _
       simp only [hn] at hk |-;generalize (docs.getD n []).length=dl at pj hs;clear hd yM hc hv
       go_wp2_with (first
        |(go_at_call 194;refine hs.mono ?_;rintro e w1 ⟨vs,rfl,j7,S4⟩;obtain⟨av,cp,rfl,Ns⟩:=Dc j7)
        |go_in)
       have aFh:=sJ gN S4;have aIY:w1.Shuns (w.heap.size+1) (fun g=>(Value.slice av (S.fB docs f k).length cp).ownBlock=some g):=Ia gN S4 (fun g hg=>(j7.lt g hg).1);have aIZ:Below w.heap.size w w1:=hnx.trans (S4.mono (by omega));have aFi:w1.cell? ⟨w.heap.size,1,none⟩=some (.int .i64 t):=(S4.cell (by show w.heap.size<Pn.heap.size;omega)).trans aIX;have aI0:Pn.heap.size<=w1.heap.size:=S4.size;clear hs S4 pj
       go_loopw [62] (fun i wq=>∃j:Nat,i= .int .i64 j/\j<=(S.fB docs f k).length/\∃(m2:Nat) (D2:DataW H),m2<=m+j/\wq.ownsGroups Tryz.prog 9 (w.heap.size+2) 3 .i64 (w.heap.size+1) m2 D2/\Repr D2 (S.uO docs f k j)/\
         wq.Shuns (w.heap.size+1) (fun g=>(Value.slice av (S.fB docs f k).length cp).ownBlock=some g)/\Below w.heap.size w wq/\wq.cell? ⟨w.heap.size,1,none⟩=some (.int .i64 t)/\
         wq.ownsRow Pn.heap.size 9 1 (.slice av (S.fB docs f k).length cp) (S.fB docs f k).length ((S.fB docs f k).map encS)/\Pn.heap.size<=wq.heap.size)
        (fun i _=>(S.fB docs f k).length-(intOf i).toNat)
       case atStart=>exact⟨0,rfl,J! _,m,D,by omega,aFh,amF,aIY,aIZ,aFi,j7,aI0⟩
       case round=>
        obtain⟨j,rfl,hj,m2,D2,hm2,UG,Po,amG,amH,amI,UH,hwq⟩:=hrel;by_cases Kg:j<(S.fB docs f k).length
        . obtain⟨g,rfl,hg1,hg2⟩:=Ns (by omega);have mW:=LN UH Kg;rw [Nat.zero_add] at mW;have LP:=RY (P:=Tryz.prog) Tryz.underlying9 (E3 _ (S.bu _ j [] Kg));have ayW:=S.aeW (docs:=docs) (a:=f) (k:=k) Kg;have amJ:=fun s=>S.acG (docs:=docs) (a:=f) (k:=k) (j:=j) Kg (s:=s);have aFj:=S.aeX docs f k j ((S.fB docs f k).getD j []);unfold Vg.encS at mW;generalize (S.fB docs f k).getD j []=sj at mW LP ayW amJ aFj;have aI1:g<wr.heap.size:=(UH.lt g rfl).2;have abf:m2<maxLen:=by unfold maxLen;omega
          clear Pm E3 Ns
          go_wp2_with (first
           |(at_lookup;refine wpList_lookup_groups_shuns _ rfl _ _ 265 rfl 9 177 3 .i64 Tryz.abd Tryz.underlying265 (Tryz.abe _) (w.heap.size+2) (w.heap.size+1) m2 _ rfl UG abf _ _ rfl LP ?_;intro v zs hat zP SF amK J4)
           |(at_builtin;refine wpList_append_own_at _ rfl _ _ 177 rfl (w.heap.size+2) 3 i0 (.int .i64 0) 1 8 Tryz.underlying177 hi hz0 hz1 hz2 rfl (by decide) _ _ _ rfl (zP.1.alloc _) ⟨wr.heap.size,0,none⟩ 1 1 [.int .i64 n] rfl rfl (cell_one_new _ _ _) (ints_oneCell .i64 [(n:Int)]) (by unfold maxLen;omega) (by omega) (by simp;omega) ?_;intro v' w3 amL Pq PJ wF)
           |(at_mapUpdate;have zx:=avD J4 amG wF aI1;refine wpList_mapUpdate_back_shuns _ rfl _ _ _ 265 rfl Tryz.abd Tryz.underlying265 LP UG abf zP amG zx amK rfl rfl rfl ((World.grownBy_alloc _ _ _).trans Pq) (zP.appended amL (WalkArith.wf_i64 (by omega))) (by simp;omega) (wF.imp id (fun h=>⟨_,h,by simp⟩)) ?_;intro w4 aFk E4 aI2)
           |go_in)
          have jO:=(World.grownBy_alloc wr _ _).trans Pq;have hw3:wr.heap.size<=w3.heap.size:=jO.size;have hvb:∀g',v.ownBlock=some g'->w.heap.size+2<=g':=fun g' yz=>(zP.1.lt g' yz).1;refine⟨⟨j+1,by go_num,by omega,m2+1,_,by omega,aFk,?_,aI2,?_,?_,?_,?_⟩,by simp [intOf];omega⟩
          . refine Po.put (zP.appended amL (WalkArith.wf_i64 (by omega))) (by simp) ?_ amJ;rw [ayW,hn];have :=Aq (H:=H) zP;rw [<-hat,(Po.2 sj).1] at this;rw [this]
          . exact amH.groups zP jO E4 amH.size (by omega) (by omega)
          . refine RX E4 (by show w.heap.size<w3.heap.size;omega) (by show some w.heap.size≠some (w.heap.size+1);simp) (RX jO (by show w.heap.size<wr.heap.size;omega) ?_ amI);show some w.heap.size≠v.ownBlock;intro h;have :=hvb _ h.symm;omega
          . refine(UH.kept jO (.inr ?_)).kept E4 (.inr ?_)
            . intro h;exact J4 _ amG g h.symm rfl
            . intro h;simp only [Value.ownBlock,A!] at h;omega
          . exact p? hwq (p? hw3 E4.size)
        . have :j=(S.fB docs f k).length:=by omega
          subst this;clear Kg Pm E3;have aFl:=Po.ext (fun s=>S.acH (docs:=docs) (a:=f) (k:=k) (j:=(S.fB docs f k).length) (by omega) s);clear Po;go_wp2
          exact⟨⟨k+1,by rw [show f+((k+1:Nat):Int)=(n:Int)+1 by omega],by omega,m2,D2,by omega,UG,aFl,amH,amI,by omega⟩,by simp [intOf];omega⟩
     . have hk2:t=f+k:=by omega
       have hkk:(t-f).toNat=k:=by omega
       have wE:=Ib gN;have hcS:=callsIn_wide.1 (Tryz.rn (w.heap.size+1) m D _ wr wE (by have :=Dd wE;unfold maxLen;omega) (by have :=Dd wE;omega));have CX:=fun(ss:List (List UInt8)) (hss:ss.Perm (strKeys D))=>adi (docs:=docs) (f:=f) (t:=t) wE Tryz.abd Tryz.underlying9 (by rw [hkk];exact amF) hss;obtain⟨Pn,rfl⟩:∃x,x=wr:=⟨wr,rfl⟩;clear hd yM Pm;subst hk2
       go_wp2_with (first
        |(go_at_call 196;refine(Tryz.amE _ _).mono ?_;rintro e w4 ⟨rfl,rfl⟩)
        |(go_at_call 195;refine hcS.mono ?_;rintro e w5 ⟨vs,ss,rfl,hS,j7,PJ,hb5⟩;obtain⟨hk3,hk4,vD,hk6⟩:=CX ss hS;rw [hk3,hk4] at j7;obtain⟨av,cp,rfl,Ns⟩:=Dc j7)
        |go_in)
       have amM:Below Pn.heap.size Pn w5:=((Below.refl _ Pn).alloc (N! _) _).trans (hb5.mono (by simp));have amN:=sJ gN amM;have aI6:Below w.heap.size w w5:=hnx.trans (amM.mono (by omega));have aLp:Pn.heap.size<=w5.heap.size:=amM.size;clear hcS CX wE hb5 gN hS PJ hk3
       go_loopw [12,79] (fun d i wq=>∃j:Nat,i= .int .i64 j/\j<=(S.cu docs f (f+k)).length/\∃xs,wq.ownsRow w5.heap.size 179 2 d j xs/\
         E2 (bC w5 (fun b=>w.heap.size<=b/\b<w5.heap.size) [.str, .slice [.int .i64]]) xs (S.kl docs f (f+k) j)/\Below w5.heap.size w5 wq)
        (fun _ i _=>(S.cu docs f (f+k)).length-(intOf i).toNat)
       case atStart=>exact⟨0,rfl,J! _,[],World.ownsRow_nil _ _ _ _,rfl,Below.refl _ _⟩
       case round=>
        obtain⟨j,rfl,hj,xs,UI,RZ,yw⟩:=hrel;by_cases Kg:j<(S.cu docs f (f+k)).length
        . obtain⟨g,rfl,hg1,hg2⟩:=Ns (by omega);have abg:=LN j7 Kg;have mW:wr.cell? ⟨g,0+j,none⟩=some (Vg.encS ((S.cu docs f (f+k)).getD j [])):=(yw.cell hg2).trans abg;rw [Nat.zero_add] at mW;have CX:=vD _ (S.bu _ j [] Kg);have LP:=RY (P:=Tryz.prog) Tryz.underlying9 CX;have amO:=fun tt (ht:(S.cu docs f (f+k)).getD j []=tt)=>S.BI (docs:=docs) (a:=f) (b:=f+k) (k:=j) (j:=k) Kg hkk.symm ht;unfold Vg.encS at mW;have aFm:=sJ amN yw;have aI7:wr.Shuns (w.heap.size+1) (fun g=>w5.heap.size<=g):=Ia amN yw (fun g hg=>hg);have aI8:=fun s=>(amF.2 s).1;generalize (S.cu docs f (f+k)).getD j []=sj at mW LP CX amO;have abf:m<maxLen:=by unfold maxLen;omega
          clear abg vD
          go_wp2_with (first
           |(at_lookup;refine wpList_lookup_groups_shuns _ rfl _ _ 265 rfl 9 177 3 .i64 Tryz.abd Tryz.underlying265 (Tryz.abe _) (w.heap.size+2) (w.heap.size+1) m _ rfl aFm abf _ _ rfl LP ?_;intro v zs hat zP SF amK J4;obtain⟨av2,cp2,rfl,aLq⟩:=Dc zP.1)
           |(at_builtin;refine wpList_append_own_at _ rfl _ _ 100 rfl w5.heap.size 179 i1 (.agg #[.string ⟨#[]⟩, .slice none 0 0]) 2 40 Tryz.underlying100 hi1 hy0 hy1 hy2 rfl (by decide) _ j xs rfl (UI.alloc _) ⟨wr.heap.size,0,none⟩ 1 1 [.string ⟨sj.toArray⟩, .slice av2 zs.length cp2] rfl rfl (Pl _ _ _ _) (by intro u hu;simp at hu;rcases hu with rfl|rfl<;>rfl) (by unfold maxLen;omega) (by omega) (by have :=yw.size;simp;omega) ?_;intro v' w6 aFn Pq PJ wF)
           |go_in)
          have pE:Rd w5 (fun b=>w.heap.size<=b/\b<w5.heap.size) (.slice [.int .i64]) (.slice av2 zs.length cp2) zs:=
           amD zP yw (fun g' yz=>by have :=J4 _ aI7 g' yz;omega) (fun g' h1 h2=>⟨by omega,h2⟩)
          have hz:zs=S.bW docs f sj k:=by
           have e1:=Aq (H:=H) zP;rw [<-hat,aI8] at e1;rw [<-e1];simp [S.uO]
          have jO:=(World.grownBy_alloc wr (.cells #[.string ⟨sj.toArray⟩, .slice av2 zs.length cp2] 179) _).trans Pq;refine⟨⟨j+1,by go_num,by omega,xs++ [.string ⟨sj.toArray⟩, .slice av2 zs.length cp2],aFn,?_,?_⟩,by simp [intOf];omega⟩
          . rw [<-amO sj rfl,<-hz];exact LO _ _ _ _ RZ (adj CX pE)
          . exact yw.grown jO yw.size (fun g' yz=>(UI.lt g' yz).1)
        . have hje:j=(S.cu docs f (f+k)).length:=by omega
          subst hje;rw [S.DV (by omega)] at RZ;clear Ns vD;go_wp2
          go_ret2
          refine⟨_,xs,w5,rfl,aI6.trans (yw.mono (by omega)),yw,by omega,?_,RZ⟩;have AQ:(S.make docs f (f+k)).length=(S.cu docs f (f+k)).length:=by simp [S.make]
          rw [AQ];exact UI
set_option maxRecDepth 100000 in
set_option maxHeartbeats 4000000 in
theorem Tryz.UJ(docs:List (List UInt8))(f t:Int)(da:Option Addr)(cap:Nat)(w:World)(hc:1000<docs.length\/f<0\/t<f\/(docs.length:Int)<t):
  Calls Tryz.prog 140 #[.slice da docs.length cap, .agg #[.int .i64 f, .int .i64 t]] w fun e w'=>e= .returned (.tuple #[.slice none 0 0, .int .i64 1])/\Below w.heap.size w w':=by
 generalize docs.length=n at hc;go_enter Tryz.func140,Tryz.ntmps140
 go_wp2
 all_goals (go_ret2;exact⟨rfl,(Below.refl _ _).alloc (N! _) _⟩)
set_option maxRecDepth 100000 in
set_option maxHeartbeats 4000000 in
theorem Tryz.UK(docs:List (List UInt8))(f t:Int)(da:Option Addr)(cap:Nat)(w:World)(h0:0<=f)(h1:f<=t)(h2:t<=docs.length)(h3:docs.length<=1000)(dv:Nat->Value)
  (hd:∀j,j<docs.length->∃b o aj cj,da=some ⟨b,o,none⟩/\b<w.heap.size/\w.cell? ⟨b,o+j,none⟩=some (dv j)/\dv j= .slice aj (docs.getD j []).length cj)
  (hc:¬∀j,j<docs.length->(docs.getD j []).length<=2000):
  Calls Tryz.prog 140 #[.slice da docs.length cap, .agg #[.int .i64 f, .int .i64 t]] w fun e w'=>e= .returned (.tuple #[.slice none 0 0, .int .i64 1])/\Below w.heap.size w w':=by
 go_enter Tryz.func140,Tryz.ntmps140
 go_wp2
 go_loopw [39] (fun i wr=>∃k:Nat,k<=docs.length/\i= .int .i64 k/\wr=w.alloc (.cells #[.int .i64 f, .int .i64 t] 99)/\∀j,j<k->(docs.getD j []).length<=2000)
  (fun i _=>docs.length-(intOf i).toNat)
 case atStart=>exact⟨0,J! _,rfl,rfl,fun j hj=>by omega⟩
 case round=>
  obtain⟨k,hk,rfl,rfl,jO⟩:=hrel;by_cases fP:k<docs.length
  . obtain⟨b,o,aj,cj,rfl,hb,iu,hv⟩:=hd k fP;rw [hv] at iu
    have pj:(w.alloc (.cells #[.int .i64 f, .int .i64 t] 99)).cell? ⟨b,o+k,none⟩=some (.slice aj (docs.getD k []).length cj):=by
     rw [<-iu];exact World.cell?_of_block ((World.grownBy_alloc w _ none).block b hb (by simp))
    clear hd iu hv hc;by_cases hl:(docs.getD k []).length<=2000
    . have SZ:∀j,j<k+1->(docs.getD j []).length<=2000:=fun j hj=>by
       by_cases e:j=k
       . subst e;exact hl
       . exact jO j (by omega)
      clear jO;generalize (docs.getD k []).length=n at pj hl;go_wp2
      go_roundw
      case rel=>exact⟨k+1,by omega,by go_num,by first|rfl|trivial,SZ⟩
      case measure=>simp [intOf];omega
    . clear jO;generalize (docs.getD k []).length=n at pj hl;go_wp2
      go_ret2
      exact⟨rfl,(Below.refl _ _).alloc (N! _) _⟩
  . exact absurd (fun j hj=>jO j (by omega)) hc
end Go.Proofs

end
section
namespace Go.S
theorem R0 {docs:List (List UInt8)} {a:Int} {j:Nat}:∀s∈fB docs a j,s.length<=maxLen:=fun s hs=>by
 have h1:=(iA _ _).1 hs;simp only [aW,List.mem_map] at h1;obtain⟨w,_,rfl⟩:=h1;have :=yd w [] (by simp);unfold en maxLen;omega
theorem og {docs:List (List UInt8)} {f t:Int}(h:cP docs f t=true):fA docs f t/\∀j,(docs.getD j []).length<=2000:=by
 simp only [cP,B!,E?,I!] at h;obtain⟨h1,h2,h3,h4,h5⟩:=h;refine⟨⟨h3,h4,h5,by omega,fun d hd=>by have :=h1 d hd;omega⟩,fun j=> ?_⟩;by_cases hj:j<docs.length
 . have :=h1 _ (bu docs j [] hj);omega
 . rw [H!,List.getElem?_eq_none (by omega)];simp
end Go.S
namespace Go.DM
open Go Go.Vg Go.Maps Go.RowKit Go.Proofs
theorem abh {w:World} {A:Nat->Prop} {τ:Ty}:∀(l:List (D τ)) (cs:List Value),E2 (bC w A [τ]) cs l->cs.length=l.length/\∀(j:Nat) (x:D τ),l[j]? =some x->Rd w A τ (cs.getD j undef) x
 | [],cs,h=>by simp only [E2] at h;subst h;exact⟨rfl,fun j x hx=>by simp at hx⟩
 |y::l,cs,⟨c1,c2,hc,h1,h2⟩=>by
  subst hc;simp only [bC] at h1;obtain⟨v,cg,rfl,hv,rfl⟩:=h1;obtain⟨g1,g2⟩:=abh l c2 h2;refine⟨by simp [g1],fun j x hx=> ?_⟩;cases j with
  |zero=>simp at hx;subst hx;exact hv
  |succ j=>simpa using g2 j x (by simpa using hx)
theorem Pr(b:List UInt8):Gn [.one (.slice [.int .u8])] [.sl [.int .u8] b]=some b:=rfl
set_option maxRecDepth 100000 in
theorem R1 {G:Nat->Option GD} {Fs:Row (PS.flat [.one (.slice [.int .u8])])->Prop×AV×List AB}(yM:Valid Tryz.prog G 194 (ao [.one (.slice [.int .u8])] Fs))
  (hFs:∀b:List UInt8,Fs b=(S.small b, .own 0,[.row 9 [.str] (S.sorted (S.aW b)) false]))
  {F:Row (PS.flat [.one (.slice [.slice [.int .u8]]), .agg [.int .i64, .int .i64]])->Prop×AV×List AB}
  (hF:∀(docs:List (List UInt8)) (f t:Int),F (docs,f,t)=(True, .b4 [.sl [.str, .slice [.int .i64]] (S.ij docs f t).1, .int .i64 ((S.ij docs f t).2:Int)],[])):
  Valid Tryz.prog G 140 (ao [.one (.slice [.slice [.int .u8]]), .agg [.int .i64, .int .i64]] F):=by
 intro w A β args cM pre res bs hA hG bP hs hp;unfold ao at hs;split at hs
 . rename_i x hx;obtain⟨docs,f,t⟩:=x;change List (List UInt8) at docs;change Int at f;change Int at t;have ie:=hs;rw [hF docs f t] at ie;simp only [A!,Prod.mk.injEq] at ie;obtain⟨rfl,rfl,rfl⟩:=ie;obtain⟨g1,g2⟩:=ur _ hx bP;clear hs hp hx bP g2;change ai w A β args [.sl [.slice [.int .u8]] docs, .agg [.int .i64 f, .int .i64 t]] at g1;simp only [ai,aa] at g1;obtain⟨vd,cg,rfl,hvd,va,aIS,rfl,⟨arr,rfl,adG⟩,rfl⟩:=g1;obtain⟨u1,us,e1,⟨rfl,hf⟩,u2,zu,rfl,⟨rfl,ht⟩,rfl⟩:=adG;obtain rfl :arr= #[.int .i64 f, .int .i64 t]:=by apply Array.ext';simpa using e1
   simp only [Rd] at hvd;obtain⟨a,cap,cs,rfl,KE,Ph,RZ,aI⟩:=hvd;obtain⟨iu,dy⟩:=abh (τ:= .slice [.int .u8]) docs cs RZ
   have hd:∀j,j<docs.length->∃b o aj cj,a=some ⟨b,o,none⟩/\b<w.heap.size/\w.cell? ⟨b,o+j,none⟩=some (cs.getD j undef)/\cs.getD j undef= .slice aj (docs.getD j []).length cj:=by
    intro j hj;obtain⟨b,o,rfl,uo,hr⟩:=aI (by intro h;rw [h] at iu;simp at iu;omega);have h1:=dy j (docs.getD j []) (by rw [H!,D! hj];rfl);simp only [Rd] at h1;obtain⟨aj,cj,fD,h2,_⟩:=h1;refine⟨b,o,aj,cj,rfl,hA b uo,hr j _ ?_,h2⟩;rw [H!,D! (by omega)];rfl
   show Calls Tryz.prog 140 #[.slice a docs.length cap, .agg #[.int .i64 f, .int .i64 t]] w _
   have bad:Calls Tryz.prog 140 #[.slice a docs.length cap, .agg #[.int .i64 f, .int .i64 t]] w (fun e w'=>e= .returned (.tuple #[.slice none 0 0, .int .i64 1])/\Below w.heap.size w w')->S.cP docs f t=false->
     Calls Tryz.prog 140 #[.slice a docs.length cap, .agg #[.int .i64 f, .int .i64 t]] w (fun e w'=>∃v,e= .returned v/\∃A' aO,jS w A w' v (.b4 [.sl [.str, .slice [.int .i64]] (S.ij docs f t).1, .int .i64 ((S.ij docs f t).2:Int)]) [] A' aO):=by
    intro hc hb;refine hc.mono fun e w' ⟨he,wZ⟩=>⟨_,he,A,β,{os:=wZ.os,tape:=wZ.tape,output:=wZ.output,size:=wZ.size,same:=wZ.block,mono:=fun _ h=>h,lx:=fun _ _ h=>h,bound:=fun b h=>Nat.lt_of_lt_of_le (hA b h) wZ.size,res:= ?_,rows:=fun i ab hi=>by simp at hi,apart:=fun i j b hi=>by simp at hi}⟩;have e2:S.ij docs f t=([],1):=by unfold S.ij;rw [hb];rfl
    rw [e2];simp only [aa,ai];refine⟨_,rfl,_,_,rfl,?_,_,_,rfl,⟨rfl,by simp only [lo,hi];omega⟩,rfl⟩;simp only [Rd];exact⟨none,0,[],rfl,N! _,J! _,rfl,fun h=>absurd rfl h⟩
   cases Ic:S.cP docs f t with
   |false=>
    refine bad ?_ Ic;by_cases hc:1000<docs.length\/f<0\/t<f\/(docs.length:Int)<t
    . exact Tryz.UJ docs f t a cap w hc
    . refine Tryz.UK docs f t a cap w (by omega) (by omega) (by omega) (by omega) _ hd fun jO=> ?_
      have :S.cP docs f t=true :=by
       simp only [S.cP,B!,E?,I!];refine⟨fun d rl=> ?_,by omega,by omega,by omega,by omega⟩;obtain⟨i,gU,rfl⟩:=List.getElem_of_mem rl;have :=jO i gU;rw [H!,D! gU] at this;simp only [Option.getD_some] at this;omega
      rw [this] at Ic;cases Ic
   |true=>
    obtain⟨hmp,h4⟩:=S.og Ic
    have aFo:∀(j:Nat) (W:World),j<docs.length->Below w.heap.size w W->Calls Tryz.prog 194 #[cs.getD j undef] W fun e w'=>∃v,e= .returned v/\w'.ownsRow W.heap.size 9 1 v (S.fB docs 0 j).length ((S.fB docs 0 j).map Vg.encS)/\Below W.heap.size W w':=by
     intro j W hj hW;have hk:dg w W A A:=fun b hb=>⟨hb,hW.block b (hA b hb)⟩;have h1:=AJ hk _ _ _ (dy j (docs.getD j []) (by rw [H!,D! hj];rfl))
     have h2:=yM W A β [cs.getD j undef] [.sl [.int .u8] (docs.getD j [])] (S.small (docs.getD j [])) (.own 0) [.row 9 [.str] (S.sorted (S.aW (docs.getD j []))) false]
      (fun b hb=>Y? (hA b hb) hW.size) (fun i d hi=>(hG i d hi).mono hk) (by simp only [ai,aa];exact⟨_,_,rfl,h1,rfl⟩)
      (by unfold ao;rw [Pr];simp only [hFs]) (by have :=h4 j;unfold S.small;omega)
     refine h2.mono fun e w' ⟨v,he,A',aO,qp⟩=>⟨v,he,?_,qp.os,qp.tape,qp.output,qp.size,qp.same⟩;have hr:=qp.res;simp only [aa] at hr;obtain⟨⟨xs,ho,pE,_⟩,hblk⟩:=qp.rows 0 _ rfl;obtain⟨rfl,_⟩:=xB _ xs pE;have eK:S.fB docs 0 j=S.sorted (S.aW (docs.getD j [])):=by unfold S.fB;simp
     rw [eK,hr.1];refine⟨ho.1,?_⟩;rcases ho.2 with hn|⟨g,iS,cur,hv,_,rest⟩
     . exact .inl hn
     . exact .inr ⟨g,iS,cur,hv,hblk g (by rw [hv];rfl),rest⟩
    refine(Tryz.UF (H:=Unit) docs f t a cap w hmp h4 _ hd aFo (fun j s hs=>S.R0 s hs)).mono fun e w' ⟨v,xs,W1,he,wZ,ayX,hW1,ho,pE⟩=> ?_;have e2:S.ij docs f t=(S.make docs f t,0):=by unfold S.ij;rw [Ic];rfl
    rw [e2];refine⟨_,he,fun b=>A b\/(w.heap.size<=b/\b<w'.heap.size),β,{os:=wZ.os,tape:=wZ.tape,output:=wZ.output,size:=wZ.size,same:=wZ.block,mono:=fun _ h=> .inl h,lx:=fun b hb h=> ?_,bound:=fun b h=> ?_,res:= ?_,rows:=fun i ab hi=>by simp at hi,apart:=fun i j b hi=>by simp at hi}⟩
    . rcases h with h|h
      . exact h
      . omega
    . rcases h with h|h
      . exact Y? (hA b h) wZ.size
      . exact h.2
    . simp only [aa,ai];refine⟨_,rfl,_,_,rfl,?_,_,_,rfl,⟨rfl,by simp only [lo,hi];omega⟩,rfl⟩;have hk:dg W1 w' (fun b=>w.heap.size<=b/\b<W1.heap.size) (fun b=>A b\/(w.heap.size<=b/\b<w'.heap.size)):=fun b hb=>⟨.inr ⟨hb.1,Y? hb.2 ayX.size⟩,ayX.block b hb.2⟩;have aJa:=bX (fun c x hx=>bY hk _ c x hx) _ _ pE;simp only [Rd];rcases ho.2 with⟨rfl,h0⟩|⟨g,iS,cur,rfl,hg,hh,hn,hc,cZ,zy⟩
      . have hm0:S.make docs f t= []:=M?.1 h0;rw [hm0];exact⟨none,0,[],rfl,N! _,J! _,rfl,fun h=>absurd rfl h⟩
      . refine⟨some ⟨g,0,none⟩,iS,xs,rfl,hn,hc,aJa,fun _=>⟨g,0,rfl, .inr ⟨by omega,(G?.1 hh).1⟩,fun j u hj=> ?_⟩⟩;have :=ho.cells (g:=g) rfl j u hj;rwa [Addr.add_mid] at this
 . cases hs
end Go.DM

end
