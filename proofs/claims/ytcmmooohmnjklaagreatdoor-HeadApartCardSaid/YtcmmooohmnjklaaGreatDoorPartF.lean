import Derived.Test.YtcmmooohmnjklaaGreatDoorPartE
import Derived.Maps.GroupsBeside
import Derived.Sort.KeysCollected
import Derived.Sort.Walk0
import Derived.WalkKit
set_option linter.unusedVariables false
set_option linter.unusedSimpArgs false
section
namespace Go.DM
open Go Go.Vg Go.Maps Go.RowKit Go.ChangeShapes
section
variable {H:Type}
def items:DataW H→List Int
 | .slice ls _=>ls.filterMap fun d=>match d with| .lit (.int _ z)=>some z|_=>none
 |_=> []
theorem KC(zs:List Int):items (H:=H) (.slice (lits .i64 zs) [])=zs:=by
 induction zs with
 |nil=>rfl
 |cons z zs ih=>
  simp only [items,lits,List.map_cons,List.filterMap_cons] at ih ⊢
  rw [ih]
theorem wA {w:World} {base:Nat} {e:TypeId} {v:Value} {zs:List Int}(h:w.ownsInts base e .i64 v zs):items (H:=H) (rowDatum .i64 v zs)=zs:=by
 rcases h.datum (H:=H) with⟨h1,h2⟩|h1
 · rw [h1,h2];rfl
 · rw [h1];exact KC zs
def Repr(D:DataW H)(m:List UInt8→List Int):Prop :=IsMap D∧∀s,items (D.atKey (.string s) .nil)=m s∧(has D (.string s)=true↔m s≠ [])
theorem Repr.empty:Repr (H:=H) (.map []) (fun _=> []):=⟨isMap_empty,fun s=>⟨rfl,by simp [has]⟩⟩
theorem Repr.ext {D:DataW H} {m m':List UInt8→List Int}(h:Repr D m)(e:∀s,m s=m' s):Repr D m':=by
 rw [←funext e];exact h
theorem Repr.put {D:DataW H} {m m':List UInt8→List Int}(h:Repr D m) {t:List UInt8} {w:World} {base:Nat} {e:TypeId} {v:Value} {zs:List Int}(ho:w.ownsInts base e .i64 v zs)(hz:zs≠ [])
  (h1:m' t=zs) (h2:∀s,s≠t→m' s=m s):Repr (D.put (.string t) (rowDatum .i64 v zs)) m':=by
 refine⟨h.1.put _ _,fun s=> ?_⟩
 by_cases hs:s=t
 · subst hs
   refine⟨?_,?_⟩
   · rw [atKey_put_same h.1 (by trivial),wA ho,h1]
   · rw [has_put_same h.1 (by trivial),h1];simp [hz]
 · have dp:Lit.string s≠Lit.string t:=fun hh=>hs (by injection hh)
   rw [atKey_put_other dp,has_put_other dp,h2 s hs]
   exact h.2 s
theorem þ {w:World} {Q:Nat→Prop} {base:Nat} {e:TypeId} {v:Value} {zs:List Int}(h:w.ownsInts base e .i64 v zs)(hq:∀g,v.ownBlock=some g→Q g):Rd w Q (.slice [.int .i64]) v zs:=by
 obtain⟨ho,hw⟩:=h
 have hz:∀z∈zs,lo .i64≤z∧z≤hi .i64:=fun z hz=>by
  have :=hw z hz
  simp [Lit.wf,IntKind.min,IntKind.max,IntKind.signed,IntKind.bits] at this
  simp only [lo,hi];omega
 simp only [Rd]
 rcases ho.2 with⟨rfl,h0⟩|⟨g,cap,cur,rfl,hg,hh,hn,hc,cz,IU⟩
 · have :zs= []:=List.length_eq_zero_iff.1 h0
   subst this
   exact⟨none,0,[],rfl,Nat.le_refl _,Nat.zero_le _,rfl,fun h=>absurd rfl h⟩
 · refine⟨some ⟨g,0,none⟩,cap,zs.map (Value.int .i64),rfl,hn,hc,y9 zs hz,fun _=>⟨g,0,rfl,hq g rfl,fun j v hj=> ?_⟩⟩
   have :=ho.cells (g:=g) rfl j v hj
   rwa [Addr.add_mid] at this
end
end Go.DM
namespace Go.DM
open Go Go.Vg Go.Maps Go.RowKit Go.ChangeShapes
section
variable {H:Type} {P:Program}
theorem yc(w:World)(c:Array Value)(e:TypeId)(o:Obj)(j:Nat):((w.alloc (.cells c e)).alloc o).cell? ⟨w.heap.size,j,none⟩=c[j]? :=by
 have h1:((w.alloc (.cells c e)).alloc o).heap[w.heap.size]? =some (.cells c e (0,0)):=by
  rw [((World.grownBy_alloc (w.alloc (.cells c e)) o none).block w.heap.size (by simp) (by simp))]
  exact(MapKept.heap_alloc w _).1
 simp [World.cell?,h1]
theorem zc {w:World} {base:Nat} {e:TypeId} {size:Nat} {v:Value} {n:Nat} {xs:List Value}(h:w.ownsRow base e size v n xs):∃av cp,v= .slice av n cp∧(0<n→∃g,av=some ⟨g,0,none⟩∧base≤g∧g<w.heap.size):=by
 have hl:=h.lt
 rcases h.2 with⟨rfl,h0⟩|⟨g,cap,cur,rfl,hg,_⟩
 · exact⟨none,0,by rw [h0],fun h=>by omega⟩
 · exact⟨_,cap,rfl,fun _=>⟨g,rfl,hl g rfl⟩⟩
theorem rT {w w':World}(h:Below w.heap.size w w'):w.grownBy w' none:=⟨h.os,h.tape,h.output,h.size,fun i hi _=>h.block i hi⟩
theorem pW {w w':World} {k:TypeId} {base:Nat} {e:TypeId} {q:IntKind} {b n:Nat} {D:DataW H}(h:w.ownsGroups P k base e q b n D)(hb:Below w.heap.size w w'):w'.ownsGroups P k base e q b n D:=
 h.kept (rT hb) (by simp) (fun es clock _ x _=>by cases x.val.ownBlock<;>simp)
theorem MH {w:World} {k:TypeId} {base:Nat} {e:TypeId} {q:IntKind} {b n:Nat} {D:DataW H}(h:w.ownsGroups P k base e q b n D):b<w.heap.size:=by
 obtain⟨es,clock,hb,_⟩:=h
 exact(Array.getElem?_eq_some_iff.1 hb).1
theorem Dk {w w':World} {k:TypeId} {base:Nat} {e:TypeId} {q:IntKind} {b n:Nat} {D:DataW H}(h:w.ownsGroups P k base e q b n D)(hb:Below w.heap.size w w') {No:Nat→Prop}(hn:∀g,No g→w.heap.size≤g):w'.Shuns b No:=by
 have h1:w.Shuns b (fun _=>False):=fun _ _ _ _ _ _ _ hf=>hf
 exact(h1.reno (No':=No) h (fun g hg=> .inr (hn g hg))).kept (rT hb) (MH h) (by simp)
theorem FH {w:World} {base:Nat} {e:TypeId} {g cp:Nat} {n:Nat} {l:List (List UInt8)}(h:w.ownsRow base e 1 (.slice (some ⟨g,0,none⟩) n cp) n (l.map encS)) {j:Nat}(hj:j<l.length):w.cell? ⟨g,0+j,none⟩=some (encS (l.getD j [])):=by
 have :=h.cells (g:=g) rfl j (encS (l.getD j [])) (by rw [List.getElem?_map,List.getElem?_eq_getElem hj,List.getD_eq_getElem?_getD,List.getElem?_eq_getElem hj];rfl)
 rwa [Addr.add_mid] at this
end
end Go.DM
namespace Go.DM
open Go Go.Vg Go.Maps Go.RowKit Go.ChangeShapes
section
variable {H:Type} {P:Program}
theorem KD {w w':World} {row:Option Nat}(h:w.grownBy w' row) {a:Addr} {v:Value}(hl:a.block<w.heap.size)(hn:some a.block≠row)(hc:w.cell? a=some v):w'.cell? a=some v:=
 (World.cell?_of_block (h.block _ hl hn)).trans hc
theorem KE {k:TypeId}(hk:P.underlying k=some .string) {s:List UInt8}(h:s.length≤maxLen):keyOf P k (.string ⟨s.toArray⟩)=some (.string s):=by
 have :=Go.WideMaps.keyOf_string_mk (P:=P) (k:=k) (s:=⟨s.toArray⟩) hk (by simpa [ByteArray.size] using h)
 simpa using this
theorem acN {wr:World} {b g:Nat} {v v':Value} {o:Obj} {n cp:Nat}(Eg:∀No:Nat→Prop,wr.Shuns b No→∀g,v.ownBlock=some g→¬No g)(hs:wr.Shuns b (fun g'=>(Value.slice (some ⟨g,0,none⟩) n cp).ownBlock=some g'))
  (sO:v'.ownBlock=v.ownBlock∨v'.ownBlock=some (wr.alloc o).heap.size) (hg:g<wr.heap.size):∀g',v'.ownBlock=some g'→¬((Value.slice (some ⟨g,0,none⟩) n cp).ownBlock=some g'):=fun g' uG hh=>by
 rcases sO with h|h
 · rw [h] at uG
   exact Eg _ hs g' uG hh
 · rw [h] at uG
   simp only [Value.ownBlock,Option.some.injEq] at uG hh
   simp at uG
   omega
end
end Go.DM
namespace Go.DM
open Go Go.Vg Go.Maps Go.RowKit Go.ChangeShapes
section
variable {H:Type} {P:Program}
theorem Dl {w:World} {k:TypeId} {base:Nat} {e:TypeId} {q:IntKind} {b n:Nat} {D:DataW H}(h:w.ownsGroups P k base e q b n D):w.ownsMap P k (rowElem w base e q) b n D:=by
 obtain⟨es,clock,hb,F,hs,hD,_⟩:=h
 exact⟨es,clock,hb,F,hs,hD⟩
theorem zd {w:World} {k:TypeId} {R:Value→Option (DataW H×List MemPlace)} {b n:Nat} {D:DataW H}(h:w.ownsMap P k R b n D):Maps.size D≤n:=by
 obtain⟨es,clock,hb,F,hs,rfl⟩:=h
 rw [size_eq,length_sorted]
 simpa using hs
theorem MI(docs:List (List UInt8))(a b:Int)(x:List UInt8):x∈S.bP docs a b↔S.rA docs a (b-a).toNat 0 x≠ []:=by
 unfold S.bP
 rw [S.fk,S.wu]
 simp [S.rA]
theorem Sq {w:World} {R:Value→Option (DataW H×List MemPlace)} {k:TypeId} {b n:Nat} {D:DataW H}(h:w.ownsMap P k R b n D)(K:Keyed P k)(hk:P.underlying k=some .string) {docs:List (List UInt8)} {f t:Int}
  (hr:Repr D (S.rA docs f (t-f).toNat 0)) {ss:List (List UInt8)} (hs:ss.Perm (strKeys D)):ss.mergeSort (fun x y=>decide (x≤y))=S.bP docs f t∧ss.length=(S.bP docs f t).length∧(∀s∈S.bP docs f t,s.length≤maxLen)∧(S.bP docs f t).length≤n:=by
 obtain⟨es,hD,hpw,_⟩:=h.entries K
 obtain⟨es',hD',hko⟩:=h.keysOf
 have hle:=strKeys_le h hk
 have cz:=zd h
 obtain rfl :es=es':=by rw [hD] at hD';simpa using hD'
 subst hD
 have hi:S.lp (S.bP docs f t):=S.jt _
 have la:=perm_strKeys hpw (fun p hp=>by obtain⟨v,hv⟩:=hko p hp;obtain⟨x,_,hx,_⟩:=Maps.keyOf_str hk hv;exact⟨x,hx⟩) (S.tA hi) (fun x=>by rw [MI,(hr.2 x).2])
 have EB:=hs.trans la.symm
 have hlen:(S.bP docs f t).length≤n:=by
  rw [la.length_eq]
  simpa [strKeys,size_eq] using cz
 refine⟨?_,EB.length_eq,fun s gg=>hle s (la.subset gg),hlen⟩
 have e1:ss.mergeSort leB=(S.bP docs f t).mergeSort leB:=mergeSort_of_perm EB
 have e2:(S.bP docs f t).mergeSort leB=S.bP docs f t:=by
  refine List.mergeSort_of_pairwise (hi.imp fun {a b} eV=> ?_)
  rw [Go.Proofs.bytesLess_eq] at eV
  simp only [leB,decide_eq_true_eq] at eV ⊢
  exact List.le_of_lt eV
 exact e1.trans e2
end
end Go.DM
namespace Go.DM
open Go Go.Vg Go.Maps Go.RowKit Go.ChangeShapes
section
variable {H:Type} {P:Program}
theorem Bq {w:World} {base:Nat} {e:TypeId} {q:IntKind} {v:Value} {zs:List Int}(h:w.ownsInts base e q v zs):v.oneCell'=true :=by
 rcases h.1.2 with⟨rfl,_⟩|⟨g,cap,cur,rfl,_⟩<;>rfl
theorem Sr {w:World} {Q:Nat→Prop} {s:List UInt8} {v:Value} {zs:List Int}(hs:s.length≤maxLen)(hv:Rd w Q (.slice [.int .i64]) v zs):bg w Q [.str, .slice [.int .i64]] [.string ⟨s.toArray⟩,v] (s,zs):=by
 simp only [bg]
 refine⟨_,[v],rfl,?_,v,[],rfl,hv,rfl⟩
 simp only [Rd]
 exact⟨rfl,hs⟩
theorem FI {α:Type} {R:List Value→α→Prop}:∀(l:List α) (cs:List Value) (c:List Value) (x:α),bW R cs l→R c x→bW R (cs++c) (l++ [x])
 | [],cs,c,x,h,hx=>by
   simp only [bW] at h
   subst h
   exact⟨c,[],by simp,hx,rfl⟩
 |y::l,cs,c,x,⟨c1,c2,hc,h1,h2⟩,hx=>by
  subst hc
  exact⟨c1,c2++c,by simp,h1,FI l c2 c x h2 hx⟩
theorem ÿ {w w':World} {base:Nat} {e:TypeId} {v:Value} {zs:List Int} {Q:Nat→Prop}(h:w'.ownsInts base e .i64 v zs)(hb:Below w.heap.size w w')(hl:∀g,v.ownBlock=some g→g<w.heap.size)(hq:∀g,base≤g→g<w.heap.size→Q g):Rd w Q (.slice [.int .i64]) v zs:=by
 have h':w.ownsInts base e .i64 v zs:=by
  refine⟨⟨h.1.1,?_⟩,h.2⟩
  rcases h.1.2 with hn|⟨g,cap,cur,rfl,hg,hh,rest⟩
  · exact .inl hn
  · exact .inr ⟨g,cap,cur,rfl,hg,(hb.block g (hl g rfl)).symm.trans hh,rest⟩
 exact þ h' (fun g hg=>hq g (h'.1.lt g hg).1 (hl g hg))
theorem Iz(w:World)(a b:Value)(t:TypeId):∀j u,[a,b][j]? =some u→(w.alloc (.cells #[a,b] t)).cell? ((⟨w.heap.size,0,none⟩:Addr).add j)=some u:=by
 intro j u hj
 rw [Addr.add_mid,Nat.zero_add]
 have h1:(w.alloc (.cells #[a,b] t)).heap[w.heap.size]? =some (.cells #[a,b] t (0,0)):=(MapKept.heap_alloc w _).1
 simp only [World.cell?,h1]
 simpa using hj
end
end Go.DM

end
section
namespace Go.Proofs
open Go Go.Vg Go.Maps Go.RowKit Go.ChangeShapes Go.DM Go.WideMaps
theorem Tryz.QJ:Keyed Tryz.prog 9:=string_keyed Tryz.underlying9
theorem Tryz.alo:(Tryz.prog.info? 3).map (fun i=>(i.zero,i.size,i.bytes))=some (some (.int .i64 0),1,8):=by kernel_rfl
theorem Tryz.acO:(Tryz.prog.info? 132).map (fun i=>(i.zero,i.size,i.bytes))=some (some (.agg #[.string ⟨#[]⟩, .slice none 0 0]),2,40):=by kernel_rfl
theorem Tryz.QK(w:World):(zeroValue 77).run Tryz.prog w= .ok (.slice none 0 0) w:=by kernel_rfl
theorem Tryz.Ā(mb:Option Nat)(W:World):Calls Tryz.prog 133 #[.map mb] W fun e w'=>e= .returned (.func (.func 164) #[] #[.pointer (some ⟨W.heap.size,0,none⟩)])∧w'=W.alloc (.cells #[.map mb] 183):=callsIn_wide.1 (Tryz.ED mb W)
set_option maxRecDepth 100000 in
set_option maxHeartbeats 4000000 in
theorem Tryz.MJ {H:Type}(docs:List (List UInt8))(f t:Int)(da:Option Addr)(cap:Nat)(w:World)
  (hp:S.ec docs f t) (h4:∀j,(docs.getD j []).length≤2000) (dv:Nat→Value)
  (hd:∀j,j<docs.length→∃b o aj cj,da=some ⟨b,o,none⟩∧b<w.heap.size∧w.cell? ⟨b,o+j,none⟩=some (dv j)∧dv j= .slice aj (docs.getD j []).length cj)
  (uV:∀(j:Nat) (W:World),j<docs.length→Below w.heap.size w W→Calls Tryz.prog 131 #[dv j] W fun e w'=>∃v,e= .returned v∧w'.ownsRow W.heap.size 9 1 v (S.aaf docs 0 j).length ((S.aaf docs 0 j).map encS)∧Below W.heap.size W w')
  (IA:∀(j:Nat),∀s∈S.aaf docs 0 j,s.length≤maxLen):
  Calls Tryz.prog 96 #[.slice da docs.length cap, .agg #[.int .i64 f, .int .i64 t]] w fun e w'=>∃v xs W1,e= .returned (.tuple #[v, .int .i64 0])∧Below w.heap.size w w'∧Below W1.heap.size W1 w'∧w.heap.size≤W1.heap.size∧
   w'.ownsRow W1.heap.size 132 2 v (S.make docs f t).length xs∧bW (bg W1 (fun b=>w.heap.size≤b∧b<W1.heap.size) [.str, .slice [.int .i64]]) xs (S.make docs f t):=by
 have hmm:= @run_makeMap Tryz.prog
 have h0:0≤f:=hp.1
 have h1:f≤t:=hp.2.1
 have h2:t≤docs.length:=hp.2.2.1
 have h3:docs.length≤1000:=hp.2.2.2.1
 obtain⟨i0,hi,hz0,Ē,hz2⟩:=info_parts Tryz.alo
 obtain⟨i1,hi1,hy0,hy1,hy2⟩:=info_parts Tryz.acO
 go_enter Tryz.func96,Tryz.ntmps96
 go_wp2
 go_loopw [39] (fun i wr=>∃k:Nat,k≤docs.length∧i= .int .i64 k∧wr=w.alloc (.cells #[.int .i64 f, .int .i64 t] 40))
  (fun i _=>docs.length-(intOf i).toNat)
 case atStart=>exact⟨0,Nat.zero_le _,rfl,rfl⟩
 case round=>
  obtain⟨k,hk,rfl,rfl⟩:=hrel
  by_cases dX:k<docs.length
  · obtain⟨b,o,aj,cj,rfl,hb,hc,hv⟩:=hd k dX
    rw [hv] at hc
    have hl:=h4 k
    generalize (docs.getD k []).length=n at hc hl
    have mL:(w.alloc (.cells #[.int .i64 f, .int .i64 t] 40)).cell? ⟨b,o+k,none⟩=some (.slice aj n cj):=by
     rw [←hc];exact World.cell?_of_block ((World.grownBy_alloc w _ none).block b hb (by simp))
    clear hd uV
    go_wp2
    go_roundw
    case rel=>exact⟨k+1,by omega,by go_num,by first|rfl|trivial⟩
    case measure=>simp [intOf];omega
  · have :k=docs.length:=by omega
    subst this
    clear dX
    go_wp2
    go_loopw [9] (fun i wr=>∃k:Nat,i= .int .i64 (f+k)∧f+k≤t∧∃(m:Nat) (D:DataW H),m≤4000*k∧wr.ownsGroups Tryz.prog 9 (w.heap.size+2) 3 .i64 (w.heap.size+1) m D∧Repr D (S.rA docs f k 0)∧
      Below w.heap.size w wr∧wr.cell? ⟨w.heap.size,1,none⟩=some (.int .i64 t)∧w.heap.size+2≤wr.heap.size)
     (fun i _=>(t-intOf i).toNat)
    case atStart=>
     have cz:(w.alloc (.cells #[.int .i64 f, .int .i64 t] 40)).heap.size=w.heap.size+1:=by simp
     have hg:=World.ownsGroups_made (H:=H) (w.alloc (.cells #[.int .i64 f, .int .i64 t] 40)) Tryz.prog 9 3 .i64
     rw [cz] at hg
     refine⟨0,by simp,by simpa using h1,0,_,Nat.le_refl _,hg,Repr.empty.ext (fun s=>(S.af7 docs f s).symm),((Below.refl _ _).alloc (Nat.le_refl _) _).alloc (by simp) _,?_,by simp⟩
     rw [yc];rfl
    case round=>
     obtain⟨k,rfl,hk,m,D,hm,fj,ā,hnx,ao1,hws⟩:=hrel
     by_cases dX:f+k<t
     · obtain⟨n,hn⟩:∃n:Nat,f+(k:Int)=n:=⟨(f+k).toNat,by omega⟩
       have SP:n<docs.length:=by omega
       obtain⟨b,o,aj,cj,rfl,hb,hc,hv⟩:=hd n SP
       have hs:=uV n wr SP hnx
       rw [hv] at hs hc
       have mL:wr.cell? ⟨b,o+n,none⟩=some (.slice aj (docs.getD n []).length cj):=(hnx.cell (by exact hb)).trans hc
       have eL:S.aaf docs 0 n=S.aaf docs f k:=by unfold S.aaf;rw [hn];simp
       rw [eL] at hs
       have AK:=IA n
       rw [eL] at AK
       obtain⟨IC,rfl⟩:∃x,x=wr:=⟨wr,rfl⟩
       have hL:(S.aaf docs f k).length≤4000:=by unfold S.aaf;exact S.tx hp _
       simp only [hn] at hk ⊢
       generalize (docs.getD n []).length=dl at mL hs
       clear hd uV hc hv
       go_wp2_with (first
        |(go_at_call 131;refine hs.mono ?_;rintro e w1 ⟨vs,rfl,jx,LB⟩;obtain⟨av,cp,rfl,Hm⟩:=zc jx)
        |go_in)
       have alp:=pW fj LB
       have ao2:w1.Shuns (w.heap.size+1) (fun g=>(Value.slice av (S.aaf docs f k).length cp).ownBlock=some g):=Dk fj LB (fun g hg=>(jx.lt g hg).1)
       have ao3:Below w.heap.size w w1:=hnx.trans (LB.mono (by omega))
       have alq:w1.cell? ⟨w.heap.size,1,none⟩=some (.int .i64 t):=(LB.cell (by show w.heap.size<IC.heap.size;omega)).trans ao1
       have ao4:IC.heap.size≤w1.heap.size:=LB.size
       clear hs LB mL
       go_loopw [62] (fun i wq=>∃j:Nat,i= .int .i64 j∧j≤(S.aaf docs f k).length∧∃(m2:Nat) (D2:DataW H),m2≤m+j∧wq.ownsGroups Tryz.prog 9 (w.heap.size+2) 3 .i64 (w.heap.size+1) m2 D2∧Repr D2 (S.rA docs f k j)∧
         wq.Shuns (w.heap.size+1) (fun g=>(Value.slice av (S.aaf docs f k).length cp).ownBlock=some g)∧Below w.heap.size w wq∧wq.cell? ⟨w.heap.size,1,none⟩=some (.int .i64 t)∧
         wq.ownsRow IC.heap.size 9 1 (.slice av (S.aaf docs f k).length cp) (S.aaf docs f k).length ((S.aaf docs f k).map encS)∧IC.heap.size≤wq.heap.size)
        (fun i _=>(S.aaf docs f k).length-(intOf i).toNat)
       case atStart=>exact⟨0,rfl,Nat.zero_le _,m,D,by omega,alp,ā,ao2,ao3,alq,jx,ao4⟩
       case round=>
        obtain⟨j,rfl,hj,m2,D2,ī,MM,ID,Ă,ă,Ą,MN,hwq⟩:=hrel
        by_cases rX:j<(S.aaf docs f k).length
        · obtain⟨g,rfl,hg1,ģ⟩:=Hm (by omega)
          have kN:=FH MN rX
          rw [Nat.zero_add] at kN
          have FJ:=KE (P:=Tryz.prog) Tryz.underlying9 (AK _ (S.bQ _ j [] rX))
          have ae3:=S.T9 (docs:=docs) (a:=f) (k:=k) rX
          have ą:=fun s=>S.R1 (docs:=docs) (a:=f) (k:=k) (j:=j) rX (s:=s)
          have alr:=S.Ua docs f k j ((S.aaf docs f k).getD j [])
          unfold Vg.encS at kN
          generalize (S.aaf docs f k).getD j []=sj at kN FJ ae3 ą alr
          have ao5:g<wr.heap.size:=(MN.lt g rfl).2
          have QL:m2<maxLen:=by unfold maxLen;omega
          clear IA AK Hm
          go_wp2_with (first
           |(at_lookup;refine wpList_lookup_groups_shuns _ rfl _ _ 183 rfl 9 77 3 .i64 Tryz.QJ Tryz.underlying183 (Tryz.QK _) (w.heap.size+2) (w.heap.size+1) m2 _ rfl MM QL _ _ rfl FJ ?_;intro v zs Rj v8 Lf Ć Eg)
           |(at_builtin;refine wpList_append_own_at _ rfl _ _ 77 rfl (w.heap.size+2) 3 i0 (.int .i64 0) 1 8 Tryz.underlying77 hi hz0 Ē hz2 rfl (by decide) _ _ _ rfl (v8.1.alloc _) ⟨wr.heap.size,0,none⟩ 1 1 [.int .i64 n] rfl rfl (cell_one_new _ _ _) (ints_oneCell .i64 [(n:Int)]) (by unfold maxLen;omega) (by omega) (by simp;omega) ?_;intro v' w3 ć IE IZ sO)
           |(at_mapUpdate;have vJ:=acN Eg Ă sO ao5;refine wpList_mapUpdate_back_shuns _ rfl _ _ _ 183 rfl Tryz.QJ Tryz.underlying183 FJ MM QL v8 Ă vJ Ć rfl rfl rfl ((World.grownBy_alloc _ _ _).trans IE) (v8.appended ć (WalkArith.wf_i64 (by omega))) (by simp;omega) (sO.imp id (fun h=>⟨_,h,by simp⟩)) ?_;intro w4 als AL ao6)
           |go_in)
          have hX:=(World.grownBy_alloc wr _ _).trans IE
          have hw3:wr.heap.size≤w3.heap.size:=hX.size
          have hvb:∀g',v.ownBlock=some g'→w.heap.size+2≤g':=fun g' uG=>(v8.1.lt g' uG).1
          refine⟨⟨j+1,by go_num,by omega,m2+1,_,by omega,als,?_,ao6,?_,?_,?_,?_⟩,by simp [intOf];omega⟩
          · refine ID.put (v8.appended ć (WalkArith.wf_i64 (by omega))) (by simp) ?_ ą
            rw [ae3,hn]
            have :=wA (H:=H) v8
            rw [←Rj,(ID.2 sj).1] at this
            rw [this]
          · exact ă.groups v8 hX AL ă.size (by omega) (by omega)
          · refine KD AL (by show w.heap.size<w3.heap.size;omega) (by show some w.heap.size≠some (w.heap.size+1);simp) (KD hX (by show w.heap.size<wr.heap.size;omega) ?_ Ą)
            show some w.heap.size≠v.ownBlock
            intro h
            have :=hvb _ h.symm
            omega
          · refine(MN.kept hX (.inr ?_)).kept AL (.inr ?_)
            · intro h
              exact Eg _ Ă g h.symm rfl
            · intro h
              simp only [Value.ownBlock,Option.some.injEq] at h
              omega
          · exact Nat.le_trans hwq (Nat.le_trans hw3 AL.size)
        · have :j=(S.aaf docs f k).length:=by omega
          subst this
          clear rX IA AK
          have alu:=ID.ext (fun s=>S.R2 (docs:=docs) (a:=f) (k:=k) (j:=(S.aaf docs f k).length) (by omega) s)
          clear ID
          go_wp2
          exact⟨⟨k+1,by rw [show f+((k+1:Nat):Int)=(n:Int)+1 by omega],by omega,m2,D2,by omega,MM,alu,ă,Ą,by omega⟩,by simp [intOf];omega⟩
     · have Ħ:t=f+k:=by omega
       have SI:(t-f).toNat=k:=by omega
       have sN:=Dl fj
       have hcS:=callsIn_wide.1 (Tryz.oL (w.heap.size+1) m D _ wr sN (by have :=zd sN;unfold maxLen;omega) (by have :=zd sN;omega))
       have Ss:=fun(ss:List (List UInt8)) (hss:ss.Perm (strKeys D))=>Sq (docs:=docs) (f:=f) (t:=t) sN Tryz.QJ Tryz.underlying9 (by rw [SI];exact ā) hss
       obtain⟨IC,rfl⟩:∃x,x=wr:=⟨wr,rfl⟩
       clear hd uV IA
       subst Ħ
       go_wp2_with (first
        |(go_at_call 133;refine(Tryz.Ā _ _).mono ?_;rintro e w4 ⟨rfl,rfl⟩)
        |(go_at_call 132;refine hcS.mono ?_;rintro e w5 ⟨vs,ss,rfl,hS,jx,IZ,hb5⟩;obtain⟨hk3,hk4,rV,hk6⟩:=Ss ss hS;rw [hk3,hk4] at jx;obtain⟨av,cp,rfl,Hm⟩:=zc jx)
        |go_in)
       have Ĉ:Below IC.heap.size IC w5:=((Below.refl _ IC).alloc (Nat.le_refl _) _).trans (hb5.mono (by simp))
       have ĉ:=pW fj Ĉ
       have apa:Below w.heap.size w w5:=hnx.trans (Ĉ.mono (by omega))
       have arv:IC.heap.size≤w5.heap.size:=Ĉ.size
       clear hcS Ss sN hb5 fj hS IZ hk3
       go_loopw [12,79] (fun d i wq=>∃j:Nat,i= .int .i64 j∧j≤(S.bP docs f (f+k)).length∧∃xs,wq.ownsRow w5.heap.size 132 2 d j xs∧
         bW (bg w5 (fun b=>w.heap.size≤b∧b<w5.heap.size) [.str, .slice [.int .i64]]) xs (S.iC docs f (f+k) j)∧Below w5.heap.size w5 wq)
        (fun _ i _=>(S.bP docs f (f+k)).length-(intOf i).toNat)
       case atStart=>exact⟨0,rfl,Nat.zero_le _,[],World.ownsRow_nil _ _ _ _,rfl,Below.refl _ _⟩
       case round=>
        obtain⟨j,rfl,hj,xs,MP,KG,uD⟩:=hrel
        by_cases rX:j<(S.bP docs f (f+k)).length
        · obtain⟨g,rfl,hg1,ģ⟩:=Hm (by omega)
          have QM:=FH jx rX
          have kN:wr.cell? ⟨g,0+j,none⟩=some (Vg.encS ((S.bP docs f (f+k)).getD j [])):=(uD.cell ģ).trans QM
          rw [Nat.zero_add] at kN
          have Ss:=rV _ (S.bQ _ j [] rX)
          have FJ:=KE (P:=Tryz.prog) Tryz.underlying9 Ss
          have Ċ:=fun tt (ht:(S.bP docs f (f+k)).getD j []=tt)=>S.xL (docs:=docs) (a:=f) (b:=f+k) (k:=j) (j:=k) rX SI.symm ht
          unfold Vg.encS at kN
          have alv:=pW ĉ uD
          have apb:wr.Shuns (w.heap.size+1) (fun g=>w5.heap.size≤g):=Dk ĉ uD (fun g hg=>hg)
          have apc:=fun s=>(ā.2 s).1
          generalize (S.bP docs f (f+k)).getD j []=sj at kN FJ Ss Ċ
          have QL:m<maxLen:=by unfold maxLen;omega
          clear QM rV
          go_wp2_with (first
           |(at_lookup;refine wpList_lookup_groups_shuns _ rfl _ _ 183 rfl 9 77 3 .i64 Tryz.QJ Tryz.underlying183 (Tryz.QK _) (w.heap.size+2) (w.heap.size+1) m _ rfl alv QL _ _ rfl FJ ?_;intro v zs Rj v8 Lf Ć Eg;obtain⟨av2,cp2,rfl,arw⟩:=zc v8.1)
           |(at_builtin;refine wpList_append_own_at _ rfl _ _ 79 rfl w5.heap.size 132 i1 (.agg #[.string ⟨#[]⟩, .slice none 0 0]) 2 40 Tryz.underlying79 hi1 hy0 hy1 hy2 rfl (by decide) _ j xs rfl (MP.alloc _) ⟨wr.heap.size,0,none⟩ 1 1 [.string ⟨sj.toArray⟩, .slice av2 zs.length cp2] rfl rfl (Iz _ _ _ _) (by intro u hu;simp at hu;rcases hu with rfl|rfl<;>rfl) (by unfold maxLen;omega) (by omega) (by have :=uD.size;simp;omega) ?_;intro v' w6 alw IE IZ sO)
           |go_in)
          have pG:Rd w5 (fun b=>w.heap.size≤b∧b<w5.heap.size) (.slice [.int .i64]) (.slice av2 zs.length cp2) zs:=
           ÿ v8 uD (fun g' uG=>by have :=Eg _ apb g' uG;omega) (fun g' h1 h2=>⟨by omega,h2⟩)
          have hz:zs=S.bC docs f sj k:=by
           have e1:=wA (H:=H) v8
           rw [←Rj,apc] at e1
           rw [←e1];simp [S.rA]
          have hX:=(World.grownBy_alloc wr (.cells #[.string ⟨sj.toArray⟩, .slice av2 zs.length cp2] 132) _).trans IE
          refine⟨⟨j+1,by go_num,by omega,xs++ [.string ⟨sj.toArray⟩, .slice av2 zs.length cp2],alw,?_,?_⟩,by simp [intOf];omega⟩
          · rw [←Ċ sj rfl,←hz]
            exact FI _ _ _ _ KG (Sr Ss pG)
          · exact uD.grown hX uD.size (fun g' uG=>(MP.lt g' uG).1)
        · have hje:j=(S.bP docs f (f+k)).length:=by omega
          subst hje
          rw [S.zP (by omega)] at KG
          clear Hm rV
          go_wp2
          go_ret2
          refine⟨_,xs,w5,rfl,apa.trans (uD.mono (by omega)),uD,by omega,?_,KG⟩
          have wW:(S.make docs f (f+k)).length=(S.bP docs f (f+k)).length:=by simp [S.make]
          rw [wW]
          exact MP
set_option maxRecDepth 100000 in
set_option maxHeartbeats 4000000 in
theorem Tryz.MQ(docs:List (List UInt8))(f t:Int)(da:Option Addr)(cap:Nat)(w:World)(hc:1000<docs.length∨f<0∨t<f∨(docs.length:Int)<t):
  Calls Tryz.prog 96 #[.slice da docs.length cap, .agg #[.int .i64 f, .int .i64 t]] w fun e w'=>e= .returned (.tuple #[.slice none 0 0, .int .i64 1])∧Below w.heap.size w w':=by
 generalize docs.length=n at hc
 go_enter Tryz.func96,Tryz.ntmps96
 go_wp2
 all_goals (go_ret2;exact⟨rfl,(Below.refl _ _).alloc (Nat.le_refl _) _⟩)
set_option maxRecDepth 100000 in
set_option maxHeartbeats 4000000 in
theorem Tryz.MR(docs:List (List UInt8))(f t:Int)(da:Option Addr)(cap:Nat)(w:World)(h0:0≤f)(h1:f≤t)(h2:t≤docs.length)(h3:docs.length≤1000)(dv:Nat→Value)
  (hd:∀j,j<docs.length→∃b o aj cj,da=some ⟨b,o,none⟩∧b<w.heap.size∧w.cell? ⟨b,o+j,none⟩=some (dv j)∧dv j= .slice aj (docs.getD j []).length cj)
  (hc:¬∀j,j<docs.length→(docs.getD j []).length≤2000):
  Calls Tryz.prog 96 #[.slice da docs.length cap, .agg #[.int .i64 f, .int .i64 t]] w fun e w'=>e= .returned (.tuple #[.slice none 0 0, .int .i64 1])∧Below w.heap.size w w':=by
 go_enter Tryz.func96,Tryz.ntmps96
 go_wp2
 go_loopw [39] (fun i wr=>∃k:Nat,k≤docs.length∧i= .int .i64 k∧wr=w.alloc (.cells #[.int .i64 f, .int .i64 t] 40)∧∀j,j<k→(docs.getD j []).length≤2000)
  (fun i _=>docs.length-(intOf i).toNat)
 case atStart=>exact⟨0,Nat.zero_le _,rfl,rfl,fun j hj=>by omega⟩
 case round=>
  obtain⟨k,hk,rfl,rfl,hX⟩:=hrel
  by_cases dX:k<docs.length
  · obtain⟨b,o,aj,cj,rfl,hb,fS,hv⟩:=hd k dX
    rw [hv] at fS
    have mL:(w.alloc (.cells #[.int .i64 f, .int .i64 t] 40)).cell? ⟨b,o+k,none⟩=some (.slice aj (docs.getD k []).length cj):=by
     rw [←fS];exact World.cell?_of_block ((World.grownBy_alloc w _ none).block b hb (by simp))
    clear hd fS hv hc
    by_cases hl:(docs.getD k []).length≤2000
    · have Lv:∀j,j<k+1→(docs.getD j []).length≤2000:=fun j hj=>by
       by_cases e:j=k
       · subst e;exact hl
       · exact hX j (by omega)
      clear hX
      generalize (docs.getD k []).length=n at mL hl
      go_wp2
      go_roundw
      case rel=>exact⟨k+1,by omega,by go_num,by first|rfl|trivial,Lv⟩
      case measure=>simp [intOf];omega
    · clear hX
      generalize (docs.getD k []).length=n at mL hl
      go_wp2
      go_ret2
      exact⟨rfl,(Below.refl _ _).alloc (Nat.le_refl _) _⟩
  · exact absurd (fun j hj=>hX j (by omega)) hc
end Go.Proofs

end
section
namespace Go.S
theorem KI {docs:List (List UInt8)} {a:Int} {j:Nat}:∀s∈aaf docs a j,s.length≤maxLen:=fun s hs=>by
 have h1:=(fk _ _).1 hs
 simp only [aS,List.mem_map] at h1
 obtain⟨w,_,rfl⟩:=h1
 have :=uu w [] (by simp)
 unfold c9 maxLen
 omega
theorem Su {docs:List (List UInt8)} {f t:Int}(h:cJ docs f t=true):ec docs f t∧∀j,(docs.getD j []).length≤2000:=by
 simp only [cJ,Bool.and_eq_true,List.all_eq_true,decide_eq_true_eq] at h
 obtain⟨h1,h2,h3,h4,h5⟩:=h
 refine⟨⟨h3,h4,h5,by omega,fun d hd=>by have :=h1 d hd;omega⟩,fun j=> ?_⟩
 by_cases hj:j<docs.length
 · have :=h1 _ (bQ docs j [] hj)
   omega
 · rw [List.getD_eq_getElem?_getD,List.getElem?_eq_none (by omega)];simp
end Go.S
namespace Go.DM
open Go Go.Vg Go.Maps Go.RowKit Go.Proofs
theorem QN {w:World} {A:Nat→Prop} {τ:Ty}:∀(l:List (D τ)) (cs:List Value),bW (bg w A [τ]) cs l→cs.length=l.length∧∀(j:Nat) (x:D τ),l[j]? =some x→Rd w A τ (cs.getD j undef) x
 | [],cs,h=>by simp only [bW] at h;subst h;exact⟨rfl,fun j x hx=>by simp at hx⟩
 |y::l,cs,⟨c1,c2,hc,h1,h2⟩=>by
  subst hc
  simp only [bg] at h1
  obtain⟨v,bX,rfl,hv,rfl⟩:=h1
  obtain⟨g1,g2⟩:=QN l c2 h2
  refine⟨by simp [g1],fun j x hx=> ?_⟩
  cases j with
  |zero=>simp at hx;subst hx;exact hv
  |succ j=>simpa using g2 j x (by simpa using hx)
theorem IF(b:List UInt8):BV [.one (.slice [.int .u8])] [.sl [.int .u8] b]=some b:=rfl
set_option maxRecDepth 100000 in
theorem KJ {G:Nat→Option GD} {Fs:Row (PS.flat [.one (.slice [.int .u8])])→Prop×AV×List AB}(uV:Valid Tryz.prog G 131 (au [.one (.slice [.int .u8])] Fs))
  (hFs:∀b:List UInt8,Fs b=(S.small b, .own 0,[.row 9 [.str] (S.sorted (S.aS b)) false]))
  {F:Row (PS.flat [.one (.slice [.slice [.int .u8]]), .agg [.int .i64, .int .i64]])→Prop×AV×List AB}
  (hF:∀(docs:List (List UInt8)) (f t:Int),F (docs,f,t)=(True, .dc [.sl [.str, .slice [.int .i64]] (S.fK docs f t).1, .int .i64 ((S.fK docs f t).2:Int)],[])):
  Valid Tryz.prog G 96 (au [.one (.slice [.slice [.int .u8]]), .agg [.int .i64, .int .i64]] F):=by
 intro w A β args cd pre res bs hA hG bp hs hp
 unfold au at hs
 split at hs
 · rename_i x hx
   obtain⟨docs,f,t⟩:=x
   change List (List UInt8) at docs
   change Int at f
   change Int at t
   have gg:=hs
   rw [hF docs f t] at gg
   simp only [Option.some.injEq,Prod.mk.injEq] at gg
   obtain⟨rfl,rfl,rfl⟩:=gg
   obtain⟨g1,g2⟩:=qY _ hx bp
   clear hs hp hx bp g2
   change ai w A β args [.sl [.slice [.int .u8]] docs, .agg [.int .i64 f, .int .i64 t]] at g1
   simp only [ai,ae] at g1
   obtain⟨vd,bX,rfl,hvd,va,aoU,rfl,⟨arr,rfl,SV⟩,rfl⟩:=g1
   obtain⟨u1,us,e1,⟨rfl,hf⟩,u2,vG,rfl,⟨rfl,ht⟩,rfl⟩:=SV
   obtain rfl :arr= #[.int .i64 f, .int .i64 t]:=by apply Array.ext';simpa using e1
   simp only [Rd] at hvd
   obtain⟨a,cap,cs,rfl,I0,û,KG,aG⟩:=hvd
   obtain⟨fS,cQ⟩:=QN (τ:= .slice [.int .u8]) docs cs KG
   have hd:∀j,j<docs.length→∃b o aj cj,a=some ⟨b,o,none⟩∧b<w.heap.size∧w.cell? ⟨b,o+j,none⟩=some (cs.getD j undef)∧cs.getD j undef= .slice aj (docs.getD j []).length cj:=by
    intro j hj
    obtain⟨b,o,rfl,wc,hr⟩:=aG (by intro h;rw [h] at fS;simp at fS;omega)
    have h1:=cQ j (docs.getD j []) (by rw [List.getD_eq_getElem?_getD,List.getElem?_eq_getElem hj];rfl)
    simp only [Rd] at h1
    obtain⟨aj,cj,ei,h2,_⟩:=h1
    refine⟨b,o,aj,cj,rfl,hA b wc,hr j _ ?_,h2⟩
    rw [List.getD_eq_getElem?_getD,List.getElem?_eq_getElem (by omega)];rfl
   show Calls Tryz.prog 96 #[.slice a docs.length cap, .agg #[.int .i64 f, .int .i64 t]] w _
   have bad:Calls Tryz.prog 96 #[.slice a docs.length cap, .agg #[.int .i64 f, .int .i64 t]] w (fun e w'=>e= .returned (.tuple #[.slice none 0 0, .int .i64 1])∧Below w.heap.size w w')→S.cJ docs f t=false→
     Calls Tryz.prog 96 #[.slice a docs.length cap, .agg #[.int .i64 f, .int .i64 t]] w (fun e w'=>∃v,e= .returned v∧∃A' aJ,jg w A w' v (.dc [.sl [.str, .slice [.int .i64]] (S.fK docs f t).1, .int .i64 ((S.fK docs f t).2:Int)]) [] A' aJ):=by
    intro hc hb
    refine hc.mono fun e w' ⟨he,tp⟩=>⟨_,he,A,β,{os:=tp.os,tape:=tp.tape,output:=tp.output,size:=tp.size,same:=tp.block,mono:=fun _ h=>h,old:=fun _ _ h=>h,bound:=fun b h=>Nat.lt_of_lt_of_le (hA b h) tp.size,res:= ?_,rows:=fun i ab hi=>by simp at hi,apart:=fun i j b hi=>by simp at hi}⟩
    have e2:S.fK docs f t=([],1):=by unfold S.fK;rw [hb];rfl
    rw [e2]
    simp only [ae,ai]
    refine⟨_,rfl,_,_,rfl,?_,_,_,rfl,⟨rfl,by simp only [lo,hi];omega⟩,rfl⟩
    simp only [Rd]
    exact⟨none,0,[],rfl,Nat.le_refl _,Nat.zero_le _,rfl,fun h=>absurd rfl h⟩
   cases Dm:S.cJ docs f t with
   |false=>
    refine bad ?_ Dm
    by_cases hc:1000<docs.length∨f<0∨t<f∨(docs.length:Int)<t
    · exact Tryz.MQ docs f t a cap w hc
    · refine Tryz.MR docs f t a cap w (by omega) (by omega) (by omega) (by omega) _ hd fun hX=> ?_
      have :S.cJ docs f t=true :=by
       simp only [S.cJ,Bool.and_eq_true,List.all_eq_true,decide_eq_true_eq]
       refine⟨fun d oJ=> ?_,by omega,by omega,by omega,by omega⟩
       obtain⟨i,iE,rfl⟩:=List.getElem_of_mem oJ
       have :=hX i iE
       rw [List.getD_eq_getElem?_getD,List.getElem?_eq_getElem iE] at this
       simp only [Option.getD_some] at this
       omega
      rw [this] at Dm;cases Dm
   |true=>
    obtain⟨hmp,h4⟩:=S.Su Dm
    have alx:∀(j:Nat) (W:World),j<docs.length→Below w.heap.size w W→Calls Tryz.prog 131 #[cs.getD j undef] W fun e w'=>∃v,e= .returned v∧w'.ownsRow W.heap.size 9 1 v (S.aaf docs 0 j).length ((S.aaf docs 0 j).map Vg.encS)∧Below W.heap.size W w':=by
     intro j W hj hW
     have hk:cy w W A A:=fun b hb=>⟨hb,hW.block b (hA b hb)⟩
     have h1:=wP hk _ _ _ (cQ j (docs.getD j []) (by rw [List.getD_eq_getElem?_getD,List.getElem?_eq_getElem hj];rfl))
     have h2:=uV W A β [cs.getD j undef] [.sl [.int .u8] (docs.getD j [])] (S.small (docs.getD j [])) (.own 0) [.row 9 [.str] (S.sorted (S.aS (docs.getD j []))) false]
      (fun b hb=>Nat.lt_of_lt_of_le (hA b hb) hW.size) (fun i d hi=>(hG i d hi).mono hk) (by simp only [ai,ae];exact⟨_,_,rfl,h1,rfl⟩)
      (by unfold au;rw [IF];simp only [hFs]) (by have :=h4 j;unfold S.small;omega)
     refine h2.mono fun e w' ⟨v,he,A',aJ,nT⟩=>⟨v,he,?_,nT.os,nT.tape,nT.output,nT.size,nT.same⟩
     have hr:=nT.res
     simp only [ae] at hr
     obtain⟨⟨xs,ho,pG,_⟩,hblk⟩:=nT.rows 0 _ rfl
     obtain⟨rfl,_⟩:=yb _ xs pG
     have eK:S.aaf docs 0 j=S.sorted (S.aS (docs.getD j [])):=by unfold S.aaf;simp
     rw [eK,hr.1]
     refine⟨ho.1,?_⟩
     rcases ho.2 with hn|⟨g,gx,cur,hv,_,rest⟩
     · exact .inl hn
     · exact .inr ⟨g,gx,cur,hv,hblk g (by rw [hv];rfl),rest⟩
    refine(Tryz.MJ (H:=Unit) docs f t a cap w hmp h4 _ hd alx (fun j s hs=>S.KI s hs)).mono fun e w' ⟨v,xs,W1,he,tp,ae4,hW1,ho,pG⟩=> ?_
    have e2:S.fK docs f t=(S.make docs f t,0):=by unfold S.fK;rw [Dm];rfl
    rw [e2]
    refine⟨_,he,fun b=>A b∨(w.heap.size≤b∧b<w'.heap.size),β,{os:=tp.os,tape:=tp.tape,output:=tp.output,size:=tp.size,same:=tp.block,mono:=fun _ h=> .inl h,old:=fun b hb h=> ?_,bound:=fun b h=> ?_,res:= ?_,rows:=fun i ab hi=>by simp at hi,apart:=fun i j b hi=>by simp at hi}⟩
    · rcases h with h|h
      · exact h
      · omega
    · rcases h with h|h
      · exact Nat.lt_of_lt_of_le (hA b h) tp.size
      · exact h.2
    · simp only [ae,ai]
      refine⟨_,rfl,_,_,rfl,?_,_,_,rfl,⟨rfl,by simp only [lo,hi];omega⟩,rfl⟩
      have hk:cy W1 w' (fun b=>w.heap.size≤b∧b<W1.heap.size) (fun b=>A b∨(w.heap.size≤b∧b<w'.heap.size)):=fun b hb=>⟨.inr ⟨hb.1,Nat.lt_of_lt_of_le hb.2 ae4.size⟩,ae4.block b hb.2⟩
      have ape:=br (fun c x hx=>bt hk _ c x hx) _ _ pG
      simp only [Rd]
      rcases ho.2 with⟨rfl,h0⟩|⟨g,gx,cur,rfl,hg,hh,hn,hc,cz,IU⟩
      · have hm0:S.make docs f t= []:=List.length_eq_zero_iff.1 h0
        rw [hm0]
        exact⟨none,0,[],rfl,Nat.le_refl _,Nat.zero_le _,rfl,fun h=>absurd rfl h⟩
      · refine⟨some ⟨g,0,none⟩,gx,xs,rfl,hn,hc,ape,fun _=>⟨g,0,rfl, .inr ⟨by omega,(Array.getElem?_eq_some_iff.1 hh).1⟩,fun j u hj=> ?_⟩⟩
        have :=ho.cells (g:=g) rfl j u hj
        rwa [Addr.add_mid] at this
 · cases hs
end Go.DM

end
