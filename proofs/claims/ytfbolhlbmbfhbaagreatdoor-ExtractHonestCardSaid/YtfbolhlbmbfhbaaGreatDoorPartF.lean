import Derived.Test.YtfbolhlbmbfhbaaGreatDoorPartE
import Derived.Shelf.SlicesG.Clone
import Derived.Shelf.SlSortCmp.NoneTotal
import Derived.Shelf.SortM.Plain
import Derived.Shelf.SortM.SortNone
import Derived.Shelf.SlicesG.ReverseS
import Derived.Shelf.SlIter.Nil
import Derived.Test.YtfbolhlbmbfhbaaGreatDoorProg
import Derived.Lib.Small
import Derived.Lib.Walk
import Derived.Sort.Walk0
import Derived.Laws.Cover1
import Derived.Maps.GroupsBeside
import Derived.Sort.KeysCollected
import Derived.WalkKit
import Derived.Deep.LoopGhost
import Derived.Handy
set_option linter.all false
namespace Go.Vg
open Go Go.Shelf Go.RowKit Go.Proofs
variable [HP]
def encS(s:B8):Value:=.string ⟨s.toArray⟩
variable {A:Nat->Prop}{w w':World}{e:Nat}{P:Program}{args:Array Value}{f:FuncId}{G:Nat->Option GD}{ρ:Ren}
def DE:∀(l:O) (c:M Value),dZ (bJ w A [.str]) c l->c=l.map encS/\∀s∈l,s.length<=maxLen
 |[],c,h=>by grind[dZ]
 |s::l,c,⟨c1,c2,H,h1,a⟩=>by
  subst H;obtain⟨v,C,rfl,b,rfl⟩:=h1;obtain⟨g1,g⟩:=DE l c2 a;obtain⟨rfl,d⟩:=b;refine⟨by rw[g1];rfl,λS i=>?_⟩;rcases List.mem_cons.1 i with rfl|i;exact d;grind
theorem Ew:∀(l:O),(∀s∈l,s.length<=maxLen)->dZ (bJ w A [.str]) (l.map encS) l
 |[],_=>rfl
 |s::l,h=>⟨[encS s],l.map encS,rfl,by
   exact⟨_,[],rfl,by exact⟨rfl,h s z!⟩,rfl⟩,Ew l λS i=>h S x!⟩
def Ā:∀(l:U) (c:M Value),dZ (bJ w A [.int .i64]) c l->c=l.map (Value.int .i64)/\∀z∈l,lo .i64<=z/\z<=hi .i64
 |[],c,h=>by grind[dZ]
 |s::l,c,⟨c1,c2,H,h1,a⟩=>by
  subst H;obtain⟨v,C,rfl,b,rfl⟩:=h1;obtain⟨g1,g⟩:=Ā l c2 a;obtain⟨rfl,d⟩:=b;refine⟨by rw[g1];rfl,λS i=>?_⟩;rcases List.mem_cons.1 i with rfl|i;exact d;grind
def Lo:∀(l:U),(∀z∈l,lo .i64<=z/\z<=hi .i64)->dZ (bJ w A [.int .i64]) (l.map (Value.int .i64)) l
 |[],_=>rfl
 |s::l,h=>⟨[.int .i64 s],l.map (Value.int .i64),rfl,by
   exact⟨_,[],rfl,by exact⟨rfl,h s z!⟩,rfl⟩,Lo l λS i=>h S x!⟩
def UX{r:M Ty}{l:M (Row r)}{v:Value}{xs:M Value}(m:∀b,A b->b<w.heap.size)(H:Below w.heap.size w w')(j:w'.ownsRow w.heap.size e r.length v l.length xs)(n:dZ (bJ w' A r) xs l):
  ∃o p,nO w A w' v (.own 0) [.row e r l false] o p:=by
 have a:∀b,ah v=some b->w.heap.size<=b:=by
  intro b f;rcases j.2 with⟨rfl,_⟩|⟨g,c,C,rfl,q,_⟩;cases f;grind[ah,Option.some.injEq]
 have s:v.oneCell'=true:=by
  rcases j.2 with⟨rfl,_⟩|⟨g,c,C,rfl,q,_⟩<;>rfl
 have k:w'.ownsRow 0 e r.length v l.length xs:=by
  refine⟨j.1,?_⟩;rcases j.2 with h|⟨g,c,C,G,t,u⟩;grind;grind
 refine⟨A,λ_=>v,{os:=H.os,tape:=H.tape,output:=H.output,size:=H.size,same:=H.block,mono:=λ_ h=>h,gG:=λ_ _ h=>h,bound:=λb h=>Y! (m b h) H.size,res:= ?_,rows:= ?_,apart:= ?_}⟩;simp_all[aa,trivial]
 . intro i x d;match i,d with
   |0,d=>
    simp at d;subst d;refine⟨⟨xs,k,n,λb f=>?_⟩,a⟩;grind
   |i+1,d=>grind
 grind
def XR {a b:Type}(f:a->b)(l:M a)(j:Nat)(d:b)(h:j<l.length):(l.map f).getD j d=f l[j]:=by
 grind
def FH{r:M Ty}(H:∀b,A b->b<w.heap.size)
  (h:Calls P f args w λe w'=>e= .returned (.slice none 0 0)/\w'=w):Calls P f args w λE w'=>∃v,E= .returned v/\∃a c,nO w A w' v (.own 0) [.row e r [] false] a c:=
 h.mono λE w' ⟨d,g⟩=>by
  subst g;exact⟨_,d,UX (xs:=[]) H (Below.refl _ _) ⟨z!,.inl ⟨rfl,rfl⟩⟩ rfl⟩
def sK{A:Nat->Prop}{r:M Ty}{l:M (Row r)}{xs:M Value}(H:∀b,A b->b<w.heap.size)
  (a:∀w',dZ (bJ w' A r) xs l)
  (h:Calls P f args w λE w'=>∃V,E= .returned V/\w'.ownsRow w.heap.size e r.length V l.length xs/\V≠ .slice none 0 0/\Below w.heap.size w w'):
  Calls P f args w λE w'=>∃v,E= .returned v/\∃c d,nO w A w' v (.own 0) [.row e r l false] c d:=
 h.mono λE w' ⟨V,g,i,_,j⟩=>⟨V,g,UX H j i (a w')⟩
def UY{d:Nat->Value}{row:M Ty}{args:M Value}{l:M (Row row)}(h:ae w A d args [.sl row l]):∃a c C,args=[.slice a l.length c]/\l.length<=c/\c<=maxLen/\dZ (bJ w A row) C l/\
  (C≠ []->∃b o,a=some ⟨b,o,none⟩/\A b/\w.rangeAt b o C):=by
 simp[ae] at h;grind[aa,Rd]
def Lp(L:SlLaysN.n42 P ρ){F:Row (PS.flat [.one (.slice [.str])])->Prop×AV×M AB}
  (g:∀l:O,F l=(l.length<=1099511627776,.own 0,[.row (ρ.t 26) [.str] l false])):Valid P G (ρ.f 42) (fo [.one (.slice [.str])] F):=by
 intro w A z args D p r E d I B h J;unfold fo at h;split at h
 . rename_i x k;have i:=h;rw[g x] at i;obtain⟨rfl,rfl,rfl⟩:=i;obtain⟨m,K⟩:=vM _ k B;obtain⟨a,c,C,rfl,N,Q,n,q⟩:=UY (row:=[.str]) (l:=x) m;obtain⟨rfl,u⟩:=DE x C n;cases x with
   |nil=>cases a with
    |none=>simp_all[FH,AnyG.slices_Clone_string_nil]
    |some v=>exact sK (xs:=[]) d (λ_=>rfl) (AnyG.slices_Clone_string_zero L v c w)
   |cons s x=>
    obtain⟨b,o,rfl,R,y⟩:=q z!;refine sK (xs:=(s::x).map encS) d (λ_=>Ew _ u) ?_
    have:=AnyG.slices_Clone_string L b o (s::x).length c ((s::x).map λs=>⟨s.toArray⟩) w z! w! (λj H=>by
     refine y j _ ?_;simp at H;rw[XR _ _ _ _ H,A?,C! H];rfl)
    have e:(((s::x).map λs=>(⟨s.toArray⟩:ByteArray)).take (s::x).length).map Value.string=(s::x).map encS:=by
     rw[d? z!,List.map_map];rfl
    grind
 grind
def aQx(L:SlLaysN.n41 P ρ){F:Row (PS.flat [.one (.slice [.int .i64])])->Prop×AV×M AB}
  (d:∀l:U,F l=(l.length<=1099511627776,.own 0,[.row (ρ.t 23) [.int .i64] l false])):Valid P G (ρ.f 41) (fo [.one (.slice [.int .i64])] F):=by
 intro w A y args z p r D H E B h I;unfold fo at h;split at h
 . rename_i x g;have i:=h;rw[d x] at i;obtain⟨rfl,rfl,rfl⟩:=i;obtain⟨k,J⟩:=vM _ g B;obtain⟨a,c,C,rfl,K,N,m,n⟩:=UY (row:=[.int .i64]) (l:=x) k;obtain⟨rfl,q⟩:=Ā x C m;cases x with
   |nil=>cases a with
    |none=>simp_all[FH,AnyG.slices_Clone_int_nil]
    |some u=>exact sK (xs:=[]) H (λ_=>rfl) (AnyG.slices_Clone_int_zero L u c w)
   |cons s x=>
    obtain⟨b,o,rfl,O,v⟩:=n z!;refine sK (xs:=(s::x).map (Value.int .i64)) H (λ_=>Lo _ q) ?_
    have:=AnyG.slices_Clone_int L b o (s::x).length c (s::x) w z! w! (λj Q=>by
     refine v j _ ?_;grind)
    grind
 grind
end Go.Vg
namespace Go.Vg
open Go Go.Shelf Go.RowKit Go.Proofs Go.Sort Go.Lib
variable [HP]
theorem DF(a b:B8):ltOf S.lS a b=Op.bytesLess a b:=by
 grind[ltOf,S.lS,Op.bytesLess]
def alO:SWO (ltOf S.lS) where
 irrefl x:=by grind[DF,S.cJ]
 trans x y z h1 h2:=by grind[DF,S.iC]
 ntrans x y z h1 h2:=by
  grind[DF,S.pg,S.iC]
def ā(x y:B8)(h:ltOf S.lS x y=false)(H:ltOf S.lS y x=false):x=y:=by
 grind[DF,S.pg]
def Jx {a:Type}[Inhabited a](E:a->Value)(w:World)(u o:Nat)(d:Array a){c:Array Value}{e:TypeId}{f:Nat×Nat}(h:w.heap[u]? =some (.cells c e f)):
  (putRow E w u o d).heap[u]? =some (.cells (putCells E o d c) e f):=by
 grind[putRow,mapBlock,onCells]
theorem BB {a:Type}[Inhabited a](e:a->Value)(w:World)(u o k:Nat)(d:Array a)(h:k≠u):(putRow e w u o d).heap[k]? =w.heap[k]? :=by
 simp_all[putRow,mapBlock,Array.getElem?_modify,Ne.symm]
theorem size_putRow {a:Type}[Inhabited a](e:a->Value)(w:World)(u o:Nat)(d:Array a):(putRow e w u o d).heap.size=w.heap.size:=by
 simp_all
theorem DG(l:O)(c:Array Value)(h:l.length<=c.size):(putCells encS 0 l.toArray c).toList.take l.length=l.map encS:=by
 apply List.ext_getElem?;intro k;by_cases H:k<l.length;grind[putCells,Array.getElem?_eq_getElem];grind
theorem DH {a:Type}[Inhabited a](e:a->Value)(d:Array a)(c:Array Value):(putCells e 0 d c).size=c.size:=by simp[putCells]
variable {G:Nat->Option GD}{ρ:Ren}{P:Program}
def Nh {P:Program}(L:SlLaysF.n6 P ρ){g e:Nat}(eg:∀d w,(callFunc g d).run P w= .ok (.enter g d) w)
  (B:∀(x y:B8) (w:World),Calls P g #[encS x,encS y] w λe W=>e= .returned (.int .i64 (S.lS x y))/\W=w)
  {F:Row (TA.du [.own 50000,.fn (.func g) [] []])->fD [.row e [.str]]->pb}
  (hF:∀l:O,F () (l,())= {pre:=l.length<=1099511627776,res:=.bk [],heap:=[some (.row e [.str] (S.fp l) false)],new:=[]}):
  aJ P G (ρ.f 6) (bZ [.own 50000,.fn (.func g) [] []] [.row e [.str]] F):=by
 intro w A β d bm V r Y hG bQ fO yS N hp Z CB;unfold bZ at N;split at N
 . rename_i cs eY;split at N
   . rename_i x y hx hy;obtain⟨l,u⟩:=y;simp only[Option.some.injEq] at N;have D:x=():=rfl;subst D;rw[hF l] at N;subst N;obtain⟨g1,g2⟩:=D6 eY hx bQ;obtain⟨q1,q2,q3⟩:=Iw (w:=w) (A:=A) (β:=β) [.row e [.str]] V (l,u) 50000 hy fO;have hb:=q2 0 (.row e [.str] l false) rfl;have atn:V.length=1:=by grind
     simp only[TA.qG,TA.put,ae] at g1;obtain⟨v0,cr,rfl,o,v1,aPl,rfl,YG,rfl⟩:=g1;simp only[aa] at o YG;obtain⟨o,aUX⟩:=o;obtain⟨a1,a2,rfl,E,I⟩:=YG;simp only[TA.qG,ae,List.drop_nil,List.take_nil] at E I;have J:a1= #[]:=by grind
     have K:a2= #[]:=by grind
     subst J;subst K;obtain⟨xs,ho,sP,M⟩:=hb;obtain⟨rfl,hl⟩:=DE l xs sP;have HS:∀s∈S.fp l,s.length<=maxLen:=λs iW=>hl s ((List.mergeSort_perm l _).subset iW);have RR:(S.fp l).length=l.length:=(List.mergeSort_perm l _).length_eq;simp only[c?,r?] at M;rcases ho.2 with⟨Ye,Q⟩|⟨c,p,C,t,_,X,Tf,XT,eH,B1⟩
     . 
      have Ve:l=[]:=P?.1 Q;subst Ve;rw[o,Ye];have ħ:S.fp []=[]:=P?.1 RR;rw[ħ];refine(AnyF.slices_SortFunc_none {L with} none 0 (.func (.func g) #[] #[]) w).mono λex W ⟨q,hw⟩=>?_;subst hw;refine⟨_,q,A,β,{os:=rfl,tape:=rfl,output:=rfl,size:=M! _,same:=λ_ _ _=>rfl,mono:=λb h=>⟨h,rfl⟩,gG:=λ_ _ h=>.inl h,bound:=Y,res:=by simp only[aa];exact⟨#[],rfl,by rfl⟩,kept:= ?_,rows:= ?_,apart:= ?_}⟩
      . intro i v H;match i,H with
        |0,H=>
         simp only[List.getElem?_cons_zero,Option.some.injEq] at H;subst H;exact⟨⟨_,ho,sP,x!⟩,rfl⟩
        |i+1,H=>simp at H
      grind;intro k k' b R T _ _;rcases R with⟨i,v,rfl,_,H⟩|⟨j,_,a⟩;rcases T with⟨i',NY,rfl,_,z⟩|⟨j,_,a⟩;grind;grind;simp at a
     . have XU:c<w.heap.size:=(P!.1 X).1;simp only[M?,List.length_nil,n?,x?] at eH B1
       have OA:∀j,j<l.length->C[j]? =some (encS (l.toArray)[j]!):=λj a=>by
        have h1:(C.toList.take l.length)[j]? =some (encS l[j]):=by rw[B1,A?,C! a];rfl
        rw[List.getElem?_take,Q! a,m?] at h1;rw[h1];simp[a]
       have hH:Holds encS w c 0 l.toArray:=λj a=>by
        have hY:j<l.length:=by simpa using a
        refine⟨?_,?_⟩;simp only[World.cell?,X];simpa using OA j hY;simp only[World.frozen?,X];simp
       rw[o,t];have hc:=Any.slices_SortFunc_total L encS (λ_=>rfl) S.lS alO g #[] c 0 p l.toArray w eg (λm os dk _ x y=>(B x y _).mono λex W ⟨q,hw⟩=>⟨q,0, #[],by rw[hw];rfl⟩) hH XU x! ā
       have e1:(l.toArray.toList.mergeSort λx y=>!(ltOf S.lS) y x)=S.fp l:=by
        unfold S.fp;simp only[List.toList_toArray,DF]
       rw[e1] at hc;refine hc.mono λex W ⟨q,n,os,hw⟩=>?_;have hw0:(putRow encS (Go.Sort.ahead w n) c 0 (S.fp l).toArray).heap[c]? =some (.cells (putCells encS 0 (S.fp l).toArray C) e (0,0)):=Jx encS (Go.Sort.ahead w n) c 0 _ X
       have U:W.heap[c]? =some (.cells (putCells encS 0 (S.fp l).toArray C) e (0,0)):=by
        grind[sortWorld,grow,Array.getElem?_append_left,size_putRow]
       have FK:∀b,b<w.heap.size->b≠c->W.heap[b]? =w.heap[b]? :=λb hb dS=>by
        grind[sortWorld,grow,Array.getElem?_append_left,size_putRow,BB,encS,Go.Sort.ahead]
       have qp:w.heap.size<=W.heap.size:=by
        rw[hw];unfold sortWorld grow;simp only[Array.size_append,size_putRow];exact Nat.le_add_right _ _
       have hHM:HM β 1 c:=⟨0,w!,by rw[show β (50000+0)=β 50000 from rfl,t];rfl⟩;have aFm:¬A c:=M c (by rw[t];rfl);refine⟨_,q,A,β,{os:=by rw[hw];rfl,tape:=by rw[hw];rfl,output:=by rw[hw];rfl,size:=qp,same:= ?_,mono:= ?_,gG:=λ_ _ h=>.inl h,bound:=λb h=>Nat.lt_of_lt_of_le (Y b h) qp,res:=by simp only[aa];exact⟨#[],rfl,by rfl⟩,kept:= ?_,rows:= ?_,apart:= ?_}⟩;grind;grind
       . intro i v H;match i,H with
         |0,H=>
          simp only[List.getElem?_cons_zero,Option.some.injEq] at H;subst H;refine⟨⟨(S.fp l).map encS,⟨z!,.inr ⟨c,p,_,?_,Nat.zero_le _,U,w!,XT,by rw[DH];simpa using eH,?_⟩⟩,Ew _ HS,by simpa using M⟩,rfl⟩;rw[RR];exact t;grind[DG]
         |i+1,H=>simp at H
       intro j v a;simp at a
       . intro k k' b R T _ _;rcases R with⟨i,v,rfl,_,H⟩|⟨j,_,a⟩
         . rcases T with⟨i',NY,rfl,_,z⟩|⟨j,_,a⟩
           . match i,i',H,z with
             |0,0,_,_=>rfl
             |i+1,_,H,_=>simp at H
             |0,i+1,_,z=>simp at z
           simp at a
         simp at a
   grind
 grind
theorem abw {P:Program}{f:FuncId}{c:Array Value}{w:World}{A:Nat->Prop}{β:Nat->Value}{e K:Nat}{l m:O}(L:m.Perm l)(r:∀b,A b->b<w.heap.size)(hn:K=1)
  (o:BR w A β 50000 (.row e [.str] l false)) (Q:l.length<=1099511627776)
  (rO:β 50000= .slice none 0 0->l=[]->Calls P f c w λE W=>E= .returned (.tuple #[])/\W=w)
  (t:∀g0 d,β 50000= .slice (some ⟨g0,0,none⟩) l.length d->Holds encS w g0 0 l.toArray->g0<w.heap.size->l.length<4611686018427387904->Calls P f c w λE W=>E= .returned (.tuple #[])/\∃n os,W=grow (putRow encS (Go.Sort.ahead w n) g0 0 m.toArray) os):
  Calls P f c w λE W=>∃v,E= .returned v/\∃A' aC,JW w A β K W v {pre:=l.length<=1099511627776,res:=.bk [],heap:=[some (.row e [.str] m false)],new:=[]} A' aC:=by
 obtain⟨xs,R,S,M⟩:=o;obtain⟨rfl,hl⟩:=DE l xs S;have HS:∀s∈m,s.length<=maxLen:=λs iW=>hl s (L.subset iW);have T:m.length=l.length:=L.length_eq;simp only[c?,r?] at M;rcases R.2 with⟨Ye,u⟩|⟨g0,d,C,p,_,X,Tf,XT,U,V⟩
 . 
  have Ve:l=[]:=P?.1 u;subst Ve;have ħ:m=[]:=P?.1 T;rw[ħ];refine(rO Ye rfl).mono λE W ⟨x,hw⟩=>?_;subst hw;refine⟨_,x,A,β,{os:=rfl,tape:=rfl,output:=rfl,size:=M! _,same:=λ_ _ _=>rfl,mono:=λb h=>⟨h,rfl⟩,gG:=λ_ _ h=>.inl h,bound:=r,res:=by simp only[aa];exact⟨#[],rfl,by rfl⟩,kept:= ?_,rows:= ?_,apart:= ?_}⟩
  . intro i q H;match i,H with
    |0,H=>
     simp only[List.getElem?_cons_zero,Option.some.injEq] at H;subst H;exact⟨⟨_,R,S,x!⟩,rfl⟩
    |i+1,H=>grind
  grind
  . intro k k' b y G _ _;rcases y with⟨i,q,rfl,_,H⟩|⟨j,_,a⟩
    . rcases G with⟨I,NY,rfl,_,g⟩|⟨j,_,a⟩
      . match i,I,H,g with
        |0,0,_,_=>rfl
        |i+1,_,H,_=>simp at H
        |0,i+1,_,g=>simp at g
      simp at a
    grind
 . have Y:g0<w.heap.size:=(P!.1 X).1;simp only[M?,List.length_nil,n?,x?] at U V
   have OA:∀j,j<l.length->C[j]? =some (encS (l.toArray)[j]!):=λj a=>by
    have h1:(C.toList.take l.length)[j]? =some (encS l[j]):=by rw[V,A?,C! a];rfl
    rw[List.getElem?_take,Q! a,m?] at h1;rw[h1];simp[a]
   have hH:Holds encS w g0 0 l.toArray:=λj a=>by
    have hY:j<l.length:=by simpa using a
    refine⟨?_,?_⟩;simp only[World.cell?,X];simpa using OA j hY;simp only[World.frozen?,X];simp
   refine(t g0 d p hH Y w!).mono λE W ⟨x,n,os,hw⟩=>?_;have z:(putRow encS (Go.Sort.ahead w n) g0 0 m.toArray).heap[g0]? =some (.cells (putCells encS 0 m.toArray C) e (0,0)):=Jx encS (Go.Sort.ahead w n) g0 0 _ X
   have B:W.heap[g0]? =some (.cells (putCells encS 0 m.toArray C) e (0,0)):=by
    rw[hw];unfold grow;simp only;rw[Array.getElem?_append_left (by rw[size_putRow];exact Y)];exact z
   have Z:∀b,b<w.heap.size->b≠g0->W.heap[b]? =w.heap[b]? :=λb o D=>by
    rw[hw];unfold grow;simp only;rw[Array.getElem?_append_left (by rw[size_putRow];exact o),BB encS (Go.Sort.ahead w n) g0 0 b _ D];rfl
   have qp:w.heap.size<=W.heap.size:=by
    rw[hw];unfold grow;simp only[Array.size_append,size_putRow];exact Nat.le_add_right _ _
   have F:HM β 1 g0:=⟨0,w!,by rw[show β (50000+0)=β 50000 from rfl,p];rfl⟩;have J:¬A g0:=M g0 (by rw[p];rfl);refine⟨_,x,A,β,{os:=by rw[hw];rfl,tape:=by rw[hw];rfl,output:=by rw[hw];rfl,size:=qp,same:= ?_,mono:= ?_,gG:=λ_ _ h=>.inl h,bound:=λb h=>Y! (r b h) qp,res:=by simp only[aa];exact⟨#[],rfl,by simp[ae]⟩,kept:= ?_,rows:= ?_,apart:= ?_}⟩;intro b o D;rw[hn] at D;exact Z b o (λh=>D (h▸F));intro b N;exact⟨N,Z b (r b N) (λh=>J (h▸N))⟩
   . intro i q H;match i,H with
     |0,H=>
      simp only[Z?,A!] at H;subst H;refine⟨⟨m.map encS,⟨z!,.inr ⟨g0,d,_,?_,S! _,B,w!,XT,by rw[DH];simpa using U,?_⟩⟩,Ew _ HS,by simpa using M⟩,rfl⟩;rw[T];exact p;have:=DG m C w!;simpa using this
     |i+1,H=>simp at H
   intro j q a;simp at a
   . intro k k' b y G _ _;rcases y with⟨i,q,rfl,_,H⟩|⟨j,_,a⟩
     . rcases G with⟨I,NY,rfl,_,g⟩|⟨j,_,a⟩
       . match i,I,H,g with
         |0,0,_,_=>rfl
         |i+1,_,H,_=>simp at H
         |0,i+1,_,g=>simp at g
       simp at a
     simp at a
def MN{f:FuncId}{e:Nat}{m:O->O}(k:∀l,(m l).Perm l)
  {F:Row (TA.du [.own 50000])->fD [.row e [.str]]->pb}
  (o:∀l:O,F () (l,())= {pre:=l.length<=1099511627776,res:=.bk [],heap:=[some (.row e [.str] (m l) false)],new:=[]})
  (R:∀w,Calls P f #[.slice none 0 0] w λE W=>E= .returned (.tuple #[])/\W=w)
  (p:∀(l:O) w g c,Holds encS w g 0 l.toArray->g<w.heap.size->l.length<4611686018427387904->Calls P f #[.slice (some ⟨g,0,none⟩) l.length c] w λE W=>E= .returned (.tuple #[])/\∃n q,W=grow (putRow encS (Go.Sort.ahead w n) g 0 (m l).toArray) q):
  aJ P G f (bZ [.own 50000] [.row e [.str]] F):=by
 intro w A s b K d r t L B v Y N z i M;unfold bZ at N;split at N;rename_i S C;split at N;rename_i x y D I;obtain⟨l,u⟩:=y;simp only[Option.some.injEq] at N;have h:x=():=rfl;subst h;rw[o l] at N;subst N;obtain⟨j,T⟩:=D6 C D B;obtain⟨U,Q,V⟩:=Iw (w:=w) (A:=A) (β:=s) [.row e [.str]] d (l,u) 50000 I v;have J:=Q 0 (.row e [.str] l false) rfl;have a:d.length=1:=by grind
 simp only[TA.qG,TA.put,ae] at j;obtain⟨X,Z,rfl,H,rfl⟩:=j;simp[aa] at H;refine abw (k l) t a J z (λYe _=>?_) (λg c hv hH hg hl=>?_);grind;grind;grind;grind
def alP(l:O):(l.mergeSort λx y=>decide (x<=y))=S.fp l:=by
 grind[S.fp,bytesLess_eq,decide_eq_true,decide_eq_false]
def Ni(L:SlLaysM.n6 P ρ){e:Nat}{F:Row (TA.du [.own 50000])->fD [.row e [.str]]->pb}
  (H:∀l:O,F () (l,())= {pre:=l.length<=1099511627776,res:=.bk [],heap:=[some (.row e [.str] (S.fp l) false)],new:=[]}):
  aJ P G (ρ.f 6) (bZ [.own 50000] [.row e [.str]] F):=
 MN S.CP H (AnyM.slices_Sort_string_none L none 0) (λl w g c a b d=>by
  have h:=AnyM.slices_Sort_string L g 0 c l w a b d;rw[alP] at h;exact h)
def RS(L:SlLaysN.n36 P ρ){e:Nat}{F:Row (TA.du [.own 50000])->fD [.row e [.str]]->pb}
  (h:∀l:O,F () (l,())= {pre:=l.length<=1099511627776,res:=.bk [],heap:=[some (.row e [.str] (S.Qq l) false)],new:=[]}):
  aJ P G (ρ.f 36) (bZ [.own 50000] [.row e [.str]] F):=
 MN List.reverse_perm h (AnyG.slices_Reverse_string_empty L none 0) (λl w g c H b d=>
  (AnyG.slices_Reverse_string L g 0 c l w H w!).mono λE W ⟨a,n,hw⟩=>⟨a,n, #[],by rw[hw];rfl⟩)
end Go.Vg
namespace Go.Proofs
open Go.Shelf
def Tryz.MO:Go.Shelf.Ren:=⟨λ|7=>302|10=>361|n=>n,λ|23=>393|26=>9|3=>36|28=>396|0=>0|27=>395|33=>125|4=>4|n=>n,λ|n=>n⟩
def Tryz.ajr:Go.Proofs.SlLaysZ.n7 Tryz.prog Tryz.MO:={
 mixed:=by kernel_rfl
 f7:=⟨Tryz.f302.name,by decide,Tryz.func302.trans (congrArg some y!)⟩
 f10:=⟨Tryz.f361.name,by decide,Tryz.func361.trans (congrArg some y!)⟩
 t0:=Tryz.underlying0
 a0:=Tryz.isAgg0
 z0:=Tryz.sizeOf0
 v0:=Tryz.zeroValue0
 t4:=Tryz.underlying4
 a4:=Tryz.isAgg4
 z4:=Tryz.sizeOf4
 v4:=Tryz.zeroValue4
 t23:=Tryz.underlying393
 a23:=Tryz.isAgg393
 z23:=Tryz.sizeOf393
 v23:=Tryz.zeroValue393
 t26:=Tryz.underlying9
 a26:=Tryz.isAgg9
 z26:=Tryz.sizeOf9
 v26:=Tryz.zeroValue9
 t27:=Tryz.underlying395
 a27:=Tryz.isAgg395
 z27:=Tryz.sizeOf395
 v27:=Tryz.zeroValue395
 t28:=Tryz.underlying396
 a28:=Tryz.isAgg396
 z28:=Tryz.sizeOf396
 v28:=Tryz.zeroValue396
 t33:=Tryz.underlying125
 a33:=Tryz.isAgg125
 z33:=Tryz.sizeOf125
 v33:=Tryz.zeroValue125}
def Tryz.FI:Go.Shelf.Ren:=⟨λ|6=>301|8=>360|9=>120|11=>383|13=>231|12=>230|23=>330|24=>331|14=>322|15=>323|16=>324|17=>325|18=>326|19=>327|20=>237|21=>328|22=>329|25=>365|26=>366|27=>367|28=>368|29=>369|30=>335|31=>385|n=>n,λ|26=>9|28=>396|24=>103|0=>0|3=>3|37=>340|48=>253|50=>354|4=>4|40=>416|39=>415|45=>231|5=>5|9=>9|51=>444|55=>448|57=>464|58=>406|33=>125|n=>n,λ|n=>n⟩
def Tryz.alQ:Go.Proofs.SlLaysZ.n6 Tryz.prog Tryz.FI:={
 mixed:=by kernel_rfl
 f6:=⟨Tryz.f301.name,by decide,Tryz.func301.trans (congrArg some y!)⟩
 f8:=⟨Tryz.f360.name,by decide,Tryz.func360.trans (congrArg some y!)⟩
 f11:=⟨Tryz.f383.name,by decide,Tryz.func383.trans (congrArg some y!)⟩
 t0:=Tryz.underlying0
 a0:=Tryz.isAgg0
 z0:=Tryz.sizeOf0
 v0:=Tryz.zeroValue0
 t24:=Tryz.underlying103
 a24:=Tryz.isAgg103
 z24:=Tryz.sizeOf103
 v24:=Tryz.zeroValue103
 t26:=Tryz.underlying9
 a26:=Tryz.isAgg9
 z26:=Tryz.sizeOf9
 v26:=Tryz.zeroValue9
 t28:=Tryz.underlying396
 a28:=Tryz.isAgg396
 z28:=Tryz.sizeOf396
 v28:=Tryz.zeroValue396
 i26:=by kernel_rfl}
def Tryz.Ă:Go.Shelf.Ren:=⟨λ|6=>120|8=>231|9=>230|19=>330|20=>331|21=>322|22=>323|23=>324|24=>325|25=>326|26=>327|27=>237|28=>328|29=>329|36=>365|31=>366|32=>367|37=>368|38=>369|39=>335|41=>385|n=>n,λ|27=>103|29=>9|3=>3|32=>340|26=>103|0=>0|44=>253|46=>354|4=>4|36=>416|35=>415|41=>231|5=>5|9=>9|53=>444|57=>448|63=>464|64=>406|n=>n,λ|n=>n⟩
def Tryz.XV:Go.Proofs.SlLaysM.n6 Tryz.prog Tryz.Ă:={
 mixed:=by kernel_rfl
 f6:=⟨Tryz.f120.name,by decide,Tryz.func120.trans (congrArg some y!)⟩
 f8:=Tryz.func231.trans (congrArg some y!)
 f9:=⟨Tryz.f230.name,by decide,Tryz.func230.trans (congrArg some y!)⟩
 f19:=Tryz.func330.trans (congrArg some y!)
 f20:=Tryz.func331.trans (congrArg some y!)
 f21:=⟨Tryz.f322.name,by decide,Tryz.func322.trans (congrArg some y!)⟩
 f22:=⟨Tryz.f323.name,by decide,Tryz.func323.trans (congrArg some y!)⟩
 f23:=⟨Tryz.f324.name,by decide,Tryz.func324.trans (congrArg some y!)⟩
 f24:=⟨Tryz.f325.name,by decide,Tryz.func325.trans (congrArg some y!)⟩
 f25:=⟨Tryz.f326.name,by decide,Tryz.func326.trans (congrArg some y!)⟩
 f26:=⟨Tryz.f327.name,by decide,Tryz.func327.trans (congrArg some y!)⟩
 f27:=⟨Tryz.f237.name,by decide,Tryz.func237.trans (congrArg some y!)⟩
 f28:=⟨Tryz.f328.name,by decide,Tryz.func328.trans (congrArg some y!)⟩
 f29:=⟨Tryz.f329.name,by decide,Tryz.func329.trans (congrArg some y!)⟩
 f31:=Tryz.func366.trans (congrArg some y!)
 f32:=Tryz.func367.trans (congrArg some y!)
 f36:=⟨Tryz.f365.name,by decide,Tryz.func365.trans (congrArg some y!)⟩
 f37:=⟨Tryz.f368.name,by decide,Tryz.func368.trans (congrArg some y!)⟩
 f38:=⟨Tryz.f369.name,by decide,Tryz.func369.trans (congrArg some y!)⟩
 f39:=⟨Tryz.f335.name,by decide,Tryz.func335.trans (congrArg some y!)⟩
 f41:=⟨Tryz.f385.name,by decide,Tryz.func385.trans (congrArg some y!)⟩
 t0:=Tryz.underlying0
 a0:=Tryz.isAgg0
 z0:=Tryz.sizeOf0
 v0:=Tryz.zeroValue0
 t3:=Tryz.underlying3
 a3:=Tryz.isAgg3
 z3:=Tryz.sizeOf3
 v3:=Tryz.zeroValue3
 t4:=Tryz.underlying4
 a4:=Tryz.isAgg4
 z4:=Tryz.sizeOf4
 v4:=Tryz.zeroValue4
 t5:=Tryz.underlying5
 a5:=Tryz.isAgg5
 z5:=Tryz.sizeOf5
 v5:=Tryz.zeroValue5
 t9:=Tryz.underlying9
 a9:=Tryz.isAgg9
 z9:=Tryz.sizeOf9
 v9:=Tryz.zeroValue9
 t26:=Tryz.underlying103
 a26:=Tryz.isAgg103
 z26:=Tryz.sizeOf103
 v26:=Tryz.zeroValue103
 t27:=Tryz.underlying103
 a27:=Tryz.isAgg103
 z27:=Tryz.sizeOf103
 v27:=Tryz.zeroValue103
 t29:=Tryz.underlying9
 a29:=Tryz.isAgg9
 z29:=Tryz.sizeOf9
 v29:=Tryz.zeroValue9
 t32:=Tryz.underlying340
 a32:=Tryz.isAgg340
 z32:=Tryz.sizeOf340
 v32:=Tryz.zeroValue340
 t35:=Tryz.underlying415
 a35:=Tryz.isAgg415
 z35:=Tryz.sizeOf415
 v35:=Tryz.zeroValue415
 t36:=Tryz.underlying416
 a36:=Tryz.isAgg416
 z36:=Tryz.sizeOf416
 v36:=Tryz.zeroValue416
 t41:=Tryz.underlying231
 a41:=Tryz.isAgg231
 z41:=Tryz.sizeOf231
 v41:=Tryz.zeroValue231
 t44:=Tryz.underlying253
 a44:=Tryz.isAgg253
 z44:=Tryz.sizeOf253
 v44:=Tryz.zeroValue253
 t46:=Tryz.underlying354
 a46:=Tryz.isAgg354
 z46:=Tryz.sizeOf354
 v46:=Tryz.zeroValue354
 t53:=Tryz.underlying444
 a53:=Tryz.isAgg444
 z53:=Tryz.sizeOf444
 v53:=Tryz.zeroValue444
 t57:=Tryz.underlying448
 a57:=Tryz.isAgg448
 z57:=Tryz.sizeOf448
 v57:=Tryz.zeroValue448
 t63:=Tryz.underlying464
 a63:=Tryz.isAgg464
 z63:=Tryz.sizeOf464
 v63:=Tryz.zeroValue464
 t64:=Tryz.underlying406
 a64:=Tryz.isAgg406
 z64:=Tryz.sizeOf406
 v64:=Tryz.zeroValue406}
def Tryz.RT:Go.Shelf.Ren:=⟨λ|42=>379|n=>n,λ|25=>103|26=>9|4=>4|n=>n,λ|n=>n⟩
def Tryz.abx:Go.Proofs.SlLaysN.n42 Tryz.prog Tryz.RT:={
 mixed:=by kernel_rfl
 f42:=⟨Tryz.f379.name,by decide,Tryz.func379.trans (congrArg some y!)⟩
 t4:=Tryz.underlying4
 a4:=Tryz.isAgg4
 z4:=Tryz.sizeOf4
 v4:=Tryz.zeroValue4
 t25:=Tryz.underlying103
 a25:=Tryz.isAgg103
 z25:=Tryz.sizeOf103
 v25:=Tryz.zeroValue103
 t26:=Tryz.underlying9
 a26:=Tryz.isAgg9
 z26:=Tryz.sizeOf9
 v26:=Tryz.zeroValue9
 i26:=by kernel_rfl}
def Tryz.RU:Go.Shelf.Ren:=⟨λ|41=>128|n=>n,λ|22=>36|23=>3|4=>4|n=>n,λ|n=>n⟩
def Tryz.aby:Go.Proofs.SlLaysN.n41 Tryz.prog Tryz.RU:={
 mixed:=by kernel_rfl
 f41:=⟨Tryz.f128.name,by decide,Tryz.func128.trans (congrArg some y!)⟩
 t4:=Tryz.underlying4
 a4:=Tryz.isAgg4
 z4:=Tryz.sizeOf4
 v4:=Tryz.zeroValue4
 t22:=Tryz.underlying36
 a22:=Tryz.isAgg36
 z22:=Tryz.sizeOf36
 v22:=Tryz.zeroValue36
 t23:=Tryz.underlying3
 a23:=Tryz.isAgg3
 z23:=Tryz.sizeOf3
 v23:=Tryz.zeroValue3
 i23:=by kernel_rfl}
def Tryz.abz:Go.Shelf.Ren:=⟨λ|6=>380|15=>231|14=>389|28=>330|29=>331|20=>391|21=>392|22=>393|23=>394|24=>395|25=>396|26=>397|27=>398|46=>399|47=>366|48=>367|49=>400|50=>401|57=>402|n=>n,λ|22=>103|24=>9|25=>442|3=>3|39=>340|0=>0|53=>253|55=>354|4=>4|46=>416|45=>415|50=>231|5=>5|9=>9|66=>444|70=>448|76=>464|77=>406|n=>n,λ|n=>n⟩
def Tryz.aLJ:Go.Proofs.SlLaysF.n6 Tryz.prog Tryz.abz:={
 mixed:=by kernel_rfl
 f6:=⟨Tryz.f380.name,by decide,Tryz.func380.trans (congrArg some y!)⟩
 f14:=⟨Tryz.f389.name,by decide,Tryz.func389.trans (congrArg some y!)⟩
 f15:=Tryz.func231.trans (congrArg some y!)
 f20:=⟨Tryz.f391.name,by decide,Tryz.func391.trans (congrArg some y!)⟩
 f21:=⟨Tryz.f392.name,by decide,Tryz.func392.trans (congrArg some y!)⟩
 f22:=⟨Tryz.f393.name,by decide,Tryz.func393.trans (congrArg some y!)⟩
 f23:=⟨Tryz.f394.name,by decide,Tryz.func394.trans (congrArg some y!)⟩
 f24:=⟨Tryz.f395.name,by decide,Tryz.func395.trans (congrArg some y!)⟩
 f25:=⟨Tryz.f396.name,by decide,Tryz.func396.trans (congrArg some y!)⟩
 f26:=⟨Tryz.f397.name,by decide,Tryz.func397.trans (congrArg some y!)⟩
 f27:=⟨Tryz.f398.name,by decide,Tryz.func398.trans (congrArg some y!)⟩
 f28:=Tryz.func330.trans (congrArg some y!)
 f29:=Tryz.func331.trans (congrArg some y!)
 f46:=⟨Tryz.f399.name,by decide,Tryz.func399.trans (congrArg some y!)⟩
 f47:=Tryz.func366.trans (congrArg some y!)
 f48:=Tryz.func367.trans (congrArg some y!)
 f49:=⟨Tryz.f400.name,by decide,Tryz.func400.trans (congrArg some y!)⟩
 f50:=⟨Tryz.f401.name,by decide,Tryz.func401.trans (congrArg some y!)⟩
 f57:=⟨Tryz.f402.name,by decide,Tryz.func402.trans (congrArg some y!)⟩
 t0:=Tryz.underlying0
 a0:=Tryz.isAgg0
 z0:=Tryz.sizeOf0
 v0:=Tryz.zeroValue0
 t3:=Tryz.underlying3
 a3:=Tryz.isAgg3
 z3:=Tryz.sizeOf3
 v3:=Tryz.zeroValue3
 t4:=Tryz.underlying4
 a4:=Tryz.isAgg4
 z4:=Tryz.sizeOf4
 v4:=Tryz.zeroValue4
 t5:=Tryz.underlying5
 a5:=Tryz.isAgg5
 z5:=Tryz.sizeOf5
 v5:=Tryz.zeroValue5
 t9:=Tryz.underlying9
 a9:=Tryz.isAgg9
 z9:=Tryz.sizeOf9
 v9:=Tryz.zeroValue9
 t22:=Tryz.underlying103
 a22:=Tryz.isAgg103
 z22:=Tryz.sizeOf103
 v22:=Tryz.zeroValue103
 a24:=Tryz.isAgg9
 z24:=Tryz.sizeOf9
 t25:=Tryz.underlying442
 a25:=Tryz.isAgg442
 z25:=Tryz.sizeOf442
 v25:=Tryz.zeroValue442
 t39:=Tryz.underlying340
 a39:=Tryz.isAgg340
 z39:=Tryz.sizeOf340
 v39:=Tryz.zeroValue340
 t45:=Tryz.underlying415
 a45:=Tryz.isAgg415
 z45:=Tryz.sizeOf415
 v45:=Tryz.zeroValue415
 t46:=Tryz.underlying416
 a46:=Tryz.isAgg416
 z46:=Tryz.sizeOf416
 v46:=Tryz.zeroValue416
 t50:=Tryz.underlying231
 a50:=Tryz.isAgg231
 z50:=Tryz.sizeOf231
 v50:=Tryz.zeroValue231
 t53:=Tryz.underlying253
 a53:=Tryz.isAgg253
 z53:=Tryz.sizeOf253
 v53:=Tryz.zeroValue253
 t55:=Tryz.underlying354
 a55:=Tryz.isAgg354
 z55:=Tryz.sizeOf354
 v55:=Tryz.zeroValue354
 t66:=Tryz.underlying444
 a66:=Tryz.isAgg444
 z66:=Tryz.sizeOf444
 v66:=Tryz.zeroValue444
 t70:=Tryz.underlying448
 a70:=Tryz.isAgg448
 z70:=Tryz.sizeOf448
 v70:=Tryz.zeroValue448
 t76:=Tryz.underlying464
 a76:=Tryz.isAgg464
 z76:=Tryz.sizeOf464
 v76:=Tryz.zeroValue464
 t77:=Tryz.underlying406
 a77:=Tryz.isAgg406
 z77:=Tryz.sizeOf406
 v77:=Tryz.zeroValue406}
def Tryz.ă:Go.Shelf.Ren:=⟨λ|36=>213|n=>n,λ|25=>103|26=>9|3=>3|4=>4|0=>0|n=>n,λ|n=>n⟩
def Tryz.aDA:Go.Proofs.SlLaysN.n36 Tryz.prog Tryz.ă:={
 mixed:=by kernel_rfl
 f36:=⟨Tryz.f213.name,by decide,Tryz.func213.trans (congrArg some y!)⟩
 t0:=Tryz.underlying0
 a0:=Tryz.isAgg0
 z0:=Tryz.sizeOf0
 v0:=Tryz.zeroValue0
 t3:=Tryz.underlying3
 a3:=Tryz.isAgg3
 z3:=Tryz.sizeOf3
 v3:=Tryz.zeroValue3
 t4:=Tryz.underlying4
 a4:=Tryz.isAgg4
 z4:=Tryz.sizeOf4
 v4:=Tryz.zeroValue4
 t25:=Tryz.underlying103
 a25:=Tryz.isAgg103
 z25:=Tryz.sizeOf103
 v25:=Tryz.zeroValue103
 t26:=Tryz.underlying9
 a26:=Tryz.isAgg9
 z26:=Tryz.sizeOf9
 v26:=Tryz.zeroValue9}
end Go.Proofs
namespace Go.Proofs
open Go.RowKit Go.Maps Go.Sort Go.Shelf
def Tryz.atq(m:Nat):AnyZ.SortsIn Tryz.prog Tryz.FI Fence.wide m:=
 ⟨λu o c s W H h e=>callsIn_wide.2 (AnyM.slices_Sort_string Tryz.XV u o c s W H h e),
  λp c W=>callsIn_wide.2 (AnyM.slices_Sort_string_none Tryz.XV p c W)⟩
def Tryz.SX(m:Option Nat)(W:World):CallsIn Fence.wide 5 Tryz.prog 302 #[.map m] W λe w=>e= .returned (.func (.func 361) #[] #[.pointer (some ⟨W.heap.size,0,none⟩)])/\w=W.alloc (.cells #[.map m] 393):=
 AnyZ.keys_in Tryz.ajr Fence.wide 5 trivial rfl m W
set_option maxHeartbeats 1000000 in
theorem Tryz.wW {H:Type}(b n:Nat)(D:DataW H)(R:Value->Option (DataW H×M MemPlace))(w:World)(j:w.ownsMap Tryz.prog 9 R b n D)(a:Maps.size D<=maxLen)(d:Maps.size D*16<=140737488355328):
  CallsIn Fence.wide 5 Tryz.prog 301 #[.func (.func 361) #[] #[.pointer (some ⟨w.heap.size,0,none⟩)]] (w.alloc (.cells #[.map (some b)] 393)) λe W=>∃(v:Value) (s:O),e= .returned v/\s.Perm (strKeys D)/\
   W.ownsRow (w.alloc (.cells #[.map (some b)] 393)).heap.size 9 1 v s.length ((s.mergeSort (λx y=>decide (x<=y))).map encStr)/\(v= .slice none 0 0↔s=[])/\Below (w.alloc (.cells #[.map (some b)] 393)).heap.size (w.alloc (.cells #[.map (some b)] 393)) W:=by
 have A:=j.lt
 have T:SeqGives Fence.wide 2 Tryz.prog 361 #[.pointer (some ⟨w.heap.size,0,none⟩)] encStr (λs=>s.Perm (strKeys D)) (Maps.size D) (w.alloc (.cells #[.map (some b)] 393)):=
  AnyZ.keys_gives (ρ:=Tryz.MO) {Tryz.ajr with} Fence.wide _ trivial rfl w! w.heap.size b n D _ z! z! (by
   obtain⟨E,c,h,F,f,g⟩:=j;exact⟨E,c,(Below.heap_alloc _ _ b A).trans h,F,f,g⟩)
 exact AnyZ.sorted_in Tryz.alQ Fence.wide 5 trivial trivial trivial trivial rfl w! (Tryz.atq _) (enters_of Tryz.func120 y! rfl) 361 #[.pointer (some ⟨w.heap.size,0,none⟩)] trivial (enters_of Tryz.func361 y! rfl) _ _ a d _ T
end Go.Proofs
namespace Go.Proofs
open Go.Shelf Go.RowKit Go.Lib Go.Sort
variable {x y:B8}{G:Nat->Option Vg.GD}{F:Vg.Row (Vg.TA.du [.own 50000])->Vg.fD [.row 9 [.str]]->Vg.pb}
theorem aDB(h:Op.bytesLess x y=true):S.lS x y= -1:=by unfold S.lS;rw[if_pos h]
def aDC(h:Op.bytesLess x y=false)(H:(!x==y)=true):S.lS x y=1:=by
 have d:x≠y:=by simpa using H
 unfold S.lS;rw[h];rcases S.pg x y with t|t|t
 . rw[t] at h;cases h
 . exact absurd t d
 . rw[t];rfl
def aDD(h:Op.bytesLess x y=false)(H:(!x==y)=false):S.lS x y=0:=by
 have a:x=y:=by simpa using H
 subst a;unfold S.lS;rw[h];rfl
def Tryz.abA(x:ByteArray)(w:World):Calls Tryz.prog 335 #[.string x] w λe w'=>e= .returned (.bool false)/\w'=w:=by
 go_enter Tryz.func335,Tryz.ntmps335
 go_wp2
 go_ret
 exact⟨z!,rfl⟩
set_option maxHeartbeats 1000000 in
def Tryz.XW(x y:B8)(w:World):Calls Tryz.prog 359 #[Vg.encS x,Vg.encS y] w λe w'=>e= .returned (.int .i64 (S.lS x y))/\w'=w:=by
 unfold Vg.encS;go_enter Tryz.func359,Tryz.ntmps359
 go_wp2_with (go_at_call 335;refine(Tryz.abA _ _).mono ?_;rintro e w' ⟨rfl,rfl⟩)
 all_goals go_ret
 all_goals refine⟨?_,rfl⟩
 all_goals first
  |(rw[aDB (by assumption)];rfl)
  |(rw[aDC (by assumption) (by assumption)];rfl)
  |(rw[aDD (by assumption) (by assumption)];rfl)
def Tryz.aDE{F:Vg.Row (Vg.TA.du [.own 50000,.fn (.func 359) [] []])->Vg.fD [.row 9 [.str]]->Vg.pb}
  (h:∀l:O,F () (l,())= {pre:=l.length<=1099511627776,res:=.bk [],heap:=[some (.row 9 [.str] (S.fp l) false)],new:=[]}):
  Vg.aJ Tryz.prog G 380 (Vg.bZ [.own 50000,.fn (.func 359) [] []] [.row 9 [.str]] F):=
 Vg.Nh Tryz.aLJ (enters_of Tryz.func359 y! rfl) Tryz.XW h
def Tryz.atr
 (h:∀l:O,F () (l,())= {pre:=l.length<=1099511627776,res:=.bk [],heap:=[some (.row 9 [.str] (S.fp l) false)],new:=[]}):
 Vg.aJ Tryz.prog G 120 (Vg.bZ [.own 50000] [.row 9 [.str]] F):=Vg.Ni Tryz.XV h
def Tryz.aLK
 (h:∀l:O,F () (l,())= {pre:=l.length<=1099511627776,res:=.bk [],heap:=[some (.row 9 [.str] (S.Qq l) false)],new:=[]}):
 Vg.aJ Tryz.prog G 213 (Vg.bZ [.own 50000] [.row 9 [.str]] F):=Vg.RS Tryz.aDA h
end Go.Proofs
namespace Go.DM
open Go Go.Vg Go.Maps Go.RowKit Go.ChangeShapes
variable {H:Type}{base n b:Nat}{e:TypeId}{v:Value}{w w':World}{zs:List Int}{Q:Nat->Prop}{P:Program}{q:IntKind}{s:B8}
def items:DataW H->U
 |.slice ls _=>ls.filterMap λd=>match d with|.lit (.int _ z)=>some z|_=>none
 |_=>[]
def Ą(zs:U):items (H:=H) (.slice (lits .i64 zs) [])=zs:=by
 induction zs with
 |nil=>rfl
 |cons z zs i=>
  simp only[items,lits,G?,List.filterMap_cons] at i |-;rw[i]
def Hb(h:w.ownsInts base e .i64 v zs):items (H:=H) (rowDatum .i64 v zs)=zs:=by
 rcases h.datum (H:=H) with⟨h1,a⟩|h1
 . rw[h1,a];rfl
 . rw[h1];exact Ą zs
def Repr(D:DataW H)(m:B8->U):Prop:=IsMap D/\∀s,items (D.atKey (.string s) .nil)=m s/\(has D (.string s)=true↔m s≠ [])
def Repr.empty:Repr (H:=H) (.map []) (λ_=>[]):=⟨isMap_empty,λs=>⟨rfl,by simp[has]⟩⟩
theorem Repr.ext {D:DataW H}{m M:B8->U}(h:Repr D m)(e:∀s,m s=M s):Repr D M:=by
 rw[<-funext e];exact h
theorem Repr.put {D:DataW H}{m M:B8->U}(h:Repr D m){t:B8}{w:World}{base:Nat}{e:TypeId}{v:Value}{zs:U}(c:w.ownsInts base e .i64 v zs)(hz:zs≠ [])
  (h1:M t=zs) (f:∀s,s≠t->M s=m s):Repr (D.put (.string t) (rowDatum .i64 v zs)) M:=by
 refine⟨h.1.put _ _,λs=>?_⟩;by_cases a:s=t
 . subst a;refine⟨?_,?_⟩
   . rw[atKey_put_same h.1 (by trivial),Hb c,h1]
   . rw[has_put_same h.1 (by trivial),h1];simp[hz]
 . have d:Lit.string s≠Lit.string t:=λg=>a (by injection g);rw[atKey_put_other d,has_put_other d,f s a];exact h.2 s
def ats(h:w.ownsInts base e .i64 v zs)(d:∀g,v.ownBlock=some g->Q g):Rd w Q (.slice [.int .i64]) v zs:=by
 obtain⟨a,f⟩:=h
 have H:∀z∈zs,lo .i64<=z/\z<=hi .i64:=λz H=>by
  have:=f z H;simp[Lit.wf,IntKind.min,IntKind.max,IntKind.signed,IntKind.bits] at this;simp only[lo,hi];omega
 simp only[Rd];rcases a.2 with⟨rfl,i⟩|⟨g,c,C,rfl,o,p,k,l,E,B⟩
 . have :zs=[]:=P?.1 i;subst this;exact⟨none,0,[],rfl,M! _,S! _,rfl,λh=>absurd rfl h⟩
 . refine⟨some ⟨g,0,none⟩,c,zs.map (Value.int .i64),rfl,k,l,Lo zs H,λ_=>⟨g,0,rfl,d g rfl,λj v m=>?_⟩⟩;have:=a.cells (g:=g) rfl j v m;rwa [Addr.add_mid] at this
def Jy(w:World)(c:Array Value)(e:TypeId)(o:Obj)(j:Nat):((w.alloc (.cells c e)).alloc o).cell? ⟨w.heap.size,j,none⟩=c[j]? :=by
 have h1:((w.alloc (.cells c e)).alloc o).heap[w.heap.size]? =some (.cells c e (0,0)):=by
  rw[((World.grownBy_alloc (w.alloc (.cells c e)) o none).block w.heap.size z! z!)];exact(MapKept.heap_alloc w _).1
 simp[World.cell?,h1]
def Lr{s:Nat}{x:M Value}(h:w.ownsRow base e s v n x):∃a C,v= .slice a n C/\(0<n->∃g,a=some ⟨g,0,none⟩/\base<=g/\g<w.heap.size):=by
 have H:=h.lt;rcases h.2 with⟨rfl,d⟩|⟨g,c,f,rfl,i,_⟩
 . exact⟨none,0,by rw[d],λh=>by omega⟩
 . exact⟨_,c,rfl,λ_=>⟨g,rfl,H g rfl⟩⟩
def BC(h:Below w.heap.size w w'):w.grownBy w' none:=⟨h.os,h.tape,h.output,h.size,λi H _=>h.block i H⟩
def yB{k:TypeId}{D:DataW H}(h:w.ownsGroups P k base e q b n D)(a:Below w.heap.size w w'):w'.ownsGroups P k base e q b n D:=
 h.kept (BC a) z! (λE c _ x _=>by cases x.val.ownBlock<;>simp)
def abB{k:TypeId}{D:DataW H}(h:w.ownsGroups P k base e q b n D):b<w.heap.size:=by
 obtain⟨E,c,a,_⟩:=h;exact(P!.1 a).1
def RV{k:TypeId}{D:DataW H}(h:w.ownsGroups P k base e q b n D)(a:Below w.heap.size w w'){N:Nat->Prop}(c:∀g,N g->w.heap.size<=g):w'.Shuns b N:=by
 have d:w.Shuns b (λ_=>False):=λ_ _ _ _ _ _ _ f=>f;exact(d.reno (No':=N) h (λg i=>.inr (c g i))).kept (BC a) (abB h) z!
def UZ{g c n:Nat}{l:O}(h:w.ownsRow base e 1 (.slice (some ⟨g,0,none⟩) n c) n (l.map encS)){j:Nat}(H:j<l.length):w.cell? ⟨g,0+j,none⟩=some (encS (l.getD j [])):=by
 have:=h.cells (g:=g) rfl j (encS (l.getD j [])) (by rw[A?,C! H,E!,C! H];rfl);rwa [Addr.add_mid] at this
def ą{r:Option Nat}(h:w.grownBy w' r){a:Addr}(H:a.block<w.heap.size)(c:some a.block≠r)(d:w.cell? a=some v):w'.cell? a=some v:=
 (World.cell?_of_block (h.block _ H c)).trans d
def Ć {k:TypeId}(H:P.underlying k=some .string)(h:s.length<=maxLen):keyOf P k (.string ⟨s.toArray⟩)=some (.string s):=by
 have:=Go.WideMaps.keyOf_string_mk (P:=P) (k:=k) (s:=⟨s.toArray⟩) H (by simpa[ByteArray.size] using h);simpa using this
def aDF {w:World}{g:Nat}{V:Value}{o:Obj}{n c:Nat}(a:∀N:Nat->Prop,w.Shuns b N->∀g,v.ownBlock=some g->¬N g)(d:w.Shuns b (λG=>(Value.slice (some ⟨g,0,none⟩) n c).ownBlock=some G))
  (O:V.ownBlock=v.ownBlock\/V.ownBlock=some (w.alloc o).heap.size) (f:g<w.heap.size):∀G,V.ownBlock=some G->¬((Value.slice (some ⟨g,0,none⟩) n c).ownBlock=some G):=λG y H=>by
 rcases O with h|h
 . rw[h] at y;exact a _ d G y H
 . rw[h] at y;simp only[Value.ownBlock,A!] at y H;simp at y;omega
def RW{k:TypeId}{D:DataW H}(h:w.ownsGroups P k base e q b n D):w.ownsMap P k (rowElem w base e q) b n D:=by
 obtain⟨E,c,a,F,d,f,_⟩:=h;exact⟨E,c,a,F,d,f⟩
def Ls{k:TypeId}{R:Value->Option (DataW H×M MemPlace)}{D:DataW H}(h:w.ownsMap P k R b n D):Maps.size D<=n:=by
 obtain⟨e,c,d,F,a,rfl⟩:=h;rw[size_eq,length_sorted];simpa using a
def abC(d:O)(a b:Int)(x:B8):x∈S.b8 d a b↔S.BJ d a (b-a).toNat 0 x≠ []:=by
 unfold S.b8;rw[S.ir,S.Gt];simp[S.BJ]
def alR{R:Value->Option (DataW H×M MemPlace)}{k:TypeId}{D:DataW H}(h:w.ownsMap P k R b n D)(K:Keyed P k)(o:P.underlying k=some .string){docs:O}{f t:Int}
  (z:Repr D (S.BJ docs f (t-f).toNat 0)) {g:O} (A:g.Perm (strKeys D)):g.mergeSort (λx y=>decide (x<=y))=S.b8 docs f t/\g.length=(S.b8 docs f t).length/\(∀s∈S.b8 docs f t,s.length<=maxLen)/\(S.b8 docs f t).length<=n:=by
 obtain⟨e,r,i,_⟩:=h.entries K;obtain⟨B,c,j⟩:=h.keysOf;have l:=strKeys_le h o;have E:=Ls h;obtain rfl :e=B:=by rw[r] at c;simpa using c
 subst r;have u:S.qM (S.b8 docs f t):=S.iX _;have I:=perm_strKeys i (λp C=>by obtain⟨v,F⟩:=j p C;obtain⟨x,_,G,_⟩:=Maps.keyOf_str o F;exact⟨x,G⟩) (S.Ml u) (λx=>by rw[abC,(z.2 x).2]);have U:=A.trans I.symm
 have d:(S.b8 docs f t).length<=n:=by
  rw[I.length_eq];simpa[strKeys,size_eq] using E
 refine⟨?_,U.length_eq,λs J=>l s (I.subset J),d⟩;have L:g.mergeSort leB=(S.b8 docs f t).mergeSort leB:=mergeSort_of_perm U
 have N:(S.b8 docs f t).mergeSort leB=S.b8 docs f t:=by
  refine List.mergeSort_of_pairwise (u.imp λ{a b} m=>?_);rw[Go.Proofs.bytesLess_eq] at m;simp only[leB,H!] at m |-;exact List.le_of_lt m
 exact L.trans N
def OF(h:w.ownsInts base e q v zs):v.oneCell'=true:=by
 rcases h.1.2 with⟨rfl,_⟩|⟨g,c,C,rfl,_⟩<;>rfl
def alS(h:s.length<=maxLen)(H:Rd w Q (.slice [.int .i64]) v zs):bJ w Q [.str,.slice [.int .i64]] [.string ⟨s.toArray⟩,v] (s,zs):=by
 simp only[bJ];refine⟨_,[v],rfl,?_,v,[],rfl,H,rfl⟩;simp only[Rd];exact⟨rfl,h⟩
def U0 {a:Type}{R:M Value->a->Prop}:∀(l:M a) (C c:M Value) (x:a),dZ R C l->R c x->dZ R (C++c) (l++[x])
 |[],C,c,x,h,hx=>by
   simp only[dZ] at h;subst h;exact⟨c,[],z!,hx,rfl⟩
 |y::l,C,c,x,⟨c1,c2,H,h1,d⟩,hx=>by
  subst H;exact⟨c1,c2++c,z!,h1,U0 l c2 c x d hx⟩
def att(h:w'.ownsInts base e .i64 v zs)(f:Below w.heap.size w w')(a:∀g,v.ownBlock=some g->g<w.heap.size)(i:∀g,base<=g->g<w.heap.size->Q g):Rd w Q (.slice [.int .i64]) v zs:=by
 have d:w.ownsInts base e .i64 v zs:=by
  refine⟨⟨h.1.1,?_⟩,h.2⟩;rcases h.1.2 with j|⟨g,c,C,rfl,H,k,r⟩
  . exact .inl j
  . exact .inr ⟨g,c,C,rfl,H,(f.block g (a g rfl)).symm.trans k,r⟩
 exact ats d (λg H=>i g (d.1.lt g H).1 (a g H))
theorem XX(w:World)(a b:Value)(t:TypeId):∀j u,[a,b][j]? =some u->(w.alloc (.cells #[a,b] t)).cell? ((⟨w.heap.size,0,none⟩:Addr).add j)=some u:=by
 intro j u h;rw[Addr.add_mid,n?];have h1:(w.alloc (.cells #[a,b] t)).heap[w.heap.size]? =some (.cells #[a,b] t (0,0)):=(MapKept.heap_alloc w _).1;simp only[World.cell?,h1];simpa using h
end Go.DM
namespace Go.Proofs
open Go Go.Vg Go.Maps Go.RowKit Go.ChangeShapes Go.DM Go.WideMaps
theorem Tryz.ajs:Keyed Tryz.prog 9:=string_keyed Tryz.underlying9
def Tryz.aLL:(Tryz.prog.info? 3).map (λi=>(i.zero,i.size,i.bytes))=some (some (.int .i64 0),1,8):=by kernel_rfl
def Tryz.aDG:(Tryz.prog.info? 308).map (λi=>(i.zero,i.size,i.bytes))=some (some (.agg #[.string ⟨#[]⟩,.slice none 0 0]),2,40):=by kernel_rfl
def Tryz.ajt(w:World):(zeroValue 36).run Tryz.prog w= .ok (.slice none 0 0) w:=by kernel_rfl
def Tryz.atu(m:Option Nat)(W:World):Calls Tryz.prog 302 #[.map m] W λe w=>e= .returned (.func (.func 361) #[] #[.pointer (some ⟨W.heap.size,0,none⟩)])/\w=W.alloc (.cells #[.map m] 393):=callsIn_wide.1 (Tryz.SX m W)
set_option maxRecDepth 100000 in
set_option maxHeartbeats 4000000 in
theorem Tryz.abD {H:Type}(docs:O)(f t:Int)(da:Option Addr)(cap:Nat)(w:World)
  (hp:S.gb docs f t) (h4:∀j,(docs.getD j []).length<=2000) (dv:Nat->Value)
  (hd:∀j,j<docs.length->∃b o aj cj,da=some ⟨b,o,none⟩/\b<w.heap.size/\w.cell? ⟨b,o+j,none⟩=some (dv j)/\dv j= .slice aj (docs.getD j []).length cj)
  (rB:∀(j:Nat) (W:World),j<docs.length->Below w.heap.size w W->Calls Tryz.prog 300 #[dv j] W λe w'=>∃v,e= .returned v/\w'.ownsRow W.heap.size 9 1 v (S.gH docs 0 j).length ((S.gH docs 0 j).map encS)/\Below W.heap.size W w')
  (XY:∀(j:Nat),∀s∈S.gH docs 0 j,s.length<=maxLen):
  Calls Tryz.prog 193 #[.slice da docs.length cap,.agg #[.int .i64 f,.int .i64 t]] w λe w'=>∃v xs W1,e= .returned (.tuple #[v,.int .i64 0])/\Below w.heap.size w w'/\Below W1.heap.size W1 w'/\w.heap.size<=W1.heap.size/\
   w'.ownsRow W1.heap.size 308 2 v (S.make docs f t).length xs/\dZ (bJ W1 (λb=>w.heap.size<=b/\b<W1.heap.size) [.str,.slice [.int .i64]]) xs (S.make docs f t):=by
 have hmm:= @run_makeMap Tryz.prog;have h0:0<=f:=hp.1;have h1:f<=t:=hp.2.1;have h2:t<=docs.length:=hp.2.2.1;have h3:docs.length<=1000:=hp.2.2.2.1;obtain⟨i0,hi,hz0,hz1,hz2⟩:=info_parts Tryz.aLL;obtain⟨i1,hi1,hy0,hy1,hy2⟩:=info_parts Tryz.aDG;go_enter Tryz.func193,Tryz.ntmps193
 go_wp2
 go_loopw [39] (λi wr=>∃k:Nat,k<=docs.length/\i= .int .i64 k/\wr=w.alloc (.cells #[.int .i64 f,.int .i64 t] 84))
  (λi _=>docs.length-(intOf i).toNat)
 case atStart=>exact⟨0,S! _,rfl,rfl⟩
 case round=>
  obtain⟨k,hk,rfl,rfl⟩:=hrel;by_cases iT:k<docs.length
  . obtain⟨b,o,aj,cj,rfl,hb,hc,hv⟩:=hd k iT;rw[hv] at hc;have hl:=h4 k;generalize (docs.getD k []).length=n at hc hl
    have tq:(w.alloc (.cells #[.int .i64 f,.int .i64 t] 84)).cell? ⟨b,o+k,none⟩=some (.slice aj n cj):=by
     rw[<-hc];exact World.cell?_of_block ((World.grownBy_alloc w _ none).block b hb z!)
    clear hd rB;go_wp2
    go_roundw
    case rel=>exact⟨k+1,w!,by go_num,by first|rfl|trivial⟩
    case measure=>simp[intOf];omega
  . have :k=docs.length:=by omega
    subst this;clear iT;go_wp2
    go_loopw [9] (λi wr=>∃k:Nat,i= .int .i64 (f+k)/\f+k<=t/\∃(m:Nat) (D:DataW H),m<=4000*k/\wr.ownsGroups Tryz.prog 9 (w.heap.size+2) 3 .i64 (w.heap.size+1) m D/\Repr D (S.BJ docs f k 0)/\
      Below w.heap.size w wr/\wr.cell? ⟨w.heap.size,1,none⟩=some (.int .i64 t)/\w.heap.size+2<=wr.heap.size)
     (λi _=>(t-intOf i).toNat)
    case atStart=>
     have eH:(w.alloc (.cells #[.int .i64 f,.int .i64 t] 84)).heap.size=w.heap.size+1:=by simp
     have hg:=World.ownsGroups_made (H:=H) (w.alloc (.cells #[.int .i64 f,.int .i64 t] 84)) Tryz.prog 9 3 .i64;rw[eH] at hg;refine⟨0,z!,by simpa using h1,0,_,M! _,hg,Repr.empty.ext (λs=>(S.aGz docs f s).symm),((Below.refl _ _).alloc (M! _) _).alloc z! _,?_,z!⟩;rw[Jy];rfl
    case round=>
     obtain⟨k,rfl,hk,m,D,hm,jS,TG,hnx,atv,hws⟩:=hrel;by_cases iT:f+k<t
     . obtain⟨n,hn⟩:∃n:Nat,f+(k:Int)=n:=⟨(f+k).toNat,w!⟩;have hnl:n<docs.length:=by omega
       obtain⟨b,o,aj,cj,rfl,hb,hc,hv⟩:=hd n hnl;have hs:=rB n wr hnl hnx;rw[hv] at hs hc;have tq:wr.cell? ⟨b,o+n,none⟩=some (.slice aj (docs.getD n []).length cj):=(hnx.cell (by exact hb)).trans hc;have eL:S.gH docs 0 n=S.gH docs f k:=by unfold S.gH;rw[hn];simp
       rw[eL] at hs;have NP:=XY n;rw[eL] at NP;obtain⟨XZ,rfl⟩:∃x,x=wr:=⟨wr,rfl⟩;have hL:(S.gH docs f k).length<=4000:=by unfold S.gH;exact S.CY hp _
       simp only[hn] at hk |-;generalize (docs.getD n []).length=dl at tq hs;clear hd rB hc hv
       go_wp2_with (first
        |(go_at_call 300;refine hs.mono ?_;rintro e w1 ⟨vs,rfl,mO,F0⟩;obtain⟨av,cp,rfl,Vx⟩:=Lr mO)
        |go_in)
       have aLM:=yB jS F0;have aPo:w1.Shuns (w.heap.size+1) (λg=>(Value.slice av (S.gH docs f k).length cp).ownBlock=some g):=RV jS F0 (λg hg=>(mO.lt g hg).1);have aPp:Below w.heap.size w w1:=hnx.trans (F0.mono w!);have aLN:w1.cell? ⟨w.heap.size,1,none⟩=some (.int .i64 t):=(F0.cell (by show w.heap.size<XZ.heap.size;omega)).trans atv;have aPq:XZ.heap.size<=w1.heap.size:=F0.size;clear hs F0 tq
       go_loopw [62] (λi wq=>∃j:Nat,i= .int .i64 j/\j<=(S.gH docs f k).length/\∃(m2:Nat) (D2:DataW H),m2<=m+j/\wq.ownsGroups Tryz.prog 9 (w.heap.size+2) 3 .i64 (w.heap.size+1) m2 D2/\Repr D2 (S.BJ docs f k j)/\
         wq.Shuns (w.heap.size+1) (λg=>(Value.slice av (S.gH docs f k).length cp).ownBlock=some g)/\Below w.heap.size w wq/\wq.cell? ⟨w.heap.size,1,none⟩=some (.int .i64 t)/\
         wq.ownsRow XZ.heap.size 9 1 (.slice av (S.gH docs f k).length cp) (S.gH docs f k).length ((S.gH docs f k).map encS)/\XZ.heap.size<=wq.heap.size)
        (λi _=>(S.gH docs f k).length-(intOf i).toNat)
       case atStart=>exact⟨0,rfl,S! _,m,D,w!,aLM,TG,aPo,aPp,aLN,mO,aPq⟩
       case round=>
        obtain⟨j,rfl,hj,m2,D2,hm2,abE,X0,atw,atx,aty,abF,hwq⟩:=hrel;by_cases O9:j<(S.gH docs f k).length
        . obtain⟨g,rfl,hg1,EC⟩:=Vx w!;have ov:=UZ abF O9;rw[Nat.zero_add] at ov;have U1:=Ć (P:=Tryz.prog) Tryz.underlying9 (NP _ (S.aU _ j [] O9));have aFn:=S.apa (docs:=docs) (a:=f) (k:=k) O9;have atz:=λs=>S.ak6 (docs:=docs) (a:=f) (k:=k) (j:=j) O9 (s:=s);have aLO:=S.apb docs f k j ((S.gH docs f k).getD j []);unfold Vg.encS at ov;generalize (S.gH docs f k).getD j []=sj at ov U1 aFn atz aLO;have aPr:g<wr.heap.size:=(abF.lt g rfl).2;have aju:m2<maxLen:=by unfold maxLen;omega
          clear XY NP Vx
          go_wp2_with (first
           |(at_lookup;refine wpList_lookup_groups_shuns _ rfl _ _ 393 rfl 9 36 3 .i64 Tryz.ajs Tryz.underlying393 (Tryz.ajt _) (w.heap.size+2) (w.heap.size+1) m2 _ rfl abE aju _ _ rfl U1 ?_;intro v zs hat yQ hzl atA Vu)
           |(at_builtin;refine wpList_append_own_at _ rfl _ _ 36 rfl (w.heap.size+2) 3 i0 (.int .i64 0) 1 8 Tryz.underlying36 hi hz0 hz1 hz2 rfl (by decide) _ _ _ rfl (yQ.1.alloc _) ⟨wr.heap.size,0,none⟩ 1 1 [.int .i64 n] rfl rfl (cell_one_new _ _ _) (ints_oneCell .i64 [(n:Int)]) (by unfold maxLen;omega) w! (by simp;omega) ?_;intro v' w3 atB X1 LH OW)
           |(at_mapUpdate;have rS:=aDF Vu atw OW aPr;refine wpList_mapUpdate_back_shuns _ rfl _ _ _ 393 rfl Tryz.ajs Tryz.underlying393 U1 abE aju yQ atw rS atA rfl rfl rfl ((World.grownBy_alloc _ _ _).trans X1) (yQ.appended atB (WalkArith.wf_i64 w!)) (by simp;omega) (OW.imp id (λh=>⟨_,h,z!⟩)) ?_;intro w4 aLP NQ aPs)
           |go_in)
          have lP:=(World.grownBy_alloc wr _ _).trans X1;have hw3:wr.heap.size<=w3.heap.size:=lP.size;have hvb:∀g',v.ownBlock=some g'->w.heap.size+2<=g':=λg' yR=>(yQ.1.lt g' yR).1;refine⟨⟨j+1,by go_num,w!,m2+1,_,w!,aLP,?_,aPs,?_,?_,?_,?_⟩,by simp[intOf];omega⟩
          . refine X0.put (yQ.appended atB (WalkArith.wf_i64 w!)) z! ?_ atz;rw[aFn,hn];have:=Hb (H:=H) yQ;rw[<-hat,(X0.2 sj).1] at this;rw[this]
          . exact atx.groups yQ lP NQ atx.size w! w!
          . refine ą NQ (by show w.heap.size<w3.heap.size;omega) (by show some w.heap.size≠some (w.heap.size+1);simp) (ą lP (by show w.heap.size<wr.heap.size;omega) ?_ aty);show some w.heap.size≠v.ownBlock;intro h;have:=hvb _ h.symm;omega
          . refine(abF.kept lP (.inr ?_)).kept NQ (.inr ?_)
            . intro h;exact Vu _ atw g h.symm rfl
            . intro h;simp only[Value.ownBlock,A!] at h;omega
          . exact b? hwq (b? hw3 NQ.size)
        . have :j=(S.gH docs f k).length:=by omega
          subst this;clear O9 XY NP;have aLQ:=X0.ext (λs=>S.ak7 (docs:=docs) (a:=f) (k:=k) (j:=(S.gH docs f k).length) w! s);clear X0;go_wp2
          exact⟨⟨k+1,by rw[show f+((k+1:Nat):Int)=(n:Int)+1 by omega],w!,m2,D2,w!,abE,aLQ,atx,aty,w!⟩,by simp[intOf];omega⟩
     . have VN:t=f+k:=by omega
       have hkk:(t-f).toNat=k:=by omega
       have Ie:=RW jS;have hcS:=callsIn_wide.1 (Tryz.wW (w.heap.size+1) m D _ wr Ie (by have:=Ls Ie;unfold maxLen;omega) (by have:=Ls Ie;omega));have Kn:=λ(ss:O) (hss:ss.Perm (strKeys D))=>alR (docs:=docs) (f:=f) (t:=t) Ie Tryz.ajs Tryz.underlying9 (by rw[hkk];exact TG) hss;obtain⟨XZ,rfl⟩:∃x,x=wr:=⟨wr,rfl⟩;clear hd rB XY;subst VN
       go_wp2_with (first
        |(go_at_call 302;refine(Tryz.atu _ _).mono ?_;rintro e w4 ⟨rfl,rfl⟩)
        |(go_at_call 301;refine hcS.mono ?_;rintro e w5 ⟨vs,ss,rfl,hS,mO,LH,hb5⟩;obtain⟨hk3,hk4,EB,hk6⟩:=Kn ss hS;rw[hk3,hk4] at mO;obtain⟨av,cp,rfl,Vx⟩:=Lr mO)
        |go_in)
       have atC:Below XZ.heap.size XZ w5:=((Below.refl _ XZ).alloc (M! _) _).trans (hb5.mono z!);have atD:=yB jS atC;have aPw:Below w.heap.size w w5:=hnx.trans (atC.mono w!);have aSf:XZ.heap.size<=w5.heap.size:=atC.size;clear hcS Kn Ie hb5 jS hS LH hk3
       go_loopw [12,79] (λd i wq=>∃j:Nat,i= .int .i64 j/\j<=(S.b8 docs f (f+k)).length/\∃xs,wq.ownsRow w5.heap.size 308 2 d j xs/\
         dZ (bJ w5 (λb=>w.heap.size<=b/\b<w5.heap.size) [.str,.slice [.int .i64]]) xs (S.mS docs f (f+k) j)/\Below w5.heap.size w5 wq)
        (λ_ i _=>(S.b8 docs f (f+k)).length-(intOf i).toNat)
       case atStart=>exact⟨0,rfl,S! _,[],World.ownsRow_nil _ _ _ _,rfl,Below.refl _ _⟩
       case round=>
        obtain⟨j,rfl,hj,xs,abG,ć,HO⟩:=hrel;by_cases O9:j<(S.b8 docs f (f+k)).length
        . obtain⟨g,rfl,hg1,EC⟩:=Vx w!;have ajv:=UZ mO O9;have ov:wr.cell? ⟨g,0+j,none⟩=some (Vg.encS ((S.b8 docs f (f+k)).getD j [])):=(HO.cell EC).trans ajv;rw[Nat.zero_add] at ov;have Kn:=EB _ (S.aU _ j [] O9);have U1:=Ć (P:=Tryz.prog) Tryz.underlying9 Kn;have atE:=λtt (ht:(S.b8 docs f (f+k)).getD j []=tt)=>S.IN (docs:=docs) (a:=f) (b:=f+k) (k:=j) (j:=k) O9 hkk.symm ht;unfold Vg.encS at ov;have aLR:=yB atD HO;have aPx:wr.Shuns (w.heap.size+1) (λg=>w5.heap.size<=g):=RV atD HO (λg hg=>hg);have aPy:=λs=>(TG.2 s).1;generalize (S.b8 docs f (f+k)).getD j []=sj at ov U1 Kn atE;have aju:m<maxLen:=by unfold maxLen;omega
          clear ajv EB
          go_wp2_with (first
           |(at_lookup;refine wpList_lookup_groups_shuns _ rfl _ _ 393 rfl 9 36 3 .i64 Tryz.ajs Tryz.underlying393 (Tryz.ajt _) (w.heap.size+2) (w.heap.size+1) m _ rfl aLR aju _ _ rfl U1 ?_;intro v zs hat yQ hzl atA Vu;obtain⟨av2,cp2,rfl,aSg⟩:=Lr yQ.1)
           |(at_builtin;refine wpList_append_own_at _ rfl _ _ 85 rfl w5.heap.size 308 i1 (.agg #[.string ⟨#[]⟩,.slice none 0 0]) 2 40 Tryz.underlying85 hi1 hy0 hy1 hy2 rfl (by decide) _ j xs rfl (abG.alloc _) ⟨wr.heap.size,0,none⟩ 1 1 [.string ⟨sj.toArray⟩,.slice av2 zs.length cp2] rfl rfl (XX _ _ _ _) (by intro u hu;simp at hu;rcases hu with rfl|rfl<;>rfl) (by unfold maxLen;omega) w! (by have:=HO.size;simp;omega) ?_;intro v' w6 aLS X1 LH OW)
           |go_in)
          have sP:Rd w5 (λb=>w.heap.size<=b/\b<w5.heap.size) (.slice [.int .i64]) (.slice av2 zs.length cp2) zs:=
           att yQ HO (λg' yR=>by have:=Vu _ aPx g' yR;omega) (λg' h1 h2=>⟨w!,h2⟩)
          have hz:zs=S.bA docs f sj k:=by
           have e1:=Hb (H:=H) yQ;rw[<-hat,aPy] at e1;rw[<-e1];simp[S.BJ]
          have lP:=(World.grownBy_alloc wr (.cells #[.string ⟨sj.toArray⟩,.slice av2 zs.length cp2] 308) _).trans X1;refine⟨⟨j+1,by go_num,w!,xs++[.string ⟨sj.toArray⟩,.slice av2 zs.length cp2],aLS,?_,?_⟩,by simp[intOf];omega⟩
          . rw[<-atE sj rfl,<-hz];exact U0 _ _ _ _ ć (alS Kn sP)
          . exact HO.grown lP HO.size (λg' yR=>(abG.lt g' yR).1)
        . have hje:j=(S.b8 docs f (f+k)).length:=by omega
          subst hje;rw[S.Mk w!] at ć;clear Vx EB;go_wp2
          go_ret2
          refine⟨_,xs,w5,rfl,aPw.trans (HO.mono w!),HO,w!,?_,ć⟩;have hml:(S.make docs f (f+k)).length=(S.b8 docs f (f+k)).length:=by simp[S.make]
          rw[hml];exact abG
set_option maxRecDepth 100000 in
set_option maxHeartbeats 4000000 in
def Tryz.abH(docs:O)(f t:Int)(da:Option Addr)(cap:Nat)(w:World)(hc:1000<docs.length\/f<0\/t<f\/(docs.length:Int)<t):
  Calls Tryz.prog 193 #[.slice da docs.length cap,.agg #[.int .i64 f,.int .i64 t]] w λe w'=>e= .returned (.tuple #[.slice none 0 0,.int .i64 1])/\Below w.heap.size w w':=by
 generalize docs.length=n at hc;go_enter Tryz.func193,Tryz.ntmps193
 go_wp2
 all_goals (go_ret2;exact⟨rfl,(Below.refl _ _).alloc (M! _) _⟩)
set_option maxRecDepth 100000 in
set_option maxHeartbeats 4000000 in
def Tryz.abI(docs:O)(f t:Int)(da:Option Addr)(cap:Nat)(w:World)(h0:0<=f)(h1:f<=t)(h2:t<=docs.length)(h3:docs.length<=1000)(dv:Nat->Value)
  (hd:∀j,j<docs.length->∃b o aj cj,da=some ⟨b,o,none⟩/\b<w.heap.size/\w.cell? ⟨b,o+j,none⟩=some (dv j)/\dv j= .slice aj (docs.getD j []).length cj)
  (hc:¬∀j,j<docs.length->(docs.getD j []).length<=2000):
  Calls Tryz.prog 193 #[.slice da docs.length cap,.agg #[.int .i64 f,.int .i64 t]] w λe w'=>e= .returned (.tuple #[.slice none 0 0,.int .i64 1])/\Below w.heap.size w w':=by
 go_enter Tryz.func193,Tryz.ntmps193
 go_wp2
 go_loopw [39] (λi wr=>∃k:Nat,k<=docs.length/\i= .int .i64 k/\wr=w.alloc (.cells #[.int .i64 f,.int .i64 t] 84)/\∀j,j<k->(docs.getD j []).length<=2000)
  (λi _=>docs.length-(intOf i).toNat)
 case atStart=>exact⟨0,S! _,rfl,rfl,λj hj=>by omega⟩
 case round=>
  obtain⟨k,hk,rfl,rfl,lP⟩:=hrel;by_cases iT:k<docs.length
  . obtain⟨b,o,aj,cj,rfl,hb,mD,hv⟩:=hd k iT;rw[hv] at mD
    have tq:(w.alloc (.cells #[.int .i64 f,.int .i64 t] 84)).cell? ⟨b,o+k,none⟩=some (.slice aj (docs.getD k []).length cj):=by
     rw[<-mD];exact World.cell?_of_block ((World.grownBy_alloc w _ none).block b hb z!)
    clear hd mD hv hc;by_cases hl:(docs.getD k []).length<=2000
    . have O6:∀j,j<k+1->(docs.getD j []).length<=2000:=λj hj=>by
       by_cases e:j=k
       . subst e;exact hl
       . exact lP j w!
      clear lP;generalize (docs.getD k []).length=n at tq hl;go_wp2
      go_roundw
      case rel=>exact⟨k+1,w!,by go_num,by first|rfl|trivial,O6⟩
      case measure=>simp[intOf];omega
    . clear lP;generalize (docs.getD k []).length=n at tq hl;go_wp2
      go_ret2
      exact⟨rfl,(Below.refl _ _).alloc (M! _) _⟩
  . exact absurd (λj hj=>lP j w!) hc
end Go.Proofs
namespace Go.S
variable {docs:List B8}
theorem Ĉ{a:Int}{j:Nat}:∀s∈gH docs a j,s.length<=maxLen:=λs H=>by
 have h:=(ir _ _).1 H;simp only[aS,List.mem_map] at h;obtain⟨w,_,rfl⟩:=h;have:=Ec w [] z!;unfold fe maxLen;omega
def alT{f t:Int}(h:dm docs f t=true):gb docs f t/\∀j,(docs.getD j []).length<=2000:=by
 simp only[dm,B!,V!,H!] at h;obtain⟨H,i,a,b,c⟩:=h;refine⟨⟨a,b,c,w!,λd e=>by have:=H d e;omega⟩,λj=>?_⟩;by_cases g:j<docs.length
 . have:=H _ (aU docs j [] g);omega
 . rw[E!,List.getElem?_eq_none w!];simp
end Go.S
namespace Go.DM
open Go Go.Vg Go.Maps Go.RowKit Go.Proofs
def ajw {w:World}{A:Nat->Prop}{τ:Ty}:∀(l:M (D τ)) (c:M Value),dZ (bJ w A [τ]) c l->c.length=l.length/\∀(j:Nat) (x:D τ),l[j]? =some x->Rd w A τ (c.getD j undef) x
 |[],c,h=>by simp only[dZ] at h;subst h;exact⟨rfl,λj x H=>by simp at H⟩
 |y::l,c,⟨c1,c2,a,h1,b⟩=>by
  subst a;simp only[bJ] at h1;obtain⟨v,C,rfl,d,rfl⟩:=h1;obtain⟨g1,g⟩:=ajw l c2 b;refine⟨by simp[g1],λj x H=>?_⟩;cases j with
  |zero=>simp at H;subst H;exact d
  |succ j=>simpa using g j x (by simpa using H)
theorem X2(b:B8):J5 [.one (.slice [.int .u8])] [.sl [.int .u8] b]=some b:=rfl
set_option maxRecDepth 100000 in
def ĉ {G:Nat->Option GD}{Fs:Row (PS.flat [.one (.slice [.int .u8])])->Prop×AV×M AB}(rB:Valid Tryz.prog G 300 (fo [.one (.slice [.int .u8])] Fs))
  (Y:∀b:B8,Fs b=(S.small b,.own 0,[.row 9 [.str] (S.sorted (S.aS b)) false]))
  {F:Row (PS.flat [.one (.slice [.slice [.int .u8]]),.agg [.int .i64,.int .i64]])->Prop×AV×M AB}
  (hF:∀(D:O) (f t:Int),F (D,f,t)=(True,.bk [.sl [.str,.slice [.int .i64]] (S.lH D f t).1,.int .i64 ((S.lH D f t).2:Int)],[])):
  Valid Tryz.prog G 193 (fo [.one (.slice [.slice [.int .u8]]),.agg [.int .i64,.int .i64]] F):=by
 intro w A Q p bm pre res bs q hG bQ n hp;unfold fo at n;split at n
 . rename_i x T;obtain⟨D,f,t⟩:=x;change O at D;change Int at f;change Int at t;have Z:=n;rw[hF D f t] at Z;simp only[A!,Prod.mk.injEq] at Z;obtain⟨rfl,rfl,rfl⟩:=Z;obtain⟨g1,g2⟩:=vM _ T bQ;clear n hp T bQ g2;change ae w A Q p [.sl [.slice [.int .u8]] D,.agg [.int .i64 f,.int .i64 t]] at g1;simp only[ae,aa] at g1;obtain⟨vd,cr,rfl,r,va,aPl,rfl,⟨arr,rfl,HT⟩,rfl⟩:=g1;obtain⟨u1,us,e1,⟨rfl,hf⟩,u2,JJ,rfl,⟨rfl,ht⟩,rfl⟩:=HT;obtain rfl :arr= #[.int .i64 f,.int .i64 t]:=by apply Array.ext';simpa using e1
   simp only[Rd] at r;obtain⟨a,C,y,rfl,Tf,XT,ć,aw⟩:=r;obtain⟨mD,eY⟩:=ajw (τ:=.slice [.int .u8]) D y ć
   have hd:∀j,j<D.length->∃b o aj cj,a=some ⟨b,o,none⟩/\b<w.heap.size/\w.cell? ⟨b,o+j,none⟩=some (y.getD j undef)/\y.getD j undef= .slice aj (D.getD j []).length cj:=by
    intro j B;obtain⟨b,o,rfl,Na,U⟩:=aw (by intro h;rw[h] at mD;simp at mD;omega);have V:=eY j (D.getD j []) (by rw[E!,C! B];rfl);simp only[Rd] at V;obtain⟨aj,cj,gu,h2,_⟩:=V;refine⟨b,o,aj,cj,rfl,q b Na,U j _ ?_,h2⟩;rw[E!,C! w!];rfl
   show Calls Tryz.prog 193 #[.slice a D.length C,.agg #[.int .i64 f,.int .i64 t]] w _
   have bad:Calls Tryz.prog 193 #[.slice a D.length C,.agg #[.int .i64 f,.int .i64 t]] w (λe l=>e= .returned (.tuple #[.slice none 0 0,.int .i64 1])/\Below w.heap.size w l)->S.dm D f t=false->
     Calls Tryz.prog 193 #[.slice a D.length C,.agg #[.int .i64 f,.int .i64 t]] w (λe l=>∃v,e= .returned v/\∃A' aC,nO w A l v (.bk [.sl [.str,.slice [.int .i64]] (S.lH D f t).1,.int .i64 ((S.lH D f t).2:Int)]) [] A' aC):=by
    intro E m;refine E.mono λe l ⟨I,k⟩=>⟨_,I,A,Q,{os:=k.os,tape:=k.tape,output:=k.output,size:=k.size,same:=k.block,mono:=λ_ h=>h,gG:=λ_ _ h=>h,bound:=λb h=>Nat.lt_of_lt_of_le (q b h) k.size,res:= ?_,rows:=λi ab hi=>by simp at hi,apart:=λi j b hi=>by simp at hi}⟩;have e2:S.lH D f t=([],1):=by unfold S.lH;rw[m];rfl
    rw[e2];simp only[aa,ae];refine⟨_,rfl,_,_,rfl,?_,_,_,rfl,⟨rfl,by simp only[lo,hi];omega⟩,rfl⟩;simp only[Rd];exact⟨none,0,[],rfl,M! _,S! _,rfl,λh=>absurd rfl h⟩
   cases R:S.dm D f t with
   |false=>
    refine bad ?_ R;by_cases E:1000<D.length\/f<0\/t<f\/(D.length:Int)<t
    . exact Tryz.abH D f t a C w E
    . refine Tryz.abI D f t a C w w! w! w! w! _ hd λlP=>?_
      have :S.dm D f t=true:=by
       simp only[S.dm,B!,V!,H!];refine⟨λd sQ=>?_,w!,w!,w!,w!⟩;obtain⟨i,gl,rfl⟩:=l? sQ;have:=lP i gl;rw[E!,C! gl] at this;simp only[Option.getD_some] at this;omega
      rw[this] at R;cases R
   |true=>
    obtain⟨hmp,h4⟩:=S.alT R
    have aLT:∀(j:Nat) (W:World),j<D.length->Below w.heap.size w W->Calls Tryz.prog 300 #[y.getD j undef] W λe l=>∃v,e= .returned v/\l.ownsRow W.heap.size 9 1 v (S.gH D 0 j).length ((S.gH D 0 j).map Vg.encS)/\Below W.heap.size W l:=by
     intro j W B hW;have X:bI w W A A:=λb m=>⟨m,hW.block b (q b m)⟩;have V:=sM X _ _ _ (eY j (D.getD j []) (by rw[E!,C! B];rfl))
     have h2:=rB W A Q [y.getD j undef] [.sl [.int .u8] (D.getD j [])] (S.small (D.getD j [])) (.own 0) [.row 9 [.str] (S.sorted (S.aS (D.getD j []))) false]
      (λb m=>Y! (q b m) hW.size) (λi d hi=>(hG i d hi).mono X) (by simp only[ae,aa];exact⟨_,_,rfl,V,rfl⟩)
      (by unfold fo;rw[X2];simp only[Y]) (by have:=h4 j;unfold S.small;omega)
     refine h2.mono λe l ⟨v,I,A',aC,z⟩=>⟨v,I,?_,z.os,z.tape,z.output,z.size,z.same⟩;have U:=z.res;simp only[aa] at U;obtain⟨⟨xs,J,sP,_⟩,K⟩:=z.rows 0 _ rfl;obtain⟨rfl,_⟩:=DE _ xs sP;have eK:S.gH D 0 j=S.sorted (S.aS (D.getD j [])):=by unfold S.gH;simp
     rw[eK,U.1];refine⟨J.1,?_⟩;rcases J.2 with hn|⟨g,lq,L,hv,_,N⟩
     . exact .inl hn
     . exact .inr ⟨g,lq,L,hv,K g (by rw[hv];rfl),N⟩
    refine(Tryz.abD (H:=Unit) D f t a C w hmp h4 _ hd aLT (λj s n=>S.Ĉ s n)).mono λe l ⟨v,xs,W1,I,k,P,hW1,J,sP⟩=>?_;have e2:S.lH D f t=(S.make D f t,0):=by unfold S.lH;rw[R];rfl
    rw[e2];refine⟨_,I,λb=>A b\/(w.heap.size<=b/\b<l.heap.size),Q,{os:=k.os,tape:=k.tape,output:=k.output,size:=k.size,same:=k.block,mono:=λ_ h=>.inl h,gG:=λb m h=>?_,bound:=λb h=>?_,res:= ?_,rows:=λi ab hi=>by simp at hi,apart:=λi j b hi=>by simp at hi}⟩
    . rcases h with h|h
      . exact h
      . omega
    . rcases h with h|h
      . exact Y! (q b h) k.size
      . exact h.2
    . simp only[aa,ae];refine⟨_,rfl,_,_,rfl,?_,_,_,rfl,⟨rfl,by simp only[lo,hi];omega⟩,rfl⟩;have X:bI W1 l (λb=>w.heap.size<=b/\b<W1.heap.size) (λb=>A b\/(w.heap.size<=b/\b<l.heap.size)):=λb m=>⟨.inr ⟨m.1,Y! m.2 P.size⟩,P.block b m.2⟩;have aPA:=bR (λc x T=>bE X _ c x T) _ _ sP;simp only[Rd];rcases J.2 with⟨rfl,h0⟩|⟨g,lq,L,rfl,hg,hh,hn,E,eH,B1⟩
      . have hm0:S.make D f t=[]:=P?.1 h0;rw[hm0];exact⟨none,0,[],rfl,M! _,S! _,rfl,λh=>absurd rfl h⟩
      . refine⟨some ⟨g,0,none⟩,lq,xs,rfl,hn,E,aPA,λ_=>⟨g,0,rfl,.inr ⟨w!,(P!.1 hh).1⟩,λj u B=>?_⟩⟩;have:=J.cells (g:=g) rfl j u B;rwa [Addr.add_mid] at this
 . cases n
end Go.DM
namespace Go.Vg
open Go
variable [HP]
theorem ZR.trans {w W a:World}{p:Value}:∀ {z b c:Z},ZR w p W z b->ZR W p a b c->ZR w p a z c
 |.n,.n,.n,_,_|.s _,.s _,.s _,_,_=>trivial
 |.g _ _ _,.g _ _ _,.g _ _ _,⟨h1,H,d⟩,⟨g1,g2,g3⟩=>⟨h1.trans g1,H.trans g2,λv h=>g3 v (d v h)⟩
theorem tZ.trans {w W a:World}{A S c s d e:Nat->Prop}{p V v:Value}{z:Z}{r R:AV×Z}(h:tZ w A S z W c s p V r)(g:tZ W c s r.2 a d e p v R):tZ w A S z a d e p v R where
 kin:=h.kin.trans g.kin
 os:=g.os.trans h.os
 tape:=g.tape.trans h.tape
 output:=g.output.trans h.output
 size:=b? h.size g.size
 same b hb hs:=(g.same b (Y! hb h.size) λM=>(h.NW b M).1.elim hs λh=>absurd hb w!).trans (h.same b hb hs)
 mono b hb:=g.mono b (h.mono b hb)
 gG b hb ha:=h.gG b hb (g.gG b (Y! hb h.size) ha)
 bound:=g.bound
 NW b hb:=⟨(g.NW b hb).1.elim (λH=>(h.NW b H).1) λH=>.inr (b? h.size H),(g.NW b hb).2⟩
 res:=g.res
 hb:=g.hb
variable {A S:Nat->Prop}{p:Value}{w:World}{z:Z}{P:Program}{f:FuncId}{β:Nat->Value}
theorem tZ.zero(a:∀b,A b->b<w.heap.size)(c:∀b,S b->¬A b/\b<w.heap.size)(h:HB w S p z):tZ w A S z w A S p undef (.undef,z):=
 ⟨ZR.refl (λ_ _=>rfl) h,rfl,rfl,rfl,M! _,λ_ _ _=>rfl,λ_ h=>h,λ_ _ h=>h,a,λb H=>⟨.inl H,c b H⟩,λ_=>rfl,h⟩
def U2 {w:World}{A:Nat->Prop}{p:Value}:∀ {X:M Value} {l:M CF} {k:Nat} {F:CF},ng w A p X l->l[k]? =some F->∃v,X[k]? =some v/\BN w A p v F
 |x::X,G::l,0,F,h,hk=>by
  simp only[Z?,A!] at hk;subst hk;exact⟨x,rfl,h.1⟩
 |x::X,G::l,k+1,F,h,hk=>U2 (k:=k) h.2 (by simpa using hk)
 |[],[],k,F,_,hk=>by cases hk
structure PI (w:World) (A S:Nat->Prop) (p:Value) (l:List CF) (z:Z) (k:Nat) (w':World):Prop where
 at_:∃A' S' z',tZ w A S z w' A' S' p undef (.undef,z')/\(bX (l.drop k) z').1/\(bX (l.drop k) z').2=(bX l z).2
theorem PI.step(C:HP.is P){W:World}{l:M CF}{k:Nat}{x:M Value}(h:PI w A S p l z k W)(i:ng w A p x l)(D:∀b,A b->b<w.heap.size)(E:∀b,S b->¬A b/\b<w.heap.size)(u:k<l.length):
  ∃f n o,x[k]? =some (.func (.func f) n o)/\aMw P f/\Calls P f (n++o) W λe j=>∃c:Bool,e= .returned (.bool c)/\(c=true->PI w A S p l z (k+1) j)/\(c=false->∃A' s,tZ w A S z j A' s p undef (.undef,(bX l z).2.2)/\(bX l z).2.1=false):=by
 obtain⟨A',s,Z,H,q,a⟩:=h.at_;have y:l[k]? =some l[k]:=C! u;obtain⟨v,I,d⟩:=U2 i y;have hd:l.drop k=l[k]::l.drop (k+1):=T? u;rw[hd] at q a;generalize l[k]=F at d q a y hd;simp only[bX] at q a;obtain⟨Q,q1,B⟩:=q
 obtain⟨c,q1⟩:∃c,(F Z).2.1= .bool c:=by
  revert q1;cases (F Z).2.1<;>simp[isB]
 obtain⟨O,R|⟨f,n,o,rfl,d⟩⟩:=d
 . exact absurd Q (R Z)
 obtain⟨J,d⟩:=d P C;refine⟨f,n,o,I,J,?_⟩;have K:bI w W A A':=λb m=>⟨H.mono b m,H.same b (D b m) λL=>(E b L).1 m⟩;refine(d W A' Z s K H.bound (λb m=>(H.NW b m).2) H.hb Q).mono λe j ⟨v,N,r,t,g⟩=>?_;have V:v= .bool c:=by have:=g.res (λ_=>undef);rw[q1] at this;exact this
 subst V;refine⟨c,N,λi=>?_,λi=>?_⟩
 . subst i;simp only[q1,bv,K!] at B a;have G:tZ W A' s Z j r t p undef (.undef,(F Z).2.2):={g with res:=λ_=>rfl};exact⟨r,t,_,H.trans G,B trivial,a⟩
 . subst i;simp only[q1,bv,N!] at a;have G:tZ W A' s Z j r t p undef (.undef,(F Z).2.2):={g with res:=λ_=>rfl};rw[<-a];exact⟨r,t,H.trans G,rfl⟩
def tX{o:Array Oper}{Q:Exit->Act->World->Prop}{a:Act}{r:M Oper}{d:Option Tmp}{x:Operand}{t:TypeId}{p:String}{A:Array Edge}{f:FuncId}{b c:Array Value}
  (hx:a.eval x= .func (.func f) b c) (H:aMw P f) (h:Calls P f (b++c) w λe W=>∃v,e= .returned v/\wpList P o Q r (a.put d v) W):
  wpList P o Q (⟨d,.call ⟨.value x, #[], #[]⟩,t,p,A,none⟩::r) a w:=by
 have i:(execOp a.eval ⟨d,.call ⟨.value x, #[], #[]⟩,t,p,A,none⟩).run P w= .ok (.enter f (b++c)) w:=by
  have:=H (b++c) w;simp only[execOp,resolve,hx,Deferred.ofValue,Sem.run_bind,Sem.run_pure,Result.andThen_ok,invoke];simpa using this
 have g:Region.wanted ⟨d,.call ⟨.value x, #[], #[]⟩,t,p,A,none⟩ (yielded o a.tmps)=true:=rfl;refine wpList_step λK j=>?_;rw[if_pos g];unfold Oper.wp;rw[i];refine h.mono λe W ⟨v,k,l⟩=>?_;subst k;exact j _ _ l
def WalkC(P:Program)(f:FuncId):Prop:=∀(w:World) (A S:Nat->Prop) (p:Value) (l:M CF) (z:Z) (x:M Value) (B c:Nat) (a:Option Addr),(∀b,A b->b<w.heap.size)->(∀b,S b->¬A b/\b<w.heap.size)->HB w S p z->
    (bX l z).1->ng w A p x l->l.length<=maxLen->(l≠ []->B<w.heap.size/\¬S B/\w.rangeAt B 0 x)->(l≠ []->a=some ⟨B,0,none⟩)->
    Calls P f #[.slice a l.length c] w λe W=>e= .returned (.int .i64 (bif (bX l z).2.1 then 0 else 6))/\∃d s,tZ w A S z W d s p undef (.undef,(bX l z).2.2)
def WalkC.dO(a:WalkC P f){e k0:Nat}{k:Option Nat}{l:M CF}{z:Z}(c:∀b,A b->b<w.heap.size)(d:∀b,S b->¬A b/\b<w.heap.size)(i:HB w S p z)
  (q:(bX l z).1) (r:BR w A β k0 (.dO e k l)) (m:∀j,k=some j->p=β j) (H:∀b,ah (β k0)=some b->¬S b):
  Calls P f #[β k0] w λe W=>e= .returned (.int .i64 (bif (bX l z).2.1 then 0 else 6))/\∃s t,tZ w A S z W s t p undef (.undef,(bX l z).2.2):=by
 obtain⟨x,n,y,o⟩:=r;rcases n.2 with⟨g1,G⟩|⟨g,C,u,g1,_,v,B,D,_,_⟩
 . rw[g1];have :l=[]:=D? G;subst this;exact a w A S p [] z x 0 0 none c d i q (o p m) z! (λh=>absurd rfl h) (λh=>absurd rfl h)
 . rcases jm n with⟨q1,_⟩|⟨b,L,q1,E,F,Q⟩
   . rw[q1] at g1;cases g1
   . rw[q1];rw[q1] at g1;simp only[Value.slice.injEq,A!,Addr.mk.injEq,and_true] at g1;obtain⟨rfl,_,_⟩:=g1;exact a w A S p l z x b L _ c d i q (o p m) w! (λ_=>⟨(P!.1 v).1,H b (by rw[q1];rfl),Q⟩) (λ_=>rfl)
def RY {w:World}{S:Nat->Prop}{e:Nat}:∀n,o8 w S e (List.replicate n (.slice none 0 0)) (List.replicate n [])
 |0=>trivial
 |n+1=>⟨World.ownsRow_nil w 0 e 1,z!,nofun,RY n⟩
def U3 {w:World}{A:Nat->Prop}{β:Nat->Value}:∀ {n:Nat} {x:M Value},ae w A β x (List.replicate n .nil)->x=List.replicate n (.slice none 0 0)
 |0,x,h=>h
 |n+1,x,h=>by
  obtain⟨v,V,rfl,h1,H⟩:=h;rw[U3 H,List.replicate_succ];rw[show v=_ from h1]
def U4 {w:World}{S A:Nat->Prop}{e:Nat}:∀ {X:M Value} {l:M U},(∀u∈X,∀b,ah u=some b->A b)->o8 w S e X l->dZ (bJ w A [.slice [.int .i64]]) X l
 |[],[],_,_=>rfl
 |v::vs,x::l,H,⟨h1,a,d,i⟩=>by
  refine⟨[v],vs,rfl,⟨v,[],rfl,?_,rfl⟩,U4 (λu j=>H u (F! _ j)) i⟩
  have s:dZ (bJ w A [.int .i64]) (x.map (Value.int .i64)) x:=by
   clear h1 d;induction x with
   |nil=>rfl
   |cons n x I=>exact⟨[_],_,rfl,⟨_,[],rfl,⟨rfl,a n (G! ..)⟩,rfl⟩,I λm k=>a m (F! _ k)⟩
  rcases jm h1 with⟨g1,g⟩|⟨b,c,g1,g,G,o⟩
  . have :x=[]:=D? g;subst this;exact⟨none,0,[],g1,M! _,z!,rfl,λh=>absurd rfl h⟩
  . exact⟨_,c,_,g1,g,G,s,λ_=>⟨b,0,rfl,H v (G! ..) b (by rw[g1];rfl),o⟩⟩
def o8.mem {w:World}{S:Nat->Prop}{e:Nat}:∀ {X:M Value} {l:M U},o8 w S e X l->∀u∈X,∀b,ah u=some b->S b
 |v::vs,x::l,⟨_,_,h,H⟩,u,hu,b,hb=>by
  rcases O!.1 hu with rfl|hu
  . exact(h b hb).1
  . exact o8.mem H u hu b hb
 |[],_,_,u,hu,_,_=>by cases hu
def aLV{k b:Nat}{l:AB}(h:BR w A β k l)(H:ah (β k)=some b):b<w.heap.size:=by
 cases l with
 |mp B es ck=>
  obtain⟨h1,a,_⟩:=h;rw[h1] at H;simp only[ah,A!] at H;subst H;exact(P!.1 a).1
 |arr _ _|fvar _ _|cells _=>
  obtain⟨m,arr,e,h1,a,_⟩:=h;rw[h1] at H;simp only[ah,A!] at H;subst H;exact(P!.1 a).1
 |row _ _ _ _|views _ _ _ _ _|dO _ _ _|bm _ _ _ _|eG _ _ _ _=>
  obtain⟨x,h1,_⟩:=h;rcases h1.2 with⟨c,_⟩|⟨g,C,d,i,_,j,_⟩
  . rw[c] at H;simp[ah] at H
  . rw[i] at H;simp only[ah,A!] at H;subst H;exact(P!.1 j).1
 |iE _ _ _ _ _=>
  obtain⟨x,v,h1,_⟩:=h;rcases h1.2 with⟨c,_⟩|⟨g,C,d,i,_,j,_⟩
  . rw[c] at H;simp[ah] at H
  . rw[i] at H;simp only[ah,A!] at H;subst H;exact(P!.1 j).1
def Lt(b:Bool):aa w A β (.int .i64 (bif b then 0 else 6)) (TK b):=by
 cases b<;>exact⟨rfl,by decide,by decide⟩
def SY{G:Nat->Option GD}{E:Nat}(hw:WalkC P f):aJ P G f (Ix E):=by
 intro w A β o bm d r L hG bQ F yS I T hlen CB
 have X3:∀k,ae w A β o [.own k]->o=[β k]:=λk h=>by
  obtain⟨v,vs,rfl,h1,N⟩:=h;simp only[ae] at N;subst N;rw[h1.1]
 unfold Ix at I;split at I
 . rename_i e k l;simp only[A!,aE.run,aE.rows,aE.LO,aE.L9,runT_eq] at I;subst I;have U:=F 0 _ rfl;rw[X3 _ bQ];refine(hw.dO (S:=λ_=>False) (z:=.n) (p:=k.elim undef β) (k0:=50000) L nofun trivial T U (λj V=>by rw[V];rfl) nofun).mono ?_;rintro e' w' ⟨rfl,W,S',g⟩;refine⟨_,rfl,W,β,⟨g.os,g.tape,g.output,g.size,λb O _=>g.same b O id,λb O=>⟨g.mono b O,g.same b (L b O) id⟩,λb O H=>.inl (g.gG b O H),g.bound,Lt _,?_,nofun,?_⟩⟩
   . intro i X h;match i,h with
     |0,h=>cases h
     |_+1,h=>cases h
   . rintro k k' b (⟨i,X,_,_,h⟩|⟨j,_,h⟩) _ _ _
     . match i,h with
       |0,h=>cases h
       |_+1,h=>cases h
     . simp at h
 . rename_i e l t;simp only[A!,aE.run,aE.rows,aE.LO,aE.L9,runT_eq] at I;subst I;have U:=F 0 _ rfl;rw[X3 _ bQ];obtain⟨b,y,e0,c1,Q,c3,c4,c5⟩:=F 1 _ rfl;obtain⟨v,vs,H,⟨rfl,Vo⟩,Y⟩:=c4;simp only[ae] at Y;subst Y;have HT:y= #[.string ⟨t.toArray⟩]:=by apply Array.ext';exact H
   subst HT;have D:=(P!.1 Q).1;have hS:∀g,g=b->¬A g/\g<w.heap.size:=by rintro g rfl;exact⟨c3,D⟩
   refine(hw.dO (S:=λg=>g=b) (z:=.s t) (p:=β 50001) (k0:=50000) L hS ⟨b,e0,c1,Q,Vo,rfl⟩ T U (λj V=>by cases V;rfl) (λg a Wb=>?_)).mono ?_
   . subst Wb;have:=yS 0 1 g z! z! a (by rw[c1];rfl);cases this
   rintro e' w' ⟨rfl,W,S',g⟩;have M:=g.kin
   have m:=g.hb;generalize (bX l (.s t)).2.2=z' at M m;cases z' with
   |n=>cases M
   |g _ _ _=>cases M
   |s t'=>
   obtain⟨B,e1,J,d2,d3,d4⟩:=m
   have Ğ:B=b:=by
    have C:β 50001= .pointer (some ⟨b,0,none⟩):=c1;rw[C] at J;simp only[Value.pointer.injEq,A!,Addr.mk.injEq,and_true] at J;exact J.symm
   subst Ğ;have hM:∀x,x=B->HM β 2 x:=by rintro x rfl;exact⟨1,by decide,by rw[c1];rfl⟩
   refine⟨_,rfl,W,β,⟨g.os,g.tape,g.output,g.size,λx hx hm=>g.same x hx λd=>hm (hM x d),λx hx=>⟨g.mono x hx,g.same x (L x hx) λd=>(hS x d).1 hx⟩,λx hx H=>.inl (g.gG x hx H),g.bound,Lt _,?_,nofun,?_⟩⟩
   . intro i X h;match i,h with
     |0,h=>cases h
     |1,h=>
      simp only[y?,Z?,A!] at h;subst h;exact⟨⟨B,_,e1,c1,d2,(g.NW B d4).2.1,⟨_,[],rfl,⟨rfl,d3⟩,rfl⟩,by simp[Value.oneCell']⟩,rfl⟩
     |_+2,h=>cases h
   . have hk:∀k,Cb ⟨(bX l (.s t)).1,TK (bX l (.s t)).2.1,[none,some (.cells [.str (Z.s t').txt])],[]⟩ k->k=50001:=by
      rintro k (⟨i,X,rfl,_,h⟩|⟨j,_,h⟩)
      . match i,h with
        |0,h=>cases h
        |1,_=>rfl
        |_+2,h=>cases h
      . simp at h
     intro k k' x h1 N _ _;rw[hk k h1,hk k' N]
 . rename_i e l K n cs;simp only[A!,aE.run,aE.rows,aE.LO,aE.L9,runT_eq] at I;subst I;obtain⟨eY,T⟩:=T;subst eY;have U:=F 0 _ rfl;rw[X3 _ bQ];obtain⟨b,y,e0,c1,Q,c3,c4,c5⟩:=F 1 _ rfl;obtain⟨v,vs,H,⟨aPB,YG⟩,Y⟩:=c4;simp only[ae] at Y;subst Y;subst aPB;have HT:y= #[β 50002]:=by apply Array.ext';exact H
   subst HT;have aPC:=F 2 _ rfl;obtain⟨xs,f1,f2,f3⟩:=aPC;have hxs:=U3 (f3 β);subst hxs;have D:=(P!.1 Q).1;have hrl:∀g,ah (β 50002)=some g->g<w.heap.size:=λg a=>aLV (F 2 _ rfl) a
   have dS:∀g,ah (β 50002)=some g->g≠b:=λg a Wb=>by
    subst Wb;have:=yS 2 1 g z! z! a (by rw[c1];rfl);cases this
   have hS:∀g,g=b\/ah (β 50002)=some g->¬A g/\g<w.heap.size:=by
    rintro g (rfl|a)
    . exact⟨c3,D⟩
    . exact⟨f2 g a,hrl g a⟩
   have LH:∀u∈List.replicate n (Value.slice none 0 0),∀g,ah u≠some g:=λu c g=>by
    rw[(List.mem_replicate.1 c).2];nofun
   have hH:HB w (λg=>g=b\/ah (β 50002)=some g) (β 50001) (.g K E (List.replicate n [])):=by
    refine⟨b,e0,β 50002,_,c1,Q,.inl rfl,YG,by simpa using f1,λg a=>⟨.inr a,dS g a,λu c=>LH u c g⟩,λu c=>LH u c b,RY n⟩
   refine(hw.dO (S:=λg=>g=b\/ah (β 50002)=some g) (z:=.g K E (List.replicate n [])) (p:=β 50001) (k0:=50000) L hS hH T U (λj V=>by cases V;rfl) (λg a Wb=>?_)).mono ?_
   . rcases Wb with rfl|EC
     . have:=yS 0 1 g z! z! a (by rw[c1];rfl);cases this
     . have:=yS 0 2 g z! z! a EC;cases this
   rintro e' w' ⟨rfl,W,S',g⟩;have M:=g.kin
   have m:=g.hb;generalize (bX l (.g K E (List.replicate n []))).2.2=z' at M m;cases z' with
   |n=>cases M
   |s _=>cases M
   |g e3 ei3 l'=>
   obtain⟨rfl,rfl,atv⟩:=M;obtain⟨B,e1,v',ys,J,d2,d3,d4,d5,d6,d7,d8⟩:=m;have C:β 50001= .pointer (some ⟨b,0,none⟩):=c1
   have Ğ:B=b:=by
    rw[C] at J;simp only[Value.pointer.injEq,A!,Addr.mk.injEq,and_true] at J;exact J.symm
   subst Ğ
   have hvv:v'=β 50002:=by
    obtain⟨b2,e4,q,R⟩:=atv (β 50002) ⟨B,e0,c1,Q⟩;rw[C] at q;simp only[Value.pointer.injEq,A!,Addr.mk.injEq,and_true] at q;subst q;rw[d2] at R;simp only[A!,Obj.cells.injEq] at R;have:=R.1;simpa using this
   subst hvv
   have hM:∀x,x=B\/ah (β 50002)=some x->HM β 3 x:=by
    rintro x (rfl|hx)
    . exact⟨1,by decide,by rw[c1];rfl⟩
    . exact⟨2,by decide,hx⟩
   have Ol:∀x,(∃u∈ys,ah u=some x)->S' x:=λx ⟨u,c,hx⟩=>o8.mem d8 u c x hx;refine⟨_,rfl,λx=>W x\/∃u∈ys,ah u=some x,β,⟨g.os,g.tape,g.output,g.size,λx hx hm=>g.same x hx λd=>hm (hM x d),λx hx=>⟨.inl (g.mono x hx),g.same x (L x hx) λd=>(hS x d).1 hx⟩,λx hx H=>?_,λx hx=>?_,Lt _,?_,nofun,?_⟩⟩
   . rcases H with H|H
     . exact .inl (g.gG x hx H)
     . rcases(g.NW x (Ol x H)).1 with d|d
       . exact .inr (hM x d)
       . omega
   . rcases hx with hx|hx
     . exact g.bound x hx
     . exact(g.NW x (Ol x hx)).2.2
   . intro i X h;match i,h with
     |0,h=>cases h
     |1,h=>
      simp only[y?,Z?,A!] at h;subst h;refine⟨⟨B,_,e1,c1,d2,?_,⟨_,[],rfl,⟨rfl,d4⟩,rfl⟩,by simpa using d4⟩,rfl⟩;rintro(H|⟨u,c,hx⟩)
      . exact(g.NW B d3).2.1 H
      . exact d7 u c hx
     |2,h=>
      simp only[y?,Z?,A!] at h;subst h;refine⟨⟨ys,d5,U4 (λu c x hx=>.inr ⟨u,c,hx⟩) d8,λx hx=>?_⟩,rfl⟩;obtain⟨q,R,q3⟩:=d6 x hx;simp only[c?,r?];rintro(H|⟨u,c,hx⟩)
      . exact(g.NW x q).2.1 H
      . exact q3 u c hx
     |_+3,h=>cases h
   . have hk:∀k,Cb ⟨(List.replicate n AV.nil=List.replicate n .nil/\(bX l (.g K E (List.replicate n []))).1),TK (bX l (.g K E (List.replicate n []))).2.1,[none,some (.cells [.own 50002]),some (.row K [.slice [.int .i64]] (Z.g K E l').rows false)],[]⟩ k->k=50001\/k=50002:=by
      rintro k (⟨i,X,rfl,_,h⟩|⟨j,_,h⟩)
      . match i,h with
        |0,h=>cases h
        |1,_=>exact .inl rfl
        |2,_=>exact .inr rfl
        |_+3,h=>cases h
      . simp at h
     intro k k' x h1 N hx Ez
     have rS:ah (β 50001)=some x->ah (β 50002)=some x->False:=λq R=>by
      rw[C] at q;simp only[ah,A!] at q;exact dS x R q.symm
     rcases hk k h1 with rfl|rfl<;>rcases hk k' N with rfl|rfl
     . rfl
     . exact(rS hx Ez).elim
     . exact(rS Ez hx).elim
     . rfl
 . cases I
end Go.Vg
namespace Go.Proofs
open Go Go.RowKit Go.ChangeShapes Go.Vg
set_option maxRecDepth 100000 in
set_option maxHeartbeats 4000000 in
def Tryz.X4(w:World)(A S:Nat->Prop)(p:Value)(l:M CF)(z:Z)(xs:M Value)(b0 cap:Nat)(hA:∀b,A b->b<w.heap.size)(hS:∀b,S b->¬A b/\b<w.heap.size)(hH:HB w S p z)
  (qC:(bX l z).1) (hc:ng w A p xs l) (hl:l.length<=maxLen) (hb:l≠ []->b0<w.heap.size/\¬S b0/\w.rangeAt b0 0 xs) (ad:Option Addr) (Ĥ:l≠ []->ad=some ⟨b0,0,none⟩):
  Calls Tryz.prog 51 #[.slice ad l.length cap] w λe w'=>e= .returned (.int .i64 (bif (bX l z).2.1 then 0 else 6))/\∃A' S',tZ w A S z w' A' S' p undef (.undef,(bX l z).2.2):=by
 go_enter Tryz.func51,Tryz.ntmps51
 go_wp2
 go_loopw [7] (λi wr=>∃k:Nat,k<=l.length/\i= .int .i64 k/\Aside (PI w A S p l z k wr)) (λi _=>l.length-(intOf i).toNat)
 case atStart=>exact⟨0,S! _,rfl,⟨A,S,z,tZ.zero hA hS hH,qC,rfl⟩⟩
 case round=>
  have hl2:l.length<=9223372036854775807:=by have:=hl;unfold maxLen at this;omega
  obtain⟨k,hk,rfl,HI⟩:=hrel;by_cases iT:k<l.length
  . obtain⟨f,a1,a2,hx,hf,xY⟩:=PI.step (P:=Tryz.prog) rfl HI hc hA hS iT;have dS:l≠ []:=by rintro rfl;simp at iT
    obtain⟨F0,M1,hb3⟩:=hb dS;have Ċ:=Ĥ dS;subst Ċ
    have ov:wr.cell? ⟨b0,k,none⟩=some (.func (.func f) a1 a2):=by
     have h1:=hb3 k _ hx;rw[n?] at h1;obtain⟨A',S',z',g,_⟩:=HI.at_;rw[<-h1];exact World.cell?_of_block (g.same b0 F0 M1)
    clear hb hb3 Ĥ;go_wp2_with (first|(refine tX rfl hf (xY.mono ?_);rintro e w2 ⟨c,rfl,hT,hF⟩;refine⟨_,rfl,?_⟩;cases c)|go_in)
    . go_ret
      obtain⟨A',S',g,hz⟩:=hF trivial;rw[hz];exact⟨rfl,A',S',g⟩
    . exact⟨⟨k+1,w!,by go_num,hT rfl⟩,by simp[intOf];omega⟩
  . have :k=l.length:=by omega
    subst this;obtain⟨A',S',z',g,h1,h2⟩:=HI.at_;rw[List.drop_length] at h2;simp only[bX] at h2;have e1:(bX l z).2.1=true:=by rw[<-h2]
    have e2:(bX l z).2.2=z':=by rw[<-h2]
    clear hb h1 h2 hc qC;go_wp2
    go_ret
    rw[e1,e2];exact⟨rfl,A',S',g⟩
def Tryz.abJ {G:Nat->Option GD}:aJ Tryz.prog G 51 (Ix 3):=SY λw A S p l z x b c a h H d e f g i j=>Tryz.X4 w A S p l z x b c h H d e f g i a j
end Go.Proofs
namespace Go.Vg
open Go
variable [HP]
structure QF (w:World) (A:Nat->Prop) (l:List CF) (k:Nat) (t:Nat) (w':World):Prop where
 at_:∃A',PF w A w' A'/\¬A' t/\t<w'.heap.size/\(∃u v e,w'.heap[t]? =some (.cells #[u,v] e (0,0)))/\(gF (l.drop k)).1/\(gF (l.drop k)).2=(gF l).2
variable {t:Nat}{w w1:World}{A A1:Nat->Prop}{o:Obj}
def nF{e:Nat}{u v:Value}(h:w.heap[t]? =some (.cells #[u,v] e (0,0))):w.cell? ⟨t,0,none⟩=some u/\w.cell? ⟨t,1,none⟩=some v/\w.frozen? ⟨t,0,none⟩=false/\w.frozen? ⟨t,1,none⟩=false:=by
 grind[World.cell?,World.frozen?]
theorem ajx(w:World)(a:Addr)(u:Value)(k:Nat)(h:k≠a.block):(w.setCell a u).heap[k]? =w.heap[k]? :=by
 simp[World.setCell,Array.getElem?_modify];grind
def Jz {W:World}{a:Nat->Prop}(h:bI w w1 A A1)(g:bI w1 W A1 a):bI w W A a:=λb H=>⟨(g b (h b H).1).1,(g b (h b H).1).2.trans (h b H).2⟩
def JA(w:World)(A:Nat->Prop):Rd w A (.slice [.int .u8]) (.slice none 0 0) []:=by refine⟨none,0,[],rfl,M! _,S! _,?_,λh=>absurd rfl h⟩;rfl
theorem RZ{t e:Nat}{u v:Value}(h:w.heap[t]? =some (.cells #[u,v] e (0,0)))(a b:Value):((w.setCell ⟨t,0,none⟩ a).setCell ⟨t,1,none⟩ b).heap[t]? =some (.cells #[a,b] e (0,0)):=by
 have g:(w.setCell ⟨t,0,none⟩ a).heap[t]? =some (.cells #[a,v] e (0,0)):=by
  show(w.heap.modify t _)[t]? =_;grind
 generalize w.setCell ⟨t,0,none⟩ a=w1 at g;show(w1.heap.modify t _)[t]? =_;grind
def U5{t e:Nat}{u v:Value}(h:w.heap[t]? =some (.cells #[u,v] e (0,0)))(a b:Value)(o:Obj):(((w.setCell ⟨t,0,none⟩ a).setCell ⟨t,1,none⟩ b).alloc o).heap[t]? =some (.cells #[a,b] e (0,0)):=by
 grind[RZ,eE,lt_of_block]
def PF.ajy{a b:Value}(h:PF w A w1 A1)(H:w.heap.size<=t):PF w A ((w1.setCell ⟨t,0,none⟩ a).setCell ⟨t,1,none⟩ b) A1:=
 h.more (t:=t) rfl rfl rfl z! (λb _ d=>by grind[ajx]) H
theorem PF.ajz(h:PF w A w1 A1):PF w A (w1.alloc o) A1:=
 h.more (t:=w.heap.size) rfl rfl rfl z! (λb H _=>eE _ b H) (M! _)
def MQ{a b:Value}(H:¬A1 t):bI w1 ((w1.setCell ⟨t,0,none⟩ a).setCell ⟨t,1,none⟩ b) A1 A1:=
 λk h=>⟨h,by grind[ajx]⟩
def MS(h:∀b,A1 b->b<w1.heap.size):bI w1 (w1.alloc o) A1 A1:=λk H=>⟨H,eE _ k (h k H)⟩
end Go.Vg
namespace Go.Proofs
open Go Go.RowKit Go.ChangeShapes Go.Vg
set_option maxRecDepth 100000 in
set_option maxHeartbeats 4000000 in
def Tryz.atH(w:World)(A:Nat->Prop)(l:M CF)(xs:M Value)(b0 cap:Nat)(ad:Option Addr)(hA:∀b,A b->b<w.heap.size)
  (qC:(gF l).1) (hc:ng w A undef xs l) (hl:l.length<=maxLen) (hb:l≠ []->b0<w.heap.size/\w.rangeAt b0 0 xs) (Ĥ:l≠ []->ad=some ⟨b0,0,none⟩):
  Calls Tryz.prog 57 #[.slice ad l.length cap] w λe w'=>∃x1 x2,e= .returned (.tuple #[.agg #[x1,x2],.bool (gF l).2.2.2])/\∃A',PF w A w' A'/\Rd w' A' (.slice [.int .u8]) x1 (gF l).2.1/\Rd w' A' (.slice [.int .u8]) x2 (gF l).2.2.1:=by
 go_wp2
 go_loopw [10] (λi wr=>∃k:Nat,k<=l.length/\i= .int .i64 k/\Aside (QF w A l k w.heap.size wr)) (λi _=>l.length-(intOf i).toNat)
 case atStart=>
  refine⟨0,S! _,rfl,⟨A,?_,λh=>absurd (hA _ h) w!,?_,?_,qC,rfl⟩⟩
  . exact(PF.zero hA).more (t:=w.heap.size) rfl rfl rfl z! (λb hb _=>eE _ b hb) (M! _)
  . simp
  . exact⟨_,_,_,heap_alloc_new w _⟩
 case round=>
  have hl2:l.length<=9223372036854775807:=by grind[maxLen]
  obtain⟨k,hk,rfl,HI⟩:=hrel;by_cases iT:k<l.length
  . obtain⟨A1,g1,g2,g3,g4,g5,g6⟩:=HI.at_;obtain⟨f,a1,a2,x,hx,hf,h1,h2,xY⟩:=PF.step (P:=Tryz.prog) rfl g1 hA hc iT g5;have dS:l≠ []:=by grind
    obtain⟨F0,hb3⟩:=hb dS;have Ċ:=Ĥ dS;subst Ċ
    have ov:wr.cell? ⟨b0,k,none⟩=some (.func (.func f) a1 a2):=by
     have h1:=hb3 k _ hx;rw[n?] at h1;rw[<-h1];exact World.cell?_of_block (g1.same b0 F0)
    go_wp2_with (first|(refine tX rfl hf (xY.mono ?_);rintro e w2 ⟨x1,x2,rfl,A2,p1,p2,p3⟩;(have q2:=p2);(have q3:=p3);obtain⟨R0,DJ,cs1,rfl,q2⟩:=q2;obtain⟨MZ,DK,cs2,rfl,q3⟩:=q3;obtain⟨u0,v0,e0,g4⟩:=g4;(have q4:=(p1.same _ g3).trans g4);obtain⟨o1,o2,o3,o4⟩:=nF q4;(have q5:=Y! g3 p1.size);refine⟨_,rfl,?_⟩)|go_in)
    . obtain⟨c1,c2,_,_⟩:=nF (U5 q4 (.slice R0 x.1.length DJ) (.slice MZ x.2.1.length DK) (.cells #[.slice R0 x.1.length DJ,.slice MZ x.2.1.length DK] 47));refine bodyPost_ret (v:=.tuple #[.agg #[.slice R0 x.1.length DJ,.slice MZ x.2.1.length DK],.bool true]) (by simp[results,Tryz.results57,go_sem,c1,c2]) rfl ?_;have h3:x.2.2=true:=by omega
      rw[h3] at h2;rw[<-g6,h2];have p4:=(g1.trans p1).ajy (t:=w.heap.size) (a:=.slice R0 x.1.length DJ) (b:=.slice MZ x.2.1.length DK) (M! _);have k1:¬A2 w.heap.size:=λh=>g2 (p1.gG _ g3 h);have k2:=λo=>Jz (MQ (a:=.slice R0 x.1.length DJ) (b:=.slice MZ x.2.1.length DK) k1) (MS (o:=o) p4.bound);exact⟨_,_,rfl,A2,p4.ajz,sM (k2 _) _ _ _ p2,sM (k2 _) _ _ _ p3⟩
    . have h3:x.2.2=false:=by omega
      rw[h3] at h2;refine⟨⟨k+1,iT,z!,⟨A2,(g1.trans p1).ajz,λh=>g2 (p1.gG _ g3 h),by simp;omega,⟨_,_,_,(eE _ _ q5).trans q4⟩,h1 h3,h2.symm.trans g6⟩⟩,?_⟩;grind[intOf]
  . have :k=l.length:=by omega
    subst this;obtain⟨A1,g1,g2,g3,⟨u0,v0,e0,g4⟩,g5,g6⟩:=HI.at_;rw[List.drop_length] at g6;obtain⟨o1,o2,o3,o4⟩:=nF g4;go_wp2
    obtain⟨c1,c2,_,_⟩:=nF (RZ g4 (.slice none 0 0) (.slice none 0 0));refine bodyPost_ret (v:=.tuple #[.agg #[.slice none 0 0,.slice none 0 0],.bool false]) (by simp[results,Tryz.results57,go_sem,c1,c2]) rfl ?_;rw[<-g6];exact⟨_,_,rfl,A1,g1.ajy (M! _),JA _ _,JA _ _⟩
set_option maxRecDepth 100000 in
set_option maxHeartbeats 4000000 in
def Tryz.alV(w:World)(A:Nat->Prop)(l:M CF)(xs:M Value)(b0 cap:Nat)(ad:Option Addr)(hA:∀b,A b->b<w.heap.size)
  (qC:(gF l).1) (hc:ng w A undef xs l) (hl:l.length<=maxLen) (hb:l≠ []->b0<w.heap.size/\w.rangeAt b0 0 xs) (Ĥ:l≠ []->ad=some ⟨b0,0,none⟩):
  Calls Tryz.prog 272 #[.slice ad l.length cap] w λe w'=>∃x1 x2,e= .returned (.tuple #[.agg #[x1,x2],.bool (gF l).2.2.2])/\∃A',PF w A w' A'/\Rd w' A' (.slice [.int .u8]) x1 (gF l).2.1/\Rd w' A' (.slice [.int .u8]) x2 (gF l).2.2.1:=by
 go_wp2
 go_loopw [10] (λi wr=>∃k:Nat,k<=l.length/\i= .int .i64 k/\Aside (QF w A l k w.heap.size wr)) (λi _=>l.length-(intOf i).toNat)
 case atStart=>
  refine⟨0,S! _,rfl,⟨A,?_,λh=>absurd (hA _ h) w!,?_,?_,qC,rfl⟩⟩
  . exact(PF.zero hA).more (t:=w.heap.size) rfl rfl rfl z! (λb hb _=>eE _ b hb) (M! _)
  . simp
  . exact⟨_,_,_,heap_alloc_new w _⟩
 case round=>
  have hl2:l.length<=9223372036854775807:=by grind[maxLen]
  obtain⟨k,hk,rfl,HI⟩:=hrel;by_cases iT:k<l.length
  . obtain⟨A1,g1,g2,g3,g4,g5,g6⟩:=HI.at_;obtain⟨f,a1,a2,x,hx,hf,h1,h2,xY⟩:=PF.step (P:=Tryz.prog) rfl g1 hA hc iT g5;have dS:l≠ []:=by grind
    obtain⟨F0,hb3⟩:=hb dS;have Ċ:=Ĥ dS;subst Ċ
    have ov:wr.cell? ⟨b0,k,none⟩=some (.func (.func f) a1 a2):=by
     have h1:=hb3 k _ hx;rw[n?] at h1;rw[<-h1];exact World.cell?_of_block (g1.same b0 F0)
    go_wp2_with (first|(refine tX rfl hf (xY.mono ?_);rintro e w2 ⟨x1,x2,rfl,A2,p1,p2,p3⟩;(have q2:=p2);(have q3:=p3);obtain⟨R0,DJ,cs1,rfl,q2⟩:=q2;obtain⟨MZ,DK,cs2,rfl,q3⟩:=q3;obtain⟨u0,v0,e0,g4⟩:=g4;(have q4:=(p1.same _ g3).trans g4);obtain⟨o1,o2,o3,o4⟩:=nF q4;(have q5:=Y! g3 p1.size);refine⟨_,rfl,?_⟩)|go_in)
    . obtain⟨c1,c2,_,_⟩:=nF (U5 q4 (.slice R0 x.1.length DJ) (.slice MZ x.2.1.length DK) (.cells #[.slice R0 x.1.length DJ,.slice MZ x.2.1.length DK] 47));refine bodyPost_ret (v:=.tuple #[.agg #[.slice R0 x.1.length DJ,.slice MZ x.2.1.length DK],.bool true]) (by simp[results,Tryz.results272,go_sem,c1,c2];try rfl) rfl ?_;have h3:x.2.2=true:=by omega
      rw[h3] at h2;rw[<-g6,h2];have p4:=(g1.trans p1).ajy (t:=w.heap.size) (a:=.slice R0 x.1.length DJ) (b:=.slice MZ x.2.1.length DK) (M! _);have k1:¬A2 w.heap.size:=λh=>g2 (p1.gG _ g3 h);have k2:=λo=>Jz (MQ (a:=.slice R0 x.1.length DJ) (b:=.slice MZ x.2.1.length DK) k1) (MS (o:=o) p4.bound);exact⟨_,_,rfl,A2,p4.ajz,sM (k2 _) _ _ _ p2,sM (k2 _) _ _ _ p3⟩
    . have h3:x.2.2=false:=by omega
      rw[h3] at h2;refine⟨⟨k+1,iT,z!,⟨A2,(g1.trans p1).ajz,λh=>g2 (p1.gG _ g3 h),by simp;omega,⟨_,_,_,(eE _ _ q5).trans q4⟩,h1 h3,h2.symm.trans g6⟩⟩,?_⟩;grind[intOf]
  . have :k=l.length:=by omega
    subst this;obtain⟨A1,g1,g2,g3,⟨u0,v0,e0,g4⟩,g5,g6⟩:=HI.at_;rw[List.drop_length] at g6;obtain⟨o1,o2,o3,o4⟩:=nF g4;go_wp2
    obtain⟨c1,c2,_,_⟩:=nF (RZ g4 (.slice none 0 0) (.slice none 0 0));refine bodyPost_ret (v:=.tuple #[.agg #[.slice none 0 0,.slice none 0 0],.bool false]) (by simp[results,Tryz.results272,go_sem,c1,c2];try rfl) rfl ?_;rw[<-g6];exact⟨_,_,rfl,A1,g1.ajy (M! _),JA _ _,JA _ _⟩
variable {G:Nat->Option GD}
def Tryz.ċ:aJ Tryz.prog G 57 D7:=Iy Tryz.atH
def Tryz.X5:aJ Tryz.prog G 272 D7:=Iy Tryz.alV
end Go.Proofs
namespace Go.J
open Go Vg Go.Proofs
variable {G:Nat->Option GD}
def aWp(H:aJ Tryz.prog G 84 aSF):Oo G 84 (Pv ð aUC):=
 aS4 (λ_ h=>h) (aMw.k Tryz.func84 y!) H λx z h=>by
  obtain⟨S,a,b,c,d,e,f⟩:=x;cases z with
  |s t=>exact⟨t,_,aUz (S,a,b,c,d,e,f) (t,()),rfl,rfl,rfl,y!,trivial,rfl,rfl,rfl⟩
  |n=>exact h.elim
  |g _ _ _=>exact h.elim
def cR:aIg->aaQ->pb:=λ(g1,g2,g3,g4,w,a,a2,a3,a4,i,j) y=>
 let r:=bif S.ud (g1,g2,g3,g4) w a4 i j then XM (g1,g2,g3,g4,w,a,a2,a3,a4,i,j) y else XP (g1,g2,g3,g4,w,a,a2,a3,a4,i,j) y
 ⟨S.QJ w a4 i j/\S.UB j y.2.1.2 y.2.1.1.length y.2.2.1,r.res,r.heap,r.new⟩
def atI(r:aJ Tryz.prog G 48 XN)(u:aJ Tryz.prog G 48 XQ):Oo G 48 (Pv arH aiX):=by
 have v:aJ Tryz.prog G 48 (bZ aOL ï cR):=by
  refine aJ.cases r u λx y h=>?_;obtain⟨a,b,c,d,w,m,o,p,A,i,j⟩:=x;obtain⟨_,⟨X,q⟩,l,_⟩:=y;cases H:S.ud (a,b,c,d) w A i j with
  |true=>exact .inl ⟨⟨h.1,h.2,H⟩,by simp only[cR,H,K!]⟩
  |false=>exact .inr ⟨⟨h.1,h.2,H⟩,by simp only[cR,H,N!]⟩
 refine Zh (λ_ h=>h) (aMw.k Tryz.func48 y!) v λx z h=>?_;obtain⟨a,b,c,d,w,m,o,p,A,i,j⟩:=x;cases z with
 |s t=>exact h.elim
 |n=>exact h.elim
 |g e ei l=>
  obtain⟨rfl,rfl,B,f⟩:=h;refine⟨36,3,l,j.toNat,_,rfl,rfl,f.2.1,⟨_,rfl⟩,λX hx=>⟨cR (a,b,c,d,w,m,o,p,A,i,j) ((),((X,j.toNat),(l.getD j.toNat [],()))),y!,⟨B,f.1,by show _<X.length;rw[hx];exact f.2.1,f.2.2⟩,?_,?_⟩⟩
  . show(cR (a,b,c,d,w,m,o,p,A,i,j) ((),((X,j.toNat),(l.getD j.toNat [],())))).res= .bool (S.ud (a,b,c,d) w A i j);cases H:S.ud (a,b,c,d) w A i j<;>simp only[cR,H,K!,N!]<;>rfl
  . cases H:S.ud (a,b,c,d) w A i j with
    |true=>exact .inr ⟨by simp only[cR,H,K!];rfl,by simp only[cR,H,K!,XM,S.QL,Q?]⟩
    |false=>exact .inl ⟨by simp only[cR,H,N!,XP,S.QL];rfl,by simp only[cR,H,N!];rfl⟩
end Go.J
