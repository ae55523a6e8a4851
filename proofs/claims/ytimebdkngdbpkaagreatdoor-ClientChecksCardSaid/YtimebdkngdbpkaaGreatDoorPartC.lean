import Derived.Test.YtimebdkngdbpkaaGreatDoorPartB
import Derived.WalkKit
import Derived.ProofKit
import Derived.OpenShut
import Derived.SizedLaws
set_option linter.unusedVariables false
set_option linter.unusedSimpArgs false
set_option linter.unusedSectionVars false
set_option linter.defProp false
namespace Go.Vg
open Go
variable [HP]
def GR(T:b9)(off:Nat):M Field->Bool
 |[]=>true
 |f::fs=>Nat.beq f.offset off&&(match T.find f.type with
  |some te=>GR T (off+te.size) fs
  |none=>false)
def WZ(T:b9):M Field->Nat
 |[]=>0
 |f::fs=>(match T.find f.type with
  |some te=>te.size
  |none=>0)+WZ T fs
def zd(T:b9):Nat->TypeId->Bool
 |0,_=>false
 |n+1,t=>match T.find t with
  |none=>false
  |some te=>match te.desc with
   |.slice e=>zd T n e&&(match T.find e with
     |some ee=>Nat.blt 0 ee.size
     |none=>false)
   |.struct fs=>GR T 0 fs.toList&&Nat.beq te.size (WZ T fs.toList)&&fs.toList.all (λf=>zd T n f.type)
   |.array k e=>zd T n e&&(match T.find e with
     |some ee=>Nat.beq te.size (k*ee.size)
     |none=>false)
   |_=>true
variable {P:Program}{T:b9}{A:Nat->Prop}{w:World}{H:Type}{held:Bool}{sp:Nat->Bool}{enc:TypeId×Value->H}
theorem bA.cells(hT:bA T P){t:TypeId}{te:TE}(h:T.find t=some te):P.cellsOf t=te.size:=by
 obtain⟨_,i,h1,h2,_⟩:=hT.ok t te h;grind[Program.cellsOf]
def uu:∀(r1 r2:M Ty) (c1 c2:M Value) (x:Row r1) (y:Row r2),bx w A r1 c1 x->bx w A r2 c2 y->∃z:Row (r1++r2),bx w A (r1++r2) (c1++c2) z
 |[],r2,c1,c2,x,y,h1,h2=>by
   grind[bx]
 |t::ts,r2,c1,c2,x,y,h1,h2=>by
  obtain⟨v,vs,rfl,g1,g2⟩:=h1;obtain⟨z,hz⟩:=uu ts r2 vs c2 _ y g2 h2;refine⟨Row.mk (Row.hd x) z,?_⟩;show bx w A (t::(ts++r2)) (v::(vs++c2)) (Row.mk (Row.hd x) z);grind[bx,wS,AK]
def RD {row:M Ty}{sz:Nat}{a:Addr}(dQ:0<sz):∀(k:Nat),(∀i,i<k->∃fZ r,fZ.length=sz/\(∀j,j<sz->w.cell? ((a.add (i*sz)).add j)=fZ[j]?)/\bx w A row fZ r)->
  ∃(l:M (Row row)) (cs:M Value),l.length=k/\cs.length=k*sz/\dJ (bx w A row) cs l/\(∀j,j<k*sz->w.cell? (a.add j)=cs[j]?)
 |0,_=>⟨[],[],rfl,z!,by rfl,λj hj=>by omega⟩
 |k+1,h=>by
  obtain⟨l,cs,h1,h2,h3,h4⟩:=RD dQ k λi hi=>h i w!;obtain⟨fZ,r,g1,g2,g3⟩:=h k w!;refine⟨l++[r],cs++fZ,x!,x!,j8 l [r] cs fZ h3 ⟨fZ,[],z!,g3,by rfl⟩,λj hj=>?_⟩;grind[List.getElem?_append_right,Addr.add]
def NC(hT:bA T P){n m:Nat}(cs:M Value)
  (ih:∀t row (cs:M Value) x,rowOf T n t=some row->zd T n t=true->DataW.trod enc P w 0 sp held m t cs=some x->∃r:Row row,bx w A row cs r):
  ∀(fs:M Field) (off:Nat) (row:M Ty),fs.foldr (λf acc=>Dw (rowOf T n f.type) acc) (some [])=some row->GR T off fs=true->(fs.all λf=>zd T n f.type)=true->
   (∀f∈fs,∃x,DataW.trod enc P w 0 sp held m f.type ((cs.drop f.offset).take (P.cellsOf f.type))=some x)->cs.length=off+WZ T fs->
   ∃r:Row row,bx w A row (cs.drop off) r
 |[],off,row,hr,_,_,_,hl=>by
   simp at hr;subst hr;simp_all[bx,WZ,s?]
 |f::fs,off,row,hr,hf,ha,hx,hl=>by
  simp at hr;generalize aAn:fs.foldr (λf acc=>Dw (rowOf T n f.type) acc) (some [])=rest at hr;unfold Dw at hr;split at hr
  . rename_i r1 r2 h1;simp at hr;subst hr;simp only [GR,B!] at hf;obtain⟨ZU,ZV⟩:=hf;have ho:=C! ZU;simp only [List.all_cons,B!] at ha;split at ZV
    . rename_i te jv;have hc:=hT.cells jv;obtain⟨x,Qn⟩:=hx f (List.mem_cons_self ..);obtain⟨y,hy⟩:=ih _ _ _ _ h1 ha.1 Qn;simp only [WZ,jv] at hl;obtain⟨z,hz⟩:=NC hT cs ih fs (off+te.size) r2 aAn ZV ha.2 (λg hg=>hx g (List.mem_cons_of_mem _ hg)) w!;obtain⟨u,hu⟩:=uu _ _ _ _ _ _ hy hz;grind[List.drop_drop,List.take_append_drop]
    grind
  grind
def RE {r:M Ty}(cs:M Value)(sz:Nat):∀(k off:Nat),(∀i,i<k->∃x:Row r,bx w A r ((cs.drop (off+i*sz)).take sz) x)->cs.length=off+k*sz->
  ∃x:Row ((List.replicate k r).flatten),bx w A ((List.replicate k r).flatten) (cs.drop off) x
 |0,off,_,hl=>⟨(),by
  grind[bx,List.drop_eq_nil_of_le]⟩
 |k+1,off,h,hl=>by
  obtain⟨x,hx⟩:=h 0 w!
  obtain⟨y,hy⟩:=RE cs sz k (off+sz) (λi hi=>by
   obtain⟨z,hz⟩:=h (i+1) w!;refine⟨z,?_⟩;grind) x!
  obtain⟨u,hu⟩:=uu _ _ _ _ _ _ hx hy;grind[List.drop_drop,List.take_append_drop]
def sq {t:Ty}{v:Value}{x:D t}(h:Rd w A t v x):bx w A [t] [v] (Row.mk x ()):=by
 grind[bx,wS]
def CQ(hT:bA T P)(hA:∀b,b<w.heap.size->A b):∀(n m:Nat) (t:TypeId) (row:M Ty) (cs:M Value) (x:DataW H×M MemPlace),rowOf T n t=some row->zd T n t=true->
  DataW.trod enc P w 0 sp held m t cs=some x->∃r:Row row,bx w A row cs r
 |0,m,t,row,cs,x,hr,_,_=>by grind[rowOf]
 |n+1,m,t,row,cs,x,hr,hf,h=>by
  unfold rowOf at hr;unfold zd at hf;split at hr
  . grind
  . rename_i te jv;rw [jv] at hf;obtain⟨hu,_⟩:=hT.ok t te jv;have dX:=hT.cells jv;simp only at hf;split at hr
    . rename_i k hd;simp only [A!] at hr;subst hr;rw [hd] at hu;obtain⟨z,rfl,_,hw⟩:=DataW.trod_int hu h
      have hz:lo k<=z/\z<=hi k:=by
       cases k<;>simpa [Lit.wf,IntKind.min,IntKind.max,IntKind.signed,IntKind.bits,lo,hi] using hw
      refine⟨Row.mk (DI.ofInt k z:D (.int k)) (),sq ?_⟩;simp_all[Rd,Q6,trivial]
    . rename_i hd;simp only [A!] at hr;subst hr;rw [hd] at hu;obtain⟨b,rfl,_⟩:=DataW.trod_bool hu h;exact⟨Row.mk (b:D .bool) (),sq (by rfl)⟩
    . rename_i hd;simp only [A!] at hr;subst hr;rw [hd] at hu;obtain⟨s,rfl,_,hs⟩:=DataW.trod_string hu h;refine⟨Row.mk (s.data.toList:D .str) (),sq ?_⟩;simp_all[Rd,trivial]
    . rename_i e hd;split at hr
      . rename_i r hre;simp only [A!] at hr;subst hr;rw [hd] at hu hf;simp only [B!] at hf;obtain⟨ZU,ZV⟩:=hf;split at ZV
        . rename_i ee wQ;have dQ:0<ee.size:=by simp_all
          have T4:=hT.cells wQ;rcases DataW.trod_slice hu h with⟨rfl,_⟩|⟨a,len,cap,elems,rest,m',_,rfl,_,hb,hl,hm,hlen,Qt,_⟩
          . refine⟨Row.mk (([]:M (Row r)):D (.slice r)) (),sq ?_⟩;simp only [Rd];exact⟨none,0,[],rfl,z!,z!,by rfl,z!⟩
          . rw [T4] at Qt
            obtain⟨l,cs,g1,g2,g3,g4⟩:=RD (w:=w) (A:=A) (row:=r) (a:=a) dQ len λi hi=>by
             have h1:=Qt i hi;rw [List.getElem?_eq_getElem w!,Option.bind_eq_some_iff] at h1;obtain⟨fZ,c1,c2⟩:=h1;obtain⟨_,d1,d2⟩:=World.cells?_some c1;obtain⟨y,hy⟩:=CQ hT hA n m' e r fZ _ hre ZU c2;grind
            refine⟨Row.mk (l:D (.slice r)) (),sq ?_⟩;simp only [Rd];refine⟨some a,cap,cs,by rw [g1],w!,hm,g3,λfh=>?_⟩
            have mQ:0<len*ee.size:=by
             grind
            have h0:=g4 0 mQ;obtain⟨b,o,s⟩:=a;simp only [Addr.add,Q?,World.cell?] at h0
            have hs:s=none:=by
             cases s with
             |none=>rfl
             |some q=>grind
            subst hs;refine⟨b,o,rfl,hA b ?_,λj v hj=>?_⟩
            . grind
            grind[List.getElem?_eq_some_iff,Addr.add]
        grind
      grind
    . rename_i fs hd;rw [hd] at hu hf;simp only [B!] at hf;obtain⟨⟨ZU,ZV⟩,hf3⟩:=hf;obtain⟨xs,m',_,_,hl,Lg,hx⟩:=DataW.trod_struct hu h
      have:=NC (A:=A) hT cs (λt row cs x h1 h2 h3=>CQ hT hA n m' t row cs x h1 h2 h3) fs.toList 0 row hr ZU hf3 (λf hf=>by
       grind[List.getElem?_of_mem,List.getElem?_eq_some_iff,List.getElem?_eq_getElem]) (by simp_all)
      grind
    . rename_i k e hd;rw [hd] at hu hf;split at hr
      . rename_i r hre;simp only [A!] at hr;subst hr;simp only [B!] at hf;obtain⟨ZU,ZV⟩:=hf;split at ZV
        . rename_i ee wQ;have T4:=hT.cells wQ;obtain⟨xs,m',_,_,hl,Lg,hx⟩:=DataW.trod_array hu h
          have:=RE (w:=w) (A:=A) (r:=r) cs ee.size k 0 (λi hi=>by
           have h1:=hx i hi;rw [List.getElem?_eq_getElem w!,T4] at h1;obtain⟨y,hy⟩:=CQ hT hA n m' e r _ _ hre ZU h1;grind) (by simp_all)
          grind
        grind
      grind
    grind
end Go.Vg
namespace Go.Vg
open Go Go.ChangeShapes Go.WideShapes Go.ChangeAt Go.RowKit
variable [HP]
def PS.of(T:b9)(t:TypeId):Option PS:=match T.find t,rowOf T rR t with
 |some te,some row=>bif zd T rR t then(bif te.desc.nR then some (.agg row) else match row with
  |[u]=>some (.one u)
  |_=>none) else none
 |_,_=>none
def PS.ofs(T:b9):M TypeId->Option (M PS)
 |[]=>some []
 |t::ts=>match PS.of T t,PS.ofs T ts with
  |some p,some ps=>some (p::ps)
  |_,_=>none
def aj5:∀(t:Ty) (x:D t),∃y,VN t (FO t x)=some y
 |.int k,x=>⟨_,by simp [FO,VN];rfl⟩
 |.bool,b=>⟨b,rfl⟩
 |.str,s=>⟨s,rfl⟩
 |.slice row,l=>by
   simp only [FO,VN,fG]
   have :Ty.Am row row=true:=by
    have :∀(r:M Ty),Ty.Am r r=true:=λr=>Bo r;exact this row
   rw [dif_pos this];exact⟨_,rfl⟩
where
 ZW:∀(t:Ty),Ty.beq t t=true
  |.int k=>by simp [Ty.beq]
  |.bool|.str=>rfl
  |.slice r=>by simp only [Ty.beq];exact Bo r
 Bo:∀(r:M Ty),Ty.Am r r=true
  |[]=>rfl
  |t::ts=>by simp only [Ty.Am,ZW t,Bo ts,Bool.and_self]
def w9:∀(ts:M Ty) (x:Row ts) (us:M Ty) (as_:M AV) (z:Row us),lf us as_=some z->∃y,lf (ts++us) (aB ts x++as_)=some y
 |[],x,us,as_,z,h=>⟨z,h⟩
 |t::ts,x,us,as_,z,h=>by
  obtain⟨d,hd⟩:=aj5 t (Row.hd x);obtain⟨y,hy⟩:=w9 ts (Row.tl x) us as_ z h;refine⟨Row.mk d y,?_⟩;show lf (t::(ts++us)) (FO t (Row.hd x)::(aB ts (Row.tl x)++as_))=_;simp only [lf,hd,hy]
variable {A:Nat->Prop}{H:Type}{P:Program}{T:b9}{held:Bool}{sp:Nat->Bool}{w:World}{β:Nat->Value}{enc:TypeId×Value->H}
def ND(hT:bA T P)(hA:∀b,b<w.heap.size->A b):∀(ts:M TypeId) (ps:M PS) (vs:M Value) (ds:M (DataW H)) (q:M MemPlace),PS.ofs T ts=some ps->
  (∀(j:Nat) t v,ts[j]? =some t->vs[j]? =some v->∃b,Value.okWide P w .any b t v)->
  DataW.TrodAll enc P w 0 sp held ts vs ds q->ds.length=ts.length/\∃bc cs z,ae w A β vs bc/\PS.cells ps bc=some cs/\lf (PS.flat ps) cs=some z
 |[],ps,vs,ds,q,hp,_,h=>by
   simp only [PS.ofs,A!] at hp;subst hp;cases vs with
   |nil=>
    cases ds with
    |nil=>exact⟨rfl,[],[],(),by simp only [ae],rfl,rfl⟩
    |cons _ _=>simp [DataW.TrodAll] at h
   |cons _ _=>simp [DataW.TrodAll] at h
 |t::ts,ps,vs,ds,q,hp,Lh,h=>by
  simp only [PS.ofs] at hp;split at hp
  . rename_i p ps' h1 h2;simp only [A!] at hp;subst hp;match vs,ds,h with
    |v::vs,d::ds,h=>
     simp only [DataW.TrodAll] at h;obtain⟨q1,q2,g1,g2,_⟩:=h;obtain⟨k1,bc,cs,z,k2,k3,k4⟩:=ND hT hA ts ps' vs ds q2 h2 (λj t' v' hj hv=>Lh (j+1) t' v' (by simpa using hj) (by simpa using hv)) g2;refine⟨by simp [k1],?_⟩;obtain⟨b,hv⟩:=Lh 0 t v rfl rfl;obtain⟨m,hm⟩:=g1;unfold PS.of at h1;split at h1
     . rename_i te row jv mP;cases hfl:zd T rR t with
       |false=>rw [hfl] at h1;cases h1
       |true=>
        rw [hfl] at h1;simp only [L!] at h1;obtain⟨hu,_⟩:=hT.ok t te jv;obtain⟨r,hr⟩:=CQ (A:=A) hT hA rR m t row _ _ mP hfl hm;have hrel:=gZ (β:=β) _ _ _ hr;cases Te:te.desc.nR with
        |true=>
         rw [Te] at h1;simp only [L!,A!] at h1;subst h1
         have :∃arr:Array Value,v= .agg arr:=by
          unfold Value.okWide at hv;rw [hu] at hv;cases hd:te.desc with
          |struct fs=>rw [hd] at hv;obtain⟨arr,e,_⟩:=hv;exact⟨arr,e⟩
          |array k e=>rw [hd] at hv;obtain⟨arr,e,_⟩:=hv;exact⟨arr,e⟩
          |_=>rw [hd] at Te;cases Te
         obtain⟨arr,rfl⟩:=this;obtain⟨y,hy⟩:=w9 row r _ _ z k4;refine⟨.agg (aB row r)::bc,aB row r++cs,y,?_,?_,hy⟩
         . simp only [ae,aa];exact⟨_,vs,rfl,⟨arr,rfl,hrel⟩,k2⟩
         . simp only [PS.cells,fu,k3,cT,L!]
        |false=>
         rw [Te] at h1;simp only [O!] at h1;split at h1
         . rename_i u;simp only [A!] at h1;subst h1;obtain⟨y,hy⟩:=w9 [u] r _ _ z k4
           have hc:v.cells.toList=[v]:=by
            unfold Value.okWide at hv;rw [hu] at hv;cases v with
            |agg arr=>
             exfalso;cases hd:te.desc<;>rw [hd] at hu hv Te<;>simp_all [Cell.okWide,Cell.ok,TypeDesc.nR]
            |_=>rfl
           rw [hc] at hrel;simp only [aB,ae] at hrel;obtain⟨v',b7,e,e1,_⟩:=hrel;simp only [i?] at e;obtain⟨rfl,_⟩:=e;refine⟨FO u (Row.hd r)::bc,FO u (Row.hd r)::cs,y,?_,?_,hy⟩
           . simp only [ae];exact⟨_,vs,rfl,e1,k2⟩
           . simp only [PS.cells,k3]
         . cases h1
     . cases h1
    |[],_::_,h=>simp [DataW.TrodAll] at h
    |[],[],h=>simp [DataW.TrodAll] at h
    |_::_,[],h=>simp [DataW.TrodAll] at h
  . cases hp
def NF(hl:laidOutB P=true){W W':World}(hb:Below W.heap.size W W'):∀(ts:M TypeId) (vs:M Value) (ds:M (DataW H)) (q:M MemPlace),(∀t∈ts,P.readableRec t=true/\t<P.types.size)->
  DataW.TrodAll enc P W 0 (λ_=>true) true ts vs ds q->(∀x∈q,x.block<W.heap.size)->DataW.TrodAll enc P W' 0 (λb=>decide (b<W.heap.size)) true ts vs ds q
 |[],[],[],q,_,h,_=>h
 |t::ts,v::vs,d::ds,q,ht,h,hq=>by
  simp only [DataW.TrodAll] at h |-;obtain⟨q1,q2,g1,g2,rfl⟩:=h
  exact⟨q1,q2,Below.trod hl (ht t (I! ..)).1 (ht t (I! ..)).2 g1 hb (λx hx=>hq x (T! _ hx)),
   NF hl hb ts vs ds q2 (λu hu=>ht u (E! _ hu)) g2 (λx hx=>hq x (Y! _ hx)),rfl⟩
 |[],_::_,_,_,_,h,_|[],[],_::_,_,_,h,_|_::_,[],_,_,_,h,_|_::_,_::_,[],_,_,h,_=>by simp [DataW.TrodAll] at h
def QK(hT:bA T P)(hl:laidOutB P=true){G:Nat->Option GD}{f:FuncId}{fn:Func}{s:ChangeSpec}{ps:M PS}(hv:Valid P G f (eD ps λ_=>(True,.bool true,[])))
  (hps:PS.ofs T fn.params.toList=some ps) (aj6:(fn.params.toList.all λt=>P.readableRec t&&decide (t<P.types.size))=true) {tb:TypeId} (xF:fn.resultTypes= #[tb]) (htb:P.underlying tb=some .bool)
  (hsv:s.vars=[]) (hs:∀(H:Type) (ds:M (DataW H)),ds.length=fn.params.toList.length->s.fn H ds= {results:=[.lit (.bool true)],args:=ds})
  {W:World} {base:Nat} {args:Array Value} {ds gs:M (DataW H)} {before:M MemPlace} (hG:∀i d,G i=some d->oB W (λb=>b<W.heap.size) i d)
  (DL:∀(j:Nat) t v,fn.params[j]? =some t->args[j]? =some v->Value.okWide P W .any base t v)
  (hW:DataW.Whole enc P fn.params.toList s.vars false W args.toList ds gs before):
  Calls P f args W λe W'=>∃v,e= .returned v/\s.post enc P fn false true false false W args v W':=by
 have hW':=hW;obtain⟨p,q,hA,hV,rfl,Di,hnd⟩:=hW;rw [hsv] at hV
 have hV':gs=[]/\q=[]:=by
  cases gs with
  |nil=>exact⟨rfl,by simpa [DataW.TrodVars] using hV⟩
  |cons _ _=>simp [DataW.TrodVars] at hV
 obtain⟨rfl,rfl⟩:=hV';simp only [H?] at hW';obtain⟨hlen,bc,cs,z,k1,k2,k3⟩:=ND (β:=λ_=>undef) (A:=λb=>b<W.heap.size) hT (λb hb=>hb) _ ps _ _ _ hps (λj t v hj hv=>⟨base,DL j t v (by simpa using hj) (by simpa using hv)⟩) hA;have hc:=hv W (λb=>b<W.heap.size) (λ_=>undef) args.toList bc True (.bool true) [] (λb hb=>hb) hG k1 (by simp only [eD,IE,k2,k3]) trivial;rw [Array.toArray_toList] at hc;refine hc.mono ?_;rintro e W' ⟨v,rfl,A',az,hp⟩;have hvt:=hp.res;simp only [aa] at hvt;subst hvt;have hb:Below W.heap.size W W':=⟨hp.os,hp.tape,hp.output,hp.size,λk hk=>hp.same k hk⟩;have jU:∀x∈p,x.block<W.heap.size:=λx hx=>by simpa using hW'.lt x hx
 rw [Z!] at aj6
 have bm:=NF hl hb fn.params.toList args.toList ds p (λt ht=>by
  have:=aj6 t ht;simp only [B!,H!] at this;exact this) hA jU
 have Ez:=hs H ds hlen;refine⟨_,rfl,ds,[],p,[],p,[],hW',?_,?_,?_,hb.frame _,λh=>by cases h⟩
 . rw [xF];simp only [H?,Ez,Value.resultList];exact trodAll_mk1 (shut_bool htb true)
 . simp only [H?,Ez];exact bm
 . rw [hsv];simp only [H?,Ez];rfl
end Go.Vg
namespace Go.V
variable {a b:Bool}
theorem IG:((bif a then true else b)=true)=(a=true\/b=true):=by grind
theorem ajY:((bif a then true else b)=false)=(a=false/\b=false):=by grind
theorem abe:((bif a then b else false)=true)=(a=true/\b=true):=by grind
theorem ze:((bif a then b else false)=false)=(a=false\/b=false):=by grind
theorem dI {p A B:Prop}[Decidable p](h1:p->A)(h2:¬p->B):(decide p=true->A)/\(decide p=false->B):=⟨λh=>h1 (of_decide_eq_true h),λh=>h2 (of_decide_eq_false h)⟩
end Go.V
namespace Go.S
variable {α:Type}
theorem aD(l:M α)(n:Nat)(d:α)(h:n<l.length):l.take (n+1)=l.take n++[l.getD n d]:=by
 simp_all
theorem bC(l:M α)(n:Nat)(d:α)(h:n<l.length):l.getD n d∈l:=by
 grind
theorem agn(l:M α)(z x:α)(n m:Nat)(hl:l.length=n)(hn:n<m):(l++List.replicate (m-n) z).set n x=l++[x]++List.replicate (m-(n+1)) z:=by
 rw [List.set_append_right _ _ w!,hl,Nat.sub_self,show m-n=(m-(n+1))+1 by omega,List.replicate_succ,List.set_cons_zero];simp
end Go.S
namespace Go.Vg
open Go
variable [HP]
def St.EP(G:Nat->Option GD)(n:Nat)(bc:M AV)(hs:M AB):St:=
 {St.init G n bc with h:=λk=>bif Nat.ble 50000 k&&Nat.blt k 60000 then hs[k-50000]? else none}
def zf:AB->Bool
 |.row _ _ _ true=>false
 |.fvar _ _=>false
 |_=>true
def kindOk:AB->Bool
 |.row _ _ _ false=>true
 |.cells _|.arr _ _|.bc _ _ _ _|.iu _ _ _ _ _|.eF _ _ _ _=>true
 |_=>false
def aj7:Option AB->Bool
 |some b=>kindOk b
 |none=>true
def ZX(r:bo)(k:Nat):Bool:=rl k&&(match r.heap[k-50000]? with
 |some (some _)=>true
 |_=>false)
def lz(r:bo)(k:Nat):Bool:= !(ZX r k)
def uv(st:St)(k n e:Nat)(row:M Ty)(l:M (Row row)):St:=
 {st with
  t:=λi=>eH 70000 (st.t i)
  h:=λj=>bif Nat.beq j 70000 then some (.row e row (l.take n) false) else bif Nat.beq j k then none else match st.h j with
   |some b=>some (mM 70000 b)
   |none=>none}
def uw(st:St)(x:AV):St×AV:=match x with
 |.pre k n=>match st.h k with
   |some (.row e row l false)=>(uv st k n e row l,.own 70000)
   |_=>(st,x)
 |_=>(st,x)
mutual
def zg(h:aQ)(s:M (Nat×Option Nat))(bad:Nat->Bool):AV->AV->M Prop×M Nat
 |.sl r l,.own k=>EF h r l k
 |.agg xs,.agg ys|.bf xs,.bf ys=>pc h s bad xs ys
 |.own i,y=>(MZ s bad y (.own i),[])
 |x,y=>(MZ s bad (je h y).1 x,(je h y).2)
def pc(h:aQ)(s:M (Nat×Option Nat))(bad:Nat->Bool):M AV->M AV->M Prop×M Nat
 |[],[]=>([],[])
 |x::xs,y::ys=>((zg h s bad x y).1++(pc h s bad xs ys).1,(zg h s bad x y).2++(pc h s bad xs ys).2)
 |_,_=>([False],[])
end
def vW(h:aQ)(s:M (Nat×Option Nat))(bad:Nat->Bool):Option AB->AB->M Prop×M Nat
 |some (.cells xs),.cells ys=>pc h s bad ys xs
 |o,b=>(QB s bad o b,[])
def ob(h:aQ)(s:M (Nat×Option Nat))(bad:Nat->Bool):Nat->M (Option AB)->M Prop×M Nat
 |_,[]=>([],[])
 |i,some b::bs=>((vW h s bad (h (50000+i)) b).1++(ob h s bad (i+1) bs).1,(vW h s bad (h (50000+i)) b).2++(ob h s bad (i+1) bs).2)
 |i,none::bs=>ob h s bad (i+1) bs
def zW(h:aQ)(s:M (Nat×Option Nat))(bad:Nat->Bool)(K:Nat)(b:AB):M Prop×M Nat:=match cz s K with
 |some (some k)=>vW h s bad (h k) b
 |some none=>match b with
  |.row _ _ l false=>([[]=l],[])
  |_=>([False],[])
 |none=>([False],[])
def ux(h:aQ)(s:M (Nat×Option Nat))(bad:Nat->Bool):Nat->M AB->M Prop×M Nat
 |_,[]=>([],[])
 |j,b::bs=>((zW h s bad (60000+j) b).1++(ux h s bad (j+1) bs).1,(zW h s bad (60000+j) b).2++(ux h s bad (j+1) bs).2)
def GS(h:aQ):Nat->M (Option AB)->M (Nat×Option Nat)
 |_,[]=>[]
 |i,some (.cells ys)::bs=>(match h (50000+i) with
  |some (.cells xs)=>uf ys xs
  |_=>[])++GS h (i+1) bs
 |i,some (.eF _ (some j) _ _)::bs=>(match h (50000+i) with
  |some (.eF _ (some k) _ _)=>[(j,some k)]
  |_=>[])++GS h (i+1) bs
 |i,_::bs=>GS h (i+1) bs
def T5(h:aQ)(s:M (Nat×Option Nat)):Nat->M AB->M (Nat×Option Nat)
 |_,[]=>[]
 |j,.cells ys::bs=>(match cz s (60000+j) with
  |some (some k)=>match h k with
   |some (.cells xs)=>uf ys xs
   |_=>[]
  |_=>[])++T5 h s (j+1) bs
 |j,_::bs=>T5 h s (j+1) bs
def GU(acc:M (Nat×Option Nat)):M (Nat×Option Nat)->M (Nat×Option Nat)
 |[]=>acc
 |(k,x)::r=>bif Nat.ble 60000 k&&(match cz acc k with|none=>true|some _=>false) then GU ((k,x)::acc) r else GU acc r
def aAq(h:aQ)(x:AV)(r:bo):M (Nat×Option Nat):=GU [] (LH r.res x++GS h 0 r.heap)
def ayx(h:aQ)(r:bo)(s:M (Nat×Option Nat)):M (Nat×Option Nat):=GU s (T5 h s 0 r.new)
def aGs(h:aQ)(x:AV)(r:bo):M (Nat×Option Nat):=ayx h r (ayx h r (aAq h x r))
def NG(h:aQ)(s:M (Nat×Option Nat))(x:AV)(r:bo):M Nat:=(zg h s (lz r) r.res x).2++((ob h s (lz r) 0 r.heap).2++(ux h s (lz r) 0 r.new).2)
def T6(h:aQ)(x:AV)(r:bo)(s:M (Nat×Option Nat)):Prop:=
 bif kZ (eR s)&&(((eR s).all (lz r))&&((s.all λy=>Nat.ble 60000 y.1)&&(((NG h s x r).all λk=>!ay (eR s) k&&lz r k)&&(r.new.all kindOk&&r.heap.all aj7)))) then
  JL ((zg h s (lz r) r.res x).1++((ob h s (lz r) 0 r.heap).1++(ux h s (lz r) 0 r.new).1)) else False
def NH(T:b9)(st:St)(rs:M ResultVar)(r:bo):Prop:=match n4 T st rs with
 |none=>False
 |some as_=>T6 (uw st (hY as_)).1.h (uw st (hY as_)).2 r (aGs (uw st (hY as_)).1.h (uw st (hY as_)).2 r)
def apR(T:b9)(rs:M ResultVar)(r:bo)(e:Ex)(st:St):Prop:=match e with
 |.norm|.ret=>NH T st rs r
 |_=>False
def Bp(E:Env)(L:Nat->Option bq)(c:Code)(n:Nat)(rs:M ResultVar)(bc:M AV)(hs:M AB)(r:bo):Prop:=
 bif Nat.ble bc.length n then qU E L c (apR E.T rs r) (St.EP E.gP n bc hs) else False
variable {G:Nat->Option GD}{bc as_:List AV}{hs:List AB}{n:Nat}{A A' A0:Nat->Prop}{w w0:World}{β az F0:Nat->Value}{C:Ctx}{a:Act}{st:St}{v:Value}{x:AV}{b:AB}{s:List (Nat×Option Nat)}{P:Program}{T:b9}{fn:Func}{r:bo}{E:Env}{c:Code}{f:FuncId}{args:List Value}{α:Type}{m:List Bool}
theorem NI{k:Nat}{ab:AB}(h:(St.EP G n bc hs).h k=some ab):∃i,k=50000+i/\hs[i]? =some ab:=by
 simp [St.EP] at h;cases hb:(Nat.ble 50000 k&&Nat.blt k 60000) with
 |false=>grind
 |true=>
  simp only [Bool.and_eq_true] at hb;have:=Nat.le_of_ble_eq_true hb.1;grind
def aw.EP {G:Nat->Option GD}{args:M Value}{bc:M AV}{hs:M AB}{n:Nat}(hA:∀b,A b->b<w.heap.size)(hG:∀i d,G i=some d->oB w A i d)(hr:ae w A β args bc)(hn:bc.length<=n)
  (fi:∀i ab,hs[i]? =some ab->BR w A β (50000+i) ab) (vr:∀i j b,i<hs.length->j<hs.length->ai (β (50000+i))=some b->ai (β (50000+j))=some b->i=j):
  aw ⟨w,A,HM β hs.length,G,β⟩ A β (St.EP G n bc hs) {tmps:=args.toArray++Array.replicate (n-args.toArray.size) undef,defers:=[]} w:=by
 have hI:=aw.init (β:=β) (G:=G) (n:=n) hA hG hr hn
 have hk:∀k,((St.EP G n bc hs).h k).isSome->∃i,k=50000+i/\i<hs.length:=by
  grind[Option.isSome_iff_exists,NI,List.getElem?_eq_some_iff]
 refine⟨hI.defers,hI.size,hI.tmps,λk ab h=>?_,λk k' b h h' hb fb=>?_,hI.bound,⟨rfl,rfl,rfl,S! _,λb _ _=>rfl⟩,λb _ h=>.inl h,λb h=>h,λk b h hb=>?_,λi d h=>h,hG,λk _=>rfl⟩
 . grind[NI]
 . grind
 . obtain⟨i,rfl,h1⟩:=hk k h;exact .inr ⟨i,h1,hb⟩
def aj8(hnf:∀ab∈hs,zf ab=true)(fi:∀i ab,hs[i]? =some ab->BR w A β (50000+i) ab):∀b,HM β hs.length b->¬A b:=by
 rintro b ⟨i,hi,hb⟩;have hg:=D! hi;have h:=fi i _ hg;have hn:=hnf _ (List.getElem_mem hi);generalize hs[i]=ab at h hn;cases ab with
 |cells cs=>
  obtain⟨b',arr,e,h1,h2,h3,_⟩:=h;grind[ai,Option.some.injEq]
 |arr row l=>
  obtain⟨b',arr,e,h1,h2,h3,_⟩:=h;grind[ai,Option.some.injEq]
 |fvar _ _=>cases hn
 |mp b2 es ck=>
  obtain⟨h1,h2,h3⟩:=h;grind[ai,Option.some.injEq]
 |views _ _ _ _ _|fo _ _ _|bc _ _ _ _|eF _ _ _ _=>
  obtain⟨xs,h1,h2,_⟩:=h;grind
 |row e row l fr=>
  obtain⟨xs,h1,h2,h3⟩:=h;grind[zf]
 |iu e j row l i=>
  obtain⟨xs,v0,h1,h2,_⟩:=h;grind
theorem aw.shrink(hB:aw C A β st a w){k e:Nat}{row:M Ty}{l:M (Row row)}(hk:st.h k=some (.row e row l false))(hv:aa w A β v (.pre k n)):
  aw C A (bl β 70000 v) (uv st k n e row l) a w/\aa w A (bl β 70000 v) v (.own 70000):=by
 obtain⟨xs,o1,o2,o3⟩:=Mx hB hk;have Ez:=fI l xs n o2
 have j9:w.ownsRow 0 e row.length v n (xs.take (n*row.length))/\n<=l.length/\ai v=ai (β k):=by
  simp only [aa] at hv;rcases hv with⟨h1,h2,h3⟩|⟨b,mm,cap,h1,h2,h3⟩
  . simp_all[World.ownsRow_nil]
  . rcases o1.2 with⟨g1,_⟩|⟨g,j7,cur,g1,g2,g3,g4,g5,g6,g7⟩
    . grind
    . rw [h1] at g1;obtain⟨rfl,rfl,rfl⟩:=g1;refine⟨⟨?_,.inr ⟨b,cap,cur,h2,w!,g3,w!,g5,g6,?_⟩⟩,h3,by rw [h1,h2];rfl⟩
      . grind[List.length_take,Nat.min_eq_left,Nat.mul_le_mul_right]
      grind[Nat.min_eq_left,Nat.mul_le_mul_right]
 obtain⟨j9,hnl,hbv⟩:=j9
 have kT:v.oneCell'=true:=by
  simp only [aa] at hv;rcases hv with⟨_,h2,_⟩|⟨b,mm,cap,_,h2,_⟩<;>subst h2<;>rfl
 have hs:∀j,((uv st k n e row l).h j).isSome->(j=70000/\bl β 70000 v j=v)\/(j≠70000/\j≠k/\(st.h j).isSome/\bl β 70000 v j=β j):=by
  intro j hj;by_cases h7:j=70000
  . subst h7;exact .inl ⟨rfl,by rfl⟩
  . simp only [uv,aP h7,cond_false] at hj;grind[cT,aP,bl]
 have K7:∀j b,((uv st k n e row l).h j).isSome->ai (bl β 70000 v j)=some b->∃j',(st.h j').isSome/\ai (β j')=some b/\((j=70000/\j'=k)\/(j≠70000/\j'=j/\j≠k)):=by
  grind
 refine⟨⟨hB.defers,hB.size,λi=>yE 70000 v _ _ (hB.tmps i),λj ab hj=>?_,λj j' b h1 h2 g1 g2=>?_,hB.bound,hB.frame,hB.iP,hB.base,λj b h1 g1=>?_,hB.pj,hB.laid,λj hj=>?_⟩,?_⟩
 . by_cases h7:j=70000
   . subst h7;simp only [uv,cT,cond_true,Option.some.injEq] at hj;grind[bl,BR,List.length_take,Nat.min_eq_left]
   . simp only [uv,aP h7,O!] at hj;by_cases Dj:j=k
     . simp_all
     . rw [aP Dj] at hj;cases hh:st.h j with
       |none=>grind
       |some x=>
        rw [hh] at hj;simp only [O!,A!] at hj;subst hj
        exact xE (new:=[(70000,.cells [])]) (w':=w) (A':=A) (az:=bl β 70000 v) (λq hq=>by
         have :¬q=70000:=by rintro rfl;simp_all[al]
         grind[bl]) (by grind[bl]) (λb _=>⟨rfl,id⟩) (λb hb=>⟨hb,rfl⟩) (hB.blocks j x hh)
 . obtain⟨i,a1,a2,a3⟩:=K7 j b h1 g1;obtain⟨i',b1,b2,b3⟩:=K7 j' b h2 g2;have:=hB.apart i i' b a1 b1 a2 b2;omega
 . obtain⟨i,a1,a2,_⟩:=K7 j b h1 g1;exact hB.mO i b a1 a2
 . have :¬j=70000:=by rintro rfl;simp_all[rl]
   simp only [bl,J! this];exact hB.held j hj
 grind[aa,bl]
theorem T7(hB:aw C A β st a w)(hv:aa w A β v x):∃az,aw C A az (uw st x).1 a w/\aa w A az v (uw st x).2:=by
 unfold uw;split
 . split
   . rename_i e row l hk;obtain⟨h1,h2⟩:=hB.shrink hk hv;grind
   grind
 grind
mutual
theorem zh(hB:aw C A β st a w){s:M (Nat×Option Nat)}{bad:Nat->Bool}(hA:∀b,A b->A' b)(hK:Keyed bad s β az):∀(x y:AV) (v:Value),
  (∀p∈(zg st.h s bad x y).1,p)->(∀k∈(zg st.h s bad x y).2,∀b,ai (β k)=some b->A' b)->aa w A β v y->aa w A' az v x/\∀k∈(zg st.h s bad x y).2,(st.h k).isSome
 |x,y,v,h,hF,hr=>by
  generalize he:zg st.h s bad x y=r at h hF |-;unfold zg at he;split at he
  . rename_i r0 l0 k;subst he;exact GK hB hA r0 l0 k v h hF hr
  . rename_i xs ys;subst he;simp only [aa] at hr |-;obtain⟨arr,e1,e2⟩:=hr;obtain⟨g1,g2⟩:=oT hB hA hK xs ys _ h hF e2;exact⟨⟨arr,e1,g1⟩,g2⟩
  . rename_i xs ys;subst he;simp only [aa] at hr |-;obtain⟨arr,e1,e2⟩:=hr;obtain⟨g1,g2⟩:=oT hB hA hK xs ys _ h hF e2;exact⟨⟨arr,e1,g1⟩,g2⟩
  . subst he;exact⟨jf (λb hb=>⟨hA b hb,rfl⟩) _ _ (rC hK _ _ _ h hr),λk hk=>by cases hk⟩
  . subst he;obtain⟨g1,g2⟩:=tK hB hr hA hF;exact⟨rC hK _ _ _ h g1,λk hk=>by obtain⟨e,row,l,fr,hr⟩:=g2 k hk;simp [hr]⟩
theorem oT(hB:aw C A β st a w){s:M (Nat×Option Nat)}{bad:Nat->Bool}(hA:∀b,A b->A' b)(hK:Keyed bad s β az):∀(xs ys:M AV) (vs:M Value),
  (∀p∈(pc st.h s bad xs ys).1,p)->(∀k∈(pc st.h s bad xs ys).2,∀b,ai (β k)=some b->A' b)->ae w A β vs ys->ae w A' az vs xs/\∀k∈(pc st.h s bad xs ys).2,(st.h k).isSome
 |[],[],vs,_,_,hr=>by
   simp only [ae] at hr |-;exact⟨hr,λk hk=>by simp [pc] at hk⟩
 |x::xs,y::ys,vs,h,hF,hr=>by
  simp only [pc] at h hF |-;obtain⟨g1,g2⟩:=lW h;simp only [ae] at hr |-;obtain⟨v,b7,e,r1,r2⟩:=hr;obtain⟨q1,q2⟩:=zh hB hA hK x y v g1 (λk hk=>hF k (T! _ hk)) r1;obtain⟨q3,q4⟩:=oT hB hA hK xs ys b7 g2 (λk hk=>hF k (Y! _ hk)) r2;refine⟨⟨v,b7,e,q1,q3⟩,λk hk=>?_⟩;rcases F!.1 hk with hk|hk
  . exact q2 k hk
  . exact q4 k hk
 |[],_::_,vs,h,_,_|_::_,[],vs,h,_,_=>by simp only [pc] at h;exact(aU h).elim
end
def aAs {k:Nat}(hA:∀b,A b->A' b)(hk:kindOk b=true)(vt:∀g,ai (β k)=some g->¬A g->¬A' g)(h:BR w A β k b):BR w A' β k b:=by
 have hK:cg w w A A':=λb hb=>⟨hA b hb,rfl⟩;cases b with
 |cells cs=>
  obtain⟨g,arr,e,h1,h2,h3,h4,h5⟩:=h;exact⟨g,arr,e,h1,h2,vt g (by rw [h1];rfl) h3,cJ hK _ _ h4,h5⟩
 |arr row l=>
  obtain⟨g,arr,e,h1,h2,h3,h4⟩:=h;exact⟨g,arr,e,h1,h2,vt g (by rw [h1];rfl) h3,br (λc x hx=>bz hK row c x hx) l _ h4⟩
 |views _ _ _ _ _|fo _ _ _|fvar _ _|mp _ _ _=>grind[kindOk]
 |bc e sz n cs=>
  obtain⟨xs,h1,h2,h3⟩:=h;exact⟨xs,h1,λg hg=>vt g hg (h2 g hg),λfa=>cJ hK _ _ (h3 fa)⟩
 |eF e j xs i=>
  obtain⟨ys,h1,h2,h3⟩:=h;exact⟨ys,h1,λg hg=>vt g hg (h2 g hg),h3⟩
 |iu e j row l i=>
  obtain⟨xs,v0,h1,h2,h3,h4⟩:=h;exact⟨xs,v0,h1,λg hg=>vt g hg (h2 g hg),br (λc x hx=>bz hK row c x hx) l _ h3,h4⟩
 |row e row l fr=>
  cases fr with
  |true=>grind[kindOk]
  |false=>
   obtain⟨xs,x1,x2,x3⟩:=h;refine⟨xs,x1,br (λc x hx=>bz hK row c x hx) l xs x2,λb hb=>?_⟩;grind
def Kh(hB:aw C A β st a w){s:M (Nat×Option Nat)}{bad:Nat->Bool}(hA:∀b,A b->A' b)(hK:Keyed bad s β az){k K:Nat}{b:AB}(hk:az K=β k)(NJ:kindOk b=true)
  (h:∀p∈(vW st.h s bad (st.h k) b).1,p) (hF:∀q∈(vW st.h s bad (st.h k) b).2,∀g,ai (β q)=some g->A' g) (vt:∀g,ai (β k)=some g->¬A g->¬A' g):BR w A' az K b:=by
 generalize he:vW st.h s bad (st.h k) b=r at h hF;unfold vW at he;split at he
 . rename_i xs ys sE;subst he;obtain⟨g,arr,e,h1,h2,h3,h4,h5⟩:=hB.blocks k _ sE;obtain⟨q1,_⟩:=oT hB hA hK ys xs _ h hF h4;exact⟨g,arr,e,hk.trans h1,h2,vt g (by rw [h1];rfl) h3,q1,h5⟩
 . subst he;obtain⟨c,hc⟩:=xS h;rw [hc] at h;exact aAs hA NJ x! (y8 hK hk h (hB.blocks k c hc))
def zi(hB:aw C A β st a w){bad:Nat->Bool}(hK:Keyed bad s β az){k:Nat}
  (h:∀p∈(vW st.h s bad (st.h k) b).1,p):(st.h k).isSome/\∀q∈(vW st.h s bad (st.h k) b).2,(st.h q).isSome:=by
 generalize he:vW st.h s bad (st.h k) b=r at h |-;unfold vW at he;split at he
 . rename_i xs ys sE;subst he;obtain⟨g,arr,e,h1,h2,h3,h4,h5⟩:=hB.blocks k _ sE;exact⟨x!,(oT (A':=λ_=>True) hB (λ_ _=>trivial) hK ys xs _ h (λ_ _ _ _=>trivial) h4).2⟩
 . subst he;obtain⟨c,hc⟩:=xS h;grind
def vX {h:aQ}{s:M (Nat×Option Nat)}{bad:Nat->Bool}:∀(bs:M (Option AB)) (i j:Nat) (b:AB),bs[j]? =some (some b)->
  (∀p∈(vW h s bad (h (50000+(i+j))) b).1,p∈(ob h s bad i bs).1)/\∀p∈(vW h s bad (h (50000+(i+j))) b).2,p∈(ob h s bad i bs).2
 |some b0::bs,i,0,b,hb=>by
  grind[List.getElem?_cons_zero,Option.some.injEq,ob,List.mem_append_left]
 |some b0::bs,i,j+1,b,hb=>by
  simp [ob];have:=vX (h:=h) (s:=s) (bad:=bad) bs (i+1) j b x!;grind
 |none::bs,i,0,b,hb=>by grind
 |none::bs,i,j+1,b,hb=>by
  simp [ob];have:=vX (h:=h) (s:=s) (bad:=bad) bs (i+1) j b x!;grind
def Bq {h:aQ}{s:M (Nat×Option Nat)}{bad:Nat->Bool}:∀(bs:M (Option AB)) (i q:Nat),q∈(ob h s bad i bs).2->
  ∃(j:Nat) (b:AB),bs[j]? =some (some b)/\q∈(vW h s bad (h (50000+(i+j))) b).2
 |[],i,q,hq=>by grind[ob]
 |some b0::bs,i,q,hq=>by
  simp [ob,F!] at hq;rcases hq with hq|hq
  . exact⟨0,b0,rfl,hq⟩
  . obtain⟨j,b,h1,h2⟩:=Bq bs (i+1) q hq;exact⟨j+1,b,by simpa using h1,by rwa [show i+1+j=i+(j+1) by omega] at h2⟩
 |none::bs,i,q,hq=>by
  obtain⟨j,b,h1,h2⟩:=Bq bs (i+1) q hq;exact⟨j+1,b,by simpa using h1,by rwa [show i+1+j=i+(j+1) by omega] at h2⟩
def ER {h:aQ}{s:M (Nat×Option Nat)}{bad:Nat->Bool}:∀(bs:M AB) (i j:Nat) (b:AB),bs[j]? =some b->
  (∀p∈(zW h s bad (60000+(i+j)) b).1,p∈(ux h s bad i bs).1)/\∀p∈(zW h s bad (60000+(i+j)) b).2,p∈(ux h s bad i bs).2
 |b0::bs,i,0,b,hb=>by
  grind[List.getElem?_cons_zero,Option.some.injEq,ux,List.mem_append_left]
 |b0::bs,i,j+1,b,hb=>by
  simp [ux];have:=ER (h:=h) (s:=s) (bad:=bad) bs (i+1) j b x!;grind
def NK {h:aQ}{s:M (Nat×Option Nat)}{bad:Nat->Bool}:∀(bs:M AB) (i q:Nat),q∈(ux h s bad i bs).2->
  ∃(j:Nat) (b:AB),bs[j]? =some b/\q∈(zW h s bad (60000+(i+j)) b).2
 |[],i,q,hq=>by grind[ux]
 |b0::bs,i,q,hq=>by
  simp [ux,F!] at hq;rcases hq with hq|hq
  . exact⟨0,b0,rfl,hq⟩
  . obtain⟨j,b,h1,h2⟩:=NK bs (i+1) q hq;exact⟨j+1,b,by simpa using h1,by rwa [show i+1+j=i+(j+1) by omega] at h2⟩
theorem T8(hT:bA T P)(hB:aw C A β st a w)(h:n4 T st fn.results.toList=some as_):∃v,(results fn a.tmps).run P w= .ok v w/\aa w A β v (hY as_):=by
 obtain⟨vs,p1,p2⟩:=tm hT hB fn.results.toList as_ h;have hl:=dZ as_ vs p2;refine⟨if h:vs.toArray.size=1 then vs.toArray[0] else .tuple vs.toArray,?_,?_⟩
 . grind[Kd,Array.mapM_eq_mapM_toList,Sem.run_bind,map_eq_pure_bind,Result.andThen_ok,Sem.run_pure]
 . match as_,vs,hl,p2 with
   |[x],[v],_,p2=>
     grind[ae,List.cons.injEq,hY]
   |[],[],_,p2=>
     grind[hY,aa,ae]
   |x::y::l,v::u::m,_,p2=>
    simp_all[dif_neg,hY,aa]
theorem T9{pU:Nat->Value}(hB:aw ⟨w0,A0,HM F0 n,G,F0⟩ A pU st a w)
  (hn:r.heap.length=n) (aju:n<=100) (hA0:∀b,HM F0 n b->¬A0 b) (Li:∀b,A0 b->b<w0.heap.size) (K6:aa w A pU v x) (h:T6 st.h x r s):
  ∃A' az,It w0 A0 F0 n w v r A' az:=by
 unfold T6 at h;cases hq:(kZ (eR s)&&(((eR s).all (lz r))&&((s.all λy=>Nat.ble 60000 y.1)&&(((NG st.h s x r).all λk=>!ay (eR s) k&&lz r k)&&(r.new.all kindOk&&r.heap.all aj7))))) with
 |false=>grind
 |true=>
  rw [hq] at h;simp only [L!] at h;simp only [B!,Z!] at hq;obtain⟨q1,q2,q3,q4,q5,q6⟩:=hq;obtain⟨c1,c2⟩:=lW (xP _ h);obtain⟨c2,c3⟩:=lW c2;let F:=NG st.h s x r
  let fa:Nat->Value:=λi=>match cz s i with
   |some (some k)=>pU k
   |some none=>sW
   |none=>pU i
  have h60:∀K y,cz s K=some y->60000<=K:=by
   have :∀(l:M (Nat×Option Nat)),(∀z∈l,Nat.ble 60000 z.1=true)->∀K y,cz l K=some y->60000<=K:=by
    intro l;induction l with
    |nil=>intro _ K y h;cases h
    |cons z l ih=>
     intro hl K y h;obtain⟨z1,z2⟩:=z;simp only [cz] at h;cases hb:Nat.beq K z1 with
     |true=>rw [C! hb];exact N! (hl _ (I! ..))
     |false=>rw [hb] at h;exact ih (λz hz=>hl z (E! _ hz)) K y h
   exact this s q3
  have aj9:∀K,lz r K=false->rl K=true/\cz s K=none/\∃ab,r.heap[K-50000]? =some (some ab):=by
   intro K hK;simp only [lz,ZX,Bool.not_eq_false',B!] at hK;obtain⟨k1,k2⟩:=hK;refine⟨k1,?_,?_⟩
   . cases hl:cz s K with
     |none=>rfl
     |some y=>
      have:=h60 K y hl;simp only [rl,B!] at k1;have:=N! k1.2;omega
   . split at k2
     . rename_i ab lQ;exact⟨ab,lQ⟩
     . cases k2
  have Dn:Keyed (lz r) s pU fa:=⟨λK k h=>by simp only [fa,h],λK h=>by simp only [fa,h],λK h _=>by simp only [fa,h],λK h=>by simp only [fa,(aj9 K h).2.1]⟩
  have Ua:∀i ab,r.heap[i]? =some (some ab)->i<100/\lz r (50000+i)=false/\fa (50000+i)=pU (50000+i)/\pU (50000+i)=F0 (50000+i):=by
   intro i ab hi;have jU:=(D?.1 hi).1
   have hip:rl (50000+i)=true:=by
    simp only [rl,B!];exact⟨Nat.ble_eq_true_of_le w!,Nat.ble_eq_true_of_le w!⟩
   have hb:lz r (50000+i)=false:=by
    simp only [lz,ZX,hip,Bool.true_and,w?,hi,Bool.not_true]
   exact⟨w!,hb,by simp only [fa,(aj9 _ hb).2.1],hB.held _ hip⟩
  have Ub:∀q∈F,(st.h q).isSome:=by
   intro q hq;simp only [F,NG,F!] at hq;rcases hq with hq|hq|hq
   . exact(zh (A':=λ_=>True) hB (λ_ _=>trivial) Dn r.res x v c1 (λ_ _ _ _=>trivial) K6).2 q hq
   . obtain⟨j,b,h1,h2⟩:=Bq _ _ _ hq;have hm:=vX (h:=st.h) (s:=s) (bad:=lz r) r.heap 0 j b h1;exact(zi hB Dn (λp hp=>c2 p (hm.1 p hp))).2 q h2
   . obtain⟨j,b,h1,h2⟩:=NK _ _ _ hq;have hm:=ER (h:=st.h) (s:=s) (bad:=lz r) r.new 0 j b h1;have hc:∀p∈(zW st.h s (lz r) (60000+(0+j)) b).1,p:=λp hp=>c3 p (hm.1 p hp);generalize hg:zW st.h s (lz r) (60000+(0+j)) b=g at hc h2;unfold zW at hg;split at hg
     . subst hg;exact(zi hB Dn hc).2 q h2
     . split at hg<;>(subst hg;cases h2)
     . subst hg;cases h2
  have hFA:∀q∈F,∀b,ai (pU q)=some b->ct A pU F b:=λq hq b hb=>.inr ⟨q,hq,hb⟩;have hAA:∀b,A b->ct A pU F b:=λb hb=>.inl hb
  have vt:∀k,(st.h k).isSome->k∉F->∀g,ai (pU k)=some g->¬A g->¬ct A pU F g:=by
   rintro k hk hkF g hg lR (hAg|⟨j,hj,hjg⟩)
   . exact lR hAg
   . have:=hB.apart j k g (Ub j hj) hk hjg hg;subst this;exact hkF hj
  have aka:∀k,(k∈eR s\/lz r k=false)->k∉F:=by
   rintro k hk hF;have h4:=q4 k hF;rcases hk with hk|hk
   . have:=n0.2 hk;rw [this] at h4;simp at h4
   . rw [hk] at h4;simp at h4
  have Qs:∀i ab,r.heap[i]? =some (some ab)->BR w (ct A pU F) fa (50000+i) ab/\(st.h (50000+i)).isSome:=by
   intro i ab hi;obtain⟨_,hb,bJ,_⟩:=Ua i ab hi;have hm:=vX (h:=st.h) (s:=s) (bad:=lz r) r.heap 0 i ab hi;rw [r?] at hm;have hl:=zi (k:=50000+i) hB Dn (λp hp=>c2 p (hm.1 p hp));have NJ:kindOk ab=true:=q6 _ (E? hi);exact⟨Kh hB hAA Dn bJ NJ (λp hp=>c2 p (hm.1 p hp)) (λq hq=>hFA q (by simp only [F,NG,F!];exact .inr (.inl (hm.2 q hq)))) (vt _ hl.1 (aka _ (.inr hb))),hl.1⟩
  have hN1:∀j ab,r.new[j]? =some ab->BR w (ct A pU F) fa (60000+j) ab/\(fa (60000+j)=sW\/∃k,cz s (60000+j)=some (some k)/\fa (60000+j)=pU k/\(st.h k).isSome):=by
   intro j ab hj;have hm:=ER (h:=st.h) (s:=s) (bad:=lz r) r.new 0 j ab hj;rw [r?] at hm;have hc:∀p∈(zW st.h s (lz r) (60000+j) ab).1,p:=λp hp=>c3 p (hm.1 p hp);have hf:∀q∈(zW st.h s (lz r) (60000+j) ab).2,q∈F:=λq hq=>by simp only [F,NG,F!];exact .inr (.inr (hm.2 q hq))
   have NJ:kindOk ab=true:=q5 _ (List.mem_of_getElem? hj);generalize hg:zW st.h s (lz r) (60000+j) ab=g at hc hf;unfold zW at hg;split at hg
   . rename_i k hk;subst hg;have bJ:fa (60000+j)=pU k:=by simp only [fa,hk]
     have hl:=zi (k:=k) hB Dn hc;exact⟨Kh hB hAA Dn bJ NJ hc (λq hq=>hFA q (hf q hq)) (vt _ hl.1 (aka _ (.inl (kl s _ _ hk)))),.inr ⟨k,hk,bJ,hl.1⟩⟩
   . rename_i hk;have bJ:fa (60000+j)=sW:=by simp only [fa,hk]
     split at hg
     . subst hg;exact⟨TX bJ (aU hc),.inl bJ⟩
     . subst hg;exact(aU hc).elim
   . subst hg;exact(aU hc).elim
  have xF:=(zh hB hAA Dn r.res x v c1 (λq hq=>hFA q (by simp only [F,NG,F!];exact .inl hq)) K6).1
  have fH:∀k b,AS r k->ai (fa k)=some b->∃k',(st.h k').isSome/\ai (pU k')=some b/\((lz r k=false/\k'=k)\/cz s k=some (some k')):=by
   rintro k b (⟨i,ab,rfl,_,hi⟩|⟨j,rfl,hj⟩) hb
   . obtain⟨_,h1,h2,_⟩:=Ua i ab hi;rw [h2] at hb;exact⟨_,(Qs i ab hi).2,hb,.inl ⟨h1,rfl⟩⟩
   . rcases(hN1 j _ (D! hj)).2 with h|⟨k,h1,h2,h3⟩
     . rw [h] at hb;simp [sW,ai] at hb
     . rw [h2] at hb;exact⟨k,h3,hb,.inr h1⟩
  refine⟨ct A pU F,fa,⟨hB.frame.os,hB.frame.tape,hB.frame.output,hB.frame.size,λb hb hM=>hB.frame.block b hb hM,λb hb=>⟨.inl (hB.base b hb),hB.frame.block b (Li b hb) λhM=>hA0 b hM hb⟩,λb hb Mn=>?_,λb hb=>?_,xF,λi ab hi=>⟨(Qs i ab hi).1,(Ua i ab hi).2.2.1.trans (Ua i ab hi).2.2.2⟩,λj ab hj=>⟨(hN1 j ab hj).1,λb hb=>?_⟩,λk k' b h1 h2 g1 g2=>?_⟩⟩
  . rcases Mn with Mn|⟨j,hj,AJ⟩
    . exact hB.iP b hb Mn
    . rcases hB.mO j b (Ub j hj) AJ with h|h
      . exact absurd hb (Nat.not_lt.2 h)
      . exact .inr h
  . rcases hb with hb|⟨j,hj,AJ⟩
    . exact hB.bound b hb
    . exact nk hB (Ub j hj) AJ
  . obtain⟨k,g1,g2,_⟩:=fH _ b (.inr ⟨j,rfl,(D?.1 hj).1⟩) hb;exact hB.mO k b g1 g2
  . obtain⟨j,a1,a2,a3⟩:=fH k b h1 g1;obtain⟨j',b1,b2,b3⟩:=fH k' b h2 g2;have:=hB.apart j j' b a1 b1 a2 b2;subst this;rcases a3 with⟨p1,p2⟩|p1<;>rcases b3 with⟨r1,r2⟩|r1
    . exact p2.symm.trans r2
    . have:=q2 j (kl s _ _ r1);rw [p2,p1] at this;cases this
    . have:=q2 j (kl s _ _ p1);rw [r2,r1] at this;cases this
    . exact y9 s q1 k k' j p1 r1
def W0(hT:bA T P)(hB:aw ⟨w0,A0,HM F0 n,G,F0⟩ A β st a w)
  (hn:r.heap.length=n) (aju:n<=100) (hA0:∀b,HM F0 n b->¬A0 b) (Li:∀b,A0 b->b<w0.heap.size) (h:NH T st fn.results.toList r):
  ∃v,(results fn a.tmps).run P w= .ok v w/\∃A' az,It w0 A0 F0 n w v r A' az:=by
 grind[NH,T8,T7,T9]
variable {s:dD}
def QL(hE:aV P E)(hm:P.follows .mixedOrders=true){f:FuncId}{fn:Func}(L:M AV->M AB->Nat->Option bq)(hf:P.funcs[f]? =some fn)(hb:fn.body=some c)
  (hnf:∀bc hs r,s bc hs=some r->∀ab∈hs,zf ab=true)
  (h:∀bc hs r,s bc hs=some r->r.pre->Bp E (L bc hs) c fn.ntmps fn.results.toList bc hs r):aF P E.gP f s:=by
 intro w A β args bc hs r hA hG bm fi vr oc hp hlen DW;have ID:=h bc hs r oc hp;unfold Bp at ID;cases hn:Nat.ble bc.length fn.ntmps with
 |false=>grind
 |true=>
  rw [hn] at ID;refine calls_of_wp hf hb (dy (C:=⟨w,A,HM β hs.length,E.gP,β⟩) ⟨hE,rfl⟩ hm c _ _ _ w _ ID ⟨A,β,aw.EP hA hG bm (N! hn) fi vr⟩ ?_);intro e aX a' w' hk _ hR;obtain⟨A',az,hB⟩:=hR
  have key:NH E.T aX fn.results.toList r->bodyPost P fn (λe w'=>∃v,e= .returned v/\∃A' az,It w A β hs.length w' v r A' az) .ret a' w':=by
   intro hk;obtain⟨v,h1,A2,fa,h2⟩:=W0 hE.fc hB hlen DW (aj8 (hnf bc hs r oc) fi) hA hk;exact⟨hB.defers,v,h1,v,rfl,A2,fa,h2⟩
  cases e with
  |norm=>exact key hk
  |ret=>exact key hk
  |exit i=>exact hk.elim
inductive TA where
 |dR (t:Ty)
 |own (k:Nat)
 |ref (k off:Nat)
 |nil
 |lb
 |mi
 |agg (l:List TA)
 |fn (f:Fn) (first aW:List TA)
 |var (ts:List Ty)
mutual
@[reducible] def TA.tys:TA->M Ty
  |.dR t=>[t]
  |.agg l=>TA.dp l
  |.fn _ l m=>TA.dp l++TA.dp m
  |.var ts=>ts
  |_=>[]
@[reducible] def TA.dp:M TA->M Ty
  |[]=>[]
  |t::ts=>TA.tys t++TA.dp ts
end
mutual
def TA.get:TA->AV->Option (M AV)
 |.dR _,a=>some [a]
 |.own k,.own k'=>bif Nat.beq k k' then some [] else none
 |.ref k o,.ref k' o'=>bif Nat.beq k k'&&Nat.beq o o' then some [] else none
 |.nil,.nil|.lb,.lb|.mi,.mi=>some []
 |.agg l,.agg cs=>TA.zX l cs
 |.fn f l m,.fn f' cs ds=>if f=f' then Dw (TA.zX l cs) (TA.zX m ds) else none
 |.var ts,.cQ Gz x 0=>match fG Gz ts [x] with
   |some (y::_)=>some (aB ts y)
   |_=>none
 |_,_=>none
def TA.zX:M TA->M AV->Option (M AV)
 |[],[]=>some []
 |t::ts,a::as_=>Dw (TA.get t a) (TA.zX ts as_)
 |_,_=>none
end
mutual
def TA.put:TA->M AV->AV
 |.dR _,cs=>cs.headD .cF
 |.own k,_=>.own k
 |.ref k o,_=>.ref k o
 |.nil,_=>.nil
 |.lb,_=>.lb
 |.mi,_=>.mi
 |.agg l,cs=>.agg (TA.qm l cs)
 |.fn f l m,cs=>.fn f (TA.qm l (cs.take (TA.dp l).length)) (TA.qm m (cs.drop (TA.dp l).length))
 |.var ts,cs=>zc ts cs
def TA.qm:M TA->M AV->M AV
 |[],_=>[]
 |t::ts,cs=>TA.put t (cs.take (TA.tys t).length)::TA.qm ts (cs.drop (TA.tys t).length)
end
inductive TB where
 |row (e:Nat) (row:List Ty)
 |cells (l:List TA)
 |arr (row:List Ty)
 |eF (e k:Nat)
@[reducible] def TB.D:TB->Type
  |.row _ r=>M (Row r)
  |.cells l=>Row (TA.dp l)
  |.arr r=>M (Row r)
  |.eF _ _=>M Value×Nat
@[reducible] def fB:M TB->Type
  |[]=>Unit
  |b::bs=>TB.D b×fB bs
def TB.get:(b:TB)->AB->Option (TB.D b)
 |.row e r,.row e' r' l false=>bif Nat.beq e e' then fG r' r l else none
 |.cells ts,.cells cs=>match TA.zX ts cs with
   |some as_=>lf (TA.dp ts) as_
   |none=>none
 |.arr r,.arr r' l=>fG r' r l
 |.eF e k,.eF e' (some k') xs i=>bif Nat.beq e e'&&Nat.beq k k' then some (xs,i) else none
 |_,_=>none
def TB.put:(b:TB)->TB.D b->AB
 |.row e r,l=>.row e r l false
 |.cells ts,x=>.cells (TA.qm ts (aB (TA.dp ts) x))
 |.arr r,l=>.arr r l
 |.eF e k,x=>.eF e (some k) x.1 x.2
def TB.ok:(b:TB)->TB.D b->Prop
 |.row _ r,l=>D.ok (.slice r) l
 |.cells ts,x=>Row.ok (TA.dp ts) x
 |.arr _,_=>True
 |.eF _ _,x=>x.1.length<=maxLen
def fB.get:(bs:M TB)->M AB->Option (fB bs)
 |[],[]=>some ()
 |b::bs,h::hs=>match TB.get b h,fB.get bs hs with
  |some x,some y=>some (x,y)
  |_,_=>none
 |_,_=>none
def fB.put:(bs:M TB)->fB bs->M AB
 |[],_=>[]
 |b::bs,x=>TB.put b x.1::fB.put bs x.2
def fB.ok:(bs:M TB)->fB bs->Prop
 |[],_=>True
 |b::bs,x=>TB.ok b x.1/\fB.ok bs x.2
def bI(ts:M TA)(bs:M TB)(F:Row (TA.dp ts)->fB bs->bo):dD:=λbc hs=>match TA.zX ts bc with
 |some cs=>match lf (TA.dp ts) cs,fB.get bs hs with
  |some x,some y=>some (F x y)
  |_,_=>none
 |none=>none
def od(s t:dD):dD:=λbc hs=>match s bc hs with
 |some r=>some r
 |none=>t bc hs
def NL {α:Type}{a b:Option (M α)}{c:M α}(h:Dw a b=some c):∃x y,a=some x/\b=some y/\c=x++y:=by
 cases a with
 |none=>grind[Dw]
 |some x=>
  cases b with
  |none=>grind[Dw]
  |some y=>grind[Dw,Option.some.injEq]
def Ki {as_ bs fZ:M AV}{us vs:M Value}(h1:ae w A β us as_)(hl:fZ.length=(as_++bs).length)(h:ae w A β (us++vs) fZ):
  ae w A β us (fZ.take as_.length)/\ae w A β vs (fZ.drop as_.length):=by
 grind[ly,List.take_append_drop,vV,List.length_take,List.append_inj]
def W2{ts Gz:M Ty}{x:Row Gz}{y:Row ts}{r:M (Row ts)}(h:aa w A β v (.cQ Gz x 0))(hy:fG Gz ts [x]=some (y::r)):
  ∃vs,ae w A β vs (aB ts y)/\∀fZ,fZ.length=ts.length->ae w A β vs fZ->aa w A β v (zc ts fZ):=by
 obtain⟨b,o,Gc,g0,gA,gr,gd⟩:=h;obtain⟨e,he⟩:=jn hy;subst e;simp only [List.cons.injEq] at he;obtain⟨rfl,_⟩:=he;refine⟨Gc,gZ _ _ _ gd,λfZ hl hr=>?_⟩;unfold zc;split
 . rename_i z hz;exact⟨b,o,Gc,g0,gA,gr,nj _ _ _ _ hr hz⟩
 . trivial
mutual
theorem apT:∀(t:TA) (a:AV) (cs:M AV) (v:Value),TA.get t a=some cs->aa w A β v a->
  cs.length=(TA.tys t).length/\∃vs,ae w A β vs cs/\∀fZ,fZ.length=cs.length->ae w A β vs fZ->aa w A β v (TA.put t fZ)
 |t,a,cs,v,h,hr=>by
  unfold TA.get at h;split at h
  . simp only [A!] at h;subst h;refine⟨rfl,[v],by simp only [ae];exact⟨v,[],rfl,hr,rfl⟩,λfZ hl p9=>?_⟩;match fZ,hl with
    |[c],_=>
      simp only [ae] at p9;obtain⟨v',b7,e,r1,r2⟩:=p9;simp only [i?] at e;obtain⟨rfl,rfl⟩:=e;simpa only [TA.put,List.headD] using r1
  . rename_i k k';cases hb:Nat.beq k k' with
    |false=>rw [hb] at h;cases h
    |true=>
     rw [hb] at h;simp only [L!,A!] at h;subst h;have:=C! hb;subst this;exact⟨rfl,[],by simp [ae],λfZ _ _=>by simpa only [TA.put] using hr⟩
  . rename_i k o k' o';cases hb:(Nat.beq k k'&&Nat.beq o o') with
    |false=>rw [hb] at h;cases h
    |true=>
     rw [hb] at h;simp only [L!,A!] at h;subst h;simp only [B!] at hb;have h1:=C! hb.1;have h2:=C! hb.2;subst h1;subst h2;exact⟨rfl,[],by simp [ae],λfZ _ _=>by simpa only [TA.put] using hr⟩
  . simp only [A!] at h;subst h;exact⟨rfl,[],by simp [ae],λfZ _ _=>by simpa only [TA.put] using hr⟩
  . simp only [A!] at h;subst h;exact⟨rfl,[],by simp [ae],λfZ _ _=>by simpa only [TA.put] using hr⟩
  . simp only [A!] at h;subst h;exact⟨rfl,[],by simp [ae],λfZ _ _=>by simpa only [TA.put] using hr⟩
  . rename_i l ds;simp only [aa] at hr;obtain⟨arr,rfl,hr⟩:=hr;obtain⟨g1,vs,g2,g3⟩:=Br l ds cs _ h hr;exact⟨g1,vs,g2,λfZ hl p9=>by simp only [TA.put,aa];exact⟨arr,rfl,g3 fZ hl p9⟩⟩
  . rename_i f l m f' ds es;split at h
    . rename_i hf;subst hf;obtain⟨x,y,hx,hy,rfl⟩:=NL h;simp only [aa] at hr;obtain⟨a1,a2,rfl,r1,r2⟩:=hr;obtain⟨g1,us,g2,g3⟩:=Br l ds x _ hx r1;obtain⟨q1,vs,q2,q3⟩:=Br m es y _ hy r2;refine⟨by simp [g1,q1],us++vs,iC _ _ _ _ g2 q2,λfZ hl p9=>?_⟩;obtain⟨p1,p2⟩:=Ki g2 hl p9;simp only [TA.put,aa];rw [<-g1];refine⟨a1,a2,rfl,g3 _ ?_ p1,q3 _ ?_ p2⟩
      . simp at hl |-;omega
      . simp at hl |-;omega
    . cases h
  . rename_i ts Gz x;split at h
    . rename_i y r hy;simp only [A!] at h;subst h;obtain⟨vs,g1,g2⟩:=W2 hr hy;exact⟨fu _ _,vs,g1,λfZ hl=>g2 fZ (by rw [hl,fu])⟩
    . cases h
  . cases h
theorem Br:∀(ts:M TA) (as_ cs:M AV) (MB:M Value),TA.zX ts as_=some cs->ae w A β MB as_->
  cs.length=(TA.dp ts).length/\∃vs,ae w A β vs cs/\∀fZ,fZ.length=cs.length->ae w A β vs fZ->ae w A β MB (TA.qm ts fZ)
 |[],[],cs,MB,h,hr=>by
   simp only [TA.zX,A!] at h;subst h;exact⟨rfl,[],by simp [ae],λfZ _ _=>by simpa only [TA.qm] using hr⟩
 |t::ts,a::as_,cs,MB,h,hr=>by
  simp only [TA.zX] at h;obtain⟨x,y,hx,hy,rfl⟩:=NL h;simp only [ae] at hr;obtain⟨v,vs1,rfl,r1,r2⟩:=hr;obtain⟨g1,us,g2,g3⟩:=apT t a x v hx r1;obtain⟨q1,vs,q2,q3⟩:=Br ts as_ y vs1 hy r2;refine⟨by simp [g1,q1],us++vs,iC _ _ _ _ g2 q2,λfZ hl p9=>?_⟩;obtain⟨p1,p2⟩:=Ki g2 hl p9;simp only [TA.qm,ae];rw [<-g1];refine⟨v,vs1,rfl,g3 _ ?_ p1,q3 _ ?_ p2⟩
  . simp at hl |-;omega
  . simp at hl |-;omega
 |[],_::_,cs,MB,h,_|_::_,[],cs,MB,h,_=>by simp [TA.zX] at h
end
def CR {ts:M TA}{cs:M AV}{MB:M Value}{x:Row (TA.dp ts)}(h:TA.zX ts as_=some cs)(hx:lf (TA.dp ts) cs=some x)(hr:ae w A β MB as_):
  ae w A β MB (TA.qm ts (aB (TA.dp ts) x))/\Row.ok (TA.dp ts) x:=by
 obtain⟨g1,vs,g2,g3⟩:=Br ts as_ cs MB h hr;grind[nj,fu,gZ,GO]
def apU:∀(b:TB) (ab:AB) (k:Nat) (y:TB.D b),TB.get b ab=some y->BR w A β k ab->BR w A β k (TB.put b y)/\TB.ok b y
 |b,ab,k,y,h,hr=>by
  unfold TB.get at h;split at h
  . rename_i e r e' r' l;cases hb:Nat.beq e e' with
    |false=>grind
    |true=>
     rw [hb] at h;have:=C! hb;subst this;obtain⟨er,hl⟩:=lV h;subst er;subst hl;refine⟨hr,?_⟩;obtain⟨xs,h1,h2,h3⟩:=hr;refine⟨?_,T2 (λc x hx=>GO _ c x hx) _ xs h2⟩;rcases h1.2 with⟨_,h⟩|⟨g,cap,cur,_,_,_,g4,g5,_⟩
     . omega
     . exact X? g4 g5
  . split at h
    . rename_i as_ has;obtain⟨g,arr,e,h1,h2,h3,h4,h5⟩:=hr;obtain⟨q1,q2⟩:=CR has h h4;exact⟨⟨g,arr,e,h1,h2,h3,q1,h5⟩,q2⟩
    . cases h
  . obtain⟨er,hl⟩:=lV h;subst er;subst hl;exact⟨hr,trivial⟩
  . rename_i e0 k0 e' k' xs i;cases hb:(Nat.beq e0 e'&&Nat.beq k0 k') with
    |false=>rw [hb] at h;cases h
    |true=>
     rw [hb] at h;simp only [L!,A!] at h;subst h;simp only [B!] at hb;have h1:=C! hb.1;have h2:=C! hb.2;subst h1;subst h2;refine⟨hr,?_⟩;obtain⟨ys,h1,_⟩:=hr;rcases h1.2 with⟨_,h⟩|⟨g,cap,cur,_,_,_,g4,g5,_⟩
     . show xs.length<=maxLen;omega
     . exact X? g4 g5
  grind
def GV:∀(bs:M TB) (hs:M AB) (y:fB bs) (n:Nat),fB.get bs hs=some y->(∀i ab,hs[i]? =some ab->BR w A β (n+i) ab)->
  (fB.put bs y).length=hs.length/\(∀i ab,(fB.put bs y)[i]? =some ab->BR w A β (n+i) ab)/\fB.ok bs y
 |[],[],y,n,_,_=>⟨rfl,λi ab h=>by grind[fB.put],trivial⟩
 |b::bs,h::hs,y,n,hg,hr=>by
  simp [fB.get] at hg;split at hg
  . rename_i x z hx hz;simp at hg;subst hg;obtain⟨g1,g2⟩:=apU b h n x hx (hr 0 h rfl)
    obtain⟨q1,q2,q3⟩:=GV bs hs z (n+1) hz λi ab hi=>by
     have:=hr (i+1) ab x!;grind
    refine⟨by grind[fB.put],λi ab hi=>?_,g2,q3⟩;grind[fB.put,List.getElem?_cons_zero,Option.some.injEq,hi]
  grind
 |[],_::_,y,n,h,_|_::_,[],y,n,h,_=>by grind[fB.get]
theorem abf:∀(bs:M TB) (y:fB bs),∀ab∈fB.put bs y,zf ab=true
 |[],_,ab,h=>by grind[fB.put]
 |b::bs,y,ab,h=>by
  simp [fB.put,P!] at h;rcases h with rfl|h
  . cases b<;>rfl
  . exact abf bs y.2 ab h
def QM(hE:aV P E)(hm:P.follows .mixedOrders=true){f:FuncId}{fn:Func}(ts:M TA)(bs:M TB){F:Row (TA.dp ts)->fB bs->bo}
  (L:Row (TA.dp ts)->fB bs->Nat->Option bq) (hf:P.funcs[f]? =some fn) (hb:fn.body=some c)
  (h:∀x y,(F x y).pre->Row.ok (TA.dp ts) x->fB.ok bs y->Bp E (L x y) c fn.ntmps fn.results.toList (TA.qm ts (aB (TA.dp ts) x)) (fB.put bs y) (F x y)):aF P E.gP f (bI ts bs F):=by
 intro w A β args bc hs r hA hG bm fi vr oc hp hlen DW;unfold bI at oc;split at oc
 . rename_i cs dX;split at oc
   . rename_i x y hx hy;simp only [A!] at oc;obtain⟨g1,g2⟩:=CR dX hx bm;obtain⟨q1,q2,q3⟩:=GV bs hs y 50000 hy fi
     have hv:aF P E.gP f (λGQ jW=>open Classical in if GQ=TA.qm ts (aB (TA.dp ts) x)/\jW=fB.put bs y then some (F x y) else none):=by
      refine QL hE hm (λ_ _=>L x y) hf hb (λGQ jW r' aGw=>?_) λGQ jW r' aGw Bn=>?_
      . grind[abf]
      grind
     have:=hv w A β args _ _ r hA hG g1 q2 (λi j b hi hj=>vr i j b w! w!) x! hp w! w!;grind
   grind
 grind
def aF.or{t:dD}(h1:aF P G f s)(h2:aF P G f t):aF P G f (od s t):=by
 intro w A β args bc hs r hA hG bm fi vr oc hp hlen DW;unfold od at oc;split at oc
 . rename_i r' p9;simp at oc;subst oc;exact h1 w A β args bc hs _ hA hG bm fi vr p9 hp hlen DW
 . exact h2 w A β args bc hs r hA hG bm fi vr oc hp hlen DW
def Env.bD(f:Nat)(m:M Bool)(s:dD)(E:Env):Env:={E with qX:=λg=>bif Nat.beq g f then some (m,s) else E.qX g}
def aV.bD(hE:aV P E){f:FuncId}{m:M Bool}{s:dD}(h:aF P E.gP f s)(hf:cV P f):aV P (E.bD f m s):=by
 refine⟨hE.fc,hE.sig,λg m' t hg=>?_,hE.hp,hE.cq⟩;simp [Env.bD] at hg;cases hb:Nat.beq g f with
 |true=>
  rw [hb] at hg;have:=C! hb;obtain⟨_,rfl⟩:=hg;subst this;exact⟨h,hf⟩
 |false=>
  rw [hb] at hg;exact hE.qX g m' t hg
def Env.ia(f:Nat)(t:M AV->Option (Option Nat×CF))(E:Env):Env:={E with cq:=λg=>bif Nat.beq g f then some t else E.cq g}
def Bs(ps:M PS)(F:Row (PS.flat ps)->CF)(bc:M AV):Option (Option Nat×CF):=match bc.getLast?,IE ps bc.dropLast with
 |some (.ref k 0),some x=>some (some k,F x)
 |_,_=>none
def bv:AV->Bool
 |.bool b=>b
 |.tt=>true
 |_=>false
def isB:AV->Bool
 |.bool _=>true
 |_=>false
def bZ:M CF->Z->Prop×Bool×Z
 |[],z=>(True,true,z)
 |F::l,z=>((F z).1/\isB (F z).2.1=true/\(bv (F z).2.1=true->(bZ l (F z).2.2).1),bif bv (F z).2.1 then(bZ l (F z).2.2).2.1 else false,bif bv (F z).2.1 then(bZ l (F z).2.2).2.2 else(F z).2.2)
def Z.rows:Z->M U
 |.g _ _ l=>l
 |_=>[]
def Z.txt:Z->B8
 |.s t=>t
 |_=>[]
def runT:M CF->Z->B8
 |[],z=>z.txt
 |F::l,z=>bif bv (F z).2.1 then runT l (F z).2.2 else(F z).2.2.txt
theorem runT_eq:∀(l:M CF) (z:Z),runT l z=(bZ l z).2.2.txt
 |[],_=>rfl
 |F::l,z=>by
  unfold runT bZ;rw [runT_eq l];cases bv (F z).2.1<;>rfl
abbrev bk.run(l:M CF)(z:Z):Prop×Bool×Z:=bZ l z
abbrev bk.Kj(n:Nat):M U:=List.replicate n []
abbrev bk.rows(z:Z):M U:=z.rows
def RF(b:Bool):AV:=.int .i64 (bif b then 0 else 6)
def GW(ei:Nat):dD:=λbc hs=>match bc,hs with
 |[.own 50000],[.fo _ _ l]=>some ⟨(bZ l .n).1,RF (bZ l .n).2.1,[none],[]⟩
 |[.own 50000],[.fo _ (some 50001) l,.cells [.str t]]=>some ⟨(bZ l (.s t)).1,RF (bZ l (.s t)).2.1,[none,some (.cells [.str (runT l (.s t))])],[]⟩
 |[.own 50000],[.fo _ (some 50001) l,.cells [.own 50002],.bc e 1 n cs]=>
   some ⟨cs=bk.MP n/\(bk.run l (.g e ei (bk.Kj n))).1,RF (bk.run l (.g e ei (bk.Kj n))).2.1,[none,some (.cells [.own 50002]),some (.row e [.slice [.int .i64]] (bk.rows (bk.run l (.g e ei (bk.Kj n))).2.2) false)],[]⟩
 |_,_=>none
def aV.ia(hE:aV P E){f:FuncId}{t:M AV->Option (Option Nat×CF)}(h:EA E.gP f t):aV P (E.ia f t):=by
 refine⟨hE.fc,hE.sig,hE.qX,hE.hp,λg u hg=>?_⟩;simp [Env.ia] at hg;cases hb:Nat.beq g f with
 |true=>
  rw [hb] at hg;have:=C! hb;simp at hg;subst this;subst hg;exact h
 |false=>
  rw [hb] at hg;exact hE.cq g u hg
def RG{ps:M PS}{F:Row (PS.flat ps)->CF}(hP:∀Q,HP.is Q->Q=P)(hf:cV P f)
  (h:∀(w:World) (A S:Nat->Prop) (β:Nat->Value) (b:Nat) (args:M Value) (x:Row (PS.flat ps)) (z:Z),(∀b,A b->b<w.heap.size)->(∀i d,G i=some d->oB w A i d)->ae w A β args (mE ps x)->Row.ok (PS.flat ps) x->
    (∀b,S b->¬A b/\b<w.heap.size)->HB w S (.pointer (some ⟨b,0,none⟩)) z->(F x z).1->
    Calls P f (args++[Value.pointer (some ⟨b,0,none⟩)]).toArray w λe w'=>∃v,e= .returned v/\∃A' S',sV w A S z w' A' S' (.pointer (some ⟨b,0,none⟩)) v (F x z).2):
  EA G f (Bs ps F):=by
 intro w A β aW bc k C hG hr ht p hp;unfold Bs at ht;split at ht
 . rename_i k0 x hl hx;obtain⟨rfl,rfl⟩:=ht;obtain⟨ys,rfl⟩:=List.getLast?_eq_some_iff.1 hl;rw [List.dropLast_concat] at hx;obtain⟨us,vs,hc,h1,h2⟩:=ly _ _ _ hr;obtain⟨v,b7,rfl,h3,h4⟩:=h2;subst h4;obtain⟨b,h5,rfl⟩:=h3;obtain⟨g1,g2⟩:=rF ps hx h1;have hpp:=(hp k0 rfl).trans h5;subst hpp;refine⟨rfl,f,aW,rfl,λQ hQ=>?_⟩;have:=hP Q hQ;subst this;refine⟨hf,λw' A' z S hK hb hS hH um=>?_⟩;have:=h w' A' S β b us x z hb (λi d hd=>(hG i d hd).mono hK) (cJ hK _ _ g1) g2 hS hH um;rw [<-hc] at this;simpa using this
 grind
def RH:∀(ts:M Ty) (x:Row ts),aA (aB ts x)=[]
 |[],_=>rfl
 |t::ts,x=>by
  simp [aB,aA,RH ts (Row.tl x),H?];cases t<;>rfl
def ES:∀(cs:M AV) (n:Nat),aA cs=[]->aA (cs.take n)=[]/\aA (cs.drop n)=[]
 |[],n,h=>by grind
 |c::cs,0,h=>⟨rfl,h⟩
 |c::cs,n+1,h=>by
  simp [aA,List.append_eq_nil_iff] at h;obtain⟨g1,g2⟩:=ES cs n h.2;exact⟨by simp [List.take_succ_cons,aA,h.1,g1,H?],g2⟩
def sr:∀(ps:M PS) (cs:M AV),aA cs=[]->aA (PS.group ps cs)=[]
 |[],_,_=>rfl
 |.one _::ps,[],h=>by
   exact sr ps [] rfl
 |.one _::ps,c::cs,h=>by
   simp [aA,List.append_eq_nil_iff] at h;simp [PS.group,List.headD,List.tail,aA,h.1,k?];exact sr ps cs h.2
 |.agg ts::ps,cs,h=>by
   obtain⟨g1,g2⟩:=ES cs ts.length h;simp [PS.group,aA,au,g1,k?];exact sr ps _ g2
 |.var ts::ps,cs,h=>by
   obtain⟨g1,g2⟩:=ES cs ts.length h;simp only [PS.group,aA];have :au (zc ts (cs.take ts.length))=[]:=by unfold zc;split<;>rfl
   rw [this,k?];exact sr ps _ g2
def Kk {ps:M PS}{x:Row (PS.flat ps)}(h:ae w A β args (mE ps x)):ae w A az args (mE ps x):=
 MN (sr ps _ (RH _ x)) h
def RJ{b:Nat}(h:ae w A β args bc)(hb:β 50000= .pointer (some ⟨b,0,none⟩)):ae w A β (args++[.pointer (some ⟨b,0,none⟩)]) (bc++[.ref 50000 0]):=
 iC _ _ _ _ h ⟨_,[],rfl,⟨b,hb,rfl⟩,rfl⟩
def RK {S:Nat->Prop}{e:Nat}:∀ {xs:M Value} {l:M U},pa w S e xs l->xs.length=l.length/\∀(i:Nat) (u:Value) (x:U),xs[i]? =some u->l[i]? =some x->
  w.ownsRow 0 e 1 u x.length (x.map (Value.int .i64))/\(∀n∈x,lo .i64<=n/\n<=hi .i64)/\∀b,ai u=some b->S b/\∀i' u',i'≠i->xs[i']? =some u'->ai u'≠some b
 |[],[],_=>⟨rfl,λi u x h=>by cases h⟩
 |v::vs,y::l,⟨h1,h2,h3,h4⟩=>by
  obtain⟨g1,g2⟩:=RK h4;refine⟨by simp [g1],λi u x hu hx=>?_⟩;match i,hu,hx with
  |0,hu,hx=>
   cases hu;cases hx;refine⟨h1,h2,λb hb=>⟨(h3 b hb).1,λi' u' hi ni=>?_⟩⟩;match i',hi,ni with
   |i'+1,_,ni=>exact(h3 b hb).2 u' (E? (by simpa using ni))
  |i+1,hu,hx=>
   obtain⟨q1,q2,q3⟩:=g2 i u x (by simpa using hu) (by simpa using hx);refine⟨q1,q2,λb hb=>⟨(q3 b hb).1,λi' u' hi ni=>?_⟩⟩;match i',hi,ni with
   |0,_,ni=>
    cases ni;intro hv;exact(h3 b hv).2 u (E? (by simpa using hu)) hb
   |i'+1,hi,ni=>exact(q3 b hb).2 i' u' w! (by simpa using ni)
def RL {S:Nat->Prop}{e:Nat}:∀ {xs:M Value} {l:M U},xs.length=l.length->(∀(i:Nat) (u:Value) (x:U),xs[i]? =some u->l[i]? =some x->
  w.ownsRow 0 e 1 u x.length (x.map (Value.int .i64))/\(∀n∈x,lo .i64<=n/\n<=hi .i64)/\∀b,ai u=some b->S b/\∀i' u',i'≠i->xs[i']? =some u'->ai u'≠some b)->pa w S e xs l
 |[],[],_,_=>trivial
 |v::vs,y::l,hl,h=>by
  obtain⟨h1,h2,h3⟩:=h 0 v y rfl rfl;refine⟨h1,h2,λb hb=>⟨(h3 b hb).1,λu hu=>?_⟩,RL (by simpa using hl) λi u x hu hx=>?_⟩
  . obtain⟨i,hi,rfl⟩:=j? hu;exact(h3 b hb).2 (i+1) _ w! (by simp [hi])
  . obtain⟨q1,q2,q3⟩:=h (i+1) u x (by simpa using hu) (by simpa using hx);exact⟨q1,q2,λb hb=>⟨(q3 b hb).1,λi' u' hi ni=>(q3 b hb).2 (i'+1) u' w! (by simpa using ni)⟩⟩
 |[],_::_,hl,_|_::_,[],hl,_=>by grind
def RN:∀ {x:U},(∀n∈x,lo .i64<=n/\n<=hi .i64)->dJ (bx w A [.int .i64]) (x.map (Value.int .i64)) x
 |[],_=>rfl
 |n::x,h=>⟨[_],_,rfl,⟨_,[],rfl,⟨rfl,h n (I! ..)⟩,rfl⟩,RN λm hm=>h m (E! _ hm)⟩
def RO:∀ {x:U} {zs:M Value},dJ (bx w A [.int .i64]) zs x->zs=x.map (Value.int .i64)/\∀n∈x,lo .i64<=n/\n<=hi .i64
 |[],zs,h=>⟨h,nofun⟩
 |n::x,zs,⟨c1,c2,hc,⟨v,vs,h1,⟨h2,h3⟩,h4⟩,h5⟩=>by
  obtain⟨g1,g2⟩:=RO h5;subst hc h1 h4;have h2:v= .int .i64 n:=h2;grind
def apW {e g:Nat}{xs:M Value}(h:w.ownsRow 0 e 1 v n xs)(hb:ai v=some g):g<w.heap.size:=by
 rcases h.2 with⟨hn,_⟩|⟨g',cap,cur,hv,_,hg,_⟩
 . rw [hn] at hb;cases hb
 . rw [hv] at hb;cases hb;grind
def W3{ps:M PS}{F:Row (PS.flat ps)->CF}(hP:∀Q,HP.is Q->Q=P)(hf:cV P f)(hv:aF P G f s)
  (h:∀x z,(F x z).1->∃e ei l j y,z= .g e ei l/\(F x z).2.2= .g e ei (l.set j y)/\j<l.length/\(∃c,(F x z).2.1= .bool c)/\∀xs:M Value,xs.length=l.length->∃r,s (mE ps x++[.ref 50000 0]) [.cells [.own 50001],.eF e (some 50002) xs j,.row ei [.int .i64] (l.getD j []) false]=some r/\
    r.pre/\r.res=(F x z).2.1/\((r.heap=[some (.cells [.own 50001]),some (.eF e (some 50002) xs j),some (.row ei [.int .i64] y false)]/\r.new=[])\/(r.heap=[some (.cells [.own 50001]),some (.eF e (some 60000) xs j),none]/\r.new=[.row ei [.int .i64] y false]))):
  EA G f (Bs ps F):=by
 refine RG hP hf λw A S β b args x z hA hG bm Lh hS hH um=>?_;obtain⟨e,ei,l,j,y,rfl,hz,hj,⟨c,hk⟩,h⟩:=h x z um;obtain⟨b1,e0,v,xs,c1,c2,c3,c4,c5,c6,c7,c8⟩:=hH;simp only [Value.pointer.injEq,A!,Addr.mk.injEq,z?] at c1;subst c1;obtain⟨Lg,V8⟩:=RK c8;obtain⟨r,hs,hp,hr,hh⟩:=h xs Lg;have hju:j<xs.length:=by omega
 obtain⟨u,hu⟩:∃u,u=xs[j]:=⟨_,rfl⟩;have hxj:xs[j]? =some u:=by grind
 have hlj:l[j]? =some (l.getD j []):=by grind
 obtain⟨u1,u2,u3⟩:=V8 j u _ hxj hlj;let az:Nat->Value:=λk=>if k=50000 then .pointer (some ⟨b,0,none⟩) else if k=50001 then v else if k=50002 then u else undef
 have bJ:az 50000= .pointer (some ⟨b,0,none⟩):=rfl;have Rb:az 50001=v:=rfl;have Kf:az 50002=u:=rfl;have hub:∀g,ai u=some g->g≠b:=λg hg Uc=>c7 u (E? hxj) (Uc▸hg);have huv:∀g,ai u=some g->ai v≠some g:=λg hg hv=>(c6 g hv).2.2 u (E? hxj) hg
 have hM:∀q,HM az 3 q↔q=b\/ai v=some q\/ai u=some q:=by
  intro q;constructor
  . rintro⟨i,hi,hq⟩;match i,hi,hq with
    |0,_,hq=>exact .inl (W? (show some b=some q from hq)).symm
    |1,_,hq=>exact .inr (.inl hq)
    |2,_,hq=>exact .inr (.inr hq)
  . rintro(rfl|hq|hq)
    . exact⟨0,by decide,rfl⟩
    . exact⟨1,by decide,hq⟩
    . exact⟨2,by decide,hq⟩
 have hMS:∀q,HM az 3 q->S q:=λq hq=>by
  rcases(hM q).1 hq with rfl|hq|hq
  . exact c3
  . exact(c6 q hq).1
  . exact(u3 q hq).1
 have aAv:u.oneCell'=true:=by obtain⟨_,_,_,ni⟩:=jy u1;rw [ni];rfl
 refine(hv w A az _ _ [.cells [.own 50001],.eF e (some 50002) xs j,.row ei [.int .i64] (l.getD j []) false] r hA hG (RJ (Kk bm) bJ) ?_ ?_ hs hp (by rcases hh with⟨hh,_⟩|⟨hh,_⟩<;>rw [hh]<;>rfl) z!).mono ?_
 . intro i ab hi;match i,hi with
   |0,hi=>
    cases hi;exact⟨b,_,e0,bJ,c2,(hS b c3).1,⟨_,[],rfl,⟨rfl,c4⟩,rfl⟩,by simpa using c4⟩
   |1,hi=>
    cases hi;exact⟨xs,by rw [Lg];exact c5,λq hq=>(hS q (c6 q hq).1).1,λ_ _=>rfl,λj' gn=>by cases gn;exact⟨hxj,aAv⟩⟩
   |2,hi=>
    cases hi;exact⟨_,u1,RN u2,λq hq=>(hS q (u3 q hq).1).1⟩
   |_+3,hi=>cases hi
 . intro i i' q hi fN hq Dp;have e1:∀q,ai (az 50000)=some q->q=b:=λq hq=>(W? (show some b=some q from hq)).symm;match i,i',hi,fN,hq,Dp with
   |0,0,_,_,_,_|1,1,_,_,_,_|2,2,_,_,_,_=>rfl
   |0,1,_,_,hq,Dp=>exact absurd (e1 q hq) (c6 q Dp).2.1
   |1,0,_,_,hq,Dp=>exact absurd (e1 q Dp) (c6 q hq).2.1
   |0,2,_,_,hq,Dp=>exact absurd (e1 q hq) (hub q Dp)
   |2,0,_,_,hq,Dp=>exact absurd (e1 q Dp) (hub q hq)
   |1,2,_,_,hq,Dp=>exact absurd hq (huv q Dp)
   |2,1,_,_,hq,Dp=>exact absurd Dp (huv q hq)
   |_+3,_,hi,_,_,_|_,_+3,_,hi,_,_=>exact absurd hi z!
 . rintro e' w' ⟨v',he,A',fa,q⟩
   obtain⟨kj,k1,k2,k3,k4,k5,k6⟩:∃kj,BR w' A' fa 50001 (.eF e (some kj) xs j)/\BR w' A' fa kj (.row ei [.int .i64] y false)/\AS r 50000/\AS r 50001/\AS r kj/\(kj≠50000/\kj≠50001/\(∀g,ai (fa kj)=some g->w.heap.size<=g\/HM az 3 g)):=by
    rcases hh with⟨hh,hn⟩|⟨hh,hn⟩
    . refine⟨50002,(q.kept 1 _ (by rw [hh];rfl)).1,(q.kept 2 _ (by rw [hh];rfl)).1,.inl ⟨0,_,rfl,by decide,by rw [hh];rfl⟩,.inl ⟨1,_,rfl,by decide,by rw [hh];rfl⟩,.inl ⟨2,_,rfl,by decide,by rw [hh];rfl⟩,by decide,by decide,λg hg=>?_⟩;rw [(q.kept 2 _ (by rw [hh];rfl)).2] at hg;exact .inr ((hM g).2 (.inr (.inr hg)))
    . refine⟨60000,(q.kept 1 _ (by rw [hh];rfl)).1,(q.rows 0 _ (by rw [hn];rfl)).1,.inl ⟨0,_,rfl,by decide,by rw [hh];rfl⟩,.inl ⟨1,_,rfl,by decide,by rw [hh];rfl⟩,.inr ⟨0,rfl,by rw [hn];exact Nat.one_pos⟩,by decide,by decide,(q.rows 0 _ (by rw [hn];rfl)).2⟩
   have hk0:BR w' A' fa 50000 (.cells [.own 50001])/\fa 50000=az 50000:=q.kept 0 _ (by rcases hh with⟨hh,_⟩|⟨hh,_⟩<;>rw [hh]<;>rfl)
   have K4:fa 50001=v:=by
    rcases hh with⟨hh,_⟩|⟨hh,_⟩
    . exact(q.kept 1 _ (by rw [hh];rfl)).2
    . exact(q.kept 1 _ (by rw [hh];rfl)).2
   obtain⟨⟨b2,arr,e2,d1,d2,d3,⟨u',us,d4,⟨d5,d6⟩,d7⟩,_⟩,d8⟩:=hk0
   have Mo:b2=b:=by
    have:=d1.symm.trans (d8.trans bJ);simp only [Value.pointer.injEq,A!,Addr.mk.injEq,z?] at this;exact this
   subst Mo;simp only [ae] at d7;subst d7;subst d5;rw [K4] at d4 d6;have AQ:arr= #[v]:=by apply Array.ext';exact d4
   subst AQ;obtain⟨ys,o1,o2,o3,o4⟩:=k1;rw [K4] at o1 o2;obtain⟨o5,o6⟩:=o4 kj rfl;obtain⟨zs,p1,p2,p3⟩:=k2;obtain⟨rfl,p4⟩:=RO p2;have p3:∀g,ai (fa kj)=some g->¬A' g:=λg hg=>by simpa using p3 g hg
   have hyl:ys.length=l.length:=by have:=o1.1;omega
   have hys:∀i,i≠j->ys[i]? =xs[i]? :=o3;have hA0:∀g,g<w.heap.size->A' g->A g\/HM az 3 g:=q.iP
   have oD:∀g,ai (fa kj)=some g->g≠b2/\ai v≠some g:=λg hg=>by
    refine⟨λUc=>?_,λhgv=>?_⟩
    . subst Uc;exact k6.1 (q.apart kj 50000 g k5 k3 hg (by rw [d1];rfl))
    . exact k6.2.1 (q.apart kj 50001 g k5 k4 hg (by rw [K4];exact hgv))
   have hko:∀i u2 g,i≠j->xs[i]? =some u2->ai u2=some g->S g/\g<w.heap.size/\¬HM az 3 g/\¬A' g/\ai (fa kj)≠some g:=λi u2 g hi Dq hg=>by
    have hil:i<l.length:=by rw [<-Lg];exact(D?.1 Dq).1
    obtain⟨_,_,q3⟩:=V8 i u2 l[i] Dq (D! hil);obtain⟨s1,s2⟩:=q3 g hg
    have hm:¬HM az 3 g:=λhm=>by
     rcases(hM g).1 hm with rfl|hm|hm
     . exact c7 u2 (E? Dq) hg
     . exact(c6 g hm).2.2 u2 (E? Dq) hg
     . exact s2 j u (λh=>hi h.symm) hxj hm
    refine⟨s1,(hS g s1).2,hm,λha=>(hA0 g (hS g s1).2 ha).elim (hS g s1).1 hm,λDl=>?_⟩;rcases k6.2.2 g Dl with h|h
    . have:=(hS g s1).2;omega
    . exact hm h
   refine⟨v',he,λg=>A' g/\(g<w.heap.size->A g),λg=>(S g/\¬A' g)\/ai (fa kj)=some g,?_,q.os,q.tape,q.output,q.size,λg hg hn=>q.same g hg λhm=>hn (hMS g hm),λg hg=>⟨(q.mono g hg).1,λ_=>hg⟩,λg hg ha=>ha.2 hg,λg hg=>q.bound g hg.1,?_,λQw=>?_,?_⟩
   . rw [hz];refine⟨rfl,rfl,λu0 ⟨b3,e3,g1,g2⟩=>?_⟩;simp only [Value.pointer.injEq,A!,Addr.mk.injEq,z?] at g1;subst g1;rw [c2] at g2;simp only [A!,Obj.cells.injEq] at g2;have :u0=v:=by have:=g2.1;simpa using this.symm
     subst this;exact⟨b2,e2,rfl,d2⟩
   . rintro g (⟨h1,h2⟩|h)
     . exact⟨.inl h1,λha=>h2 ha.1,I? (hS g h1).2 q.size⟩
     . refine⟨?_,λha=>p3 g h ha.1,apW p1 h⟩;rcases k6.2.2 g h with h|h
       . exact .inr h
       . exact .inl (hMS g h)
   . have:=q.res;rw [hr,hk] at this;rw [hk];exact this
   . rw [hz];refine⟨b2,e2,v,ys,rfl,d2,.inl ⟨c3,d3⟩,d6,by rw [m?];simpa [Lg] using o1,λg hg=>⟨.inl ⟨(c6 g hg).1,o2 g hg⟩,(c6 g hg).2.1,λu2 Dq Dl=>?_⟩,λu2 Dq Dl=>?_,RL (by rw [m?];exact hyl) λi un x2 Dq ZJ=>?_⟩
     . obtain⟨i,hi,rfl⟩:=j? Dq;have fN:=D! hi;by_cases Ah:i=j
       . subst Ah;rw [o5,A!] at fN;rw [<-fN] at Dl;exact(oD g Dl).2 hg
       . rw [hys i Ah] at fN;exact(c6 g hg).2.2 _ (E? fN) Dl
     . obtain⟨i,hi,rfl⟩:=j? Dq;have fN:=D! hi;by_cases Ah:i=j
       . subst Ah;rw [o5,A!] at fN;rw [<-fN] at Dl;exact(oD b2 Dl).1 rfl
       . rw [hys i Ah] at fN;exact c7 _ (E? fN) Dl
     . by_cases Ah:i=j
       . subst Ah;rw [o5] at Dq;cases Dq;rw [List.getElem?_set_self w!] at ZJ;cases ZJ;refine⟨p1,p4,λg hg=>⟨.inr hg,λi' u' fN ni xR=>?_⟩⟩;rw [hys i' fN] at ni;exact(hko i' u' g fN ni xR).2.2.2.2 hg
       . rw [hys i Ah] at Dq;rw [List.getElem?_set_ne (λh=>Ah h.symm)] at ZJ;obtain⟨q1,q2,q3⟩:=V8 i un x2 Dq ZJ;refine⟨c9 q1 (λg hg=>?_),q2,λg hg=>⟨?_,λi' u' fN ni xR=>?_⟩⟩
         . obtain⟨_,s2,s3,_,_⟩:=hko i un g Ah Dq hg;exact q.same g s2 s3
         . obtain⟨s1,_,_,s4,_⟩:=hko i un g Ah Dq hg;exact .inl ⟨s1,s4⟩
         . by_cases ayy:i'=j
           . subst ayy;rw [o5] at ni;cases ni;exact(hko i un g Ah Dq hg).2.2.2.2 xR
           . rw [hys i' ayy] at ni;exact(q3 g hg).2 i' u' fN ni xR
theorem Valid.cases{ps:M PS}{F F1 F2:Row (PS.flat ps)->Prop×AV×M AB}(h1:Valid P G f (eD ps F1))(h2:Valid P G f (eD ps F2))
  (h:∀x,(F x).1->((F1 x).1/\(F x).2=(F1 x).2)\/((F2 x).1/\(F x).2=(F2 x).2)):Valid P G f (eD ps F):=by
 intro w A β args bc pre res bs hA hG ha hs hp;unfold eD at hs;split at hs
 . rename_i x hx
   have key:∀F':Row (PS.flat ps)->Prop×AV×M AB,Valid P G f (eD ps F')->(F' x).1->(F x).2=(F' x).2->Calls P f args.toArray w λe w'=>∃v,e= .returned v/\∃A' az,lu w A w' v res bs A' az:=by
    intro F' hv p1 e1;refine hv w A β args bc (F' x).1 res bs hA hG ha ?_ p1;unfold eD;grind
   grind
 grind
theorem aF.cases {P:Program}{G:Nat->Option GD}{f:FuncId}{ts:M TA}{bs:M TB}{F F1 F2:Row (TA.dp ts)->fB bs->bo}(h1:aF P G f (bI ts bs F1))(h2:aF P G f (bI ts bs F2))
  (h:∀x y,(F x y).pre->((F1 x y).pre/\F x y= {F1 x y with pre:=(F x y).pre})\/((F2 x y).pre/\F x y= {F2 x y with pre:=(F x y).pre})):aF P G f (bI ts bs F):=by
 intro w A β args bc hs r hA hG ha fi vr oc hp hl DW;unfold bI at oc;split at oc
 . rename_i cs dX;split at oc
   . rename_i x y hx hy;cases oc
     have key:∀F':Row (TA.dp ts)->fB bs->bo,aF P G f (bI ts bs F')->(F' x y).pre->F x y= {F' x y with pre:=(F x y).pre}->Calls P f args.toArray w λe w'=>∃v,e= .returned v/\∃A' az,It w A β hs.length w' v (F x y) A' az:=by
      intro F' hv p1 e1;have e2:(F x y).heap=(F' x y).heap:=by rw [e1]
      refine(hv w A β args bc hs (F' x y) hA hG ha fi vr (by unfold bI;simp only [dX,hx,hy]) p1 (by rw [<-e2];exact hl) DW).mono ?_;rintro e w' ⟨v,he,A',az,q⟩;refine⟨v,he,A',az,?_⟩;rw [e1];exact⟨q.os,q.tape,q.output,q.size,q.same,q.mono,q.iP,q.bound,q.res,q.kept,q.rows,q.apart⟩
     rcases h x y hp with⟨p1,e1⟩|⟨p1,e1⟩
     . exact key F1 h1 p1 e1
     . exact key F2 h2 p1 e1
   . cases oc
 . cases oc
def qn(f:Func):Code:=f.body.getD .skip
def cS(f:Nat)(p:M PS)(F:Row (PS.flat p)->Prop×AV×M AB)(E:Env):Env:=Env.cons f (eD p F) E
def cH(f:Nat)(m:M Bool)(p:M TA)(q:M TB)(F:Row (TA.dp p)->fB q->bo)(E:Env):Env:=Env.bD f m (bI p q F) E
def nL:α->Nat->Option bq:=λ_ _=>none
def lY {β:Type}:α->β->Nat->Option bq:=λ_ _ _=>none
def Bt(f:Func):Bool:=f.body.isSome&& !(f.name== "runtime.NumGoroutine")
abbrev GX(p:Prop):Prop:=∃V:Prop,V/\V=p
def GX.go {p:Prop}(h:GX p):p:=h.elim λ_ h=>h.2▸h.1
theorem tM(h:Bt fn=true):fn.body=some (qn fn)/\(fn.name== "runtime.NumGoroutine")=false :=by
 unfold Bt at h;unfold qn;cases hb:fn.body with
 |none=>rw [hb] at h;cases h
 |some c=>rw [hb] at h;simpa using h
theorem cV.k(hf:P.funcs[f]? =some fn)(hb:Bt fn=true):cV P f:=cV.of hf (tM hb).1 (tM hb).2
def vS(hE:aV P E)(hm:P.follows .mixedOrders=true)(p:M PS){F:Row (PS.flat p)->Prop×AV×M AB}(L:Row (PS.flat p)->Nat->Option bq)
  (hf:P.funcs[f]? =some fn) (hb:Bt fn=true)
  (h:∀x,(F x).1->Row.ok (PS.flat p) x->GX (J1 E (L x) (qn fn) fn.ntmps fn.results.toList (mE p x) (F x).2.1 (F x).2.2)):Valid P E.gP f (eD p F):=
 GP hE hm p L hf (tM hb).1 λx a b=>(h x a b).go
def vH(hE:aV P E)(hm:P.follows .mixedOrders=true)(p:M TA)(q:M TB){F:Row (TA.dp p)->fB q->bo}(L:Row (TA.dp p)->fB q->Nat->Option bq)
  (hf:P.funcs[f]? =some fn) (hb:Bt fn=true)
  (h:∀x y,(F x y).pre->Row.ok (TA.dp p) x->fB.ok q y->GX (Bp E (L x y) (qn fn) fn.ntmps fn.results.toList (TA.qm p (aB (TA.dp p) x)) (fB.put q y) (F x y))):aF P E.gP f (bI p q F):=
 QM hE hm p q L hf (tM hb).1 λx y a b c=>(h x y a b c).go
def vH2(hE:aV P E)(o:Nat->Bool)(cl:Nat->Option Nat)(sp:Nat->Bool)(hm:P.follows .mixedOrders=true)(p:M TA)(q:M TB){F:Row (TA.dp p)->fB q->bo}(L:Row (TA.dp p)->fB q->Nat->Option bq)
  (hf:P.funcs[f]? =some fn) (hb:Bt fn=true)
  (h:∀x y,(F x y).pre->Row.ok (TA.dp p) x->fB.ok q y->GX (Bp {E with iu:=o,cls:=cl,K1:=sp} (L x y) (qn fn) fn.ntmps fn.results.toList (TA.qm p (aB (TA.dp p) x)) (fB.put q y) (F x y))):aF P E.gP f (bI p q F):=
 vH (E:={E with iu:=o,cls:=cl,K1:=sp}) ⟨hE.fc,hE.sig,hE.qX,hE.hp,hE.cq⟩ hm p q L hf hb h
def kS2(hm:P.follows .mixedOrders=true)(hE:aV P E)(o:Nat->Bool)(cl:Nat->Option Nat)(sp:Nat->Bool){p:M PS}{F:Row (PS.flat p)->Prop×AV×M AB}(L:Row (PS.flat p)->Nat->Option bq)
  (hf:P.funcs[f]? =some fn) (hb:Bt fn=true)
  (h:∀x,(F x).1->Row.ok (PS.flat p) x->GX (J1 {E with iu:=o,cls:=cl,K1:=sp} (L x) (qn fn) fn.ntmps fn.results.toList (mE p x) (F x).2.1 (F x).2.2)):aV P (cS f p F E):=
 aV.cons hE (vS (E:={E with iu:=o,cls:=cl,K1:=sp}) ⟨hE.fc,hE.sig,hE.qX,hE.hp,hE.cq⟩ hm p L hf hb h) (cV.k hf hb)
def kS(hm:P.follows .mixedOrders=true)(hE:aV P E){p:M PS}{F:Row (PS.flat p)->Prop×AV×M AB}(L:Row (PS.flat p)->Nat->Option bq)
  (hf:P.funcs[f]? =some fn) (hb:Bt fn=true)
  (h:∀x,(F x).1->Row.ok (PS.flat p) x->GX (J1 E (L x) (qn fn) fn.ntmps fn.results.toList (mE p x) (F x).2.1 (F x).2.2)):aV P (cS f p F E):=
 aV.cons hE (vS hE hm p L hf hb h) (cV.k hf hb)
def kR(hm:P.follows .mixedOrders=true)(hE:aV P E){p:M PS}{F:Row (PS.flat p)->Prop×AV×M AB}(μ:Row (PS.flat p)->Nat)(L:Row (PS.flat p)->Nat->Option bq)
  (hf:P.funcs[f]? =some fn) (hb:Bt fn=true)
  (h:∀m x,μ x<m+1->(F x).1->Row.ok (PS.flat p) x->GX (J1 (Env.cons f (rE p μ m F) E) (L x) (qn fn) fn.ntmps fn.results.toList (mE p x) (F x).2.1 (F x).2.2)):aV P (cS f p F E):=
 aV.cons hE (ZT p μ λm ih=>GP (E:=Env.cons f (rE p μ m F) E) (aV.cons hE ih (cV.k hf hb)) hm p L hf (tM hb).1 λx hp hx=>(h m x hp.1 hp.2 hx).go) (cV.k hf hb)
def kH2(hm:P.follows .mixedOrders=true)(hE:aV P E)(o:Nat->Bool)(cl:Nat->Option Nat)(sp:Nat->Bool){p:M TA}{q:M TB}{F:Row (TA.dp p)->fB q->bo}(L:Row (TA.dp p)->fB q->Nat->Option bq)
  (hf:P.funcs[f]? =some fn) (hb:Bt fn=true)
  (h:∀x y,(F x y).pre->Row.ok (TA.dp p) x->fB.ok q y->GX (Bp {E with iu:=o,cls:=cl,K1:=sp} (L x y) (qn fn) fn.ntmps fn.results.toList (TA.qm p (aB (TA.dp p) x)) (fB.put q y) (F x y))):aV P (cH f m p q F E):=
 aV.bD hE (vH (E:={E with iu:=o,cls:=cl,K1:=sp}) ⟨hE.fc,hE.sig,hE.qX,hE.hp,hE.cq⟩ hm p q L hf hb h) (cV.k hf hb)
def kH(hm:P.follows .mixedOrders=true)(hE:aV P E){p:M TA}{q:M TB}{F:Row (TA.dp p)->fB q->bo}(L:Row (TA.dp p)->fB q->Nat->Option bq)
  (hf:P.funcs[f]? =some fn) (hb:Bt fn=true)
  (h:∀x y,(F x y).pre->Row.ok (TA.dp p) x->fB.ok q y->GX (Bp E (L x y) (qn fn) fn.ntmps fn.results.toList (TA.qm p (aB (TA.dp p) x)) (fB.put q y) (F x y))):aV P (cH f m p q F E):=
 aV.bD hE (vH hE hm p q L hf hb h) (cV.k hf hb)
def kX(hE:aV P E){p:M PS}{F:Row (PS.flat p)->Prop×AV×M AB}(hf:P.funcs[f]? =some fn)(hb:Bt fn=true)(h:Valid P E.gP f (eD p F)):aV P (cS f p F E):=aV.cons hE h (cV.k hf hb)
def kXH(hE:aV P E){p:M TA}{q:M TB}{F:Row (TA.dp p)->fB q->bo}(hf:P.funcs[f]? =some fn)(hb:Bt fn=true)(h:aF P E.gP f (bI p q F)):aV P (cH f m p q F E):=aV.bD hE h (cV.k hf hb)
def kV {F:Qj}(h:aV P E)(hs:E.sig f=some F):Valid P E.gP f F:=(h.sig f F hs).1
abbrev gq(p:M PS)(x:Row (PS.flat p)):Prop:=Row.ok (PS.flat p) x
abbrev akd(p:M TA)(x:Row (TA.dp p)):Prop:=Row.ok (TA.dp p) x
abbrev hlen(l:M α):Prop:=l.length<=9223372036854775807
abbrev hint(x:Int):Prop:= -9223372036854775808<=x/\x<=9223372036854775807
def vP(hE:aV P E)(hG:∀i d,E.gP i=some d->ez d.row=true)(hm:P.follows .mixedOrders=true)(ps:M PS){F:Row (PS.flat ps)->Prop×AV×M AB}(L:Row (PS.flat ps)->Nat->Option bq)
  (hf:P.funcs[f]? =some fn) (hb:Bt fn=true)
  (h:∀x,(F x).1->Row.ok (PS.flat ps) x->GX (T1 E (L x) (qn fn) fn.ntmps fn.results.toList (mE ps x) (F x).2.1 (F x).2.2)):Valid P E.gP f (eD ps F):=by
 intro w A β args bc pre res bs hA hG' bm hs hp;unfold eD at hs;split at hs
 . rename_i x hx;obtain⟨g1,g2⟩:=rF ps hx bm
   have hv:Valid P E.gP f (λGQ=>open Classical in if GQ=mE ps x then some (F x) else none):=by
    refine QJ hE hG hm (λ_=>L x) hf (tM hb).1 λGQ aGp aGq bs' jW Bn=>?_;grind
   exact hv w A β args (mE ps x) pre res bs hA hG' g1 x! hp
 grind
def kP(hG:∀i d,E.gP i=some d->ez d.row=true)(hm:P.follows .mixedOrders=true)(hE:aV P E){p:M PS}{F:Row (PS.flat p)->Prop×AV×M AB}(L:Row (PS.flat p)->Nat->Option bq)
  (hf:P.funcs[f]? =some fn) (hb:Bt fn=true)
  (h:∀x,(F x).1->Row.ok (PS.flat p) x->GX (T1 E (L x) (qn fn) fn.ntmps fn.results.toList (mE p x) (F x).2.1 (F x).2.2)):aV P (cS f p F E):=
 aV.cons hE (vP hE hG hm p L hf hb h) (cV.k hf hb)
def kS3(hm:P.follows .mixedOrders=true)(hE:aV P E)(o:Nat->Bool)(cl:Nat->Option Nat)(sp:Nat->Bool)(fz:Nat->Option (M (Option TypeId))){p:M PS}{F:Row (PS.flat p)->Prop×AV×M AB}(L:Row (PS.flat p)->Nat->Option bq)
  (hf:P.funcs[f]? =some fn) (hb:Bt fn=true)
  (h:∀x,(F x).1->Row.ok (PS.flat p) x->GX (J1 {E with iu:=o,cls:=cl,K1:=sp,Mh:=fz} (L x) (qn fn) fn.ntmps fn.results.toList (mE p x) (F x).2.1 (F x).2.2)):aV P (cS f p F E):=
 aV.cons hE (vS (E:={E with iu:=o,cls:=cl,K1:=sp,Mh:=fz}) ⟨hE.fc,hE.sig,hE.qX,hE.hp,hE.cq⟩ hm p L hf hb h) (cV.k hf hb)
def kH3(hm:P.follows .mixedOrders=true)(hE:aV P E)(o:Nat->Bool)(cl:Nat->Option Nat)(sp:Nat->Bool)(fz:Nat->Option (M (Option TypeId))){p:M TA}{q:M TB}{F:Row (TA.dp p)->fB q->bo}(L:Row (TA.dp p)->fB q->Nat->Option bq)
  (hf:P.funcs[f]? =some fn) (hb:Bt fn=true)
  (h:∀x y,(F x y).pre->Row.ok (TA.dp p) x->fB.ok q y->GX (Bp {E with iu:=o,cls:=cl,K1:=sp,Mh:=fz} (L x y) (qn fn) fn.ntmps fn.results.toList (TA.qm p (aB (TA.dp p) x)) (fB.put q y) (F x y))):aV P (cH f m p q F E):=
 aV.bD hE (vH (E:={E with iu:=o,cls:=cl,K1:=sp,Mh:=fz}) ⟨hE.fc,hE.sig,hE.qX,hE.hp,hE.cq⟩ hm p q L hf hb h) (cV.k hf hb)
end Go.Vg
namespace Go.S
variable {α β:Type}{l W out:List Int}{e i p u v a s1 s2 f:Int}{b m g:B8}{x n j t:Nat}{c:Bool}{parts T r docs:List B8}{y y0 y1:UInt8}
def len(l:M α):Nat:=l.length
def ag(m n:Nat):Nat:=m-n
def ny(l:M α)(n:Nat):Prop:=n<=l.length
def cc(n m:Nat):Prop:=n<=m
def pO(l:M α):Int:=l.length
def small(l:M α):Prop:=l.length<=1099511627776
theorem oe(n:Int)(k:Nat)(h:0<=n):Vg.aM n ((2:Int)^k-1)=n%2^k:=by
 obtain⟨m,rfl⟩:=p? h
 have h1:((2:Int)^k-1).toNat=2^k-1:=by
  have :(1:Nat)<=2^k:=Nat.one_le_two_pow;have e:((2:Int)^k-1)=((2^k-1:Nat):Int):=by rw [Int.natCast_sub this];simp
  rw [e];rfl
 simp only [Vg.aM,X!,h1,Nat.and_two_pow_sub_one_eq_mod];simp
theorem agp(n:Int)(h:0<=n):Vg.aM n 7=n%8:=by simpa using oe n 3 h
theorem ZZ(n:Int)(h:0<=n):Vg.aM n 15=n%16:=by simpa using oe n 4 h
theorem ET(n:Int)(h:0<=n):Vg.aM n 31=n%32:=by simpa using oe n 5 h
theorem NM(n:Int)(h:0<=n):Vg.aM n 63=n%64:=by simpa using oe n 6 h
theorem nz(n:Int)(h:0<=n):Vg.aM n 127=n%128:=by simpa using oe n 7 h
theorem gU(a b:Int)(k:Nat)(ha:0<=a)(h0:0<=b)(h:b<2^k):Vg.cy (a*2^k) b=a*2^k+b:=by
 obtain⟨m,rfl⟩:=p? ha
 have h1:((m:Int)*2^k).toNat=m*2^k:=by
  rfl
 grind[Vg.cy,Int.toNat_natCast,Nat.mul_comm,Nat.two_pow_add_eq_or_of_lt,Int.mul_comm]
theorem Bu(a b:Int):Vg.cy a b=Vg.cy b a:=by grind[Vg.cy]
theorem NN(n:Int)(h:0<=n)(h1:n<128):Vg.cy n 128=n+128:=by
 rw [Bu,show(128:Int)=1*2^7 by rfl,gU 1 n 7 w! h h1];omega
theorem QN(p:α->Bool)(l:M α):(l.takeWhile p).length<=l.length:=by
 induction l with
 |nil=>simp
 |cons x l ih=>grind[List.takeWhile_cons]
theorem akf(b:B8)(x:Nat)(h:x<b.length):b.take x++[UInt8.ofNat (Int.toNat ((b.getD (Int.toNat (x:Int)) 0).toNat:Int))]=b.take (x+1):=by
 simp_all
abbrev H8:=Int×Int×Int×Int×Int×Int×Int×Int
def right(x n:Int):Int:=(x/2^n.toNat+x*2^(32-n).toNat%4294967296)%4294967296
def rotl(x k:Int):Int:=right x (-k)
def tu(x k:Int):Prop:= -32<k/\k<0/\0<=x/\x<4294967296
def eJ(n:Int):Prop:=0<n/\n<32
def zj(p:B8)(i:Nat):Int:=(p.getD i 0).toNat
def word(p:B8)(i:Nat):Int:=zj p (4*i)*16777216+zj p (4*i+1)*65536+zj p (4*i+2)*256+zj p (4*i+3)
def aGC(x:Int):Int:=Vg.eP (Vg.eP (right x 7) (right x 18)) (x/2^Int.toNat 3)
def aGD(y:Int):Int:=Vg.eP (Vg.eP (right y 17) (right y 19)) (y/2^Int.toNat 10)
def akg(w:U)(n:Nat):Int:=(((w.getD (n-16) 0+aGC (w.getD (n-15) 0))%4294967296+w.getD (n-7) 0)%4294967296+aGD (w.getD (n-2) 0))%4294967296
def zk(p:B8)(w:U)(n:Nat):Int:=if n<16 then word p n else akg w n
def sched(p:B8):Nat->U
 |0=>[]
 |n+1=>sched p n++[zk p (sched p n) n]
def aK(p:B8)(n:Nat):U:=sched p n++List.replicate (64-n) 0
def xU:U:=[1116352408,1899447441,3049323471,3921009573,961987163,1508970993,2453635748,2870763221,3624381080,310598401,607225278,1426881987,1925078388,2162078206,2614888103,3248222580,3835390401,4022224774,264347078,604807628,770255983,1249150122,1555081692,1996064986,2554220882,2821834349,2952996808,3210313671,3336571891,3584528711,113926993,338241895,666307205,773529912,1294757372,1396182291,1695183700,1986661051,2177026350,2456956037,2730485921,2820302411,3259730800,3345764771,3516065817,3600352804,4094571909,275423344,430227734,506948616,659060556,883997877,958139571,1322822218,1537002063,1747873779,1955562222,2024104815,2227730452,2361852424,2428436474,2756734187,3204031479,3329325298]
def H0:H8:=(1779033703,3144134277,1013904242,2773480762,1359893119,2600822924,528734635,1541459225)
def aGE(a:Int):Int:=Vg.eP (Vg.eP (right a 2) (right a 13)) (right a 22)
def aGF(e:Int):Int:=Vg.eP (Vg.eP (right e 6) (right e 11)) (right e 25)
def ch(e f g:Int):Int:=Vg.eP (Vg.aM e f) (Vg.aM (4294967296-1-e) g)
def maj(a b c:Int):Int:=Vg.eP (Vg.eP (Vg.aM a b) (Vg.aM a c)) (Vg.aM b c)
def one(k w e f g h:Int):Int:=((((h+aGF e)%4294967296+ch e f g)%4294967296+k)%4294967296+w)%4294967296
def two(a b c:Int):Int:=(aGE a+maj a b c)%4294967296
def rnd(k w:Int)(s:H8):H8:=((one k w s.2.2.2.2.1 s.2.2.2.2.2.1 s.2.2.2.2.2.2.1 s.2.2.2.2.2.2.2+two s.1 s.2.1 s.2.2.1)%4294967296,s.1,s.2.1,s.2.2.1,
 (s.2.2.2.1+one k w s.2.2.2.2.1 s.2.2.2.2.2.1 s.2.2.2.2.2.2.1 s.2.2.2.2.2.2.2)%4294967296,s.2.2.2.2.1,s.2.2.2.2.2.1,s.2.2.2.2.2.2.1)
def aL(w:U)(s:H8):Nat->H8
 |0=>s
 |n+1=>rnd (xU.getD n 0) (w.getD n 0) (aL w s n)
def abg(s t:H8):H8:=((s.1+t.1)%4294967296,(s.2.1+t.2.1)%4294967296,(s.2.2.1+t.2.2.1)%4294967296,(s.2.2.2.1+t.2.2.2.1)%4294967296,
 (s.2.2.2.2.1+t.2.2.2.2.1)%4294967296,(s.2.2.2.2.2.1+t.2.2.2.2.2.1)%4294967296,(s.2.2.2.2.2.2.1+t.2.2.2.2.2.2.1)%4294967296,(s.2.2.2.2.2.2.2+t.2.2.2.2.2.2.2)%4294967296)
def block(s:H8)(p:B8):H8:=abg s (aL (sched p 64) s 64)
def proc(s:H8)(b:B8):Nat->H8
 |0=>s
 |n+1=>block (proc s b n) ((b.drop (64*n)).take 64)
def eV(s:H8):U:=[s.1,s.2.1,s.2.2.1,s.2.2.2.1,s.2.2.2.2.1,s.2.2.2.2.2.1,s.2.2.2.2.2.2.1,s.2.2.2.2.2.2.2]
def Ai(l:U):H8:=(l.getD 0 0,l.getD 1 0,l.getD 2 0,l.getD 3 0,l.getD 4 0,l.getD 5 0,l.getD 6 0,l.getD 7 0)
def b32(w:Int):B8:=[UInt8.ofNat (w/16777216%256).toNat,UInt8.ofNat (w/65536%256).toNat,UInt8.ofNat (w/256%256).toNat,UInt8.ofNat (w%256).toNat]
def oU(s:H8)(n:Nat):B8:=((eV s).take n).flatMap b32
def dig(s:H8):B8:=oU s 8
def ib(n:Nat):Nat:=(119-n%64)%64
def len8(n:Int)(k:Nat):B8:=(List.range k).map λi=>UInt8.ofNat (n/2^(56-8*i)%256).toNat
def gh(rest:B8)(k:Nat):B8:=rest++[128]++List.replicate k 0
def jX(rest:B8)(n:Int)(k:Nat):B8:=gh rest (ib rest.length)++len8 (n*8) k
def tail(rest:B8)(n:Int):B8:=jX rest n 8
def blocks(b:B8):Nat:=b.length/64
def aI(s:H8)(b:B8):H8:=proc s b (blocks b)
def kn(b:B8):B8:=b.drop (64*blocks b)
def sum(b:B8):B8:=dig (aI H0 (tail b b.length))
def xa(s:H8):Prop:=∀x∈eV s,0<=x/\x<4294967296
def okW(l:U):Prop:=∀x∈l,0<=x/\x<4294967296
def cG(rest:B8)(k:Nat):Prop:=k<=ib rest.length
def qo(r:B8)(n:Int):Bool:=decide (0<=n)&&decide (n<=1099511627776)&&decide ((r.length:Int)=n%64)
def Ud(s:H8)(r:B8)(n:Int)(b:B8):Prop:=xa s/\r=[]/\n=0/\small b
def LJ(s:H8)(r:B8)(n:Int):Prop:=xa s/\0<=n/\n<=1099511627776/\(r.length:Int)=n%64
def Ue(s:H8)(p:B8):Prop:=xa s/\p.length=64
def NO(l:U)(p:B8):Prop:=okW l/\l.length=8/\p.length=64
def fx(b:B8)(k:Nat):B8:=b.drop (64*k)
def mV(b:B8)(k:Nat):Int:=(b.length:Int)*8/256^k
def lA(b:B8)(k:Nat):B8:=(len8 ((b.length:Int)*8) 8).drop (8-k)
theorem akh(a b c d:UInt8):Vg.cy (Vg.cy (Vg.cy ((a.toNat:Int)*2^Int.toNat 24%4294967296) ((b.toNat:Int)*2^Int.toNat 16%4294967296)) ((c.toNat:Int)*2^Int.toNat 8%4294967296)) (d.toNat:Int)=
  (a.toNat:Int)*16777216+(b.toNat:Int)*65536+(c.toNat:Int)*256+(d.toNat:Int):=by
 have ha:=a.toNat_lt;have hb:=b.toNat_lt;have hc:=c.toNat_lt;have hd:=d.toNat_lt
 have e1:(a.toNat:Int)*2^Int.toNat 24%4294967296=((a.toNat:Int))*2^24:=by grind
 have e2:(b.toNat:Int)*2^Int.toNat 16%4294967296=(b.toNat:Int)*2^16:=by grind
 have e3:(c.toNat:Int)*2^Int.toNat 8%4294967296=(c.toNat:Int)*2^8:=by grind
 rw [e1,e2,e3,gU _ _ 24 w! w! w!];rw [show(a.toNat:Int)*2^24+(b.toNat:Int)*2^16=((a.toNat:Int)*256+b.toNat)*2^16 by omega,gU _ _ 16 w! w! w!];rw [show((a.toNat:Int)*256+b.toNat)*2^16+(c.toNat:Int)*2^8=((a.toNat:Int)*65536+b.toNat*256+c.toNat)*2^8 by omega,gU _ _ 8 w! w! w!];omega
theorem db(p:B8):∀n,(sched p n).length=n
 |0=>rfl
 |n+1=>by simp [sched,db p n]
theorem uy(p:B8)(n:Nat)(h:n<=64):(aK p n).length=64:=by grind[aK,db]
theorem abh(p:B8):aK p 64=sched p 64:=by simp [aK]
theorem aki(p:B8)(n:Nat):0<=word p n/\word p n<4294967296:=by
 simp only [word,zj];have h1:=(p.getD (4*n) 0).toNat_lt;have h2:=(p.getD (4*n+1) 0).toNat_lt;have h3:=(p.getD (4*n+2) 0).toNat_lt;have h4:=(p.getD (4*n+3) 0).toNat_lt
 omega
theorem RP(p:B8):∀n,okW (sched p n)
 |0=>by simp [sched,okW]
 |n+1=>by
  intro x hx;simp [sched,F!,v?] at hx;rcases hx with hx|rfl
  . exact RP p n x hx
  . simp [zk];split
    . exact aki p n
    . simp [akg];omega
theorem W4(h:okW l)(i:Nat):0<=l.getD i 0/\l.getD i 0<4294967296:=by
 rw [G!];cases hg:l[i]? with
 |none=>simp
 |some x=>simpa using h x (E? hg)
theorem apX(p:B8)(n i:Nat):0<=(aK p n).getD i 0/\(aK p n).getD i 0<4294967296:=by
 refine W4 ?_ i;intro x hx;simp [aK,F!] at hx;rcases hx with hx|hx
 . exact RP p n x hx
 grind
theorem W5(p:B8)(n i:Nat)(k:Int)(h: -32<k/\k<0):tu ((aK p n).getD i 0) k:=⟨h.1,h.2,apX p n i⟩
theorem CS(p:B8)(n i:Nat)(h:i<n):(aK p n).getD i 0=(sched p n).getD i 0:=by
 grind[aK,List.getElem?_append_left,db]
theorem W6(p:B8)(n:Nat)(v:Int)(h:n<64)(hv:v=zk p (sched p n) n):(aK p n).set n v=aK p (n+1):=by
 grind[aK,sched,agn,db]
theorem apY(p:B8)(x:Nat)(h:x<16):List.set (aK p x) (0+Int.toNat (x:Int)*1)
  (Vg.cy (Vg.cy (Vg.cy (((List.getD p (Int.toNat (4*(x:Int))) 0).toNat:Int)*2^Int.toNat 24%4294967296) (((List.getD p (Int.toNat (4*(x:Int)+1)) 0).toNat:Int)*2^Int.toNat 16%4294967296))
    (((List.getD p (Int.toNat (4*(x:Int)+2)) 0).toNat:Int)*2^Int.toNat 8%4294967296)) ((List.getD p (Int.toNat (4*(x:Int)+3)) 0).toNat:Int))=aK p (x+1):=by
 rw [akh,show 0+Int.toNat (x:Int)*1=x by omega];refine W6 p x _ w! ?_;simp [zk,M! h,word,zj,show Int.toNat (4*(x:Int))=4*x by omega,show Int.toNat (4*(x:Int)+1)=4*x+1 by omega,show Int.toNat (4*(x:Int)+2)=4*x+2 by omega,show Int.toNat (4*(x:Int)+3)=4*x+3 by omega]
theorem apZ(p:B8)(x:Nat)(h:16<=x)(h1:x<64):List.set (aK p x) (0+Int.toNat (x:Int)*1)
  ((((List.getD (aK p x) (0+Int.toNat ((x:Int)-16)*1) 0+
    Vg.eP (Vg.eP (rotl (List.getD (aK p x) (0+Int.toNat ((x:Int)-15)*1) 0) (-7)) (rotl (List.getD (aK p x) (0+Int.toNat ((x:Int)-15)*1) 0) (-18))) (List.getD (aK p x) (0+Int.toNat ((x:Int)-15)*1) 0/2^Int.toNat 3))%4294967296+
    List.getD (aK p x) (0+Int.toNat ((x:Int)-7)*1) 0)%4294967296+
    Vg.eP (Vg.eP (rotl (List.getD (aK p x) (0+Int.toNat ((x:Int)-2)*1) 0) (-17)) (rotl (List.getD (aK p x) (0+Int.toNat ((x:Int)-2)*1) 0) (-19))) (List.getD (aK p x) (0+Int.toNat ((x:Int)-2)*1) 0/2^Int.toNat 10))%4294967296)=aK p (x+1):=by
 simp only [show 0+Int.toNat (x:Int)*1=x by omega,show 0+Int.toNat ((x:Int)-16)*1=x-16 by omega,show 0+Int.toNat ((x:Int)-15)*1=x-15 by omega,show 0+Int.toNat ((x:Int)-7)*1=x-7 by omega,show 0+Int.toNat ((x:Int)-2)*1=x-2 by omega,
  CS p x (x-16) w!,CS p x (x-15) w!,CS p x (x-7) w!,CS p x (x-2) w!]
 refine W6 p x _ w! ?_;simp only [zk,J! (by omega :¬x<16)];rfl
theorem ap0(k w:Int)(s:H8)(h:xa s):xa (rnd k w s):=by
 simp [xa,eV,P!,List.not_mem_nil,or_false,forall_eq_or_imp,forall_eq,rnd] at h |-;omega
theorem Bv(w:U)(s:H8)(h:xa s):∀n,xa (aL w s n)
 |0=>h
 |n+1=>ap0 _ _ _ (Bv w s h n)
theorem agr(s:H8)(p:B8):xa (block s p):=by
 simp [block,abg,xa,eV,P!,List.not_mem_nil,or_false,forall_eq_or_imp,forall_eq];omega
theorem NP(s:H8)(b:B8)(h:xa s):∀n,xa (proc s b n)
 |0=>h
 |n+1=>agr _ _
variable {s:H8}
theorem aAA(h:xa s)(k:Int)(hk: -32<k/\k<0):tu s.1 k:=⟨hk.1,hk.2,h _ (by simp [eV])⟩
theorem aAB(h:xa s)(k:Int)(hk: -32<k/\k<0):tu s.2.2.2.2.1 k:=⟨hk.1,hk.2,h _ (by simp [eV])⟩
theorem IH:(64:Nat)=xU.length:=by decide
theorem Z0:xa H0:=by simp [xa,eV,H0]
theorem ap1 {x k:Int}(h:tu x k):Vg.cy (x*2^Int.toNat (Vg.aM (k%18446744073709551616) 31)%4294967296) (x/2^Int.toNat ((32-Vg.aM (k%18446744073709551616) 31)%18446744073709551616))=rotl x k:=by
 obtain⟨h1,h2,h3,h4⟩:=h;have e1:Vg.aM (k%18446744073709551616) 31=32+k:=by grind[ET]
 rw [e1,show(32-(32+k))%18446744073709551616= -k by omega];obtain⟨n,hn⟩:∃n:Nat,n=(-k).toNat:=⟨_,rfl⟩;rw [show Int.toNat (32+k)=32-n by omega,<-hn];simp [rotl,right,<-hn,show(32- -k).toNat=32-n by omega];obtain⟨m,rfl⟩:=p? h3;have hm:m<2^32:=by omega
 have aLC:(2:Nat)^(32-n)*2^n=2^32:=by rw [<-Nat.pow_add];grind
 have hq:m/2^n<2^(32-n):=by
  simp_all[Nat.div_lt_iff_lt_mul,Nat.two_pow_pos]
 have aGG:m*2^(32-n)%4294967296=(m%2^n)*2^(32-n):=by
  grind[Nat.mul_comm,Nat.mul_mod_mul_right]
 have c1:((m:Int)*2^(32-n)%4294967296)=(((m%2^n:Nat):Int))*2^(32-n):=by
  have:=congrArg (Nat.cast (R:=Int)) aGG;grind
 have c2:((m:Int)/2^n)=((m/2^n:Nat):Int):=by simp
 rw [c1,c2,gU _ _ (32-n) (Int.natCast_nonneg _) (Int.natCast_nonneg _) x!]
 have jU:(m%2^n)*2^(32-n)+m/2^n<4294967296:=by
  have h1:m%2^n<2^n:=Nat.mod_lt _ (Nat.two_pow_pos n);have h2:(m%2^n+1)*2^(32-n)<=2^n*2^(32-n):=Nat.mul_le_mul_right _ h1;grind
 grind
theorem ap2 {x k:Int}(h:tu x k):Vg.aM (k%18446744073709551616) 31=32+k:=by
 obtain⟨h1,h2,h3,h4⟩:=h;grind[ET]
theorem ags{r:B8}{n:Int}(h:LJ s r n):qo r n=true:=by
 obtain⟨_,h1,h2,h3⟩:=h;grind[qo]
theorem dc(r:B8)(k:Nat):(gh r k).length=r.length+1+k:=by grind[gh]
theorem W7(r:B8):r++[UInt8.ofNat (Int.toNat 128)]=gh r 0:=by simp [gh]
theorem Kl(r:B8)(k:Nat):gh r k++[UInt8.ofNat (Int.toNat 0)]=gh r (k+1):=by
 grind[gh,List.append_assoc,List.replicate_succ']
theorem NQ(n:Nat):ib n<64:=Nat.mod_lt _ w!
theorem NR {r:B8}{k:Nat}(h:cG r k)(h1:¬((gh r k).length:Int)%64=56):cG r (k+1):=by
 grind[cG,ib,dc]
theorem RQ {r:B8}{k:Nat}(h:cG r k)(h1:((gh r k).length:Int)%64=56):k=ib r.length:=by
 grind[cG,ib,dc]
theorem II(n:Int)(k:Nat):(len8 n k).length=k:=by simp [len8]
theorem jD(r:B8)(n:Int)(k:Nat):(jX r n k).length=r.length+1+ib r.length+k:=by simp [jX,dc,II]
theorem akj(r:B8)(n:Int):jX r n 0=gh r (ib r.length):=by simp [jX,len8]
theorem W8(r:B8)(n:Int)(x:Nat)(h0:0<=n)(h1:n<=1099511627776)(hx:x<8):
  jX r n x++[UInt8.ofNat (Int.toNat (n%18446744073709551616*8%18446744073709551616/2^Int.toNat (56-8*(x:Int))%256))]=jX r n (x+1):=by
 rw [show n%18446744073709551616*8%18446744073709551616=n*8 by omega,show Int.toNat (56-8*(x:Int))=56-8*x by omega];grind[jX,len8,List.range_succ,List.append_assoc]
theorem IJ(s:H8)(k:Nat)(hk:k<=8):(oU s k).length=4*k:=by
 match k,hk with
 |0,_|1,_|2,_|3,_|4,_|5,_|6,_|7,_|8,_=>rfl
theorem NS(s:H8)(x:Nat)(hx:x<8):oU s x++b32 ((eV s).getD x 0)=oU s (x+1):=by
 have hl:x<(eV s).length:=by simp_all[eV]
 grind[oU,aD,eV]
theorem akk(s:H8):(dig s).length=32:=IJ s 8 w!
theorem qp(b:B8):(sum b).length=32:=akk _
theorem IK(s:H8)(x y:B8):∀n,64*n<=x.length->proc s (x++y) n=proc s x n
 |0,_=>rfl
 |n+1,h=>by
  simp [proc];rw [IK s x y n w!,List.drop_append_of_le_length w!,List.take_append_of_le_length (by rw [N?];omega)]
theorem NT(s:H8)(x y:B8)(a:Nat)(h:x.length=64*a):∀n,proc s (x++y) (a+n)=proc (proc s x a) y n
 |0=>IK s x y a w!
 |n+1=>by
  simp [proc];rw [NT s x y a h n,show 64*(a+n)=x.length+64*n by omega,List.drop_append,s? w!,k?,w?]
theorem vY(b:B8):(kn b).length=b.length%64:=by grind[kn,blocks]
theorem agt(n:Nat):ib (n%64)=ib n:=by simp [ib]
theorem Z1(b:B8)(n:Int):aI (aI H0 b) (tail (kn b) n)=aI H0 (tail b n):=by
 have hb:b=b.take (64*blocks b)++kn b:=(V? _ b).symm;have hl:(b.take (64*blocks b)).length=64*blocks b:=by simp [blocks];omega
 have ht:tail b n=b.take (64*blocks b)++tail (kn b) n:=by
  have :ib (kn b).length=ib b.length:=by rw [vY,agt]
  simp [tail,jX,gh,this];conv=>lhs;rw [hb]
  simp only [W!,K!];rw [<-K!,<-hb]
 have hk:blocks (tail b n)=blocks b+blocks (tail (kn b) n):=by
  rw [ht];simp [blocks,K!] at *;omega
 simp [aI];rw [hk,ht,NT H0 _ _ (blocks b) hl,<-IK H0 (b.take (64*blocks b)) (kn b) (blocks b) w!,<-hb]
theorem ap3(s:H8)(x:Nat)(hx:x<8):oU s x++[UInt8.ofNat (Int.toNat (List.getD (eV s) (Int.toNat (x:Int)) 0/2^Int.toNat 24%256)),UInt8.ofNat (Int.toNat (List.getD (eV s) (Int.toNat (x:Int)) 0/2^Int.toNat 16%256)),
 UInt8.ofNat (Int.toNat (List.getD (eV s) (Int.toNat (x:Int)) 0/2^Int.toNat 8%256)),UInt8.ofNat (Int.toNat (List.getD (eV s) (Int.toNat (x:Int)) 0%256))]=oU s (x+1):=NS s x hx
theorem ap4(s:H8)(b:B8)(n:Nat):block ((proc s b n).1,(proc s b n).2.1,(proc s b n).2.2.1,(proc s b n).2.2.2.1,(proc s b n).2.2.2.2.1,(proc s b n).2.2.2.2.2.1,(proc s b n).2.2.2.2.2.2.1,(proc s b n).2.2.2.2.2.2.2) (List.take (Int.toNat 64) (fx b n))=proc s b (n+1):=rfl
theorem agu(b:B8)(x:Nat)(h:x<16):sched b x++[(((((b.getD (Int.toNat ((4*x:Nat):Int)) 0).toNat:Int)*16777216%4294967296+((b.getD (Int.toNat (((4*x:Nat):Int)+1)) 0).toNat:Int)*65536%4294967296)%4294967296+
  ((b.getD (Int.toNat (((4*x:Nat):Int)+2)) 0).toNat:Int)*256%4294967296)%4294967296+((b.getD (Int.toNat (((4*x:Nat):Int)+3)) 0).toNat:Int))%4294967296]=sched b (x+1):=by
 simp [sched,zk,M! h,word,zj,show Int.toNat ((4*x:Nat):Int)=4*x by omega,show Int.toNat (((4*x:Nat):Int)+1)=4*x+1 by omega,show Int.toNat (((4*x:Nat):Int)+2)=4*x+2 by omega,show Int.toNat (((4*x:Nat):Int)+3)=4*x+3 by omega];have h1:=(b.getD (4*x) 0).toNat_lt;have h2:=(b.getD (4*x+1) 0).toNat_lt;have h3:=(b.getD (4*x+2) 0).toNat_lt;have h4:=(b.getD (4*x+3) 0).toNat_lt
 grind
theorem agv(b:B8)(x:Nat)(h:16<=x):sched b x++[(((List.getD (sched b x) (Int.toNat ((x:Int)-16)) 0+
  Vg.eP (Vg.eP (right (List.getD (sched b x) (Int.toNat ((x:Int)-15)) 0) 7) (right (List.getD (sched b x) (Int.toNat ((x:Int)-15)) 0) 18)) (List.getD (sched b x) (Int.toNat ((x:Int)-15)) 0/2^Int.toNat 3))%4294967296+
  List.getD (sched b x) (Int.toNat ((x:Int)-7)) 0)%4294967296+
  Vg.eP (Vg.eP (right (List.getD (sched b x) (Int.toNat ((x:Int)-2)) 0) 17) (right (List.getD (sched b x) (Int.toNat ((x:Int)-2)) 0) 19)) (List.getD (sched b x) (Int.toNat ((x:Int)-2)) 0/2^Int.toNat 10))%4294967296]=sched b (x+1):=by
 simp only [show Int.toNat ((x:Int)-16)=x-16 by omega,show Int.toNat ((x:Int)-15)=x-15 by omega,show Int.toNat ((x:Int)-7)=x-7 by omega,show Int.toNat ((x:Int)-2)=x-2 by omega];simp only [sched,zk,J! (by omega :¬x<16)];rfl
theorem xor_not(h:0<=e/\e<4294967296):Vg.eP 4294967295 e=4294967296-1-e:=by
 obtain⟨n,rfl⟩:=p? h.1;have hn:n<2^32:=by omega
 have :(4294967295:Nat)^^^n=2^32-1-n:=by
  apply Nat.eq_of_testBit_eq;intro i;rw [show 2^32-1-n=2^32-(n+1) by omega,Nat.testBit_two_pow_sub_succ hn,Nat.testBit_xor,show(4294967295:Nat)=2^32-1 by rfl,Nat.testBit_two_pow_sub_one];by_cases hi:i<32
  . grind
  . have hz:n.testBit i=false:=Nat.testBit_lt_two_pow (Nat.lt_of_lt_of_le hn (Nat.pow_le_pow_right w! w!));grind
 grind[Vg.eP,Int.toNat_natCast,Int.toNat]
theorem ap5(h:okW l):xa (Ai l):=by
 intro x hx;simp [eV,Ai,P!,List.not_mem_nil,or_false] at hx;rcases hx with rfl|rfl|rfl|rfl|rfl|rfl|rfl|rfl<;>exact W4 h _
theorem RR(b:B8)(n:Int):(tail b n).length=b.length+1+ib b.length+8:=jD b n 8
theorem akl(b:B8)(n:Int):(tail b n).length=64*blocks (tail b n):=by
 grind[blocks,RR,ib]
theorem agw(b:B8)(h:small b):(b.length:Int)%18446744073709551616*8%18446744073709551616=mV b 0:=by
 grind[small,mV]
theorem Uf(b:B8)(x:Nat):mV b x/256=mV b (x+1):=by
 grind[mV,Int.pow_succ,Int.ediv_ediv_of_nonneg,Int.le_of_lt,Int.pow_pos]
theorem QO(b:B8)(x:Nat)(hx:x<8): [UInt8.ofNat (Int.toNat (mV b x%256%256))]++lA b x=lA b (x+1):=by
 have hl:7-x<(len8 ((b.length:Int)*8) 8).length:=by grind[II]
 have hd:=List.drop_eq_getElem_cons hl;simp [lA]
 have he:(len8 ((b.length:Int)*8) 8)[7-x]=UInt8.ofNat (Int.toNat (mV b x%256%256)):=by
  simp [len8,List.getElem_map,List.getElem_range,mV,Int.emod_emod];rw [show 56-8*(7-x)=8*x by omega,Int.pow_mul];rfl
 grind
theorem Z2(b:B8):lA b 8=len8 (pO b*8) 8:=rfl
theorem GY(b:B8)(k:Nat)(h:k<=8):(lA b k).length=k:=by grind[lA,II]
theorem akm(T:B8)(x:Nat):List.take (Int.toNat (((64*x:Nat):Int)+64)-Int.toNat ((64*x:Nat):Int)) (List.drop (Int.toNat ((64*x:Nat):Int)) T)=(T.drop (64*x)).take 64:=by
 grind
theorem ap6(s:H8)(x:Nat)(hx:x<8):oU s x++[UInt8.ofNat (Int.toNat (List.getD (eV s) (Int.toNat (x:Int)) 0/16777216%256)),UInt8.ofNat (Int.toNat (List.getD (eV s) (Int.toNat (x:Int)) 0/65536%256%256)),
  UInt8.ofNat (Int.toNat (List.getD (eV s) (Int.toNat (x:Int)) 0/256%256%256)),UInt8.ofNat (Int.toNat (List.getD (eV s) (Int.toNat (x:Int)) 0%256%256))]=oU s (x+1):=by
 grind[NS,b32,Int.toNat_natCast,Int.emod_emod]
def ra:Nat->Nat->B8
 |0,_=>[]
 |f+1,v=>if v<128 then [UInt8.ofNat v] else UInt8.ofNat (v%128+128)::ra f (v/128)
def num(v:Int):B8:=ra 9 v.toNat
def text(s:B8):B8:=num s.length++s
def fT(v:Int):Bool:=decide (v<0) || decide (4611686018427387904<v)
def mn(b:B8)(v:Int):B8:=if fT v then [] else b++num v
def xV(v:Int):Int:=if fT v then 1 else 0
def tv(l:B8)(v:Int)(m:B8)(u:Int):Prop:=0<=u/\u<=v/\m++num u=l++num v
def GZ(l:B8)(v:Int):Prop:=0<=v/\l.length<=70368744177664
def oV(l s:B8):Prop:=l.length<=35184372088832/\s.length<=35184372088832
def lead(b:B8):Nat:=(b.takeWhile λx=>decide (128<=x.toNat)).length
def dz:B8->Nat
 |[]=>0
 |x::l=>x.toNat%128+128*dz l
def first(b:B8):Int×Int×Int:=
 if 9<=lead b then(0,0,2)
 else if lead b=b.length then(0,0,4)
 else if dz (b.take (lead b+1))>4611686018427387904\/num (dz (b.take (lead b+1)))≠b.take (lead b+1) then(0,0,2)
 else(dz (b.take (lead b+1)),lead b+1,0)
def aq(b:B8)(cd:Int):B8×Int×Int:=
 if(first b).2.2≠0 then([],0,(first b).2.2)
 else if(first b).1>cd then([],0,2)
 else if(first b).1>b.length-(first b).2.1 then([],0,4)
 else((b.drop (first b).2.1.toNat).take (first b).1.toNat,(first b).2.1+(first b).1,0)
def dF(b:B8)(at':Int):Prop:=0<=at'/\at'<=b.length
def RS(at':Int)(x:Int×Int×Int):Int×Int×Int:=(x.1,if x.2.2=0 then at'+x.2.1 else 0,x.2.2)
def aO(b:B8)(at':Int):Int×Int×Int:=RS at' (first (b.drop at'.toNat))
def di(b:B8)(p cd:Int):B8×Int×Int:=
 if(aO b p).2.2≠0 then([],0,(aO b p).2.2)
 else if cd<(aO b p).1 then([],0,2)
 else if(b.length:Int)-(aO b p).2.1<(aO b p).1 then([],0,4)
 else((b.take ((aO b p).2.1+(aO b p).1).toNat).drop (aO b p).2.1.toNat,(aO b p).2.1+(aO b p).1,0)
def inside(b:B8)(a:Int):Bool:=decide (0<=a)&&decide (a<=b.length)
def bX(b:B8)(a e:Int):Int:=if e=0/\inside b a=false then 1 else e
abbrev Rd:=B8×Int×Int
def an(b:B8)(a e cd:Int):Rd×B8:=
 if bX b a e≠0 then((b,a,bX b a e),[])
 else if(di b a cd).2.2≠0 then((b,a,(di b a cd).2.2),[])
 else((b,(di b a cd).2.1,0),(di b a cd).1)
def af(b:B8)(a e:Int):Rd×Int:=
 if bX b a e≠0 then((b,a,bX b a e),0)
 else if(aO b a).2.2≠0 then((b,a,(aO b a).2.2),0)
 else((b,(aO b a).2.1,0),(aO b a).1)
def ar(b:B8)(a e:Int):Rd×B8:=
 if bX b a e≠0 then((b,a,bX b a e),[])
 else if(b.length:Int)-a<32 then((b,a,4),[])
 else((b,a+32,0),(b.drop a.toNat).take 32)
def done(b:B8)(a e:Int):Int:=if e≠0 then e else if inside b a=false then 1 else if a<b.length then 2 else 0
def ko(b:B8)(a:Int)(n:Nat):Prop:=n<=9/\a+n<=b.length/\∀x∈(b.drop a.toNat).take n,128<=x.toNat
def gu(b:B8)(a:Int)(n:Nat):Int:=(dz ((b.drop a.toNat).take n):Int)
def lZ(b:B8)(n:Nat):Prop:=n<=9/\n<=b.length/\∀x∈b.take n,128<=x.toNat
def xW(b:B8)(n:Nat)(i:Int):Prop:=lZ b n/\n<9/\n<b.length/\ -1<=i/\i<=n
def dL(b:B8)(n:Nat)(i:Int):Int:=(dz ((b.take (n+1)).drop (i+1).toNat):Int)
theorem IL:∀(f v:Nat),(ra f v).length<=f
 |0,_=>by simp [ra]
 |f+1,v=>by
  have:=IL f (v/128);simp [ra];split<;>simp<;>omega
theorem cX(v:Int):(num v).length<=9:=IL 9 _
theorem NU:∀(f g v:Nat),v<128^f->1<=f->f<=g->ra g v=ra f v
 |0,g,v,_,h,_=>by omega
 |f+1,0,v,_,_,h=>by omega
 |f+1,g+1,v,h,_,hg=>by
  simp [ra];split
  . rfl
  . by_cases hf:f=0
    . subst hf;omega
    . rw [NU f g (v/128) w! w! w!]
theorem G1(v:Int)(h:v<128):num v=[UInt8.ofNat v.toNat]:=by
 simp_all[num,ra,M!]
theorem abi(v:Int)(h:128<=v)(h1:v<=9223372036854775807):num v=UInt8.ofNat (v%128+128).toNat::num (v/128):=by
 simp [num];rw [ra,if_neg w!];grind[NU]
theorem Km:∀(l:B8) (h:l≠ []),dz l=0->(l.getLast h).toNat<128->(l.getLast h).toNat=0
 |[x],_,h,hx=>by grind[dz]
 |x::y::l,_,h,hx=>by
  simp [dz] at h;exact Km (y::l) z! (by simp [dz];omega) hx
theorem RT:∀(f:Nat) (l:B8) (h:l≠ []),l.length<=f->(∀x∈l.dropLast,128<=x.toNat)->(l.getLast h).toNat<128->(ra f (dz l)=l↔(l.length=1\/(l.getLast h).toNat≠0))
 |0,l,h,hl,_,_=>by
  grind
 |f+1,[x],_,_,_,hx=>by
  have hv:dz [x]=x.toNat:=by grind[dz]
  simp_all[ra,M!]
 |f+1,x::y::l,_,hl,hd,hx=>by
  have Qn:128<=x.toNat:=hd x z!;have ZJ:=x.toNat_lt;have ih:=RT f (y::l) z! x! (λz hz=>hd z x!) hx;have e:dz (x::y::l)=x.toNat%128+128*dz (y::l):=rfl;rw [ra,e];by_cases hV:dz (y::l)=0
  . grind[Km]
  . have e1:(x.toNat%128+128*dz (y::l))%128+128=x.toNat:=by omega
    have e2:(x.toNat%128+128*dz (y::l))/128=dz (y::l):=by omega
    rw [e1,e2,UInt8.ofNat_toNat];grind[dz]
theorem CT:∀(l:B8),dz l<128^l.length
 |[]=>by simp [dz]
 |x::l=>by
  have:=CT l;simp [dz,O?,y?];omega
theorem DX:∀(l m:B8),dz (l++m)=dz l+128^l.length*dz m
 |[],m=>by simp [dz]
 |x::l,m=>by
  simp [List.cons_append,dz,DX l m,List.length_cons,Nat.pow_succ];grind
theorem NV(b:B8)(n:Nat)(h:∀x∈b.take n,128<=x.toNat)(hn:n<=b.length)(he:n=b.length\/(b.getD n 0).toNat<128):lead b=n:=by
 induction b generalizing n with
 |nil=>simp at hn;subst hn;rfl
 |cons x b ih=>
  cases n with
  |zero=>
   simp_all[List.getD_cons_zero,lead,List.takeWhile_cons,J!]
  |succ n=>
   have hx:=h x z!;have:=ih n (λy hy=>h y (by simp [hy])) (by simpa using hn) (by simpa using he);simp [lead,List.takeWhile_cons] at this |-;rw [M! (by simpa using hx),O?,this]
theorem akn(b:B8)(n:Nat)(h:∀x∈b.take n,128<=x.toNat)(hn:n<=b.length):n<=lead b:=by
 induction b generalizing n with
 |nil=>grind
 |cons x b ih=>
  cases n with
  |zero=>omega
  |succ n=>
   simp_all[lead,List.takeWhile_cons,M!,O?]
theorem Z3(b:B8)(n:Nat)(hn:n<b.length):∃h,(b.take (n+1)).getLast h=b.getD n 0:=by
 refine⟨by intro h;simp_all,?_⟩;grind
theorem RU(b:B8)(n:Nat)(h:∀x∈b.take n,128<=x.toNat)(hn:n<b.length)(h9:n<9)(he:(b.getD n 0).toNat<128):
  first b=if((1<=n/\(b.getD n 0).toNat=0)\/dz (b.take (n+1))>4611686018427387904) then(0,0,2) else((dz (b.take (n+1)):Int),(n:Int)+1,0):=by
 have hl:=NV b n h w! (.inr he);obtain⟨fh,Zu⟩:=Z3 b n hn;have hlen:(b.take (n+1)).length=n+1:=by grind
 have hc:=RT 9 (b.take (n+1)) fh w! (by
  grind[List.dropLast_eq_take]) x!
 simp [first,hl,num,Int.toNat_natCast];grind
theorem ako(b:B8)(h:∀x∈b.take 9,128<=x.toNat)(hn:9<=b.length):first b=(0,0,2):=by
 simp_all[akn,first,M!]
theorem Z4(b:B8)(n:Nat)(h:∀x∈b.take n,128<=x.toNat)(hn:n=b.length)(h9:n<9):first b=(0,0,4):=by
 have:=NV b n h w! (.inl hn);simp_all[first,J!,M!]
theorem j5(b:B8):0<=(first b).1/\(first b).1<=4611686018427387904/\0<=(first b).2.1/\(first b).2.1<=b.length/\((first b).2.2=0\/(first b).2.2=2\/(first b).2.2=4):=by
 have hl:=QN (λx:UInt8=>decide (128<=x.toNat)) b;unfold first
 split
 . simp
 . split
   . simp
   . split
     . simp
     . simp [lead,not_or,Nat.not_lt] at *;grind
theorem NW(b:B8):lZ b 0:=by simp [lZ]
theorem pP(h:lZ b x)(h1:x<b.length)(h2:x<9)(h3:128<=(b.getD x 0).toNat):lZ b (x+1):=by
 refine⟨w!,w!,λy hy=>?_⟩;rw [aD b x 0 h1] at hy;rcases F!.1 hy with hy|hy
 . exact h.2.2 y hy
 grind
theorem iD(h:lZ b x):x<=9/\x<=b.length:=⟨h.1,h.2.1⟩
theorem Bw(h:lZ b 9):first b=(0,0,2):=ako b h.2.2 h.2.1
theorem su(h:lZ b x)(h1:x=b.length)(h2:x≠9):first b=(0,0,4):=Z4 b x h.2.2 h1 (by have:=h.1;omega)
theorem gm(h:lZ b x)(h1:x<b.length)(h3:(b.getD x 0).toNat<128):lead b=x:=NV b x h.2.2 h.2.1 (.inr h3)
theorem ja(b:B8)(n:Nat):dL b n n=0:=by
 have :(b.take (n+1)).drop (n+1)=[]:=List.drop_eq_nil_of_le x!;simp [dL,show((n:Int)+1).toNat=n+1 by omega,this];rfl
theorem kK(b:B8)(n:Nat)(i:Int)(h0:0<=i)(h1:i<=n)(h2:n<b.length):dL b n (i-1)=dL b n i*128+((b.getD i.toNat 0).toNat:Int)%128:=by
 obtain⟨j,rfl⟩:=p? h0;have hj:j<(b.take (n+1)).length:=by rw [J?];omega
 simp only [dL,show((j:Int)-1+1).toNat=j by omega,show((j:Int)+1).toNat=j+1 by omega,X!];rw [List.drop_eq_getElem_cons hj];simp only [dz,List.getElem_take];rw [G!,D! w!,Option.getD_some];omega
theorem ic(b:B8)(n:Nat)(i:Int)(h1: -1<=i)(h2:i<=n)(h3:n<9):0<=dL b n i/\dL b n i<=9223372036854775807/\(0<=i->dL b n i<=72057594037927935):=by
 have h:=CT ((b.take (n+1)).drop (i+1).toNat);have hl:((b.take (n+1)).drop (i+1).toNat).length<=n+1-(i+1).toNat:=by grind
 have e:(128:Nat)^((b.take (n+1)).drop (i+1).toNat).length<=128^9:=Nat.pow_le_pow_right w! w!;refine⟨by grind[dL],by grind[dL],λh0=>?_⟩;have e:(128:Nat)^((b.take (n+1)).drop (i+1).toNat).length<=128^8:=Nat.pow_le_pow_right w! w!;grind[dL]
theorem nA(h1:lead b<b.length)(h2:lead b<9):first b=if dL b (lead b) (-1)>4611686018427387904\/num (dL b (lead b) (-1))≠b.take (lead b+1) then(0,0,2) else(dL b (lead b) (-1),(lead b:Int)+1,0):=by
 grind[dL,lead,dz,first]
theorem DY {b:B8}(h:lZ b (lead b))(h1:lead b<b.length)(h2:lead b<9)(h3: -1<=i)(h4:i<=lead b):xW b (lead b) i:=⟨h,h2,h1,h3,h4⟩
theorem jE(h:xW b n i):n<9/\n<b.length/\ -1<=i/\i<=n:=h.2
theorem aGH(h:dF b p):ko b p 0:=by grind[dF,ko]
theorem gV(h:ko b p x):x<=9/\p+x<=b.length:=⟨h.1,h.2.1⟩
theorem RV(b:B8)(p:Int)(x:Nat)(hp:0<=p):(b.drop p.toNat).getD x 0=b.getD (p+x).toNat 0:=by
 grind
theorem NX(hp:dF b p)(h:ko b p x):lZ (b.drop p.toNat) x:=by
 simp [dF] at hp;exact⟨h.1,by rw [N?];have:=h.2.1;omega,h.2.2⟩
theorem agx(hp:dF b p)(h:ko b p x)(h1:p+x<b.length)(h2:x≠9)(h3:128<=(b.getD (p+x).toNat 0).toNat):ko b p (x+1):=by
 have Bn:=hp;simp [dF] at Bn;have:=pP (NX hp h) x! (by have:=h.1;omega) x!;exact⟨this.1,w!,this.2.2⟩
theorem akp(hp:dF b p)(h:ko b p 9):aO b p=(0,0,2):=by
 grind[aO,Bw,NX,RS]
theorem W9{x:Nat}(hp:dF b p)(h:ko b p x)(h1:(x:Int)=b.length-p)(h2:x≠9):aO b p=(0,0,4):=by
 have Bn:=hp;simp [dF] at Bn;have:=su (NX hp h) x! h2;grind[aO,RS]
theorem abj(hp:dF b p)(h:ko b p x)(h1:p+x<b.length):
  Vg.cy (gu b p x) (Vg.aM ((b.getD (p+x).toNat 0).toNat:Int) 127*2^(7*(x:Int)).toNat)=gu b p (x+1):=by
 have Bn:=hp;simp [dF] at Bn;have hx:x<(b.drop p.toNat).length:=by grind
 rw [nz _ w!,Bu,gU _ _ _ w! (by simp [gu])]
 . simp [gu];rw [aD _ x 0 hx,DX,RV _ _ _ Bn.1,J?,Nat.min_eq_left w!];simp [dz,show(7*(x:Int)).toNat=7*x by omega,Nat.mul_zero,Nat.add_zero];simp_all[Int.natCast_add,Int.natCast_mul,Int.natCast_pow,Int.natCast_emod,Int.pow_mul,Int.mul_comm,Int.add_comm]
 . simp [gu,show(7*(x:Int)).toNat=7*x by omega];grind[CT,Nat.pow_le_pow_right,List.length_take,Int.natCast_pow,Int.pow_mul]
theorem aGI(b:B8)(p:Int):gu b p 0=0:=by rfl
theorem ap7(h:x<=9):0<=gu b p x/\gu b p x<=9223372036854775807:=by
 have:=CT ((b.drop p.toNat).take x);have e:(128:Nat)^((b.drop p.toNat).take x).length<=128^9:=Nat.pow_le_pow_right w! x!;grind[gu]
theorem abk(c:Int)(x:Nat)(h0:0<=c)(h1:c<=127)(hx:x<=8):0<=c*2^(7*(x:Int)).toNat/\c*2^(7*(x:Int)).toNat<=9223372036854775807:=by
 have lI:(2:Nat)^(7*(x:Int)).toNat<=2^56:=Nat.pow_le_pow_right w! w!;have e:(2:Int)^(7*(x:Int)).toNat=((2^(7*(x:Int)).toNat:Nat):Int):=by simp
 have hp:(2:Int)^(7*(x:Int)).toNat<=72057594037927936:=by omega
 have hq:(0:Int)<2^(7*(x:Int)).toNat:=Int.pow_pos w!;constructor
 . exact Int.mul_nonneg h0 w!
 . have:=Int.mul_le_mul h1 hp w! w!;omega
theorem akq(hp:dF b p)(h:ko b p x)(h1:p+x<b.length)(h2:x≠9)(h3:(b.getD (p+x).toNat 0).toNat<128):
  aO b p=if((1<=x/\(b.getD (p+x).toNat 0).toNat=0)\/gu b p (x+1)>4611686018427387904) then(0,0,2) else(gu b p (x+1),p+(x+1),0):=by
 have Bn:=hp;simp [dF] at Bn;have:=RU (b.drop p.toNat) x h.2.2 x! (by have:=h.1;omega) x!;rw [RV _ _ _ Bn.1] at this;simp [aO,this,gu];have e:(dz ((b.drop p.toNat).take (x+1))>4611686018427387904)↔((dz ((b.drop p.toNat).take (x+1)):Int)>4611686018427387904):=by omega
 simp [e];rw [apply_ite (RS p)];rfl
theorem akr(v:Int):1<=(num v).length:=by
 grind[num,ra]
theorem G2 {l:B8}(h:tv l v m u):m.length+1<=l.length+9:=by
 have:=congrArg List.length h.2.2;grind[cX,akr,List.length_append]
theorem agy {l:B8}(h:tv l v m u)(h1:127<u)(h2:v<=9223372036854775807):
  tv l v (m++[UInt8.ofNat (Vg.cy (Vg.aM u 127%256) 128).toNat]) (u/2^(7:Int).toNat):=by
 have h4:=h.2.1;have e:=abi u w! w!
 have e2:Vg.cy (Vg.aM u 127%256) 128=u%128+128:=by
  grind[nz,NN]
 have h3:=h.2.2;refine⟨x!,x!,?_⟩;grind
theorem aks {l:B8}(h:tv l v m u)(h1:¬127<u):m++[UInt8.ofNat (u%256).toNat]=l++num v:=by
 have e:=G1 u w!;rw [<-h.2.2,e];have:=h.1;grind
theorem abl {l:B8}(h:tv l v m u):0<=u:=h.1
theorem Xa {b:B8}{p:Int}{x:Nat}(hp:dF b p)(h:ko b p x)(h1:p+x<b.length)(h2:x≠9)(h3:(b.getD (p+x).toNat 0).toNat<128)
  (hc:(bif decide (1<(x:Int)+1) then bif decide (((b.getD (p+((x:Int)+1)-1).toNat 0).toNat:Int)=0) then true else decide (4611686018427387904<Vg.cy (gu b p x) (Vg.aM ((b.getD (p+x).toNat 0).toNat:Int) 127*2^(7*(x:Int)).toNat)) else decide (4611686018427387904<Vg.cy (gu b p x) (Vg.aM ((b.getD (p+x).toNat 0).toNat:Int) 127*2^(7*(x:Int)).toNat)))=c):
  aO b p=if c=true then(0,0,2) else(Vg.cy (gu b p x) (Vg.aM ((b.getD (p+x).toNat 0).toNat:Int) 127*2^(7*(x:Int)).toNat),p+(x+1),0):=by
 have hf:=akq hp h h1 h2 h3;rw [<-hc,hf];rw [abj hp h h1,show p+((x:Int)+1)-1=p+x by omega];grind
theorem IM {b:B8}{p:Int}{x:Nat}(hp:dF b p)(h:ko b p x)(h1:p+x<b.length)(h2:x≠9)(h3:(b.getD (p+x).toNat 0).toNat<128)
  (hc:(bif decide (1<(x:Int)+1) then bif decide (((b.getD (p+((x:Int)+1)-1).toNat 0).toNat:Int)=0) then true else decide (4611686018427387904<Vg.cy (gu b p x) (Vg.aM ((b.getD (p+x).toNat 0).toNat:Int) 127*2^(7*(x:Int)).toNat)) else decide (4611686018427387904<Vg.cy (gu b p x) (Vg.aM ((b.getD (p+x).toNat 0).toNat:Int) 127*2^(7*(x:Int)).toNat)))=true):
  0=(aO b p).1/\0=(aO b p).2.1/\2=(aO b p).2.2:=by
 rw [Xa hp h h1 h2 h3 hc];grind
theorem IN {b:B8}{p:Int}{x:Nat}(hp:dF b p)(h:ko b p x)(h1:p+x<b.length)(h2:x≠9)(h3:(b.getD (p+x).toNat 0).toNat<128)
  (hc:(bif decide (1<(x:Int)+1) then bif decide (((b.getD (p+((x:Int)+1)-1).toNat 0).toNat:Int)=0) then true else decide (4611686018427387904<Vg.cy (gu b p x) (Vg.aM ((b.getD (p+x).toNat 0).toNat:Int) 127*2^(7*(x:Int)).toNat)) else decide (4611686018427387904<Vg.cy (gu b p x) (Vg.aM ((b.getD (p+x).toNat 0).toNat:Int) 127*2^(7*(x:Int)).toNat)))=false):
  Vg.cy (gu b p x) (Vg.aM ((b.getD (p+x).toNat 0).toNat:Int) 127*2^(7*(x:Int)).toNat)=(aO b p).1/\p+(x+1)=(aO b p).2.1/\0=(aO b p).2.2:=by
 rw [Xa hp h h1 h2 h3 hc];grind
theorem NY(hp:dF b p):0<=(aO b p).1/\(aO b p).1<=4611686018427387904/\0<=(aO b p).2.1/\(aO b p).2.1<=b.length/\((aO b p).2.2=0\/(aO b p).2.2=2\/(aO b p).2.2=4):=by
 have h:=j5 (b.drop p.toNat);grind[dF,List.length_drop,aO,RS]
theorem agz(h:bX b a e=0):0<=a/\a<=b.length/\e=0:=by
 grind[bX,inside]
def gM(kind:UInt8)(parts:O):B8:=kind::parts.flatten
def og(kind:UInt8)(parts:O)(k:Nat):B8:=gM kind (parts.take k)
def oW(parts:O):Prop:=parts.flatten.length<=35184372088832
def oE(kind:Nat)(b:B8):B8:=UInt8.ofNat kind::b
def k7(kind:Int)(b:B8):B8:=UInt8.ofNat (kind%256).toNat::b
def mF(kind:Nat)(b:B8):B8:=sum (oE kind b)
def eW(kind:Int)(b:B8):B8:=sum (k7 kind b)
def leaf(b:B8):B8:=mF 0 b
def Z5(l r:B8):B8:=mF 1 (l++r)
def NZ(l r:B8):Bool:=decide (l.length=32)&&decide (r.length=32)
def aT(l r:B8):B8:=if NZ l r then Z5 l r else []
def uz(l r:B8):Int:=if NZ l r then 0 else 1
def aC(b:B8):Prop:=b.length<1099511627776
theorem IP(k:Nat)(b:B8):(mF k b).length=32:=qp _
theorem agA(h:oW parts)(hn:n<parts.length):(gM 0 (parts.take n)).length+(parts.getD n []).length<=140737488355328:=by
 have h1:(parts.take (n+1)).flatten.length<=parts.flatten.length:=by
  grind[List.take_append_drop,List.flatten_append,List.length_append]
 rw [aD parts n [] hn,List.flatten_append,List.length_append] at h1;grind[oW,gM,List.length_cons,List.flatten_cons,List.flatten_nil]
theorem Z6(k:UInt8)(h:oW parts)(hn:n<parts.length):(gM k (parts.take n)).length+(parts.getD n []).length<=140737488355328:=by
 have:=agA h hn;grind[gM]
theorem agB(k:UInt8)(p:O): [UInt8.ofNat (Int.toNat (k.toNat:Int))]=og k p 0:=by simp [og,gM]
theorem Ug(k:UInt8)(p:O)(x:Nat)(h:x<p.length):og k p x++List.getD p (Int.toNat (x:Int)) []=og k p (x+1):=by
 grind[og,gM,Int.toNat_natCast,aD,List.flatten_append]
theorem Xb(k:UInt8)(p:O)(x:Nat)(h:¬x<p.length):og k p x=gM k p:=by
 grind[og,List.take_of_length_le,Nat.not_lt]
def cA(c:Int):Bool:=decide (0<=c)&&(decide (c<=1114111)&&(decide (c<55296) || decide (57343<c)))
def eX(c:Int):Int:=if c<128 then 1 else if c<2048 then 2 else if c<65536 then 3 else 4
def u8(c:Int):UInt8:=UInt8.ofNat c.toNat
def more(c:Int):UInt8:=u8 (128+c%64)
def enc(c:Int):B8:=if c<128 then [u8 c] else if c<2048 then [u8 (192+c/64),more c] else if c<65536 then [u8 (224+c/4096),more (c/64),more c]
 else [u8 (240+c/262144),more (c/4096),more (c/64),more c]
def iU(c:Int):B8:=if cA c then enc c else []
def zY(c:Int):Int:=if cA c then 0 else 1
def dG(b:B8):Int:=((b.getD 0 0).toNat:Int)
def uN(b:B8):Nat:=if dG b<128 then 1 else if dG b/32=6 then 2 else if dG b/16=14 then 3 else if dG b/8=30 then 4 else 0
def uC(b:B8):Int:=if dG b/32=6 then dG b%32 else if dG b/16=14 then dG b%16 else dG b%8
def bV(b:B8):Nat->Int
 |0=>uC b
 |k+1=>bV b k*64+((b.getD (k+1) 0).toNat:Int)%64
def xb(b:B8)(n:Nat):Bool:=((b.drop 1).take (n-1)).all λx=>x.toNat/64==2
def aR(b:B8):Int×Int:=
 if uN b=1 then(dG b,1)
 else if uN b=0\/b.length<uN b\/xb b (uN b)=false\/cA (bV b (uN b-1))=false\/eX (bV b (uN b-1))≠uN b then(65533,1)
 else(bV b (uN b-1),uN b)
def vZ:Nat->B8->U
 |0,_=>[]
 |f+1,b=>if b.isEmpty then [] else(aR b).1::vZ f (b.drop (aR b).2.toNat)
def decode(b:B8):U:=vZ b.length b
def qq:M (Int×Int):=[(65,90),(97,122),(192,214),(216,246),(248,255),(913,929),(931,937),(945,969),(1024,1119)]
def oh:M (Int×Int×Int):=[(65,90,32),(192,214,32),(216,222,32),(913,929,32),(931,937,32),(1024,1039,80),(1040,1071,32)]
def om(c:Int)(s:Int×Int):Bool:=decide (s.1<=c)&&decide (c<=s.2)
def letter(c:Int):Bool:=qq.any (om c)
def digit(c:Int):Bool:=decide (48<=c)&&decide (c<=57)
def bT(c:Int):Int:=match oh.find? (λs=>om c (s.1,s.2.1)) with
 |some s=>c+s.2.2
 |none=>c
def pQ(c:Int)(k:Nat):Prop:=k<=9/\∀s∈qq.take k,om c s=false
def qs(c:Int)(k:Nat):Prop:=k<=7/\∀s∈oh.take k,om c (s.1,s.2.1)=false
def rb(b:B8)(k:Nat):Prop:=(2<=uN b/\k+1<=uN b/\uN b<=b.length)/\∀x∈(b.drop 1).take k,x.toNat/64=2
def tw(b r:B8)(l:U):Prop:=l++decode r=decode b/\r.length+l.length<=b.length
theorem cv(b:B8)(m:Int)(h1:1<=m)(h:m<=b.length):(List.drop (Int.toNat 1) (List.take (Int.toNat m) b)).length=m.toNat-1:=by
 grind
theorem lB(b:B8)(m:Int)(x:Nat)(h:(x:Int)+1<m):List.getD (List.drop (Int.toNat 1) (List.take (Int.toNat m) b)) (Int.toNat (x:Int)) 0=b.getD (x+1) 0:=by
 grind
theorem oq(b:B8)(m:Int)(x:Nat)(h:(x:Int)+1<m):List.getD (List.drop (Int.toNat 1) (List.take (Int.toNat m) b)) x 0=b.getD (x+1) 0:=lB b m x h
theorem uA(h1:¬((b.getD (Int.toNat 0) 0).toNat:Int)<128)(h2:((b.getD (Int.toNat 0) 0).toNat:Int)/2^Int.toNat 5=6):uN b=2:=by
 have e:((b.getD (Int.toNat 0) 0).toNat:Int)=dG b:=rfl;grind[Int.toNat,uN]
theorem v7(h1:¬((b.getD (Int.toNat 0) 0).toNat:Int)<128)(h2:¬((b.getD (Int.toNat 0) 0).toNat:Int)/2^Int.toNat 5=6)(h3:((b.getD (Int.toNat 0) 0).toNat:Int)/2^Int.toNat 4=14):uN b=3:=by
 have e:((b.getD (Int.toNat 0) 0).toNat:Int)=dG b:=rfl;grind[Int.toNat,uN]
theorem v8(h1:¬((b.getD (Int.toNat 0) 0).toNat:Int)<128)(h2:¬((b.getD (Int.toNat 0) 0).toNat:Int)/2^Int.toNat 5=6)(h3:¬((b.getD (Int.toNat 0) 0).toNat:Int)/2^Int.toNat 4=14)
  (h4:((b.getD (Int.toNat 0) 0).toNat:Int)/2^Int.toNat 3=30):uN b=4:=by
 have e:((b.getD (Int.toNat 0) 0).toNat:Int)=dG b:=rfl;grind[Int.toNat,uN]
theorem uf1(h1:((b.getD (Int.toNat 0) 0).toNat:Int)<128):aR b=(((b.getD (Int.toNat 0) 0).toNat:Int),1):=by
 have hn:uN b=1:=by
  exact M! h1
 simp [aR,hn,Q?];rfl
theorem uf0(h1:¬((b.getD (Int.toNat 0) 0).toNat:Int)<128)(h2:¬((b.getD (Int.toNat 0) 0).toNat:Int)/2^Int.toNat 5=6)(h3:¬((b.getD (Int.toNat 0) 0).toNat:Int)/2^Int.toNat 4=14)
  (h4:¬((b.getD (Int.toNat 0) 0).toNat:Int)/2^Int.toNat 3=30):aR b=(65533,1):=by
 have hn:uN b=0:=by
  have e:((b.getD (Int.toNat 0) 0).toNat:Int)=dG b:=rfl;grind[Int.toNat,uN]
 grind[aR]
theorem Uh(hn:uN b=n)(h2:2<=n)(h:b.length<n\/xb b n=false\/cA (bV b (n-1))=false\/eX (bV b (n-1))≠n):aR b=(65533,1):=by
 grind[aR]
theorem tN(hn:uN b=n)(h2:2<=n)(h:(b.length:Int)<n):aR b=(65533,1):=Uh hn h2 (.inl w!)
theorem Z7(hn:uN b=n)(h2:2<=n)(h:¬(b.length:Int)<n):rb b 0:=⟨w!,z!⟩
theorem aGJ(h2:((b.getD (Int.toNat 0) 0).toNat:Int)/2^Int.toNat 5=6):Vg.aM ((b.getD (Int.toNat 0) 0).toNat:Int) 31=bV b 0:=by
 rw [ET _ w!];have e:((b.getD (Int.toNat 0) 0).toNat:Int)=dG b:=rfl;grind[Int.toNat,bV,uC]
theorem aGK(h2:¬((b.getD (Int.toNat 0) 0).toNat:Int)/2^Int.toNat 5=6)(h3:((b.getD (Int.toNat 0) 0).toNat:Int)/2^Int.toNat 4=14):Vg.aM ((b.getD (Int.toNat 0) 0).toNat:Int) 15=bV b 0:=by
 rw [ZZ _ w!];have e:((b.getD (Int.toNat 0) 0).toNat:Int)=dG b:=rfl;grind[Int.toNat,bV,uC]
theorem aGL(h2:¬((b.getD (Int.toNat 0) 0).toNat:Int)/2^Int.toNat 5=6)(h3:¬((b.getD (Int.toNat 0) 0).toNat:Int)/2^Int.toNat 4=14):Vg.aM ((b.getD (Int.toNat 0) 0).toNat:Int) 7=bV b 0:=by
 rw [agp _ w!];have e:((b.getD (Int.toNat 0) 0).toNat:Int)=dG b:=rfl;grind[Int.toNat,bV,uC]
theorem Xc(b:B8):∀k,k<=4->0<=bV b k/\bV b k*64^(4-k)<=536870911
 |0,_=>by grind[bV,uC]
 |k+1,h=>by
  have ih:=Xc b k w!;simp [bV];have :k=0\/k=1\/k=2\/k=3:=by omega
  grind
theorem bP(h:rb b x):x<=3/\0<=bV b x/\bV b x<=536870911/\2<=uN b/\uN b<=4/\x+1<=uN b/\uN b<=b.length:=by
 have h4:uN b<=4:=by grind[uN]
 have hx:x<=3:=by have:=h.1;omega
 have:=Xc b x w!
 have hp:(1:Int)<=64^(4-x):=by
  have :x=0\/x=1\/x=2\/x=3:=by omega
  grind
 have hm:bV b x*1<=bV b x*64^(4-x):=Int.mul_le_mul_of_nonneg_left hp this.1;exact⟨hx,this.1,w!,h.1.1,h4,h.1.2.1,h.1.2.2⟩
theorem Z8(h1:1<=x)(h:x<b.length)(m:Nat)(hm:x<=m):b.getD x 0∈(b.drop 1).take m:=by
 have jU:x-1<((b.drop 1).take m).length:=by grind
 have :((b.drop 1).take m)[x-1]=b.getD x 0:=by
  grind
 grind
theorem xX(hn:uN b=n)(h:rb b x)(hx:x+1<n)(hb:¬((b.getD (x+1) 0).toNat:Int)/2^Int.toNat 6=2):aR b=(65533,1):=by
 have fb:=bP h;grind[Uh,xb,List.all_eq_true,Z8]
theorem Ui(h:rb b x)(hb:((b.getD (x+1) 0).toNat:Int)/2^Int.toNat 6=2)(hx:x+1<uN b):rb b (x+1):=by
 refine⟨by have:=h.1;omega,λy hy=>?_⟩;have fb:=bP h;have hl:x<(b.drop 1).length:=by grind
 rw [aD _ x 0 hl] at hy;rcases F!.1 hy with hy|hy
 . exact h.2 y hy
 grind
theorem Z9(h:rb b x)(hx:x+1<uN b):Vg.cy (bV b x*2^Int.toNat 6) (Vg.aM ((b.getD (x+1) 0).toNat:Int) 63)=bV b (x+1):=by
 have:=bP h;rw [NM _ w!,show Int.toNat 6=6 by rfl,gU _ _ 6 this.2.1 w! w!];rfl
theorem Xd(h:rb b x)(hx:x+1=uN b):xb b (uN b)=true:=by
 simp only [xb,Z!,<-hx,Nat.add_sub_cancel];intro y hy;simpa using h.2 y hy
theorem ap8(hn:uN b=n)(h:rb b x)(hx:x+1=n)(hc:(bif !cA (bV b x) then true else !decide (eX (bV b x)=(n:Int)))=c):aR b=if c=true then(65533,1) else(bV b x,(n:Int)):=by
 have hb:=bP h;grind[Xd,aR,Nat.add_sub_cancel]
theorem ap9(c:Int):Vg.cy (c%64) 128=((more c).toNat:Int):=by
 grind[NN,more,u8,UInt8.toNat_ofNat']
variable {c n:Int}{i:Nat}{m:List B8}{s:B8}
theorem fl(h:cA c=true):0<=c/\c<=1114111:=by
 simp_all[cA,B!,H!]
theorem À(x:UInt8):UInt8.ofNat (Int.toNat (x.toNat:Int))=x:=by simp
theorem aqa(c:Int)(h0:0<=c)(h:c<128): [UInt8.ofNat (Int.toNat (c%256))]=enc c:=by
 simp [enc,M! h,u8,show c%256=c by omega]
theorem aqb(d:Int)(h0:0<=d)(h:d<32):Vg.cy 192 d=192+d:=by
 rw [show(192:Int)=6*2^5 by rfl,gU 6 d 5 w! h0 h]
theorem aqc(d:Int)(h0:0<=d)(h:d<16):Vg.cy 224 d=224+d:=by
 rw [show(224:Int)=14*2^4 by rfl,gU 14 d 4 w! h0 h]
theorem aqd(d:Int)(h0:0<=d)(h:d<8):Vg.cy 240 d=240+d:=by
 rw [show(240:Int)=30*2^3 by rfl,gU 30 d 3 w! h0 h]
theorem aqe(c:Int)(h0:0<=c)(h:128<=c/\c<2048): [UInt8.ofNat (Int.toNat (Vg.cy 192 (c/2^Int.toNat 6%256))),UInt8.ofNat (Int.toNat ((more c).toNat:Int))]=enc c:=by
 simp [enc,if_neg (by omega :¬c<128),if_pos h.2,À,u8,show Int.toNat 6=6 by rfl];grind[aqb]
theorem aqf(c:Int)(h0:0<=c)(h:2048<=c/\c<65536): [UInt8.ofNat (Int.toNat (Vg.cy 224 (c/2^Int.toNat 12%256))),UInt8.ofNat (Int.toNat ((more (c/2^Int.toNat 6)).toNat:Int)),UInt8.ofNat (Int.toNat ((more c).toNat:Int))]=enc c:=by
 simp [enc,if_neg (by omega :¬c<128),if_neg (by omega :¬c<2048),if_pos h.2,À,u8,show Int.toNat 6=6 by rfl,show Int.toNat 12=12 by rfl];grind[aqc]
theorem aqg(c:Int)(h0:0<=c)(h1:c<=1114111)(h:65536<=c): [UInt8.ofNat (Int.toNat (Vg.cy 240 (c/2^Int.toNat 18%256))),UInt8.ofNat (Int.toNat ((more (c/2^Int.toNat 12)).toNat:Int)),UInt8.ofNat (Int.toNat ((more (c/2^Int.toNat 6)).toNat:Int)),UInt8.ofNat (Int.toNat ((more c).toNat:Int))]=enc c:=by
 simp [enc,if_neg (by omega :¬c<128),if_neg (by omega :¬c<2048),if_neg (by omega :¬c<65536),À,u8,show Int.toNat 6=6 by rfl,show Int.toNat 12=12 by rfl,show Int.toNat 18=18 by rfl];grind[aqd]
theorem uB(b:B8)(h:0<b.length):1<=(aR b).2/\(aR b).2<=b.length/\0<=(aR b).1/\(aR b).1<=1114111:=by
 unfold aR;split
 . have:=(b.getD 0 0).toNat_lt;grind[dG]
 . split
   . omega
   . rename_i h1 h2;simp at h2;have:=fl h2.2.2.2.1;omega
theorem G3:∀(f g:Nat) (b:B8),b.length<=f->b.length<=g->vZ f b=vZ g b
 |0,0,b,_,_=>rfl
 |0,g+1,b,h,_=>by
  grind[List.eq_nil_of_length_eq_zero,vZ]
 |f+1,0,b,_,h=>by
  grind[List.eq_nil_of_length_eq_zero,vZ]
 |f+1,g+1,b,h1,h2=>by
  simp only [vZ];cases hb:b.isEmpty with
  |true=>rfl
  |false=>
   have hl:0<b.length:=by
    grind
   have:=uB b hl;rw [G3 f g _ (by rw [N?];omega) (by rw [N?];omega)]
theorem Xe:decode []=[]:=rfl
theorem zl(b:B8)(h:0<b.length):decode b=(aR b).1::decode (b.drop (aR b).2.toNat):=by
 have hb:=uB b h;unfold decode;obtain⟨n,hn⟩:∃n,b.length=n+1:=⟨b.length-1,w!⟩;rw [hn];simp only [vZ];have :b.isEmpty=false:=by grind
 rw [this];simp only [Bool.false_eq_true,if_false];rw [G3 n _ _ x! (Nat.le_refl _)]
theorem aAC(b:B8):tw b b []:=⟨rfl,z!⟩
theorem Uj {r:B8}(h:tw b r l)(hr:0<(r.length:Int)):1<=(aR r).2/\(aR r).2<=r.length/\r.length+l.length<=b.length:=by
 have:=uB r w!;exact⟨this.1,this.2.1,h.2⟩
theorem agC {r:B8}(h:tw b r l)(hr:0<(r.length:Int)):tw b (r.drop (aR r).2.toNat) (l++[(aR r).1]):=by
 have hb:=uB r w!;refine⟨?_,?_⟩
 . rw [W!,List.singleton_append,<-zl r w!];exact h.1
 . have:=h.2;grind
theorem akt {r:B8}(h:tw b r l)(hr:¬0<(r.length:Int)):l=decode b:=by
 have :r=[]:=List.eq_nil_of_length_eq_zero w!;have:=h.1;grind[Xe]
theorem Bx(b:B8):(decode b).length<=b.length:=by
 have :∀f (c:B8),(vZ f c).length<=f:=by
  intro f;induction f with
  |zero=>grind[vZ]
  |succ f ih=>grind[vZ,aR]
 exact this _ _
theorem uD(a b:Bool):(bif a then b else false)=(a&&b):=by grind
theorem nine {x:Nat}(h:(x:Int)<9):x=0\/x=1\/x=2\/x=3\/x=4\/x=5\/x=6\/x=7\/x=8:=by omega
theorem N0{x:Nat}(h:(x:Int)<9):(bif decide (List.getD [65,97,192,216,248,913,931,945,1024] (Int.toNat (x:Int)) 0<=c) then decide (c<=List.getD [90,122,214,246,255,929,937,969,1119] (Int.toNat (x:Int)) 0) else false)=om c (qq.getD x (0,0)):=by
 rcases nine h with rfl|rfl|rfl|rfl|rfl|rfl|rfl|rfl|rfl<;>simp [om,qq,X!,List.getD_cons_zero,List.getD_cons_succ,uD]
theorem Á {c:Int}{x:Nat}(h:(x:Int)<9)(hc:(bif decide (List.getD [65,97,192,216,248,913,931,945,1024] (Int.toNat (x:Int)) 0<=c) then decide (c<=List.getD [90,122,214,246,255,929,937,969,1119] (Int.toNat (x:Int)) 0) else false)=true):true=letter c:=by
 grind[N0,letter,List.any_eq_true,bC,qq,List.length_cons,List.length_nil]
theorem Â {c:Int}{x:Nat}(hi:pQ c x)(h:(x:Int)<9)(hc:(bif decide (List.getD [65,97,192,216,248,913,931,945,1024] (Int.toNat (x:Int)) 0<=c) then decide (c<=List.getD [90,122,214,246,255,929,937,969,1119] (Int.toNat (x:Int)) 0) else false)=false):pQ c (x+1):=by
 rw [N0 h] at hc;refine⟨w!,λs hs=>?_⟩;rw [aD qq x (0,0) (by grind[qq,List.length_cons,List.length_nil])] at hs;rcases List.mem_append.1 hs with hs|hs
 . exact hi.2 s hs
 grind
theorem Ã{x:Nat}(hi:pQ c x)(h:¬(x:Int)<9):false=letter c:=by
 symm
 have hx:x=9:=by have:=hi.1;omega
 simp only [letter,List.any_eq_false];intro s hs;have:=hi.2 s (by simp_all[qq]);grind
theorem seven {x:Nat}(h:(x:Int)<7):x=0\/x=1\/x=2\/x=3\/x=4\/x=5\/x=6:=by omega
theorem RW{x:Nat}(h:(x:Int)<7):(bif decide (List.getD [65,192,216,913,931,1024,1040] (Int.toNat (x:Int)) 0<=c) then decide (c<=List.getD [90,214,222,929,937,1039,1071] (Int.toNat (x:Int)) 0) else false)=om c ((oh.getD x (0,0,0)).1,(oh.getD x (0,0,0)).2.1)/\
  List.getD ([32,32,32,32,32,80,32]:U) (Int.toNat (x:Int)) 0=(oh.getD x (0,0,0)).2.2:=by
 rcases seven h with rfl|rfl|rfl|rfl|rfl|rfl|rfl<;>simp [om,oh,X!,List.getD_cons_zero,List.getD_cons_succ,uD,and_self]
theorem Kn {α:Type}(p:α->Bool)(d:α):∀(l:M α) (x:Nat),x<l.length->(∀s∈l.take x,p s=false)->p (l.getD x d)=true->l.find? p=some (l.getD x d)
 |[],x,h,_,_=>by grind
 |a::l,0,_,_,h=>by grind
 |a::l,x+1,hx,h1,h=>by
  have ha:=h1 a z!;rw [List.find?_cons,ha];exact Kn p d l x (by simpa using hx) (λs hs=>h1 s (by simp [hs])) h
theorem RX {c:Int}{x:Nat}(hi:qs c x)(h:(x:Int)<7)(hc:(bif decide (List.getD [65,192,216,913,931,1024,1040] (Int.toNat (x:Int)) 0<=c) then decide (c<=List.getD [90,214,222,929,937,1039,1071] (Int.toNat (x:Int)) 0) else false)=true):
  c+List.getD ([32,32,32,32,32,80,32]:U) (Int.toNat (x:Int)) 0=bT c/\(c<=1071/\65<=c/\List.getD ([32,32,32,32,32,80,32]:U) (Int.toNat (x:Int)) 0<=80/\0<=List.getD ([32,32,32,32,32,80,32]:U) (Int.toNat (x:Int)) 0):=by
 have hat:=RW (c:=c) h;refine⟨?_,?_⟩
 . rw [hat.1] at hc;rw [hat.2];simp only [bT];rw [Kn (λs=>om c (s.1,s.2.1)) (0,0,0) oh x x! hi.2 hc]
 . rcases seven h with rfl|rfl|rfl|rfl|rfl|rfl|rfl<;>simp [List.getD] at hc |- <;>omega
theorem agE {c:Int}{x:Nat}(hi:qs c x)(h:(x:Int)<7)(hc:(bif decide (List.getD [65,192,216,913,931,1024,1040] (Int.toNat (x:Int)) 0<=c) then decide (c<=List.getD [90,214,222,929,937,1039,1071] (Int.toNat (x:Int)) 0) else false)=false):qs c (x+1):=by
 rw [(RW h).1] at hc;refine⟨w!,λs hs=>?_⟩;rw [aD oh x (0,0,0) (by grind[oh,List.length_cons,List.length_nil])] at hs;rcases List.mem_append.1 hs with hs|hs
 . exact hi.2 s hs
 grind
theorem agF{x:Nat}(hi:qs c x)(h:¬(x:Int)<7):c=bT c:=by
 have hx:x=7:=by have:=hi.1;omega
 simp [bT];rw [List.find?_eq_none.2 (λs hs=>by rw [hi.2 s (by simp_all[oh])];simp)]
theorem xY {b:B8}{n x:Nat}{m:Int}(hn:uN b=n)(h:rb b x)(hx:x+1=n)(hc:cA (bV b x)=false\/¬eX (bV b x)=m)(hm:(n:Int)=m):aR b=(65533,1):=by
 have hb:=bP h;grind[Uh]
theorem xZ {b:B8}{n x:Nat}{m:Int}(hn:uN b=n)(h:rb b x)(hx:x+1=n)(hc:cA (bV b x)=true/\eX (bV b x)=m)(hm:(n:Int)=m):aR b=(bV b x,m):=by
 have:=ap8 (c:=false) hn h hx x!;grind
theorem Ä {A B:Prop}[Decidable A][Decidable B](h:A/\B):(bif decide A then decide B else false)=true:=by grind
theorem aku {A B:Prop}[Decidable A][Decidable B](h:¬A\/¬B):(bif decide A then decide B else false)=false:=by
 grind
def LK(c:Int):Bool:=(decide (0<=c)&&decide (c<55296)) || (decide (57343<c)&&decide (c<1114112))
def gW(c a b:Int):Bool:=decide (a<=c)&&decide (c<=b)
def ajV(a b:Int):Int:=if a<b then a else b
def aqh(n:Int):Int:=[0,0,192,224,240].getD n.toNat 0
def ayz(b:B8)(n:Int):Nat->Int
 |0=>dG b-aqh n
 |k+1=>ayz b n k*64+((b.getD (k+1) 0).toNat:Int)-128
def eY(b:B8)(n:Int):Int:=if(b.length:Int)<n then -1 else ayz b n (n.toNat-1)
def aAl(b:B8)(n:Int):Prop:=0<b.length/\1<=n/\n<=4
def apq(b:B8)(n:Int)(k:Nat):Prop:=(n<=b.length)/\1<=k/\k<=n
def sX(b:B8)(k:Nat):Bool:=LK (eY b k)&&decide (enc (eY b k)=b.take k)
def xc(b:B8):Nat->Int×Int
 |0=>(65533,1)
 |k+1=>if sX b (k+1) then(eY b (k+1:Nat),((k+1:Nat):Int)) else xc b k
theorem Å(c:Int):LK c=cA c:=by
 grind[LK,cA]
theorem IQ(h0:0<=c)(h1:c<256):u8 c=y↔c=(y.toNat:Int):=by
 constructor
 . grind[u8,UInt8.toNat_ofNat']
 simp_all[u8]
theorem N1:more c=y↔128+c%64=(y.toNat:Int):=IQ w! w!
theorem aAD(h0:0<=c)(h1:c<=1114111):enc c=[y0]↔c<128/\c=(y0.toNat:Int):=by
 unfold enc;split
 . simp [i?,z?,IQ h0 w!, *,true_and]
 grind
theorem aAE(h0:0<=c)(h1:c<=1114111):enc c=[y0,y1]↔128<=c/\c<2048/\192+c/64=(y0.toNat:Int)/\128+c%64=(y1.toNat:Int):=by
 unfold enc;split
 . grind
 . split
   . simp [i?,z?,IQ (c:=192+c/64) w! w!,N1];omega
   grind
theorem aAF{y2:UInt8}(h0:0<=c)(h1:c<=1114111):enc c=[y0,y1,y2]↔2048<=c/\c<65536/\224+c/4096=(y0.toNat:Int)/\128+c/64%64=(y1.toNat:Int)/\128+c%64=(y2.toNat:Int):=by
 unfold enc;split
 . grind
 . split
   . grind
   . split
     . simp [i?,z?,IQ (c:=224+c/4096) w! w!,N1];omega
     grind
theorem aAG{y2 y3:UInt8}(h0:0<=c)(h1:c<=1114111):enc c=[y0,y1,y2,y3]↔65536<=c/\240+c/262144=(y0.toNat:Int)/\128+c/4096%64=(y1.toNat:Int)/\128+c/64%64=(y2.toNat:Int)/\128+c%64=(y3.toNat:Int):=by
 unfold enc;split
 . grind
 . split
   . grind
   . split
     . grind
     . simp [i?,z?,IQ (c:=240+c/262144) w! w!,N1];omega
def lC(b:B8)(k:Nat):Prop:=uN b=k/\k<=b.length/\(k=1\/(xb b k=true/\cA (bV b (k-1))=true/\eX (bV b (k-1))=(k:Int)))
theorem aUy(b:B8)(k:Nat):sX b k=true↔cA (eY b k)=true/\enc (eY b k)=b.take k:=by
 simp_all[sX,Å,B!,H!]
theorem Æ{k:Nat}(h:b.length<k):sX b k=false:=by
 simp_all[eY,M!,sX,LK]
theorem Xf(b:B8):0<=dG b/\dG b<256:=by have:=(b.getD 0 0).toNat_lt;grind[dG]
theorem akv(x0:UInt8)(l:B8):(sX (x0::l) 1=true↔lC (x0::l) 1)/\eY (x0::l) 1=dG (x0::l):=by
 have hb:eY (x0::l) 1=dG (x0::l):=by
  rfl
 refine⟨?_,hb⟩;have hl:=Xf (x0::l);rw [aUy];show cA (eY (x0::l) 1)=true/\enc (eY (x0::l) 1)=[x0]↔_;rw [hb];have hr:cA (dG (x0::l))=true:=by grind[cA]
 rw [aAD hl.1 w!,hr];simp [lC,uN,true_or,and_true,List.length_cons,true_and];have :dG (x0::l)=(x0.toNat:Int):=rfl;grind
theorem agG(b:B8):uN b=2↔dG b/32=6:=by grind[uN]
theorem agH(b:B8):uN b=3↔dG b/16=14:=by grind[uN]
theorem agI(b:B8):uN b=4↔dG b/8=30:=by grind[uN]
theorem akw(c:Int):eX c=2↔128<=c/\c<2048:=by grind[eX]
theorem akx(c:Int):eX c=3↔2048<=c/\c<65536:=by grind[eX]
theorem aky(c:Int):eX c=4↔65536<=c:=by grind[eX]
theorem sv(c:Int):cA c=true↔0<=c/\c<=1114111/\(c<55296\/57343<c):=by simp [cA]
theorem aAH(x0 x1:UInt8)(l:B8):(sX (x0::x1::l) 2=true↔lC (x0::x1::l) 2)/\(lC (x0::x1::l) 2->eY (x0::x1::l) 2=bV (x0::x1::l) 1):=by
 have hb:eY (x0::x1::l) 2=((x0.toNat:Int)-192)*64+x1.toNat-128:=by
  rfl
 have hl:dG (x0::x1::l)=(x0.toNat:Int):=rfl
 have ha:dG (x0::x1::l)/32=6->bV (x0::x1::l) 1=(x0.toNat:Int)%32*64+(x1.toNat:Int)%64:=by
  simp_all[bV,uC,M!]
 have hg:lC (x0::x1::l) 2↔(dG (x0::x1::l)/32=6/\(x1.toNat/64=2/\cA (bV (x0::x1::l) 1)=true/\eX (bV (x0::x1::l) 1)=2)):=by
  grind[lC,agG,xb]
 grind[aUy,sv,aAE,akw]
theorem aAI(x0 x1 x2:UInt8)(l:B8):(sX (x0::x1::x2::l) 3=true↔lC (x0::x1::x2::l) 3)/\(lC (x0::x1::x2::l) 3->eY (x0::x1::x2::l) 3=bV (x0::x1::x2::l) 2):=by
 have hb:eY (x0::x1::x2::l) 3=(((x0.toNat:Int)-224)*64+x1.toNat-128)*64+x2.toNat-128:=by
  rfl
 have hl:dG (x0::x1::x2::l)=(x0.toNat:Int):=rfl
 have ha:dG (x0::x1::x2::l)/16=14->bV (x0::x1::x2::l) 2=((x0.toNat:Int)%16*64+(x1.toNat:Int)%64)*64+(x2.toNat:Int)%64:=by
  grind[bV,uC]
 have hg:lC (x0::x1::x2::l) 3↔(dG (x0::x1::x2::l)/16=14/\((x1.toNat/64=2/\x2.toNat/64=2)/\cA (bV (x0::x1::x2::l) 2)=true/\eX (bV (x0::x1::x2::l) 2)=3)):=by
  grind[lC,agH,xb]
 grind[aUy,sv,aAF,akx]
theorem aAJ(x0 x1 x2 x3:UInt8)(l:B8):(sX (x0::x1::x2::x3::l) 4=true↔lC (x0::x1::x2::x3::l) 4)/\(lC (x0::x1::x2::x3::l) 4->eY (x0::x1::x2::x3::l) 4=bV (x0::x1::x2::x3::l) 3):=by
 have hb:eY (x0::x1::x2::x3::l) 4=((((x0.toNat:Int)-240)*64+x1.toNat-128)*64+x2.toNat-128)*64+x3.toNat-128:=by
  rfl
 have hl:dG (x0::x1::x2::x3::l)=(x0.toNat:Int):=rfl
 have ha:dG (x0::x1::x2::x3::l)/8=30->bV (x0::x1::x2::x3::l) 3=(((x0.toNat:Int)%8*64+(x1.toNat:Int)%64)*64+(x2.toNat:Int)%64)*64+(x3.toNat:Int)%64:=by
  grind[bV,uC]
 have hg:lC (x0::x1::x2::x3::l) 4↔(dG (x0::x1::x2::x3::l)/8=30/\((x1.toNat/64=2/\x2.toNat/64=2/\x3.toNat/64=2)/\cA (bV (x0::x1::x2::x3::l) 3)=true/\eX (bV (x0::x1::x2::x3::l) 3)=4)):=by
  grind[lC,agI,xb]
 rw [hg,aUy];grind[sv,aAG,aky]
theorem uE(b:B8)(k:Nat)(hb:0<b.length)(h1:1<=k)(h4:k<=4):(sX b k=true↔lC b k)/\(lC b k->eY b k=bV b (k-1)\/(k=1/\eY b k=dG b)):=by
 by_cases hs:b.length<k
 . rw [Æ hs];exact⟨⟨λh=>absurd h (by decide),λh=>absurd h.2.1 w!⟩,λh=>absurd h.2.1 w!⟩
 . have :k=1\/k=2\/k=3\/k=4:=by omega
   match b,this with
   |[],_=>grind
   |x0::l,.inl h=>grind[akv]
   |x0::x1::l,.inr (.inl h)=>grind[aAH]
   |x0::x1::x2::l,.inr (.inr (.inl h))=>grind[aAI]
   |x0::x1::x2::x3::l,.inr (.inr (.inr h))=>grind[aAJ]
   |[_],.inr (.inl h)|[_],.inr (.inr (.inl h))|[_,_],.inr (.inr (.inl h))|[_],.inr (.inr (.inr h))|[_,_],.inr (.inr (.inr h))|[_,_,_],.inr (.inr (.inr h))=>grind
theorem Xg{k:Nat}(h:lC b k)(h1:1<=k)(h4:k<=4)(hb:0<b.length):aR b=(eY b k,(k:Int)):=by
 have ht:=(uE b k hb h1 h4).2 h;obtain⟨hn,hl,hr⟩:=h;simp [aR,hn];by_cases hk:k=1
 . subst hk;rcases ht with ht|ht
   . obtain⟨x0,l,rfl⟩:∃x0 l,b=x0::l:=by cases b with
      |nil=>grind
      |cons x l=>grind
     rfl
   grind
 grind
theorem RY {b:B8}(hb:0<b.length)(n:Nat):∀k,k<=4->(∀j,j<=k->1<=j->¬lC b j)->xc b k=(65533,1)
 |0,_,_=>rfl
 |k+1,h4,h=>by
  simp [xc]
  have :sX b (k+1)=false:=by
   cases ht:sX b (k+1) with
   |false=>rfl
   |true=>simp_all[absurd,uE,S!]
  rw [this];exact RY hb n k w! (λj hj=>h j w!)
theorem EU {b:B8}(hb:0<b.length){n:Nat}(hg:lC b n)(h1:1<=n):∀k,k<=4->n<=k->xc b k=(eY b n,(n:Int))
 |0,_,h=>by omega
 |k+1,h4,h=>by
  simp only [xc];by_cases hk:n=k+1
  . subst hk;rw [(uE b (k+1) hb w! h4).1.2 hg,M! rfl]
  . have :sX b (k+1)=false:=by
     cases ht:sX b (k+1) with
     |false=>rfl
     |true=>
      have:=(uE b (k+1) hb w! h4).1.1 ht;have h2:=this.1;have h3:=hg.1;omega
    rw [this];exact EU hb hg h1 k w! w!
theorem akz(b:B8):uN b<=4:=by grind[uN]
theorem Ko(b:B8)(hb:0<b.length):xc b 4=aR b:=by
 by_cases hg:lC b (uN b)/\1<=uN b
 . rw [EU hb hg.1 hg.2 4 (S! _) (akz b),Xg hg.1 hg.2 (akz b) hb]
 . rw [RY hb 0 4 (Nat.le_refl _) (λj hj h1 h=>hg (by have:=h.1;grind))];simp [aR];by_cases h1:uN b=1
   . exfalso;apply hg
     exact⟨⟨rfl,w!,.inl h1⟩,w!⟩
   . rw [J! h1];rw [M!];by_cases h0:uN b=0
     . omega
     . refine .inr ?_;by_cases hl:b.length<uN b
       . omega
       . refine .inr ?_;cases hc:xb b (uN b) with
         |false=>grind
         |true=>
          cases hr:cA (bV b (uN b-1)) with
          |false=>grind
          |true=>
           refine .inr (.inr λhs=>hg ⟨⟨rfl,w!,.inr ⟨hc,hr,hs⟩⟩,w!⟩)
theorem aOF(c:Int)(h0:0<=c)(h:c<128): [UInt8.ofNat (Int.toNat (c%256))]=enc c:=aqa c h0 h
theorem aOG(c:Int)(h0:0<=c)(h:128<=c/\c<2048): [UInt8.ofNat (Int.toNat ((192+c/64)%256)),UInt8.ofNat (Int.toNat ((128+c%64)%256))]=enc c:=by
 simp [enc,if_neg (by omega :¬c<128),if_pos h.2,more,u8];grind
theorem aOH(c:Int)(h0:0<=c)(h:2048<=c/\c<65536): [UInt8.ofNat (Int.toNat ((224+c/4096)%256)),UInt8.ofNat (Int.toNat ((128+c/64%64)%256)),UInt8.ofNat (Int.toNat ((128+c%64)%256))]=enc c:=by
 simp [enc,if_neg (by omega :¬c<128),if_neg (by omega :¬c<2048),if_pos h.2,more,u8];grind
theorem aOI(c:Int)(h0:0<=c)(h1:c<=1114111)(h:65536<=c): [UInt8.ofNat (Int.toNat ((240+c/262144)%256)),UInt8.ofNat (Int.toNat ((128+c/4096%64)%256)),UInt8.ofNat (Int.toNat ((128+c/64%64)%256)),UInt8.ofNat (Int.toNat ((128+c%64)%256))]=enc c:=by
 simp only [enc,if_neg (by omega :¬c<128),if_neg (by omega :¬c<2048),if_neg (by omega :¬c<65536),more,u8];grind
theorem Ç(c:Int):letter c=(gW c 65 90 || (gW c 97 122 || (gW c 192 214 || (gW c 216 246 || (gW c 248 255 || (gW c 913 929 || (gW c 931 937 || (gW c 945 969 || gW c 1024 1119)))))))):=by
 simp_all[letter,qq,om,gW,List.any_cons,List.any_nil,Bool.or_false]
theorem IS(h:gW c 1024 1039=true):c+80=bT c/\c<=1039/\1024<=c:=by
 simp [gW,Bool.and_eq_true,decide_eq_true_eq] at h;simp [bT,oh,om,List.find?_cons];grind
theorem IT(h:gW c 1024 1039=false)(hc:gW c 65 90=true\/gW c 192 214=true\/gW c 216 222=true\/gW c 913 929=true\/gW c 931 937=true\/gW c 1040 1071=true):c+32=bT c/\c<=1071/\65<=c:=by
 have e:∀a b:Int,om c (a,b)=gW c a b:=λ_ _=>rfl;simp [bT,oh,List.find?_cons,e,h];grind[gW]
theorem G4(h:gW c 1024 1039=false)(hc:gW c 65 90=false/\gW c 192 214=false/\gW c 216 222=false/\gW c 913 929=false/\gW c 931 937=false/\gW c 1040 1071=false):c=bT c:=by
 have e:∀a b:Int,om c (a,b)=gW c a b:=λ_ _=>rfl;simp_all[bT,oh,List.find?_cons,List.find?_nil]
theorem aGM(b:B8)(n:Int):∀k,k<=4-> -(1000*128^k)<=ayz b n k/\ayz b n k<=1000*128^k
 |0,_=>by
  have:=Xf b;grind[aqh,ayz]
 |k+1,h=>by
  have ih:=aGM b n k w!;simp [ayz];have hx:=(b.getD (k+1) 0).toNat_lt;have :k=0\/k=1\/k=2\/k=3:=by omega
  grind
theorem aLc{k:Nat}(h:apq b n k)(hp:aAl b n): -268435456000<=ayz b n (k-1)/\ayz b n (k-1)<=268435456000:=by
 obtain⟨h1,h2,h3⟩:=h;obtain⟨_,_,hp⟩:=hp;have:=aGM b n (k-1) w!;have hk:k-1=0\/k-1=1\/k-1=2\/k-1=3:=by omega
 grind
theorem aMi{k:Nat}(h:apq b n k):ayz b n (k-1)*64+((b.getD (Int.toNat (k:Int)) 0).toNat:Int)-128=ayz b n (k+1-1):=by
 obtain⟨j,rfl⟩:∃j,k=j+1:=⟨k-1,by have:=h.2.1;omega⟩;rfl
theorem aJp:((b.getD (Int.toNat 0) 0).toNat:Int)- [0,0,192,224,240].getD n.toNat 0=ayz b n 0:=rfl
theorem aNm{k:Nat}(h:apq b n k)(hk:¬(k:Int)<n):ayz b n (k-1)=eY b n:=by
 have h1:=h.1;have h2:=h.2
 have :k=n.toNat:=by omega
 simp_all[eY,J!]
theorem aJO {b:B8}(h:(b.length:Int)<n): -1=eY b n:=by simp_all[eY,M!]
theorem aMj(hi:i<b.length):List.drop (Int.toNat (i:Int)) (List.take (Int.toNat (ajV ((i:Int)+(j:Int)) (b.length:Int))) b)=(b.drop i).take j:=by
 simp [ajV];split
 . grind[Int.toNat_natCast,List.drop_take,Nat.add_sub_cancel_left]
 grind[Int.toNat_natCast,List.take_length,List.take_of_length_le,List.length_drop]
theorem aKe(b:B8)(k:Nat):xc b (k+1)=if LK (eY b ((k+1:Nat):Int))=true/\enc (eY b ((k+1:Nat):Int))=b.take (k+1) then(eY b ((k+1:Nat):Int),((k+1:Nat):Int)) else xc b k:=by
 simp_all[xc,sX,B!,H!]
theorem aKf(h:LK c=true):0<=c/\c<=1114111:=by simp_all[Å,fl]
theorem aOJ(b:B8):tw b (b.drop 0) []:=⟨rfl,z!⟩
theorem aoY {b:B8}{x1:Nat×U}{x4:Nat×Nat}(h2:tw b (b.drop x1.1) x1.2/\x1.1<=b.length)(h3:(x1.1:Int)<b.length)(h5:x4.1<=4/\(x1.1:Int)=x4.2)(h9:¬((x4.1+1:Nat):Int)<=4):
  1<=(xc (b.drop x4.2) x4.1).2/\(x1.1:Int)+(xc (b.drop x4.2) x4.1).2<=b.length/\
  tw b (b.drop (Int.toNat ((x1.1:Int)+(xc (b.drop x4.2) x4.1).2))) (x1.2++[(xc (b.drop x4.2) x4.1).1])/\x1.2.length+1<=b.length:=by
 have e1:x4.1=4:=by omega
 have e2:x4.2=x1.1:=by omega
 have hl:0<(b.drop x1.1).length:=by grind
 rw [e1,e2,Ko _ hl];have hb:=uB _ hl;have hs:=agC h2.1 w!;rw [List.drop_drop] at hs;have h6:=h2.1.2;grind
theorem aJq{x1:Nat×U}{x4:Nat×Nat}(h3:(x1.1:Int)<b.length)(h5:x4.1<=4/\(x1.1:Int)=x4.2):
  xc (b.drop x1.1) (x4.1+1)=bif (bif LK (eY (b.drop (Int.toNat (x1.1:Int))) ((x4.1+1:Nat):Int)) then decide (enc (eY (b.drop (Int.toNat (x1.1:Int))) ((x4.1+1:Nat):Int))=List.drop (Int.toNat (x1.1:Int)) (List.take (Int.toNat (ajV ((x1.1:Int)+((x4.1+1:Nat):Int)) (b.length:Int))) b)) else false)
   then(eY (b.drop (Int.toNat (x1.1:Int))) ((x4.1+1:Nat):Int),((x4.1+1:Nat):Int)) else xc (b.drop x4.2) x4.1:=by
 rw [aMj w!,aKe,show x4.2=x1.1 by omega,Int.toNat_natCast];grind
theorem aMk(c:Bool)(p q:α×β):(bif c then p else q).1=(bif c then p.1 else q.1):=by grind
theorem aMl(c:Bool)(p q:α×β):(bif c then p else q).2=(bif c then p.2 else q.2):=by grind
def l4(c:Int):Bool:=letter c || digit c
def l6(t:B8):U->B8
 |[]=>t
 |c::w=>if 64<t.length+(iU (bT c)).length then t else l6 (t++iU (bT c)) w
def jN(w:U):B8:=l6 [] w
def okC(w:U):Prop:=w.length<=1099511627776/\∀c∈w,cA c=true
def qt(w:U)(k:Nat)(t:B8):Prop:=l6 t (w.drop k)=jN w/\k<=w.length/\t.length<=64
def pV(acc:U):U->M U
 |[]=>if acc.isEmpty then [] else [acc]
 |c::l=>if l4 c then pV (acc++[c]) l else if acc.isEmpty then pV [] l else acc::pV [] l
def bM(b:B8):O:=(pV [] (decode b)).map jN
def k8(d:U)(k:Nat)(T:O)(W:U):Prop:=
 T++(pV W (d.drop k)).map jN=(pV [] d).map jN/\k<=d.length/\T.length<=k/\W.length<=k/\(∀c∈W,c∈d)
def isTerm(s:B8):Bool:=decide (bM s=[s])
def oX(l:O):Nat->Nat
 |0=>0
 |k+1=>if Op.bytesLess (l.getD k []) (l.getD (oX l k) []) then k else oX l k
def nB(l:O):Nat:=oX l l.length
def apG(l:O)(k:Nat):Prop:=1<=k/\(k<=l.length\/k=1)
theorem Uk(c:Int):bT c=c\/(65<=c/\c<=1071/\(bT c=c+32\/bT c=c+80)):=by
 cases h:gW c 1024 1039 with
 |true=>grind[IS]
 |false=>
  by_cases h2:gW c 65 90=true\/gW c 192 214=true\/gW c 216 222=true\/gW c 913 929=true\/gW c 931 937=true\/gW c 1040 1071=true
  . grind[IT]
  . grind[G4]
theorem G5(h:cA c=true):cA (bT c)=true:=by
 grind[Uk,sv]
theorem QP(b:B8):cA (aR b).1=true:=by
 grind[aR,Xf,sv]
theorem rZ(b:B8):∀c∈decode b,cA c=true:=by
 have :∀f (x:B8),∀c∈vZ f x,cA c=true:=by
  intro f;induction f with
  |zero=>grind[vZ]
  |succ f ih=>
   grind[vZ,QP]
 exact this _ b
theorem uF(l:M α)(k:Nat)(d:α)(h:k<l.length):l.drop k=l.getD k d::l.drop (k+1):=by
 simp_all
theorem aqi(w:U):qt w 0 []:=⟨rfl,U! _,z!⟩
theorem È {w:U}{k:Nat}{t:B8}(h:qt w k t)(hk:(k:Int)<w.length)(hs:¬(64:Int)<(t.length:Int)+((iU (bT (w.getD (Int.toNat (k:Int)) 0))).length:Int)):qt w (k+1) (t++iU (bT (w.getD (Int.toNat (k:Int)) 0))):=by
 obtain⟨h1,h2,h3⟩:=h;rw [Int.toNat_natCast] at *;rw [uF w k 0 w!] at h1;simp only [l6] at h1;rw [if_neg w!] at h1;exact⟨h1,w!,x!⟩
theorem É {w:U}{k:Nat}{t:B8}(h:qt w k t)(hk:(k:Int)<w.length)(hs:(64:Int)<(t.length:Int)+((iU (bT (w.getD (Int.toNat (k:Int)) 0))).length:Int)):t=jN w:=by
 obtain⟨h1,h2,h3⟩:=h;grind[Int.toNat_natCast,uF,l6]
theorem agJ {w:U}{k:Nat}{t:B8}(h:qt w k t)(hk:¬(k:Int)<w.length):t=jN w:=by
 obtain⟨h1,h2,h3⟩:=h;rw [s? w!] at h1;exact h1
theorem akB(c:Int):(enc c).length<=4:=by grind[enc]
theorem agK(c:Int):(iU c).length<=4:=by grind[iU,akB]
theorem aAK(d:U):k8 d 0 [] []:=⟨rfl,U! _,z!,z!,z!⟩
theorem agL {d:U}{k:Nat}(h:k8 d k T W)(hk:(k:Int)<d.length)(hw:l4 (d.getD (Int.toNat (k:Int)) 0)=true):k8 d (k+1) T (W++[d.getD (Int.toNat (k:Int)) 0]):=by
 obtain⟨h1,h2,h3,h4,h5⟩:=h;rw [Int.toNat_natCast] at *;rw [uF d k 0 w!] at h1;simp only [pV] at h1;rw [if_pos hw] at h1;refine⟨h1,w!,w!,x!,λc hc=>?_⟩;grind
theorem akC {d:U}{k:Nat}(h:k8 d k T W)(hk:(k:Int)<d.length)(hw:l4 (d.getD (Int.toNat (k:Int)) 0)=false)(hW:(0:Int)<W.length):k8 d (k+1) (T++[jN W]) []:=by
 obtain⟨h1,h2,h3,h4,h5⟩:=h;rw [uF d k 0 w!] at h1;simp [pV] at h1;refine⟨?_,w!,x!,z!,z!⟩;grind
theorem agM {d:U}{k:Nat}(h:k8 d k T W)(hk:(k:Int)<d.length)(hw:l4 (d.getD (Int.toNat (k:Int)) 0)=false)(hW:¬(0:Int)<W.length):k8 d (k+1) T W:=by
 obtain⟨h1,h2,h3,h4,h5⟩:=h;have :W=[]:=List.eq_nil_of_length_eq_zero w!;subst this;rw [uF d k 0 w!] at h1;simp only [pV] at h1;rw [if_neg x!,if_pos z!] at h1;exact⟨h1,w!,w!,z!,z!⟩
theorem agN {b:B8}{k:Nat}{T:O}{W:U}(h:k8 (decode b) k T W)(hk:¬(k:Int)<(decode b).length)(hW:(0:Int)<W.length):T++[jN W]=bM b:=by
 obtain⟨h1,h2,h3,h4,h5⟩:=h;rw [List.drop_eq_nil_of_le w!] at h1;simp [pV] at h1;rw [if_neg x!] at h1;exact h1
theorem agO {b:B8}{k:Nat}{T:O}{W:U}(h:k8 (decode b) k T W)(hk:¬(k:Int)<(decode b).length)(hW:¬(0:Int)<W.length):T=bM b:=by
 obtain⟨h1,h2,h3,h4,h5⟩:=h;have :W=[]:=V! w!;subst this;rw [s? w!] at h1;simp [pV,List.isEmpty_nil,Q?,List.map_nil,H?] at h1;exact h1
theorem r6 {b:B8}{k:Nat}{T:O}{W:U}(h:k8 (decode b) k T W)(hb:b.length<=1099511627776):okC W/\T.length<=1099511627776/\W.length<=1099511627776/\k<=1099511627776:=by
 obtain⟨h1,h2,h3,h4,h5⟩:=h;have:=Bx b;exact⟨⟨w!,λc hc=>rZ b c (h5 c hc)⟩,w!,w!,w!⟩
theorem Xh:∀(u acc rest:U),(∀c∈u,l4 c=true)->pV acc (u++rest)=pV (acc++u) rest
 |[],acc,rest,_=>by simp
 |c::u,acc,rest,h=>by
  simp_all[e?,pV,M!,Xh,W!]
theorem agP(s:B8):(bif decide (((bM s).length:Int)=1) then decide (List.getD (bM s) (Int.toNat 0) []=s) else false)=isTerm s:=by
 unfold isTerm;match h:bM s with
 |[]=>simp
 |[x]=>grind
 |x::y::l=>grind
theorem Kq {l:O}:∀k,0<l.length->k<=l.length->oX l k<l.length
 |0,h,_=>h
 |k+1,h,hk=>by
  simp [oX];split
  . omega
  . exact Kq k h w!
theorem aJP(l:O):oX l 1=0:=by
 have :∀b:Bool,(if b=true then 0 else 0)=(0:Nat):=by grind
 exact this _
variable {l:List B8}
theorem aKg{k:Nat}(h:apG l k)(hk:¬(k:Int)<l.length):oX l k=nB l:=by
 obtain⟨h1,h2⟩:=h;rcases h2 with h2|h2
 . rw [show k=l.length by omega];rfl
 . subst h2;by_cases h0:l.length=0
   . unfold nB;rw [h0,aJP];rfl
   . rw [show 1=l.length by omega];rfl
theorem akD(h:letter c=true\/digit c=true):l4 c=true:=by grind[l4]
theorem Xi(h:letter c=false/\digit c=false):l4 c=false:=by grind[l4]
theorem aMm(c:Int):(bif letter c then true else bif decide (48<=c) then decide (c<=57) else false)=l4 c:=by
 grind[l4,digit,letter]
theorem aJQ(l:O)(x:Nat):(bif Op.bytesLess (List.getD l (Int.toNat (x:Int)) []) (List.getD l (Int.toNat ((oX l x:Nat):Int)) []) then(x:Int) else((oX l x:Nat):Int))=((oX l (x+1):Nat):Int):=by
 rw [show oX l (x+1)=if Op.bytesLess (l.getD x []) (l.getD (oX l x) [])=true then x else oX l x from rfl];grind
def zm:Nat->O->O
 |0,_=>[]
 |f+1,l=>if l.isEmpty then [] else l.getD (nB l) []::zm f (l.filter (λx=>!decide (x=l.getD (nB l) [])))
def sorted(l:O):O:=zm l.length l
def aps(l0 l out:O):Prop:=out++sorted l=sorted l0/\out.length+l.length<=l0.length
def agD(l:O)(s:B8)(k:Nat)(r:O):Prop:=r=(l.take k).filter (λx=>!decide (x=s))/\k<=l.length
def RZ(l:O)(t:B8)(k:Nat):U:=((List.range k).filter (λi=>decide (l.getD i []=t))).map (λ(i:Nat)=>(i:Int))
def places(b t:B8):U:=RZ (bM b) t (bM b).length
def Ê(c:Int):Bool:=l4 c&&decide (bT c=c)
def Ë(s:B8):Bool:=(decode s).all Ê&&(decide (0<((decode s).length:Int))&&decide ((s.length:Int)<=64))
def apt(d:U)(k:Nat):Prop:=(∀c∈d.take k,Ê c=true)/\k<=d.length
theorem Kr(h:0<l.length):nB l<l.length:=Kq _ h (S! _)
theorem zn(h:0<l.length):(l.filter (λx=>!decide (x=l.getD (nB l) []))).length<l.length:=by
 have hm:=bC l (nB l) [] (Kr h);simp_all
theorem DZ:∀(f g:Nat) (l:O),l.length<=f->l.length<=g->zm f l=zm g l
 |0,0,_,_,_=>rfl
 |0,g+1,l,h,_=>by
  have :l=[]:=V! w!;subst this;rfl
 |f+1,0,l,_,h=>by
  have :l=[]:=V! w!;subst this;rfl
 |f+1,g+1,l,h1,h2=>by
  simp only [zm];cases hl:l.isEmpty with
  |true=>rfl
  |false=>
   have hp:0<l.length:=by grind
   have:=zn hp;rw [J! z!,J! z!,DZ f g _ w! w!]
theorem Ul(h:0<l.length):sorted l=l.getD (nB l) []::sorted (l.filter (λx=>!decide (x=l.getD (nB l) []))):=by
 have hr:=zn h;unfold sorted;obtain⟨n,hn⟩:∃n,l.length=n+1:=⟨l.length-1,w!⟩;rw [hn];simp only [zm];have :l.isEmpty=false:=by grind
 rw [this,J! z!,DZ n _ _ w! (S! _)]
theorem aOK(l:O):aps l l []:=⟨rfl,z!⟩
theorem aMn {out:O}(h:aps l m out)(hm:¬(0:Int)<m.length):out=sorted l:=by
 have :m=[]:=List.eq_nil_of_length_eq_zero w!;have h1:=h.1;grind[sorted,zm]
theorem aOL(l:O)(s:B8):agD l s 0 []:=⟨z!,U! _⟩
theorem aKh {l:O}{k:Nat}(h:agD l s k r)(hk:(k:Int)<l.length)(hs:(!decide (l.getD (Int.toNat (k:Int)) []=s))=true):agD l s (k+1) (r++[l.getD (Int.toNat (k:Int)) []]):=by
 rw [X!] at *;refine⟨?_,w!⟩;rw [aD l k [] w!,List.filter_append,<-h.1,List.filter_cons,hs];simp
theorem aKi {l:O}{k:Nat}(h:agD l s k r)(hk:(k:Int)<l.length)(hs:(!decide (l.getD (Int.toNat (k:Int)) []=s))=false):agD l s (k+1) r:=by
 rw [X!] at *;refine⟨?_,w!⟩;rw [aD l k [] w!,List.filter_append,<-h.1,List.filter_cons,hs];simp
theorem aMo{k:Nat}(h:agD l s k r):r.length<=k:=by
 rw [h.1];grind
theorem aGN {m out r:O}{k:Nat}(h:aps l m out)(hm:(0:Int)<m.length)(hr:agD m (m.getD (Int.toNat ((nB m:Nat):Int)) []) k r)(hk:¬(k:Int)<m.length):aps l r (out++[m.getD (Int.toNat ((nB m:Nat):Int)) []])/\r.length<m.length:=by
 rw [X!] at *;obtain⟨h1,h2⟩:=h;have :k=m.length:=by have:=hr.2;omega
 have e:r=m.filter (λx=>!decide (x=m.getD (nB m) [])):=by rw [hr.1,this,List.take_length]
 have hl:=zn (l:=m) w!;rw [Ul w!] at h1;rw [e];refine⟨⟨?_,?_⟩,hl⟩
 . rw [W!];exact h1
 . rw [K!];simp only [O?,List.length_nil];omega
theorem aOM(d:U):apt d 0:=⟨z!,U! _⟩
theorem aKj {d:U}{k:Nat}(h:apt d k)(hk:(k:Int)<d.length)(hw:l4 (d.getD (Int.toNat (k:Int)) 0)=true)(hs:bT (d.getD (Int.toNat (k:Int)) 0)=d.getD (Int.toNat (k:Int)) 0):apt d (k+1):=by
 refine⟨λc hc=>?_,w!⟩;rw [aD d k 0 w!] at hc;rcases F!.1 hc with hc|hc
 . exact h.1 c hc
 grind[List.mem_singleton,Ê,decide_true,Bool.and_self]
theorem aMp {s:B8}{k:Nat}(hk:(k:Int)<(decode s).length)(hw:l4 ((decode s).getD (Int.toNat (k:Int)) 0)=false\/¬bT ((decode s).getD (Int.toNat (k:Int)) 0)=(decode s).getD (Int.toNat (k:Int)) 0):false=Ë s:=by
 have hm:=bC (decode s) k 0 w!
 have :(decode s).all Ê=false:=by
  grind[List.all_eq_false,Ê]
 simp [Ë,this,Bool.false_and]
theorem aMq {s:B8}{k:Nat}(h:apt (decode s) k)(hk:¬(k:Int)<(decode s).length):(bif decide (0<((decode s).length:Int)) then decide ((s.length:Int)<=64) else false)=Ë s:=by
 have :(decode s).all Ê=true:=by
  have h1:=h.1;grind[List.take_length]
 simp_all[Ë,Bool.true_and,decide,decode]
theorem N2(b:B8):(bM b).length<=b.length:=by
 have h0:∀(l acc:U),(pV acc l).length<=l.length+acc.length:=by
  intro l;induction l with
  |nil=>intro acc;simp [pV];cases acc<;>simp
  |cons c l ih=>
   grind[pV]
 grind[decode,Bx,bM,List.length_map]
theorem aFg {l':O}{s':B8}{k:Nat}(h:agD l' s' k r/\m=l'/\s=s'):agD m s k r:=by grind
theorem R0(b:B8):∀k,(xc b k).1≠65533->enc (xc b k).1=b.take (xc b k).2.toNat
 |0,h=>absurd rfl h
 |k+1,h=>by
  simp [xc] at h |-;by_cases ht:sX b (k+1)=true
  . simp_all[M!,aUy]
  simp_all[J!,R0]
theorem Xj(hb:0<b.length)(h:(aR b).1≠65533):enc (aR b).1=b.take (aR b).2.toNat:=by
 rw [<-Ko b hb] at h |-;grind[R0]
theorem Um:∀(n:Nat) (b:B8),b.length<=n->(∀c∈decode b,c≠65533)->(decode b).flatMap enc=b:=by
 intro n;induction n with
 |zero=>intro b h _;have :b=[]:=V! w!
        subst this;rfl
 |succ n ih=>
  intro b h hc;by_cases h0:b.length=0
  . grind
  . have hb:=uB b w!;rw [zl b w!] at hc |-;rw [List.flatMap_cons,Xj w! (hc _ z!),ih _ x! (λc h'=>hc c x!)];simp_all
theorem r7(h0:0<=c)(h1:c<256):((u8 c).toNat:Int)=c:=((IQ h0 h1).1 rfl).symm
theorem By(hr:cA c=true)(r:B8):eY (enc c++r) ((enc c).length:Nat)=c/\1<=(enc c).length/\(enc c).length<=4:=by
 have hb:=fl hr;unfold enc;split
 . grind[akv,u8,dG,r7]
 . split
   . refine⟨?_,z!,z!⟩;show eY (u8 (192+c/64)::more c::r) 2=c;have h1:=r7 (c:=192+c/64) w! w!;have h2:((more c).toNat:Int)=128+c%64:=r7 (c:=128+c%64) w! w!
     have e:eY (u8 (192+c/64)::more c::r) 2=(((u8 (192+c/64)).toNat:Int)-192)*64+(more c).toNat-128:=by
      rfl
     omega
   . split
     . refine⟨?_,z!,z!⟩;show eY (u8 (224+c/4096)::more (c/64)::more c::r) 3=c;have h1:=r7 (c:=224+c/4096) w! w!;have h2:((more (c/64)).toNat:Int)=128+c/64%64:=r7 (c:=128+c/64%64) w! w!;have h3:((more c).toNat:Int)=128+c%64:=r7 (c:=128+c%64) w! w!
       have e:eY (u8 (224+c/4096)::more (c/64)::more c::r) 3=((((u8 (224+c/4096)).toNat:Int)-224)*64+(more (c/64)).toNat-128)*64+(more c).toNat-128:=by
        rfl
       omega
     . refine⟨?_,z!,z!⟩;show eY (u8 (240+c/262144)::more (c/4096)::more (c/64)::more c::r) 4=c;have h1:=r7 (c:=240+c/262144) w! w!;have h2:((more (c/4096)).toNat:Int)=128+c/4096%64:=r7 (c:=128+c/4096%64) w! w!;have h3:((more (c/64)).toNat:Int)=128+c/64%64:=r7 (c:=128+c/64%64) w! w!;have h4:((more c).toNat:Int)=128+c%64:=r7 (c:=128+c%64) w! w!
       have e:eY (u8 (240+c/262144)::more (c/4096)::more (c/64)::more c::r) 4=(((((u8 (240+c/262144)).toNat:Int)-240)*64+(more (c/4096)).toNat-128)*64+(more (c/64)).toNat-128)*64+(more c).toNat-128:=by
        rfl
       omega
theorem Ì(hr:cA c=true)(r:B8):aR (enc c++r)=(c,((enc c).length:Int)):=by
 obtain⟨hb,h1,h4⟩:=By hr r;have hl:0<(enc c++r).length:=by grind
 have ht:sX (enc c++r) (enc c).length=true:=by
  grind[aUy,List.take_left']
 have hg:=(uE _ _ hl h1 h4).1.1 ht;rw [<-Ko _ hl,EU hl hg h1 4 (S! _) h4,hb]
theorem Bz:∀(P:U),(∀c∈P,cA c=true)->decode (P.flatMap enc)=P
 |[],_=>rfl
 |c::P,h=>by
  have hr:=h c z!;have h1:=(By hr []).2.1;rw [List.flatMap_cons,zl _ x!,Ì hr];rw [Int.toNat_natCast,List.drop_left' rfl,Bz P (λx hx=>h x (by simp [hx]))]
theorem N3:∀(w:U) (t:B8),t.length+(w.flatMap λc=>iU (bT c)).length<=64->l6 t w=t++w.flatMap λc=>iU (bT c)
 |[],t,_=>by simp [l6]
 |c::w,t,h=>by
  rw [List.flatMap_cons,List.length_append] at h;simp only [l6];rw [if_neg w!,N3 w _ x!,List.flatMap_cons,List.append_assoc]
theorem BA:∀(w:U) (t:B8),∃p:U,(∀c∈p,c∈w)/\l6 t w=t++p.flatMap λc=>iU (bT c)
 |[],t=>⟨[],z!,by simp [l6]⟩
 |c::w,t=>by
  simp [l6];split
  . exact⟨[],z!,z!⟩
  . obtain⟨p,h1,h2⟩:=BA w (t++iU (bT c));refine⟨c::p,?_,x!⟩;grind
theorem CU:∀(w:U) (t:B8),t.length<=64->(l6 t w).length<=64
 |[],t,h=>h
 |c::w,t,h=>by
  simp [l6];split
  . exact h
  . exact CU w _ (by rw [K!];omega)
theorem G6:∀(l acc:U),(∀c∈acc,l4 c=true)->∀W∈pV acc l,∀c∈W,l4 c=true/\(c∈acc\/c∈l)
 |[],acc,ha,W,hW,c,hc=>by
   grind[pV,List.mem_singleton]
 |x::l,acc,ha,W,hW,c,hc=>by
  simp [pV] at hW;by_cases hx:l4 x=true
  . rw [M! hx] at hW
    have:=G6 l (acc++[x]) (λy hy=>by
     grind) W hW c hc
    grind
  . have hn:∀W'∈pV [] l,∀c∈W',l4 c=true/\(c∈acc\/c∈x::l):=λW' h' y hy=>by
     have:=G6 l [] z! W' h' y hy;grind
    grind
theorem aqj {b:Int}(h:c<a\/b<c):gW c a b=false:=by
 grind[gW,Bool.and_eq_false_iff,decide_eq_false_iff_not]
theorem N4 {b:Int}:gW c a b=true↔a<=c/\c<=b:=by simp [gW]
theorem G7(c:Int):bT (bT c)=bT c:=by
 have stay:∀x:Int,(97<=x/\x<192)\/(223<=x/\x<913)\/(938<=x/\x<1024)\/1072<=x->bT x=x:=λx h=>by
  grind[G4,aqj]
 cases h:gW c 1024 1039 with
 |true=>grind[IS]
 |false=>
  by_cases h2:gW c 65 90=true\/gW c 192 214=true\/gW c 216 222=true\/gW c 913 929=true\/gW c 931 937=true\/gW c 1040 1071=true
  . grind[IT,N4]
  . grind[G4]
theorem BB(c:Int):letter c=true↔(65<=c/\c<=90)\/(97<=c/\c<=122)\/(192<=c/\c<=214)\/(216<=c/\c<=246)\/(248<=c/\c<=255)\/(913<=c/\c<=929)\/(931<=c/\c<=937)\/(945<=c/\c<=969)\/(1024<=c/\c<=1119):=by
 simp_all[Ç,Z?,N4]
theorem IU(c:Int):l4 c=true↔letter c=true\/(48<=c/\c<=57):=by simp [l4,digit]
theorem Ks(h:l4 c=true):l4 (bT c)=true:=by
 cases h1:gW c 1024 1039 with
 |true=>grind[IS,IU,BB]
 |false=>
  by_cases h2:gW c 65 90=true\/gW c 192 214=true\/gW c 216 222=true\/gW c 913 929=true\/gW c 931 937=true\/gW c 1040 1071=true
  . grind[IT,N4,IU,BB]
  . grind[G4]
theorem wa{l:M α}{f g:α->M β}(h:∀x∈l,f x=g x):l.flatMap f=l.flatMap g:=by
 induction l with
 |nil=>rfl
 |cons a l ih=>grind
theorem G8(h:cA c=true):iU c=enc c:=by simp_all[iU,Q?]
theorem agQ(s:B8):Ë s=isTerm s:=by
 rw [Bool.eq_iff_iff];simp only [Ë,isTerm,B!,H!,Z!,Ê];constructor
 . rintro⟨hg,h0,hl⟩
   have hf:=Um s.length s (S! _) (λc hc e=>by
    grind[IU,BB])
   have hw:pV [] (decode s)=[decode s]:=by
    have:=Xh (decode s) [] [] (λc hc=>(hg c hc).1);grind[pV]
   have he:(decode s).flatMap (λc=>iU (bT c))=s:=by
    grind[wa,G8,rZ]
   grind[bM,jN,N3]
 . intro h
   have hlen:s.length<=64:=by
    have hm:s∈bM s:=by grind
    simp only [bM,T?] at hm;obtain⟨w,_,hw⟩:=hm;rw [<-hw];exact CU w [] z!
   have hm:s∈bM s:=by grind
   simp only [bM,T?] at hm;obtain⟨W,hW,hs⟩:=hm;have ay:=G6 (decode s) [] z! W hW;obtain⟨p,hp,hpf⟩:=BA W []
   have hr:∀c∈p,cA (bT c)=true:=λc hc=>G5 (rZ s c (by
    grind))
   have Tc:s=(p.map bT).flatMap enc:=by
    rw [<-hs];show l6 [] W=_
    grind[List.flatMap_map,wa,G8]
   have hd:decode s=p.map bT:=by
    grind[Bz]
   grind[Ks,G7,decode,pV,List.length_pos_iff]
theorem eS:∀a:B8,Op.bytesLess a a=false
 |[]=>rfl
 |a::x=>by simp [Op.bytesLess,eS x]
theorem mz:∀a b c:B8,Op.bytesLess a b=true->Op.bytesLess b c=true->Op.bytesLess a c=true
 |_,[],_,h,_|_,_::_,[],_,h=>by grind[Op.bytesLess]
 |[],_::_,_::_,_,_=>rfl
 |a::x,b::y,c::z,h1,h2=>by
  simp [Op.bytesLess,Z?,H!,B!,beq_iff_eq] at h1 h2 |-;rcases h1 with h1|⟨rfl,h1⟩
  . rcases h2 with h2|⟨rfl,h2⟩
    . rw [UInt8.lt_iff_toNat_lt] at *;omega
    . left;exact h1
  . rcases h2 with h2|⟨rfl,h2⟩
    . left;exact h2
    . right;exact⟨rfl,mz x y z h1 h2⟩
theorem pd:∀a b:B8,Op.bytesLess a b=true\/a=b\/Op.bytesLess b a=true
 |[],[]=>.inr (.inl rfl)
 |[],_::_=>.inl rfl
 |_::_,[]=>.inr (.inr rfl)
 |a::x,b::y=>by
  simp [Op.bytesLess,Z?,H!,B!,beq_iff_eq,i?];by_cases h:a=b
  . subst h;rcases pd x y with h|h|h
    . exact .inl (.inr ⟨rfl,h⟩)
    . exact .inr (.inl ⟨rfl,h⟩)
    . exact .inr (.inr (.inr ⟨rfl,h⟩))
  . have :a.toNat≠b.toNat:=λe=>h (UInt8.toNat_inj.1 e);by_cases h2:a.toNat<b.toNat
    . exact .inl (.inl (UInt8.lt_iff_toNat_lt.2 h2))
    . exact .inr (.inr (.inl (UInt8.lt_iff_toNat_lt.2 w!)))
theorem CV {a:B8}(h:Op.bytesLess a b=true):Op.bytesLess b a=false:=by
 grind[mz,eS]
def uG(l:O):Prop:=l.Pairwise λa b=>Op.bytesLess a b=true
theorem zo:∀(l m:O),uG l->uG m->(∀x,x∈l↔x∈m)->l=m
 |[],[],_,_,_=>rfl
 |[],b::m,_,_,h=>by have:=(h b).2 z!;grind
 |a::l,[],_,_,h=>by have:=(h a).1 z!;grind
 |a::l,b::m,hl,hm,h=>by
  obtain⟨hl1,hl2⟩:=a?.1 hl;obtain⟨hm1,hm2⟩:=a?.1 hm
  have lQ:a=b:=by
   rcases P!.1 ((h a).1 z!) with e|e
   . exact e
   . rcases P!.1 ((h b).2 z!) with e2|e2
     . exact e2.symm
     . have q1:=hm1 a e;have q2:=CV (hl1 b e2);rw [q1] at q2;cases q2
  subst lQ
  have:=zo l m hl2 hm2 (λx=>by
   constructor
   . intro hx;rcases P!.1 ((h x).1 (by simp [hx])) with e|e
     . have:=hl1 x hx;rw [e,eS] at this;cases this
     . exact e
   . intro hx;rcases P!.1 ((h x).2 (by simp [hx])) with e|e
     . have:=hm1 x hx;rw [e,eS] at this;cases this
     . exact e)
  rw [this]
theorem N5(l:O):∀k,k<=l.length->∀i,i<k->Op.bytesLess (l.getD i []) (l.getD (oX l k) [])=false
 |0,_,i,hi=>by omega
 |k+1,hk,i,hi=>by
  have ih:=N5 l k w!;rw [show oX l (k+1)=if Op.bytesLess (l.getD k []) (l.getD (oX l k) [])=true then k else oX l k from rfl];by_cases h:Op.bytesLess (l.getD k []) (l.getD (oX l k) [])=true
  . grind[eS,mz]
  grind
theorem N6:∀(n:Nat) (l:O),l.length<=n->uG (sorted l)/\∀x,x∈sorted l↔x∈l:=by
 intro n;induction n with
 |zero=>
  intro l h;have :l=[]:=V! w!;subst this;exact⟨List.Pairwise.nil,λx=>Iff.rfl⟩
 |succ n ih=>
  intro l h;by_cases h0:l.length=0
  . grind
  . have hp:0<l.length:=by omega
    have hr:=zn hp;obtain⟨i1,i2⟩:=ih (l.filter (λx=>!decide (x=l.getD (nB l) []))) w!;have hm:l.getD (nB l) []∈l:=bC l _ [] (Kr hp);rw [Ul hp];refine⟨a?.2 ⟨λx hx=>?_,i1⟩,λx=>?_⟩
    . have Dg:=(i2 x).1 hx;simp at Dg;obtain⟨i,hi,e⟩:=List.mem_iff_getElem.1 Dg.1;have q:=N5 l l.length (Nat.le_refl _) i hi;grind[pd,nB,absurd,Op.bytesLess]
    grind
theorem l7(l:O):uG (sorted l):=(N6 _ l (S! _)).1
theorem jk(l:O)(x:B8):x∈sorted l↔x∈l:=(N6 _ l (S! _)).2 x
theorem Í(h1:uG m)(h2:∀x,x∈m↔x∈l):m=sorted l:=
 zo _ _ h1 (l7 l) (λx=>(h2 x).trans (jk l x).symm)
def bW:O->O
 |[]=>[]
 |a::l=>match bW l with
  |[]=>[a]
  |b::r=>if a=b then b::r else a::b::r
theorem tx:∀(l:O) (x:B8),x∈bW l↔x∈l
 |[],_=>Iff.rfl
 |a::l,x=>by
  have ih:=tx l x;simp only [bW];split
  . rename_i h;rw [h] at ih;rw [v?,P!];constructor
    . exact .inl
    . rintro(h|h)
      . exact h
      . have:=ih.2 h;cases this
  . rename_i b r h;rw [h] at ih;split
    . rename_i e;subst e;rw [ih,P!];constructor
      . exact .inr
      . rintro(h2|h2)
        . rw [<-ih,h2];simp
        . exact h2
    . rw [P!,ih,P!]
theorem D1:∀(l:O),(l.Pairwise λa b=>Op.bytesLess b a=false)->uG (bW l)
 |[],_=>List.Pairwise.nil
 |a::l,h=>by
  obtain⟨h1,h2⟩:=a?.1 h;have ih:=D1 l h2;simp [bW];split
  . exact List.pairwise_singleton _ _
  . rename_i b r hb;rw [hb] at ih;split
    . omega
    . refine a?.2 ⟨λx hx=>?_,ih⟩;have y6:b∈l:=by rw [<-tx l,hb];simp
      have lQ:Op.bytesLess a b=true:=by
       grind[pd]
      rcases P!.1 hx with e|e
      . grind
      . exact mz _ _ _ lQ ((a?.1 ih).1 x e)
theorem Lj(h1:m.Pairwise λa b=>Op.bytesLess b a=false)(h2:∀x,x∈m↔x∈l):bW m=sorted l:=
 Í (D1 m h1) (λx=>(tx m x).trans (h2 x))
def lL(a b:B8):Int:=if Op.bytesLess a b then -1 else if Op.bytesLess b a then 1 else 0
theorem aqk(a b:B8):decide (lL a b=0)=decide (a=b):=by
 unfold lL;rcases pd a b with h|h|h
 . grind[eS]
 . grind[eS]
 . grind[eS]
def ot(l:O)(k:Nat):Prop:=1<=k/\k<=l.length/\∀j,j+1<k->¬l.getD (j+1) []=l.getD j []
def jF(l:O)(x i k:Nat)(m:O):Prop:=1<=k/\x+k<=l.length/\1<=i/\i+1<=x+k/\m.length=l.length/\m.drop i=l.drop i/\m.take i=bW (l.take (x+k))
theorem Xk(h:l≠ []):∃b r,bW l=b::r:=by
 cases hc:bW l with
 |nil=>
  cases l with
  |nil=>grind
  |cons a l=>have:=(tx (a::l) a).2 z!;grind
 |cons b r=>grind
theorem D3(a b:B8):∀p:O,bW (p++[a,b])=if a=b then bW (p++[a]) else bW (p++[a])++[b]
 |[]=>by
   grind[bW]
 |c::p=>by
  have ih:=D3 a b p;obtain⟨h,r,e⟩:=Xk (l:=p++[a]) z!;grind[bW]
theorem r8{n:Nat}(h:n+1<l.length):bW (l.take (n+2))=if l.getD n []=l.getD (n+1) [] then bW (l.take (n+1)) else bW (l.take (n+1))++[l.getD (n+1) []]:=by
 grind[aD,List.append_assoc,List.singleton_append,D3]
theorem IV {l:O}:∀k,k<=l.length->(∀j,j+1<k->¬l.getD (j+1) []=l.getD j [])->bW (l.take k)=l.take k
 |0,_,_=>by rfl
 |1,h,_=>by
  cases l with
  |nil=>rfl
  |cons a l=>rfl
 |k+2,hk,h=>by
  rw [r8 w!,J! (λe=>h k w! e.symm),IV (k+1) w! (λj hj=>h j w!),<-aD l (k+1) [] w!]
theorem N7 {l:O}(h:(l.length:Int)<2):l=bW l:=by
 match l,h with
 |[],_=>rfl
 |[a],_=>rfl
 |a::b::l,h=>grind
theorem akF {l:O}(h:¬(l.length:Int)<2):ot l 1:=⟨S! _,w!,λj hj=>by omega⟩
theorem R1 {l:O}{k:Nat}(h:ot l k)(hk:(k:Int)<l.length)(hn:¬l.getD k []=l.getD (Int.toNat ((k:Int)-1)) []):ot l (k+1):=by
 obtain⟨h1,h2,h3⟩:=h;rw [show Int.toNat ((k:Int)-1)=k-1 by omega] at hn;refine⟨w!,w!,λj hj=>?_⟩;grind
theorem Xl{k:Nat}(h:ot l k)(hk:¬(k:Int)<l.length):l=bW l:=by
 obtain⟨h1,h2,h3⟩:=h;have e:=IV k h2 h3;grind
theorem abn {l:O}{x:Nat}(h:ot l x)(hx:(x:Int)<l.length)(he:l.getD x []=l.getD (Int.toNat ((x:Int)-1)) []):jF l x x 1 l:=by
 obtain⟨h1,h2,h3⟩:=h;rw [show Int.toNat ((x:Int)-1)=x-1 by omega] at he;refine⟨S! _,w!,h1,S! _,rfl,rfl,?_⟩;obtain⟨y,rfl⟩:∃y,x=y+1:=⟨x-1,w!⟩;rw [Nat.add_sub_cancel] at he;rw [show y+1+1=y+2 by omega,r8 w!,M! he.symm,IV (y+1) w! h3]
theorem R2{k:Nat}(h:jF l x i k m)(hk:x+k<l.length):m.getD (x+k) []=l.getD (x+k) []/\m.getD (x+k-1) []=l.getD (x+k-1) []:=by
 obtain⟨h1,h2,h3,h4,h5,h6,h7⟩:=h
 have key:∀j,i<=j->m.getD j []=l.getD j []:=λj hj=>by
  have:=congrArg (λq=>q.getD (j-i) []) h6;grind
 grind
theorem N8{k:Nat}(h:jF l x i k m)(hk:x+k<l.length)(he:m.getD (x+k) []=m.getD (x+k-1) []):jF l x i (k+1) m:=by
 have hg:=R2 h hk;obtain⟨h1,h2,h3,h4,h5,h6,h7⟩:=h;refine⟨w!,w!,h3,w!,h5,h6,?_⟩;rw [h7];obtain⟨n,hn⟩:∃n,x+k=n+1:=⟨x+k-1,w!⟩;rw [show x+(k+1)=n+2 by omega,hn,r8 w!,if_pos];grind
theorem R3{k:Nat}(h:jF l x i k m)(hk:x+k<l.length)(he:¬m.getD (x+k) []=m.getD (x+k-1) []):jF l x (i+1) (k+1) (m.set i (m.getD (x+k) [])):=by
 have hg:=R2 h hk;obtain⟨h1,h2,h3,h4,h5,h6,h7⟩:=h;rw [hg.1];refine⟨w!,w!,w!,w!,x!,?_,?_⟩
 . rw [List.drop_set,if_pos w!];have:=congrArg (List.drop 1) h6;grind[List.drop_drop]
 . have hi:i<(m.set i (l.getD (x+k) [])).length:=by grind
   rw [aD _ _ [] hi,List.take_set,List.set_eq_of_length_le x!,h7];rw [List.getD_eq_getElem?_getD,List.getElem?_set_self w!,Option.getD_some];obtain⟨n,hn⟩:∃n,x+k=n+1:=⟨x+k-1,w!⟩;rw [show x+(k+1)=n+2 by omega,hn,r8 w!,if_neg];grind
theorem R4{k:Nat}(h:jF l x i k m)(hk:¬x+k<l.length):m.take i=bW l:=by
 obtain⟨h1,h2,h3,h4,h5,h6,h7⟩:=h;grind
def up(l:O):Prop:=l.Pairwise λa b=>Op.bytesLess b a=false
def fm(l:O):O:=l.mergeSort λa b=>!Op.bytesLess b a
theorem agR(l:O):up (fm l):=by
 have:=List.pairwise_mergeSort (le:=λa b=>!Op.bytesLess b a) (λa b c h1 h2=>by
  grind[Bool.not_eq_true',pd,mz]) (λa b=>by
  grind[pd,CV,eS]) l
 exact this.imp (λh=>by grind)
theorem BC(l:O):(fm l).Perm l:=List.mergeSort_perm l _
theorem Î(l:O):(fm l).length=l.length:=(BC l).length_eq
theorem N9(l:O):bW (fm l)=sorted l:=Lj (agR l) (λ_=>(BC l).mem_iff)
def sp(n:Nat):Nat:=2^Nat.log2 (n-1)
def split(n:Int):Int:=if n<2\/1099511627776<n then 0 else((sp n.toNat:Nat):Int)
def jq(n k:Int)(t:Nat):Prop:=k=((2^t:Nat):Int)/\k<n
def xd:Nat->O->B8
 |0,_=>sum []
 |f+1,l=>if l.length=0 then sum [] else if l.length=1 then l.getD 0 [] else aT (xd f (l.take (sp l.length))) (xd f (l.drop (sp l.length)))
def root(l:O):B8:=xd l.length l
def bQ(l:O):Bool:=l.all λd=>decide ((d.length:Int)=32)
def fg(l:O)(k:Nat):Prop:=(∀d∈l.take k,(d.length:Int)=32)/\k<=l.length
def nC(l:O):Prop:=bQ l=true/\l.length<=1099511627776
def zp(l:O):B8:=if bQ l then root l else []
def xe(l:O):Int:=if bQ l then 0 else 1
def leaves(l:O):O:=l.map leaf
def jr(l:O)(k:Nat):O:=(l.take k).map leaf
def l8(l:O):Prop:=l.length<=1099511627776/\∀b∈l,b.length<1099511627776
def comb(s:O):O:=s.take (s.length-2)++[aT (s.getD (s.length-2) []) (s.getD (s.length-1) [])]
def aUz(s:O):Prop:=2<=s.length/\s.length<=1099511627776
def tz(l:O)(t a:Nat):B8:=root ((l.drop (2^t*a)).take (2^t))
def sG(l:O)(t j:Nat):O:=
 if j=0 then [] else if j%2=1 then sG l (t+1) (j/2)++[tz l t (j-1)] else sG l (t+1) (j/2)
termination_by j
def qu(l:O)(i:Nat)(s:O):Prop:=s=sG l 0 i/\i<=l.length
def pe(l:O)(i t j:Nat)(s:O):Prop:=
 s=sG l t j++[tz l t j]/\sG l 0 (i+1)=sG l t (j+1)/\2^t*(j+1)=i+1/\i<l.length
def qv(l s:O):Prop:=∃t j,s=sG l t j++[root (l.drop (2^t*j))]/\2^t*j<l.length/\l.length-2^t*j<=2^t
theorem akG {m:Nat}(h1:2^t<=m)(h2:m<2^(t+1)):Nat.log2 m=t:=by
 grind[Nat.two_pow_pos,Nat.log2_eq_iff]
theorem Ï {n:Nat}(h1:2^t<n)(h2:n<=2^(t+1)):sp n=2^t:=by
 grind[sp,akG]
theorem gN {n:Nat}(h:2<=n):1<=sp n/\sp n<n:=by
 grind[sp,Nat.log2_self_le,Nat.two_pow_pos,Nat.log2]
theorem r9:∀(f g:Nat) (l:O),l.length<=f->l.length<=g->xd f l=xd g l
 |0,0,_,_,_=>rfl
 |0,g+1,l,h,_=>by
  simp_all[xd,M!]
 |f+1,0,l,_,h=>by
  simp_all[xd,M!]
 |f+1,g+1,l,h1,h2=>by
  simp only [xd];by_cases h0:l.length=0
  . grind
  . by_cases h3:l.length=1
    . grind
    . have:=gN (n:=l.length) w!;rw [if_neg h0,if_neg h0,if_neg h3,if_neg h3,r9 f g _ x! x!,r9 f g _ x! x!]
theorem R5(h:l.length=0):root l=sum []:=by
 unfold root;rw [h];rfl
theorem R6(h:l.length=1):root l=l.getD 0 []:=by
 simp_all[root,xd,J!,M!]
theorem IW{k:Nat}(h:2<=l.length)(hk:sp l.length=k):root l=aT (root (l.take k)) (root (l.drop k)):=by
 have hb:=gN h;unfold root;obtain⟨n,hn⟩:∃n,l.length=n+1:=⟨l.length-1,w!⟩;have e1:=r9 n (l.take (sp l.length)).length (l.take (sp l.length)) x! (Nat.le_refl _);have e2:=r9 n (l.drop (sp l.length)).length (l.drop (sp l.length)) x! (Nat.le_refl _);grind[xd]
theorem eA(l:O):bQ l=true↔∀d∈l,d.length=32:=by
 simp [bQ,List.all_eq_true,decide_eq_true_eq];grind
theorem agS:∀(n:Nat) (l:O),l.length<=n->bQ l=true->(root l).length=32:=by
 intro n;induction n with
 |zero=>grind[R5,qp]
 |succ n ih=>
  intro l h hd;by_cases h0:l.length=0
  . grind
  . by_cases h1:l.length=1
    . grind[R6,eA,bC]
    . have hb:=gN (n:=l.length) w!;rw [IW w! rfl];have e1:=ih (l.take (sp l.length)) x! ((eA _).2 λd po=>(eA l).1 hd d (List.mem_of_mem_take po));have e2:=ih (l.drop (sp l.length)) x! ((eA _).2 λd po=>(eA l).1 hd d (List.mem_of_mem_drop po));simp [aT,NZ,e1,e2,decide_true,Bool.and_self,if_true];rfl
theorem LL(h:bQ l=true):(root l).length=32:=agS _ l (S! _) h
variable {a:Nat}{s:List B8}{b:List Int}
theorem aAL(h:a<l.length):tz l 0 a=l.getD a []:=by
 grind[tz,R6]
theorem two_pos(t:Nat):0<2^t:=Nat.two_pow_pos t
theorem agT(h:2^(t+1)*(a+1)<=l.length):aT (tz l t (2*a)) (tz l t (2*a+1))=tz l (t+1) a:=by
 have hp:=two_pos t;have e0:2^(t+1)*a=2^t*(2*a):=by rw [y?,Nat.mul_assoc]
 have e1:2^t*(2*a+1)=2^t*(2*a)+2^t:=by rw [Nat.mul_add,Nat.mul_one]
 have e2:2^(t+1)*(a+1)=2^t*(2*a)+(2^t+2^t):=by rw [Nat.mul_add,e0,Nat.mul_one,y?];omega
 have hl:((l.drop (2^(t+1)*a)).take (2^(t+1))).length=2^t+2^t:=by rw [J?,N?];omega
 have Ez:sp ((l.drop (2^(t+1)*a)).take (2^(t+1))).length=2^t:=by exact Ï w! w!
 unfold tz;rw [IW (l:=(l.drop (2^(t+1)*a)).take (2^(t+1))) w! Ez];congr 2
 . rw [List.take_take,e0,Nat.min_eq_left w!]
 . rw [List.drop_take,b?,e0,e1];congr 1;omega
theorem BD(l:O)(h:j%2=1):sG l t j=sG l (t+1) (j/2)++[tz l t (j-1)]:=by
 rw [sG,J! w!,M! h]
theorem yc(l:O)(h:j%2=0):sG l t j=sG l (t+1) (j/2):=by
 by_cases h0:j=0
 . subst h0;rw [sG,M! rfl,sG,M! rfl]
 . rw [sG,J! h0,J! w!]
theorem Oa(l:O)(t:Nat):sG l t 0=[]:=by rw [sG,M! rfl]
theorem G9(l:O):∀(n t j:Nat),j<=n->(sG l t j).length<=j/\(0<j->0<(sG l t j).length):=by
 intro n;induction n with
 |zero=>grind[Oa]
 |succ n ih=>
  intro t j h;by_cases h0:j=0
  . subst h0;rw [Oa];simp
  . by_cases h1:j%2=1
    . rw [BD l h1,K!];have:=ih (t+1) (j/2) w!;simp;omega
    . rw [yc l w!];have:=ih (t+1) (j/2) w!;omega
theorem R7(s:O)(a b:B8):comb (s++[a]++[b])=s++[aT a b]:=by
 unfold comb;have hl:(s++[a]++[b]).length=s.length+2:=by simp
 rw [hl,show s.length+2-2=s.length by omega,show s.length+2-1=s.length+1 by omega,W!,List.take_left']
 . simp [G!]
 . rfl
theorem aql(l:O):qu l 0 []:=⟨(Oa l 0).symm,U! _⟩
theorem aAM{i:Nat}(h:qu l i s)(hi:(i:Int)<l.length):pe l i 0 i (s++[l.getD (Int.toNat (i:Int)) []]):=by
 rw [X!];refine⟨?_,rfl,z!,w!⟩;rw [h.1,aAL w!]
theorem and_1:Vg.aM (j:Int) 1=((j%2:Nat):Int):=by
 have :Vg.aM (j:Int) 1=((j&&&1:Nat):Int):=rfl;grind
theorem IX{j:Nat}(h:pe l i t j s)(hj:Vg.aM (j:Int) 1=1):pe l i (t+1) (j/2) (comb s)/\j/2<j/\2<=s.length:=by
 rw [and_1] at hj;obtain⟨h1,h2,h3,h4⟩:=h;have hs:s=sG l (t+1) (j/2)++[tz l t (j-1)]++[tz l t j]:=by grind[BD]
 have e3:2^(t+1)*(j/2+1)=2^t*(j+1):=by
  grind
 refine⟨⟨?_,?_,w!,h4⟩,w!,x!⟩
 . have e:=agT (l:=l) (t:=t) (a:=j/2) w!;grind[R7]
 . rw [h2,yc l w!,show(j+1)/2=j/2+1 by omega]
theorem akH{j:Nat}(h:pe l i t j s)(hj:¬Vg.aM (j:Int) 1=1):qu l (i+1) s:=by
 rw [and_1] at hj;obtain⟨h1,h2,h3,h4⟩:=h;refine⟨?_,w!⟩;rw [h2,BD l w!,show(j+1)/2=j/2 by omega,Nat.add_sub_cancel,<-yc l w!];omega
theorem akI(h:pe l i t j s):s.length<=l.length:=by
 obtain⟨h1,h2,h3,h4⟩:=h;have:=(G9 l j t j (S! _)).1;have hp:=two_pos t;have :j+1<=i+1:=by rw [<-h3];exact Nat.le_mul_of_pos_left _ hp
 grind
theorem aqm(l:O):∀(n t m:Nat),m<=n->0<m->2^t*m=l.length->qv l (sG l t m):=by
 intro n;induction n with
 |zero=>omega
 |succ n ih=>
  intro t m h h0 he;by_cases h1:m%2=1
  . refine⟨t+1,m/2,?_,?_,?_⟩
    . have e:2^(t+1)*(m/2)=2^t*(m-1):=by rw [y?,Nat.mul_assoc];congr 1;omega
      rw [BD l h1,e];unfold tz;rw [List.take_of_length_le];rw [List.length_drop,<-he,Nat.mul_sub,Nat.mul_one];grind
    . have e:2^(t+1)*(m/2)=2^t*(m-1):=by rw [y?,Nat.mul_assoc];congr 1;omega
      rw [e,<-he];exact Nat.mul_lt_mul_of_pos_left w! (two_pos t)
    . have e:2^(t+1)*(m/2)=2^t*(m-1):=by rw [y?,Nat.mul_assoc];congr 1;omega
      rw [e,<-he,Nat.mul_sub,Nat.mul_one,y?];omega
  . rw [yc l w!];exact ih (t+1) (m/2) w! w! (by rw [<-he,y?,Nat.mul_assoc];congr 1;omega)
theorem aAN {l:O}{i:Nat}(h:qu l i s)(hi:¬(i:Int)<l.length)(h0:¬(l.length:Int)=0):qv l s:=by
 have :i=l.length:=by have:=h.2;omega
 rw [h.1,this];exact aqm l l.length 0 l.length (S! _) w! z!
theorem akJ(l:O):∀(n t j:Nat),j<=n->0<j->2^t*j<l.length->l.length-2^t*j<=2^t->qv l (comb (sG l t j++[root (l.drop (2^t*j))]))/\(comb (sG l t j++[root (l.drop (2^t*j))])).length<(sG l t j++[root (l.drop (2^t*j))]).length:=by
 intro n;induction n with
 |zero=>omega
 |succ n ih=>
  intro t j h h0 h1 h2;by_cases ho:j%2=1
  . have e:2^(t+1)*(j/2)=2^t*(j-1):=by rw [y?,Nat.mul_assoc];congr 1;omega
    have em:2^t*j=2^t*(j-1)+2^t:=by
     have :j=(j-1)+1:=by omega
     conv=>lhs;rw [this,Nat.mul_add,Nat.mul_one]
    have hl:(l.drop (2^t*(j-1))).length=2^t+(l.length-2^t*j):=by rw [N?];omega
    have Ez:sp (l.drop (2^t*(j-1))).length=2^t:=by exact Ï w! w!
    have er:aT (tz l t (j-1)) (root (l.drop (2^t*j)))=root (l.drop (2^t*(j-1))):=by
     rw [IW (l:=l.drop (2^t*(j-1))) w! Ez,b?,<-em];rfl
    rw [BD l ho,R7,er];refine⟨⟨t+1,j/2,by rw [e],w!,?_⟩,z!⟩;omega
  . have e:2^(t+1)*(j/2)=2^t*j:=by rw [y?,Nat.mul_assoc];congr 1;omega
    have:=ih (t+1) (j/2) w! w! (by rw [e];exact h1) w!;rw [e] at this;rw [yc l w!];exact this
theorem R8(h:qv l s)(hs:(1:Int)<s.length):qv l (comb s)/\(comb s).length<s.length:=by
 obtain⟨t,j,h1,h2,h3⟩:=h
 have hj:0<j:=by
  grind[Oa]
 rw [h1];exact akJ l j t j (S! _) hj h2 h3
theorem akK(h:qv l s)(hs:¬(1:Int)<s.length):s.getD (Int.toNat 0) []=root l/\s.length=1:=by
 obtain⟨t,j,h1,h2,h3⟩:=h;have hl:s.length=(sG l t j).length+1:=by grind
 have hj:j=0:=by
  have:=(G9 l j t j (S! _)).2;omega
 simp_all[Oa]
theorem akL(h:qv l s):s.length<=l.length:=by
 obtain⟨t,j,h1,h2,h3⟩:=h;have:=(G9 l j t j (Nat.le_refl _)).1;have hp:=two_pos t;have:=Nat.le_mul_of_pos_left j hp;grind
theorem aqn(h:aUz s):List.take (Int.toNat ((s.length:Int)-2+1)) (List.set s (Int.toNat ((s.length:Int)-2)) (aT (List.getD s (Int.toNat ((s.length:Int)-2)) []) (List.getD s (Int.toNat ((s.length:Int)-2+1)) [])))=comb s:=by
 have h1:=h.1;rw [show Int.toNat ((s.length:Int)-2+1)=s.length-2+1 by omega,show Int.toNat ((s.length:Int)-2)=s.length-2 by omega,show s.length-2+1=s.length-1 by omega];unfold comb;generalize aT (List.getD s (s.length-2) []) (List.getD s (s.length-1) [])=x;have hl:s.length-2<(s.set (s.length-2) x).length:=by grind
 rw [show s.length-1=s.length-2+1 by omega,aD _ _ [] hl,List.take_set,List.set_eq_of_length_le x!];grind
theorem Xm(h:n<2\/1099511627776<n):0=split n:=by simp_all[split,M!]
theorem Kt(h:¬n<2):jq n 1 0:=⟨rfl,w!⟩
theorem BE {k:Int}(h:jq n k t)(hk:2*k<n):jq n (2*k) (t+1)/\1<=k:=by
 have hp:=two_pos t;obtain⟨h1,h2⟩:=h;refine⟨⟨?_,hk⟩,w!⟩;omega
theorem nD(h1:2<=n)(h2:n<=1099511627776):split n=((sp n.toNat:Nat):Int):=by simp_all[split,J!]
theorem D4 {k:Int}(h:jq n k t)(h1:¬n<2)(h2:¬1099511627776<n)(hk:¬2*k<n):k=split n:=by
 have hp:=two_pos t;obtain⟨e1,e2⟩:=h;grind[nD,Ï,Nat.pow_succ]
theorem kp {k:Int}(h:jq n k t):1<=k/\k<n:=by
 have hp:=two_pos t;obtain⟨e1,e2⟩:=h;omega
theorem abo(l:O):fg l 0:=⟨z!,U! _⟩
theorem Ð {l:O}{k:Nat}(h:fg l k)(hk:(k:Int)<l.length)(hd:((l.getD (Int.toNat (k:Int)) []).length:Int)=32):fg l (k+1):=by
 refine⟨λd po=>?_,w!⟩;rw [aD l k [] w!] at po;rcases F!.1 po with po|po
 . exact h.1 d po
 grind
theorem agU {l:O}{k:Nat}(hk:(k:Int)<l.length)(hd:¬((l.getD (Int.toNat (k:Int)) []).length:Int)=32):false=bQ l:=by
 grind[Int.toNat_natCast,bQ,List.all_eq_false,bC]
theorem agV{k:Nat}(h:fg l k)(hk:¬(k:Int)<l.length):true=bQ l:=by
 simp [bQ,List.all_eq_true,decide_eq_true_eq];have h1:=h.1;grind[List.take_length]
theorem Un{k:Nat}(hk:(k:Int)<l.length):jr l k++[leaf (l.getD (Int.toNat (k:Int)) [])]=jr l (k+1):=by
 grind[Int.toNat_natCast,jr,aD]
theorem Xn{k:Nat}(hk:¬(k:Int)<l.length):jr l k=leaves l:=by
 grind[jr,leaves,List.take_of_length_le]
theorem Xo{k:Nat}(h:l8 l)(hk:(k:Int)<l.length):aC (l.getD (Int.toNat (k:Int)) []):=by
 exact h.2 _ (bC l k [] w!)
theorem QQ(l:O)(k:Nat):(jr l k).length<=l.length:=by grind[jr,List.length_map,List.length_take]
theorem LM{i i':Nat}(h:pe l i' t j s/\(i:Int)=(i':Int)):pe l i t j s:=by
 grind
theorem akM{j:Nat}(h:pe l i t j s)(hj:Vg.aM (j:Int) 1=1)(hp:nC l):aUz s:=by
 have:=akI h;exact⟨(IX h hj).2.2,by have:=hp.2;omega⟩
theorem Xp(h:qu l i s):s.length<=l.length:=by
 rw [h.1];have:=(G9 l i 0 i (S! _)).1;have:=h.2;omega
theorem agW {l:O}(h:(l.length:Int)=0):sum (Vg.ur UInt8)=root l:=(R5 w!).symm
def gi(l:U)(i:Nat):Int:=if i=0 then -1 else l.getD (i-1) 0
def Ob(l:U)(i:Nat):Bool:=decide (gi l i<l.getD i 0)&&decide (l.getD i 0<1000)
def bK(l:U):Bool:=(List.range l.length).all (Ob l)
def mo(l:U)(k:Nat):Prop:=(∀i,i<k->Ob l i=true)/\k<=l.length
def jb(l:U)(k:Nat):B8:=num l.length++(List.range k).flatMap (λi=>num (l.getD i 0-gi l i-1))
def BF(l:U):B8:=jb l l.length
def qw(l:U):B8:=if bK l then BF l else []
def qx(l:U):Int:=if bK l then 0 else 1
def aNO(l:U):B8:=if bK l then mF 2 (BF l) else []
def CW(l:U):B8:=mF 2 (BF l)
def xf(n a b:Int):Bool:=decide (a<=n)&&decide (n<b)
def sa:U:=[]
def vv(l:U):U:=if bK l then l else []
def Oc(l:U)(a b:Int):U:=(vv l).filter (λn=>xf n a b)
def nE(l:U)(a b:Int)(r out:U):Prop:=out++r.filter (λn=>xf n a b)=Oc l a b/\out.length+r.length<=1000
def wb(a b:U)(k:Nat):Prop:=a.length=b.length/\a.take k=b.take k/\k<=a.length
def sH(a b:U):Bool:=decide (a=b)
def aP2(l:U)(n:Int)(k:Nat):Prop:=n∉l.take k/\k<=l.length
def re(l:U)(n:Int):Bool:=decide (n∈l)
theorem kL(l:U):bK l=true↔∀i,i<l.length->Ob l i=true:=by
 grind[bK,List.all_eq_true]
theorem jG(l:U)(i:Nat):Ob l i=true↔gi l i<l.getD i 0/\l.getD i 0<1000:=by
 simp_all[Ob,B!,H!]
theorem lM(l:U)(k:Nat):gi l (k+1)=l.getD k 0:=by
 rfl
theorem yd(l:U):gi l 0= -1:=rfl
theorem Uo {l:U}{k:Nat}(h:mo l k):∀i,i<k->(i:Int)<=l.getD i 0/\l.getD i 0<1000
 |0,hi=>by have:=(jG l 0).1 (h.1 0 hi);grind[yd]
 |i+1,hi=>by
  have:=(jG l (i+1)).1 (h.1 (i+1) hi);rw [lM] at this;have:=Uo h i w!;omega
variable {l a:List Int}{s t:B8}
theorem R9{k:Nat}(h:mo l k): -1<=gi l k/\gi l k<1000:=by
 cases k with
 |zero=>grind[yd]
 |succ k=>rw [lM];have:=Uo h k w!;omega
theorem akN(h:bK l=true):mo l l.length:=⟨(kL l).1 h,S! _⟩
theorem abp{k:Nat}(h:bK l=true)(hk:k<=l.length):mo l k:=⟨λi hi=>(kL l).1 h i w!,hk⟩
theorem ou(h:bK l=true):l.length<=1000:=by
 by_cases h0:l.length=0
 . omega
 . have:=Uo (akN h) (l.length-1) w!;omega
theorem aqo(l:U):mo l 0:=⟨λi hi=>by omega,U! _⟩
theorem Ñ{k:Nat}(h:mo l k)(hk:(k:Int)<l.length)(hg:¬l.getD (Int.toNat (k:Int)) 0<=gi l k/\¬1000<=l.getD (Int.toNat (k:Int)) 0):mo l (k+1):=by
 refine⟨λi hi=>?_,w!⟩;by_cases he:i=k
 . grind[jG]
 . exact h.1 i w!
theorem agX{k:Nat}(hk:(k:Int)<l.length)(hg:l.getD (Int.toNat (k:Int)) 0<=gi l k\/1000<=l.getD (Int.toNat (k:Int)) 0):false=bK l:=by
 grind[Int.toNat_natCast,jG,kL]
theorem agY{k:Nat}(h:mo l k)(hk:¬(k:Int)<l.length):true=bK l:=by
 symm
 exact(kL l).2 λi hi=>h.1 i w!
theorem aRR{k:Nat}(hk:0<(k:Int)):l.getD (Int.toNat ((k:Int)-1)) 0=gi l k:=by
 simp only [gi];rw [J! w!,show Int.toNat ((k:Int)-1)=k-1 by omega]
theorem aSR{k:Nat}(h:mo l k)(hk:(k:Int)<l.length)(hg:l.getD (Int.toNat (k:Int)) 0<0\/999<l.getD (Int.toNat (k:Int)) 0\/(0<(k:Int)/\l.getD (Int.toNat (k:Int)) 0<=l.getD (Int.toNat ((k:Int)-1)) 0)):false=bK l:=by
 refine agX hk ?_;have:=R9 h;grind[aRR]
theorem aSz{k:Nat}(h:mo l k)(hk:(k:Int)<l.length)(hg:¬l.getD (Int.toNat (k:Int)) 0<0/\¬999<l.getD (Int.toNat (k:Int)) 0/\(¬0<(k:Int)\/¬l.getD (Int.toNat (k:Int)) 0<=l.getD (Int.toNat ((k:Int)-1)) 0)):mo l (k+1):=by
 refine Ñ h hk ?_;by_cases h0:0<(k:Int)
 . grind[aRR]
 . have :k=0:=by omega
   grind[yd]
theorem Sa(l:U):jb l 0=num l.length:=by simp [jb]
theorem Ha(l:U)(k:Nat):jb l k++num (l.getD k 0-gi l k-1)=jb l (k+1):=by
 grind[jb,List.range_succ,List.append_assoc]
theorem BG(l:U):∀k,(jb l k).length<=9+9*k
 |0=>by grind[Sa,cX]
 |k+1=>by
  rw [<-Ha,K!];have:=BG l k;have:=cX (l.getD k 0-gi l k-1);omega
theorem Sb(h0:0<=v)(h:v<=4611686018427387904):mn (Vg.ur UInt8) v=num v:=by
 grind[fT,Bool.or_eq_false_iff,decide_eq_false_iff_not,mn]
theorem Sc{k:Nat}(h:bK l=true)(hk:(k:Int)<l.length):0<=l.getD (Int.toNat (k:Int)) 0-gi l k-1/\l.getD (Int.toNat (k:Int)) 0-gi l k<=1001/\0<=l.getD (Int.toNat (k:Int)) 0:=by
 rw [X!];have h1:=(jG l k).1 ((kL l).1 h k w!);have h2:=R9 (abp (k:=k) h w!);omega
theorem Od{k:Nat}(h:bK l=true)(hk:(k:Int)<l.length):jb l k++mn (Vg.ur UInt8) (l.getD (Int.toNat (k:Int)) 0-gi l k-1)=jb l (k+1):=by
 grind[Sc,Sb,Int.toNat_natCast,Ha]
theorem QR{k:Nat}(h:bK l=true)(hk:(k:Int)<l.length)(v:Int):(jb l k).length+(mn (Vg.ur UInt8) v).length<=20000/\(jb l k).length+(num v).length<=20000:=by
 have h1:=BG l k;have h2:=ou h;have h3:=cX v
 have h4:(mn (Vg.ur UInt8) v).length<=9:=by
  grind[mn]
 omega
theorem Oe(h:bK l=true):(BF l).length<=20000:=by
 grind[BG,ou,BF]
theorem agZ(h:bK l=true):jb l l.length=qw l:=by simp [qw,h,Q?];rfl
theorem aqp(a:U)(s1 s2:Int):nE a s1 s2 (vv a) []:=by
 refine⟨rfl,?_⟩;grind[vv,ou]
theorem ag0{n:Int}{r:U}(h:nE a s1 s2 (n::r) out)(hn:xf n s1 s2=true):nE a s1 s2 r (out++[n]):=by
 obtain⟨h1,h2⟩:=h;refine⟨x!,x!⟩
theorem akO{n:Int}{r:U}(h:nE a s1 s2 (n::r) out)(hn:xf n s1 s2=false):nE a s1 s2 r out:=by
 obtain⟨h1,h2⟩:=h;rw [List.filter_cons,if_neg x!] at h1;exact⟨h1,x!⟩
theorem ag1(h:nE a s1 s2 [] out):out=Oc a s1 s2:=by
 have:=h.1;grind
theorem aqq {a:U}(h:(a.length:Int)=b.length):wb a b 0:=⟨w!,z!,U! _⟩
theorem Ò{k:Nat}(h:wb a b k)(hk:(k:Int)<a.length)(he:a.getD (Int.toNat (k:Int)) 0=b.getD (Int.toNat (k:Int)) 0):wb a b (k+1):=by
 rw [Int.toNat_natCast] at he;obtain⟨h1,h2,h3⟩:=h;exact⟨h1,by grind[aD],w!⟩
theorem ag2{k:Nat}(he:¬a.getD (Int.toNat (k:Int)) 0=b.getD (Int.toNat (k:Int)) 0):false=sH a b:=by
 grind[sH,decide_eq_false_iff_not]
theorem ag3 {a:U}(h:¬(a.length:Int)=b.length):false=sH a b:=by
 grind[sH,decide_eq_false_iff_not]
theorem ag4{k:Nat}(h:wb a b k)(hk:¬(k:Int)<a.length):true=sH a b:=by
 obtain⟨h1,h2,h3⟩:=h;simp_all[sH,H!,t?]
theorem aXz(l:U)(n:Int):aP2 l n 0:=⟨z!,U! _⟩
theorem aUc{k:Nat}(h:aP2 l n k)(hk:(k:Int)<l.length)(he:¬l.getD (Int.toNat (k:Int)) 0=n):aP2 l n (k+1):=by
 rw [X!] at he;refine⟨?_,w!⟩;rw [aD l k 0 w!,F!,v?];rintro(h'|h')
 . exact h.1 h'
 omega
theorem aUV{k:Nat}(hk:(k:Int)<l.length)(he:l.getD (Int.toNat (k:Int)) 0=n):true=re l n:=by
 simp [re,decide_eq_true_eq];grind
theorem aUW{k:Nat}(h:aP2 l n k)(hk:¬(k:Int)<l.length):false=re l n:=by
 simp [re,decide_eq_false_iff_not];have h1:=h.1;grind[List.take_of_length_le]
abbrev cr:=B8×U
abbrev Lk:=B8×B8×B8
def Ll(a b:B8):Bool:=Op.bytesLess a b || decide (a=b)
def fY(d:M cr)(i:Nat):B8:=(d.getD i ([],[])).1
def jS(d:M cr)(i:Nat):U:=(d.getD i ([],[])).2
def bn(d:M cr):Prop:=d.length<=1048576/\∀e∈d,e.1.length<=1099511627776
def BH(d:M cr)(i:Nat):Bool:= !(decide (0<i)&&Ll (fY d i) (fY d (i-1)))&&(!decide ((jS d i).length=0)&&(bK (jS d i)&&isTerm (fY d i)))
def bg(d:M cr):Bool:=(List.range d.length).all (BH d)
def Ku(d:M cr)(k:Nat):Prop:=(∀i,i<k->BH d i=true)/\k<=d.length
def fU(a b c:B8):Bool:=decide ((a.length:Int)<=64)&&(decide ((b.length:Int)<=64)&&decide ((c.length:Int)=32))
def qy(a b c:B8):B8:=text a++text b++c
def fW(a b c:B8):B8:=if fU a b c then qy a b c else []
def kM(a b c:B8):Int:=if fU a b c then 0 else 1
def Ó(b:B8):Rd×B8:=an b 0 0 64
def Up(b:B8):Rd×B8:=an (Ó b).1.1 (Ó b).1.2.1 (Ó b).1.2.2 64
def uI(b:B8):Rd×B8:=ar (Up b).1.1 (Up b).1.2.1 (Up b).1.2.2
def bj(b:B8):Lk×Int:=
 if done (uI b).1.1 (uI b).1.2.1 (uI b).1.2.2=0 then(((Ó b).2,(Up b).2,(uI b).2),0) else(([],[],[]),done (uI b).1.1 (uI b).1.2.1 (uI b).1.2.2)
def EV(b:B8):Lk×Int:=
 if(aq b 64).2.2≠0 then(([],[],[]),(aq b 64).2.2)
 else if(aq (b.drop (aq b 64).2.1.toNat) 64).2.2≠0 then(([],[],[]),(aq (b.drop (aq b 64).2.1.toNat) 64).2.2)
 else if((b.drop ((aq b 64).2.1+(aq (b.drop (aq b 64).2.1.toNat) 64).2.1).toNat).length:Int)<32 then(([],[],[]),4)
 else if 32<((b.drop ((aq b 64).2.1+(aq (b.drop (aq b 64).2.1.toNat) 64).2.1).toNat).length:Int) then(([],[],[]),2)
 else(((aq b 64).1,(aq (b.drop (aq b 64).2.1.toNat) 64).1,b.drop ((aq b 64).2.1+(aq (b.drop (aq b 64).2.1.toNat) 64).2.1).toNat),0)
def l9(d:M cr)(i:Nat):B8:=
 qy (if i=0 then [] else fY d (i-1)) (if i<d.length then fY d i else []) (CW (if i=0 then [] else jS d (i-1)))
def iV(d:M cr)(k:Nat):O:=(List.range k).map (l9 d)
def ie(d:M cr):O:=iV d (d.length+1)
def bU(d:M cr):O:=if bg d then ie d else []
def dE(d:M cr):Int:=if bg d then 0 else 1
def tA(d:M cr):B8:=root (leaves (ie d))
def BI(d:M cr):B8:=if bg d then tA d else []
def ek(d:M cr)(t:B8):Nat->Int
 |0=> -1
 |k+1=>if Ll (fY d k) t then(k:Int) else ek d t k
def bt(d:M cr)(t:B8):Int:=if bg d then ek d t d.length else -1
def k9(d:M cr)(t:B8):Bool:=decide (0<=bt d t)&&decide (fY d (bt d t).toNat=t)
def qz(d:M cr)(t:B8):U:=if k9 d t then jS d (bt d t).toNat else []
def sI(a b:M cr):Bool:=decide (a=b)
def Hb(a b:M cr)(k:Nat):Prop:=a.length=b.length/\a.take k=b.take k/\k<=a.length
def eZ(docs:O)(s1 s2:Int):Bool:=
 docs.all (λb=>decide ((b.length:Int)<=2000))&&(decide ((docs.length:Int)<=1000)&&(decide (0<=s1)&&(decide (s1<=s2)&&decide (s2<=(docs.length:Int)))))
def BJ(docs:O)(k:Nat):Prop:=(∀b∈docs.take k,b.length<=2000)/\k<=docs.length
def BK(b t:B8):Bool:=decide (0<((places b t).length:Int))
theorem zq(d:M cr):bg d=true↔∀i,i<d.length->BH d i=true:=by
 grind[bg,List.all_eq_true]
theorem aGO(d:M cr):Ku d 0:=⟨λi hi=>by omega,U! _⟩
variable {d:List cr}{b:B8}
theorem abq{k:Nat}(hk:(k:Int)<d.length)(h:BH d k=false):false=bg d:=by
 grind[zq]
theorem akP{k:Nat}(h:Ku d k)(hk:(k:Int)<d.length)(he:BH d k=true):Ku d (k+1):=by
 refine⟨λi hi=>?_,w!⟩;by_cases e:i=k
 . grind
 . exact h.1 i w!
theorem aqr{k:Nat}(h:Ku d k)(hk:¬(k:Int)<d.length):true=bg d:=by
 symm;exact(zq d).2 λi hi=>h.1 i w!
theorem ag5{k:Nat}(h:bn d):(d.getD k ([],[])).1.length<=1099511627776:=by
 by_cases hk:k<d.length
 . exact h.2 _ (bC d k _ hk)
 grind
theorem uJ(d:M cr)(i:Nat):BH d i=true↔(i=0\/Ll (fY d i) (fY d (i-1))=false)/\(jS d i).length≠0/\bK (jS d i)=true/\isTerm (fY d i)=true:=by
 simp_all[BH,B!,M?,Bool.and_eq_false_iff,q?,id]
theorem Of(d:M cr)(i:Nat):BH d i=false↔(0<i/\Ll (fY d i) (fY d (i-1))=true)\/(jS d i).length=0\/bK (jS d i)=false\/isTerm (fY d i)=false:=by
 grind[uJ]
theorem Og:∀(w:U) (t:B8),t.length<=64->(l6 t w).length<=64
 |[],t,h=>h
 |c::w,t,h=>by
  simp [l6];split
  . exact h
  . exact Og w _ (by rw [K!];omega)
theorem BL(h:isTerm s=true):s.length<=64:=by
 simp [isTerm,decide_eq_true_eq] at h;have hm:s∈bM s:=by grind
 simp [bM,T?] at hm;obtain⟨w,_,hw⟩:=hm;rw [<-hw];exact Og w [] z!
theorem ye(h:bg d=true)(hi:i<d.length):(fY d i).length<=64/\bK (jS d i)=true:=by
 grind[uJ,zq,BL]
theorem BM(b:B8)(a e m:Int):(an b a e m).1.1=b:=by grind[an]
theorem ag6(h:bK l=true):aNO l=CW l/\(CW l).length=32:=by
 refine⟨by simp [aNO,h,Q?];rfl,IP _ _⟩
theorem Hc(h:bg d=true){k:Nat}:fU (if k=0 then [] else fY d (k-1)) (if k<d.length then fY d k else []) (CW (if k=0 then [] else jS d (k-1)))=true\/d.length<k:=by
 by_cases hk:d.length<k
 . omega
 . refine .inl ?_;have e3:(CW (if k=0 then [] else jS d (k-1))).length=32:=IP _ _;simp only [fU,e3,B!,H!];refine⟨?_,?_,rfl⟩
   . by_cases h0:k=0
     . grind
     . grind[ye]
   . by_cases h0:k<d.length
     . grind[ye]
     grind
theorem aqs(h:bg d=true){k:Nat}(hk:k<=d.length):fW (if k=0 then [] else fY d (k-1)) (if k<d.length then fY d k else []) (aNO (if k=0 then [] else jS d (k-1)))=l9 d k:=by
 have hp:bK (if k=0 then [] else jS d (k-1))=true:=by
  by_cases h0:k=0
  . rw [M! h0];rfl
  . rw [J! h0];exact(ye h (i:=k-1) w!).2
 rw [(ag6 hp).1];rcases Hc h (k:=k) with hl|hl
 . simp [fW,hl,Q?];rfl
 omega
theorem Xq(d:M cr)(k:Nat):iV d k++[l9 d k]=iV d (k+1):=by
 grind[iV,List.range_succ]
theorem Oh(d:M cr)(k:Nat):(iV d k).length=k:=by simp [iV]
theorem EW {a c:B8}(h:fU a b c=true):(qy a b c).length<=200:=by
 simp [fU,Bool.and_eq_true,decide_eq_true_eq] at h;grind[cX,qy,text,List.length_append]
theorem pz(hp:bn d)(h:bg d=true):l8 (ie d)/\nC (leaves (ie d)):=by
 have hl:(ie d).length=d.length+1:=Oh d _;have hd:=hp.1;refine⟨⟨w!,λb hb=>?_⟩,⟨?_,?_⟩⟩
 . simp [ie,iV,T?,f?] at hb;obtain⟨i,hi,rfl⟩:=hb;rcases Hc h (k:=i) with hk|hk
   . grind[EW,l9]
   omega
 . rw [eA];intro x hx;simp [leaves,T?] at hx;obtain⟨b,_,rfl⟩:=hx;rfl
 grind[leaves,List.length_map]
theorem He {d:M cr}{t:B8}:∀k,-1<=ek d t k/\ek d t k<k
 |0=>by grind[ek]
 |k+1=>by
  have:=He (d:=d) (t:=t) k;grind[ek]
theorem Ô{k:Nat}(h:Ll (fY d k) t=true):(k:Int)=ek d t (k+1):=by
 simp_all[ek,M!]
theorem Õ{k:Nat}(h:Ll (fY d k) t=false):ek d t k=ek d t (k+1):=by
 simp_all[ek,J!]
theorem aqt(docs:O):BJ docs 0:=⟨z!,U! _⟩
theorem Ö {docs:O}{k:Nat}(h:BJ docs k)(hk:(k:Int)<docs.length)(hl:((docs.getD k []).length:Int)<=2000):BJ docs (k+1):=by
 refine⟨λb hb=>?_,w!⟩;rw [aD docs k [] w!] at hb;rcases F!.1 hb with hb|hb
 . exact h.1 b hb
 grind
theorem ag7 {docs:O}{k:Nat}(hk:(k:Int)<docs.length)(hl:2000<((docs.getD k []).length:Int)):false=eZ docs s1 s2:=by
 have :docs.all (λb=>decide ((b.length:Int)<=2000))=false:=by
  grind
 simp [eZ,this,Bool.false_and]
theorem ag8{k:Nat}(h:BJ docs k)(hk:¬(k:Int)<docs.length):docs.all (λb=>decide ((b.length:Int)<=2000))=true:=by
 have h1:=h.1;grind[List.take_of_length_le]
theorem Xr:∀(a b:B8),Ll b a= !Op.bytesLess a b
 |[],[]=>rfl
 |[],b::y=>by rfl
 |a::x,[]=>by rfl
 |a::x,b::y=>by
  have ih:=Xr x y;simp [Ll] at ih;simp [Ll,Op.bytesLess];grind
theorem aqu(h:bg d=true){k:Nat}(hk:k<=d.length):
  fW (bif decide ((k:Int)<(d.length:Int)) then bif decide (0<(k:Int)) then(List.getD d (Int.toNat ((k:Int)-1)) ([],[])).1 else [] else bif decide (0<(k:Int)) then(List.getD d (Int.toNat ((k:Int)-1)) ([],[])).1 else [])
   (bif decide ((k:Int)<(d.length:Int)) then(List.getD d (Int.toNat (k:Int)) ([],[])).1 else bif decide (0<(k:Int)) then [] else [])
   (aNO (bif decide (0<(k:Int)) then(List.getD d (Int.toNat ((k:Int)-1)) ([],[])).2 else []))=l9 d k:=by
 rw [<-aqs h hk];have e1:Int.toNat ((k:Int)-1)=k-1:=by omega
 rw [e1,X!];by_cases h0:k=0
 . grind[fY,jS,List.eq_nil_of_length_eq_zero]
 . have h2:(0:Int)<(k:Int):=by omega
   by_cases h1:k<d.length
   . have h3:(k:Int)<(d.length:Int):=by omega
     simp only [K? h2,K? h3,J! h0,M! h1,L!];rfl
   . have h3:¬(k:Int)<(d.length:Int):=by omega
     simp only [K? h2,Y? h3,J! h0,J! h1,L!,O!];rfl
theorem akQ(h:bg d=true):ek d t d.length=bt d t:=by simp_all[bt,Q?]
theorem Hf(h:dE d=0):bg d=true:=by
 grind[bg,dE,absurd]
theorem aGP(h:¬dE d=0):bg d=false:=by
 grind[bg,absurd,dE]
theorem Kv {l:B8}(h1:l.length<=1000)(h2:s.length<=1000):oV l s:=⟨w!,w!⟩
theorem IY:(text s).length<=s.length+9:=by
 grind[cX,text,List.length_append]
theorem wc(a b c:B8):fU a b c=true↔a.length<=64/\b.length<=64/\c.length=32:=by
 simp [fU,B!,H!];omega
theorem Ø {a b c:B8}(h:64<(a.length:Int)\/64<(b.length:Int)\/¬(c.length:Int)=32):fU a b c=false:=by
 grind[wc]
theorem BN {a b c:B8}(h:¬64<(a.length:Int)/\¬64<(b.length:Int)/\(c.length:Int)=32):fU a b c=true:=(wc a b c).2 w!
theorem Sd(h:bg d=false): -1=bt d t/\false=k9 d t:=by
 grind[bt,k9]
theorem aqv(d:M cr)(t:B8)(x:Nat):(bif Op.bytesLess (List.getD d (Int.toNat (x:Int)) ([],[])).1 t || decide ((List.getD d (Int.toNat (x:Int)) ([],[])).1=t) then(x:Int) else ek d t x)=ek d t (x+1):=by
 grind[Int.toNat_natCast,Ll,fY,ek,Ô,Õ]
theorem akR(h:bg d=true):(bif decide (0<=ek d t d.length) then decide ((List.getD d (Int.toNat (ek d t d.length)) ([],[])).1=t) else false)=k9 d t:=by
 simp [k9,bt,h,Q?];cases decide (0<=ek d t d.length)<;>rfl
theorem xg(b:B8)(m:Int)(h:(aq b m).2.2=0):0<=(aq b m).2.1/\(aq b m).2.1<=b.length:=by
 grind[first,aq]
theorem LN(h:k9 d t=true):0<=bt d t/\bt d t<(d.length:Int)/\(List.getD d (Int.toNat (bt d t)) ([],[])).2=qz d t:=by
 have h1:=h;simp [k9,Bool.and_eq_true,decide_eq_true_eq] at h1;refine⟨h1.1,?_,by simp [qz,h,if_true];rfl⟩;unfold bt;split
 . simp_all[He]
 omega
def xh(docs:O)(a:Int)(k:Nat):O:=(List.range k).flatMap λ(i:Nat)=>sorted (bM (docs.getD (a+i).toNat []))
def dS(docs:O)(a:Int)(t:B8)(k:Nat):U:=((List.range k).filter λ(i:Nat)=>BK (docs.getD (a+i).toNat []) t).map λ(i:Nat)=>a+i
def dA(docs:O)(a b:Int):O:=sorted (xh docs a (b-a).toNat)
def CX(docs:O)(a b:Int)(k:Nat):M cr:=((dA docs a b).take k).map λt=>(t,dS docs a t (b-a).toNat)
def make(docs:O)(a b:Int):M cr:=(dA docs a b).map λt=>(t,dS docs a t (b-a).toNat)
def oY(docs:O)(a b:Int):Prop:=0<=a/\a<=b/\b<=docs.length/\docs.length<=1000/\∀d∈docs,d.length<=4000
theorem Se:∀(f:Nat) (l:O),(zm f l).length<=l.length
 |0,l=>by simp [zm]
 |f+1,l=>by
  simp only [zm];split
  . simp
  . rename_i h;have h0:0<l.length:=by cases l;simp at h;simp
    have:=Se f (l.filter (λx=>!decide (x=l.getD (nB l) [])));have:=zn h0;rw [O?];omega
theorem rG(l:O):(sorted l).length<=l.length:=Se _ l
variable {a:Int}{l:List B8}
theorem akS{b:Int}(hp:oY docs a b)(i:Nat):(docs.getD i []).length<=4000:=by
 by_cases h:i<docs.length
 . exact hp.2.2.2.2 _ (bC docs i [] h)
 grind
theorem Kw(docs:O)(a:Int)(k:Nat):xh docs a k++sorted (bM (docs.getD (Int.toNat (a+(k:Int))) []))=xh docs a (k+1):=by
 grind[xh,List.range_succ]
theorem Xs{b:Int}(hp:oY docs a b)(i:Nat):(sorted (bM (docs.getD i []))).length<=4000:=by
 grind[akS,N2,rG]
theorem Kx {docs:O}{a:Int}{k:Nat}(h:BK (docs.getD (Int.toNat (a+(k:Int))) []) t=true):dS docs a t k++[a+(k:Int)]=dS docs a t (k+1):=by
 simp only [dS,List.range_succ,List.filter_append,l?,List.filter_cons,h,Q?,List.filter_nil,G?,List.map_nil]
theorem Oi {docs:O}{a:Int}{k:Nat}(h:BK (docs.getD (Int.toNat (a+(k:Int))) []) t=false):dS docs a t k=dS docs a t (k+1):=by
 grind[dS,List.range_succ]
theorem Xt(docs:O)(a:Int)(t:B8)(k:Nat):(dS docs a t k).length<=k:=by
 grind[dS,List.length_map,List.length_filter_le,BK,List.range,List.length_range]
theorem Uq {docs:O}{a b:Int}{k:Nat}(hk:k<(dA docs a b).length)(hj:j=(b-a).toNat)(ht:(dA docs a b).getD k []=t):CX docs a b k++[(t,dS docs a t j)]=CX docs a b (k+1):=by
 grind[CX,aD,dA]
theorem Xu{b:Int}{k:Nat}(h:¬k<(dA docs a b).length):CX docs a b k=make docs a b:=by
 grind[CX,make,List.take_of_length_le]
theorem Oj(h0:0<=a)(h1:a<=b.length):inside b a=true:=by
 grind[inside]
theorem BO(h:e≠0):bX b a e=e:=by
 grind[bX]
theorem zr(h0:0<=a)(h1:a<=b.length):bX b a 0=0:=by
 grind[bX,Oj]
theorem tO(h:e≠0):done b a e=e:=by simp_all[done,M!]
theorem Xv(h0:0<=a)(h1:a<=b.length):done b a 0=if a<b.length then 2 else 0:=by
 simp_all[done,J!,Oj]
theorem Ù(b:B8):(first b).2.2=0->0<=(first b).1/\0<=(first b).2.1:=by
 grind[first]
theorem uK{m:Int}(h0:0<=p)(h1:p<=b.length):
  di b p m=((aq (b.drop p.toNat) m).1,(if(aq (b.drop p.toNat) m).2.2=0 then p+(aq (b.drop p.toNat) m).2.1 else 0),(aq (b.drop p.toNat) m).2.2):=by
 have hl:((b.drop p.toNat).length:Int)=b.length-p:=by grind
 have hb:=Ù (b.drop p.toNat);have g1:(aO b p).1=(first (b.drop p.toNat)).1:=rfl;have g3:(aO b p).2.2=(first (b.drop p.toNat)).2.2:=rfl;by_cases he:(first (b.drop p.toNat)).2.2=0
 . have g2:(aO b p).2.1=p+(first (b.drop p.toNat)).2.1:=M! he;have fb:=hb he
   have F:aq (b.drop p.toNat) m=if m<(first (b.drop p.toNat)).1 then([],0,2) else if(b.length:Int)-(p+(first (b.drop p.toNat)).2.1)<(first (b.drop p.toNat)).1 then([],0,4) else(((b.drop p.toNat).drop (first (b.drop p.toNat)).2.1.toNat).take (first (b.drop p.toNat)).1.toNat,(first (b.drop p.toNat)).2.1+(first (b.drop p.toNat)).1,0):=by
    unfold aq;rw [if_neg (by simp [he]),hl];by_cases h2:m<(first (b.drop p.toNat)).1
    . rw [M! h2,M! h2]
    . rw [J! h2,J! h2];by_cases h3:(b.length:Int)-(p+(first (b.drop p.toNat)).2.1)<(first (b.drop p.toNat)).1
      . rw [M! h3,M! w!]
      . rw [J! h3,J! w!]
   rw [F];unfold di;rw [g3,g1,g2,if_neg (by simp [he])];by_cases h2:m<(first (b.drop p.toNat)).1
   . simp only [M! h2];rfl
   . simp only [J! h2];by_cases h3:(b.length:Int)-(p+(first (b.drop p.toNat)).2.1)<(first (b.drop p.toNat)).1
     . simp only [M! h3];rfl
     . simp only [J! h3,Q?];have a1:(p+(first (b.drop p.toNat)).2.1).toNat=p.toNat+(first (b.drop p.toNat)).2.1.toNat:=by omega
       have a2:(p+(first (b.drop p.toNat)).2.1+(first (b.drop p.toNat)).1).toNat-(p.toNat+(first (b.drop p.toNat)).2.1.toNat)=(first (b.drop p.toNat)).1.toNat:=by omega
       have a3:p+(first (b.drop p.toNat)).2.1+(first (b.drop p.toNat)).1=p+((first (b.drop p.toNat)).2.1+(first (b.drop p.toNat)).1):=by omega
       rw [b?,a1,List.drop_take,a2,a3]
 simp_all[aq,first,M!,di,J!]
theorem ag9(b:B8):bj b=EV b:=by
 have hl:(0:Int)<=b.length:=by omega
 have s0:bX b 0 0=0:=zr w! hl;have g0:=uK (b:=b) (p:=0) (m:=64) w! hl;rw [show(0:Int).toNat=0 by rfl,List.drop_zero] at g0
 have r1:Ó b=if(aq b 64).2.2≠0 then((b,0,(aq b 64).2.2),[]) else((b,(aq b 64).2.1,0),(aq b 64).1):=by
  simp_all[Ó,an,J!,aq]
 unfold bj EV;by_cases e1:(aq b 64).2.2=0
 . rw [J! w!] at r1;have b1:=xg b 64 e1;have s1:bX b (aq b 64).2.1 0=0:=zr b1.1 b1.2;have g1:=uK (b:=b) (p:=(aq b 64).2.1) (m:=64) b1.1 b1.2;generalize hn:(aq b 64).2.1=n1 at *;generalize hf:aq (b.drop n1.toNat) 64=f2 at *
   have r2:Up b=if f2.2.2≠0 then((b,n1,f2.2.2),[]) else((b,n1+f2.2.1,0),f2.1):=by
    simp_all[Up,an,J!]
   by_cases e2:f2.2.2=0
   . rw [if_neg w!] at r2;have b2:=xg (b.drop n1.toNat) 64 x!;rw [hf,List.length_drop] at b2;have s2:bX b (n1+f2.2.1) 0=0:=zr w! w!;have hdl:((b.drop (n1+f2.2.1).toNat).length:Int)=b.length-(n1+f2.2.1):=by grind
     have r3:uI b=if(b.length:Int)-(n1+f2.2.1)<32 then((b,n1+f2.2.1,4),[]) else((b,n1+f2.2.1+32,0),(b.drop (n1+f2.2.1).toNat).take 32):=by
      simp_all[uI,ar,J!]
     by_cases h4:(b.length:Int)-(n1+f2.2.1)<32
     . simp_all[M!,tO,ne_eq,not_true_eq_false,n?,Q?]
     . rw [if_neg h4] at r3;grind[Xv]
   . rw [M! e2] at r2
     have r3:uI b=((b,n1,f2.2.2),[]):=by
      simp_all[uI,ar,BO,M!]
     simp_all[tO,ne_eq,not_true_eq_false,not_false_eq_true,n?,Q?]
 . rw [M! e1] at r1
   have r2:Up b=((b,0,(aq b 64).2.2),[]):=by
    simp_all[Up,an,BO,M!]
   have r3:uI b=((b,0,(aq b 64).2.2),[]):=by
    simp_all[uI,ar,BO,M!]
   simp_all[tO,ne_eq,not_false_eq_true,n?,Q?]
theorem yf(b t:B8):BK b t=true↔t∈bM b:=by
 unfold BK;rw [decide_eq_true_iff];simp only [places,RZ,List.length_map];constructor
 . intro h;have h1:0<((List.range (bM b).length).filter (λi=>decide ((bM b).getD i []=t))).length:=by omega
   obtain⟨i,hi⟩:=List.exists_mem_of_length_pos h1;grind
 . intro h;obtain⟨i,hi,he⟩:=j? h
   have :i∈(List.range (bM b).length).filter (λi=>decide ((bM b).getD i []=t)):=by
    grind
   grind
def gB(docs:O)(a:Int)(k:Nat):O:=sorted (bM (docs.getD (a+(k:Int)).toNat []))
def Aj(docs:O)(a:Int)(k j:Nat)(s:B8):U:=dS docs a s k++if s∈(gB docs a k).take j then [a+(k:Int)] else []
theorem aAO(docs:O)(a:Int)(s:B8):Aj docs a 0 0 s=[]:=by rfl
theorem Ky(h:uG l):l.Nodup:=h.imp λ{a b} lQ fh=>by
 grind[eS]
theorem BP(hj:j<l.length)(s:B8):s∈l.take (j+1)↔s∈l.take j\/s=l.getD j []:=by
 grind[List.take_add_one,List.getElem?_eq_getElem]
theorem Xw(h:l.Nodup)(hj:j<l.length):l.getD j []∉l.take j:=by
 grind[List.getElem?_eq_getElem,List.getElem_of_mem,List.length_take,List.pairwise_iff_getElem]
theorem akT{k:Nat}(hj:j<(gB docs a k).length):Aj docs a k (j+1) ((gB docs a k).getD j [])=Aj docs a k j ((gB docs a k).getD j [])++[a+(k:Int)]:=by
 have h1:(gB docs a k).getD j []∉(gB docs a k).take j:=Xw (Ky (l7 (bM (docs.getD (a+(k:Int)).toNat [])))) hj;have h2:=(BP hj ((gB docs a k).getD j [])).2 (.inr rfl);simp_all[Aj,M!,J!,H?]
theorem aha {docs:O}{a:Int}{k:Nat}(hj:j<(gB docs a k).length)(hs:s≠(gB docs a k).getD j []):Aj docs a k (j+1) s=Aj docs a k j s:=by
 simp_all[Aj,gB,M!,BP,J!]
theorem ahb {docs:O}{a:Int}{k:Nat}(hj:¬j<(gB docs a k).length)(s:B8):Aj docs a k j s=Aj docs a (k+1) 0 s:=by
 simp [Aj,List.take_zero,List.not_mem_nil,n?,H?];rw [t? w!];by_cases h:s∈gB docs a k
 . rw [M! h];exact Kx ((yf _ _).2 ((jk _ _).1 h))
 . rw [J! h,H?];refine Oi ?_;cases hh:BK (docs.getD (Int.toNat (a+(k:Int))) []) s with
   |false=>rfl
   |true=>exact absurd ((jk _ _).2 ((yf _ _).1 hh)) h
theorem akU(docs:O)(a:Int)(k j:Nat)(s:B8):(Aj docs a k j s).length<=k+1:=by
 grind[Xt,Aj,List.length_append]
theorem EX(docs:O)(a:Int)(x:B8):∀k,x∈xh docs a k↔dS docs a x k≠ []
 |0=>by simp [xh,dS]
 |k+1=>by
  rw [<-Kw,F!,EX docs a x k,jk,<-yf];cases h:BK (docs.getD (Int.toNat (a+(k:Int))) []) x with
  |true=>rw [<-Kx h];simp
  |false=>grind[Oi]
def lD(docs:O)(a b:Int):M cr×Int:=if eZ docs a b then(make docs a b,0) else([],1)
abbrev Sg:=Int×Int×Int×B8
def jO(a b:Int):Bool:=decide (0<=a)&&(decide (a<b)&&decide (b<=1000))
def Ol(d:M cr)(a b:Int)(i:Nat):Bool:=decide (((Oc (jS d i) a b).length:Int)=((jS d i).length:Int))
def amC(a b:Int)(d:M cr):Bool:=(jO a b&&bg d)&&(List.range d.length).all (Ol d a b)
def we(a b:Int)(d:M cr)(k:Nat):Prop:=jO a b=true/\bg d=true/\(∀i,i<k->Ol d a b i=true)/\k<=d.length
def sJ(a b:Int)(d:M cr):(Int×Int×Int×B8)×Int:=if amC a b d then((a,b,(d.length:Int)+1,tA d),0) else((0,0,0,[]),1)
def rOf(a b:Int)(d:M cr):Int×Int×Int×B8:=(a,b,((ie d).length:Int),tA d)
def jH(a b n:Int)(r:B8):Bool:=jO a b&&(decide (1<=n)&&(decide (n<=1099511627776)&&decide ((r.length:Int)=32)))
def jI(docs:O)(a b:Int):Bool:=eZ docs a b&&decide (a<b)
def sg(l:M Sg)(i:Nat):Sg:=l.getD i (0,0,0,[])
def oZ(l:M Sg)(i:Nat):Bool:=jH (sg l i).1 (sg l i).2.1 (sg l i).2.2.1 (sg l i).2.2.2&& !(decide (0<i)&& !decide ((sg l i).1=(sg l (i-1)).2.1))
def kW(l:M Sg)(n:Int):Bool:=
 if l.length=0 then decide (n=0)
 else(List.range l.length).all (oZ l)&&(decide ((l.length:Int)<=64)&&(decide ((sg l 0).1=0)&&decide ((sg l (l.length-1)).2.1=n)))
def wg(l:M Sg)(k:Nat):Prop:=(∀i,i<k->oZ l i=true)/\k<=l.length/\l.length≠0
variable {b:Int}{p:List B8}
theorem aqw {l:U}(h:bK l=true)(h0:l.length≠0):(Oc l a b).length=l.length↔a<=l.getD 0 0/\l.getD (l.length-1) 0<b:=by
 have hs:∀n,n<l.length->∀i,i<=n->l.getD i 0<=l.getD n 0:=by
  intro n;induction n with
  |zero=>grind
  |succ n ih=>
   intro hn i hi;by_cases e:i=n+1
   . grind
   grind[jG,kL,lM]
 simp only [Oc,vv,h,Q?];rw [List.length_filter_eq_length_iff];constructor
 . intro kU;have h1:=kU _ (bC l 0 0 w!);have h2:=kU _ (bC l (l.length-1) 0 w!);simp_all[xf,B!,H!]
 . rintro⟨h1,h2⟩ x hx;obtain⟨i,hi,rfl⟩:=List.mem_iff_getElem.1 hx;have e:l[i]=l.getD i 0:=by grind
   have q1:=hs i hi 0 (U! _);have q2:=hs (l.length-1) w! i w!;simp [xf,B!,H!];omega
theorem aAQ(h1:jO a b=true)(h2:bg d=true):we a b d 0:=⟨h1,h2,λi hi=>by omega,U! _⟩
theorem ahc{k:Nat}(h:we a b d k)(hk:(k:Int)<d.length)(he:Ol d a b k=true):we a b d (k+1):=by
 refine⟨h.1,h.2.1,λi hi=>?_,w!⟩;by_cases e:i=k
 . grind
 . exact h.2.2.1 i w!
theorem akV{k:Nat}(hk:(k:Int)<d.length)(he:Ol d a b k=false):false=amC a b d:=by
 grind[amC]
theorem akW{k:Nat}(h:we a b d k)(hk:¬(k:Int)<d.length):true=amC a b d:=by
 simp [amC,h.1,h.2.1,Bool.true_and,Z!,f?];intro i hi;exact h.2.2.1 i w!
theorem aqx(h:jO a b=false\/bg d=false):false=amC a b d:=by
 rcases h with h|h<;>simp [amC,h,Bool.false_and,Bool.and_false]
theorem ahd(h:amC a b d=true):bg d=true:=by
 simp_all[amC,B!]
theorem ahe{k:Nat}(h:bg d=true)(hk:(k:Int)<d.length):0<(jS d k).length/\(jS d k).length<=1000:=by
 have hq:=(uJ d k).1 ((zq d).1 h k w!);grind[ou]
theorem aAR {l:M Sg}(h:¬(l.length:Int)=0):wg l 0:=⟨λi hi=>by omega,U! _,w!⟩
variable {l:List Sg}
theorem ahf{k:Nat}(h:wg l k)(hk:(k:Int)<l.length)(he:oZ l k=true):wg l (k+1):=by
 refine⟨λi hi=>?_,w!,h.2.2⟩;by_cases e:i=k
 . grind
 . exact h.1 i w!
theorem akX{k:Nat}(hk:(k:Int)<l.length)(he:oZ l k=false):false=kW l n:=by
 grind[kW]
theorem akY{k:Nat}(h:wg l k)(hk:¬(k:Int)<l.length):(bif decide ((l.length:Int)<=64) then bif decide ((List.getD l (Int.toNat 0) (0,0,0,[])).1=0) then decide ((List.getD l (Int.toNat ((l.length:Int)-1)) (0,0,0,[])).2.1=n) else false else false)=kW l n:=by
 have kU:(List.range l.length).all (oZ l)=true:=by
  rw [Z!];intro i hi;rw [f?] at hi;exact h.1 i w!
 simp only [kW,kU,Bool.true_and,J! h.2.2,uD];rw [show Int.toNat ((l.length:Int)-1)=l.length-1 by omega];rfl
theorem ahg {l:M Sg}{k:Nat}(h:jH (sg l k).1 (sg l k).2.1 (sg l k).2.2.1 (sg l k).2.2.2=false\/(0<(k:Int)/\¬(sg l k).1=(sg l (k-1)).2.1)):oZ l k=false:=by
 rcases h with h|⟨h1,h2⟩
 . simp_all[oZ,Bool.false_and]
 simp_all[oZ,Y?,K?,Bool.not_false,Bool.and_self,Bool.not_true,Bool.and_false]
theorem akZ {l:M Sg}{k:Nat}(h:jH (sg l k).1 (sg l k).2.1 (sg l k).2.2.1 (sg l k).2.2.2=true)(h2:¬0<(k:Int)\/(sg l k).1=(sg l (k-1)).2.1):oZ l k=true:=by
 rcases h2 with h2|h2
 . simp_all[oZ,Bool.true_and,Y?,Bool.false_and,Bool.not_false]
 simp_all[oZ,Bool.true_and,K?,Bool.not_true,Bool.and_false,Bool.not_false]
theorem Ú(h:amC a b d=false):sJ a b d=((0,0,0,[]),1):=by grind[sJ]
theorem Kz(h:amC a b d=true):sJ a b d=((a,b,(d.length:Int)+1,tA d),0)/\dE d=0/\BI d=tA d:=by
 have hd:=ahd h;simp_all[sJ,Q?,dE,BI]
def cm(docs:O)(a b:Int):(Int×Int×M cr)×Int:=if jI docs a b then((a,b,make docs a b),0) else((0,0,[]),1)
def rowAt(l:M Sg)(k:Nat):Int:=if k=0 then 0 else(sg l (k-1)).2.1
def xT(l:M Sg)(k:Nat):Prop:=(∀i,i<k->oZ l i=true)/\k<=l.length/\l.length<=64/\(0<k->(sg l 0).1=0)
theorem KA {d:O}(h:i<=m.length):(m.take i++r++d).take i=m.take i:=by
 grind
theorem Ur {b:B8}(h:small b):small (bM b):=by
 grind[N2,small]
theorem Us {l:O}(h:small l):small (fm l):=by
 grind[small,fm,List.length_mergeSort]
theorem Xx(a b:Bool):(Bool.rec false b a:Bool)=(a&&b):=by cases a<;>rfl
theorem ak0(h:¬(lD docs a b).2=0):cm docs a b=((0,0,[]),1)/\(lD docs a b).2=1:=by
 unfold lD at *;by_cases hf:eZ docs a b=true
 . grind
 . grind[cm,jI,eZ]
theorem ak1(h:(lD docs a b).2=0):eZ docs a b=true/\lD docs a b=(make docs a b,0):=by
 grind[lD]
theorem ak2(h:a=b):cm docs a b=((0,0,[]),1):=by
 grind[cm,jI]
theorem ak3 {docs:O}{a b:Int}(h:(lD docs a b).2=0)(fh:¬a=b):cm docs a b=((a,b,(lD docs a b).1),0):=by
 obtain⟨h1,h2⟩:=ak1 h;unfold cm jI
 have hp:a<=b:=by
  simp_all[eZ,B!,H!]
 grind
def apI(l:M Sg)(k:Nat):Bool:=decide ((sg l k).1=rowAt l k)&&jH (sg l k).1 (sg l k).2.1 (sg l k).2.2.1 (sg l k).2.2.2
theorem ak4(h:(64:Int)<l.length):false=kW l n:=by
 grind[kW]
theorem aqy(h:¬(64:Int)<l.length):xT l 0:=⟨λi hi=>by omega,U! _,w!,λh=>by omega⟩
theorem Om(l:M Sg):rowAt l 0=0:=rfl
theorem Xy(l:M Sg)(k:Nat):rowAt l (k+1)=(sg l k).2.1:=by rfl
theorem Sf{k:Nat}(h:0<k):oZ l k=apI l k:=by
 grind[oZ,apI,rowAt]
theorem On:oZ l 0=jH (sg l 0).1 (sg l 0).2.1 (sg l 0).2.2.1 (sg l 0).2.2.2:=by simp [oZ]
theorem ahh{k:Nat}(hc:xT l k)(hk:(k:Int)<l.length)(h:apI l k=false):false=kW l n:=by
 unfold kW;by_cases h0:k=0
 . subst h0;unfold apI at h;rw [Om] at h;by_cases h1:(sg l 0).1=0
   . have :(List.range l.length).all (oZ l)=false:=by
      rw [List.all_eq_false];exact⟨0,x!,by grind[On]⟩
     grind
   grind
 . have :(List.range l.length).all (oZ l)=false:=by
    rw [List.all_eq_false];exact⟨k,x!,by grind[Sf]⟩
   grind
theorem Û{k:Nat}(hc:xT l k)(hk:(k:Int)<l.length)(h:apI l k=true):xT l (k+1):=by
 refine⟨λi hi=>?_,w!,hc.2.2.1,λ_=>?_⟩
 . by_cases e:i=k
   . by_cases h0:i=0
     . unfold apI at h;grind[On]
     grind[Sf]
   . exact hc.1 i w!
 . by_cases h0:k=0
   . subst h0;unfold apI at h;rw [Bool.and_eq_true,decide_eq_true_eq] at h;exact h.1
   . exact hc.2.2.2 w!
theorem ahi{k:Nat}(hc:xT l k)(hk:¬(k:Int)<l.length):decide (rowAt l k=n)=kW l n:=by
 obtain⟨h1,h2,h3,h4⟩:=hc;have IZ:k=l.length:=by omega
 subst IZ;unfold kW;by_cases h0:l.length=0
 . rw [M! h0,h0,Om,decide_eq_decide];omega
 . have e2:decide ((l.length:Int)<=64)=true:=K? w!;have e3:decide ((sg l 0).1=0)=true:=K? (h4 w!);simp_all[Bool.true_and,rowAt,J!]
theorem aqz(h:k9 d t=false): []=qz d t:=by grind[qz]
theorem aqA(h:k9 d t=true):small (List.getD d (Int.toNat (bt d t)) ([],[])).2:=by
 obtain⟨h0,h1,_⟩:=LN h
 have hr:bg d=true:=by
  grind[bg,bt]
 have:=ahe (d:=d) (k:=Int.toNat (bt d t)) hr w!;grind[small,jS]
theorem Xz{k:Nat}(h:¬(sg l k).1=rowAt l k\/jH (sg l k).1 (sg l k).2.1 (sg l k).2.2.1 (sg l k).2.2.2=false):apI l k=false:=by
 grind[apI]
theorem Ü{k:Nat}(h:(sg l k).1=rowAt l k/\jH (sg l k).1 (sg l k).2.1 (sg l k).2.2.1 (sg l k).2.2.2=true):apI l k=true:=by
 grind[apI,decide_eq_true]
theorem uM{t:Int}(h:jI docs f t=true):oY docs f t:=by
 simp [jI,eZ,Bool.and_eq_true,List.all_eq_true,decide_eq_true_eq] at h;obtain⟨⟨h1,h2,h3,h4,h5⟩,h6⟩:=h;exact⟨h3,h4,h5,w!,λd hd=>by grind⟩
theorem aqB(h:amC a b d=true):sJ a b d=((a,b,(d.length:Int)+1,tA d),0):=by grind[sJ]
theorem CY(a b:Int)(d:M cr):rOf a b d=(a,b,(d.length:Int)+1,tA d):=by simp [rOf,ie,iV]
theorem tB(l:O):bQ (leaves l)=true:=by
 rw [eA];intro d hd;simp [leaves,T?] at hd;obtain⟨b,_,rfl⟩:=hd;rfl
theorem ak5(h:amC a b d=true)(hp:bn d):jH a b ((d.length:Int)+1) (tA d)=true:=by
 have hw:jO a b=true:=by
  simp_all[amC,B!]
 have hr:(tA d).length=32:=LL (tB (ie d));unfold jH;rw [hw,hr];have:=hp.1;grind
theorem LO:∀(l acc:U),∀W∈pV acc l,W≠ []
 |[],acc,W,hW=>by
   grind[pV]
 |x::l,acc,W,hW=>by
  simp [pV] at hW;split at hW
  . exact LO l _ W hW
  . split at hW
    . exact LO l _ W hW
    . rename_i h;rcases P!.1 hW with e|hW
      . subst e;intro e;rw [e] at h;exact h rfl
      . exact LO l _ W hW
theorem XA {b:B8}(h:t∈bM b):isTerm t=true:=by
 rw [<-agQ];simp [bM,T?] at h;obtain⟨W,hW,hs⟩:=h;have ay:=G6 (decode b) [] z! W hW;have fh:=LO (decode b) [] W hW
 have hrW:∀c∈W,cA (bT c)=true:=λc hc=>G5 (rZ b c (by
  grind))
 have hlen:t.length<=64:=by rw [<-hs];exact CU W [] z!
 obtain⟨p,hp,hpf,hpn⟩:∃p:U,(∀c∈p,c∈W)/\l6 [] W=p.flatMap (λc=>iU (bT c))/\p≠ []:=by
  cases W with
  |nil=>grind
  |cons c w=>
   obtain⟨p,h1,h2⟩:=BA w ([]++iU (bT c));have hl:(iU (bT c)).length<=4:=by grind[G8,By]
   refine⟨c::p,λx hx=>?_,?_,z!⟩
   . grind
   grind[l6,List.length_nil]
 have hr:∀c∈p,cA (bT c)=true:=λc hc=>hrW c (hp c hc)
 have Tc:t=(p.map bT).flatMap enc:=by
  rw [<-hs];show l6 [] W=_
  grind[List.flatMap_map,wa,G8]
 have hd:decode t=p.map bT:=by
  rw [Tc]
  exact Bz _ (λc hc=>by
   obtain⟨c',h',rfl⟩:=T?.1 hc;exact hr c' h')
 simp only [Ë,B!,H!,Z!,Ê,hd];refine⟨λc hc=>?_,?_,w!⟩
 . obtain⟨c',h',rfl⟩:=T?.1 hc;exact⟨Ks (ay c' (hp c' h')).1,G7 c'⟩
 . have:=List.length_pos_iff.2 hpn;simp;omega
theorem wh{k:Nat}{i:Int}:i∈dS docs a t k↔a<=i/\i<a+(k:Int)/\BK (docs.getD i.toNat []) t=true:=by
 simp [dS,T?,List.mem_filter,f?];constructor
 . grind
 . rintro⟨h1,h2,h3⟩;refine⟨(i-a).toNat,⟨w!,?_⟩,w!⟩;grind
theorem Ut(docs:O)(a:Int)(t:B8)(k:Nat):(dS docs a t k).Pairwise (· < ·):=by
 refine List.pairwise_map.2 ?_;refine List.Pairwise.filter _ ?_;exact(List.pairwise_lt_range (n:=k)).imp λ{x y} h=>by omega
theorem ahj {l:U}(h:l.Pairwise (· < ·))(hb:∀x∈l,0<=x/\x<1000):bK l=true:=by
 rw [kL];intro i hi;rw [jG];have hm:=hb _ (bC l i 0 hi);refine⟨?_,hm.2⟩;cases i with
 |zero=>simp only [gi,M!];omega
 |succ i=>
  rw [lM];have:=(List.pairwise_iff_getElem.1 h) i (i+1) w! hi w!;rw [G!,G!,D! hi,D! (show i<l.length by omega)];exact this
theorem CZ(docs:O)(a b:Int):(make docs a b).length=(dA docs a b).length:=by simp [make]
theorem Uu(h:i<(dA docs a b).length):fY (make docs a b) i=(dA docs a b).getD i []:=by
 unfold fY make;rw [List.getD_eq_getElem?_getD,List.getElem?_map,List.getElem?_eq_getElem h,List.getD_eq_getElem?_getD,List.getElem?_eq_getElem h];rfl
theorem Uv(h:i<(dA docs a b).length):jS (make docs a b) i=dS docs a ((dA docs a b).getD i []) (b-a).toNat:=by
 unfold jS make;rw [List.getD_eq_getElem?_getD,List.getElem?_map,List.getElem?_eq_getElem h,List.getD_eq_getElem?_getD,List.getElem?_eq_getElem h];rfl
theorem sw:t∈dA docs a b↔dS docs a t (b-a).toNat≠ []:=by
 grind[dA,jk,EX]
theorem BQ(hp:oY docs a b):bg (make docs a b)=true:=by
 rw [zq];intro i hi;rw [CZ] at hi;rw [uJ,Uu hi,Uv hi];have hm:=bC (dA docs a b) i [] hi;have fh:=sw.1 hm;have h1:=hp.1;have h3:=hp.2.2.1;have h4:=hp.2.2.2.1;refine⟨?_,?_,?_,?_⟩
 . by_cases h0:i=0
   . omega
   right;rw [Uu w!];have hi2:uG (dA docs a b):=l7 _;have:=(List.pairwise_iff_getElem.1 hi2) (i-1) i w! hi w!;rw [Xr,G!,G!,D! hi,D! (show i-1<(dA docs a b).length by omega)];simpa using this
 . grind
 . grind[ahj,Ut,wh]
 . obtain⟨x,hx⟩:=List.exists_mem_of_ne_nil _ fh;grind[wh,XA,yf]
theorem Ý(hp:oY docs a b)(hn:(dA docs a b).length<=1048576):bn (make docs a b):=by
 refine⟨by grind[CZ],λe he=>?_⟩;simp [make,List.mem_map] at he;obtain⟨t,ht,rfl⟩:=he;obtain⟨x,hx⟩:=List.exists_mem_of_ne_nil _ (sw.1 ht);grind[XA,yf,wh,BL]
theorem ak6(hp:oY docs a b)(lQ:a<b):amC a b (make docs a b)=true:=by
 have h1:=hp.1;have h2:=hp.2.2.1;have h3:=hp.2.2.2.1;unfold amC;rw [BQ hp]
 have hw:jO a b=true:=by
  unfold jO;simp;omega
 rw [hw,Bool.true_and,Bool.true_and,List.all_eq_true];intro i hi;rw [List.mem_range] at hi;have hr:=(uJ _ _).1 ((zq _).1 (BQ hp) i hi);unfold Ol;rw [decide_eq_true_eq];have h:=(aqw hr.2.2.1 hr.2.1 (a:=a) (b:=b)).2 ?_
 . omega
 . rw [CZ] at hi
   have hd:∀x∈jS (make docs a b) i,a<=x/\x<b:=λx hx=>by
    rw [Uv hi] at hx;have:=wh.1 hx;omega
   exact⟨(hd _ (bC _ 0 0 w!)).1,(hd _ (bC _ _ 0 w!)).2⟩
theorem Uw {n:Nat}(h:n<=64)(r:B8):first (num (n:Int)++r)=((n:Int),1,0):=by
 have e:num (n:Int)=[UInt8.ofNat n]:=G1 n w!;have hn:(UInt8.ofNat n).toNat=n:=by grind[UInt8.toNat_ofNat']
 have hl:lead (num (n:Int)++r)=0:=by
  grind[lead,List.singleton_append,List.takeWhile,decide,decide_eq_false]
 grind[first,dz,List.take,UInt8.ofNat]
theorem D5 {a:B8}(h:a.length<=64)(r:B8):aq (text a++r) 64=(a,1+(a.length:Int),0):=by
 have e:text a++r=num (a.length:Int)++(a++r):=by simp [text]
 have el:num (a.length:Int)=[UInt8.ofNat a.length]:=G1 _ w!;have hf:=Uw (n:=a.length) h (a++r);unfold aq;rw [e,hf,if_neg z!,if_neg w!,if_neg x!];simp [el]
theorem ak7 {a:B8}(h:a.length<=64):(text a).length=1+a.length:=by
 grind[num,UInt8.ofNat,G1,text]
theorem Þ {b:B8}(h:(first b).2.2=0):num (first b).1=b.take (first b).2.1.toNat/\(first b).2.1<=b.length:=by
 unfold first at h |-
 split at h
 . cases h
 . rename_i h1;split at h
   . cases h
   . rename_i h2;split at h
     . cases h
     . rename_i h3;rw [J! h1,J! h2,J! h3];have q:lead b<=b.length:=List.Sublist.length_le (List.takeWhile_sublist _);refine⟨?_,by simp;omega⟩;have :num (dz (b.take (lead b+1)))=b.take (lead b+1):=P? λe=>h3 (.inr e);congr 1
theorem ak8 {a b c:B8}(h:fU a b c=true):bj (qy a b c)=((a,b,c),0):=by
 simp [fU,B!,H!] at h;rw [ag9];have h1:=D5 (a:=a) w! (text b++c);have h2:=D5 (a:=b) w! c;have l1:=ak7 (a:=a) w!;have l2:=ak7 (a:=b) w!;have hB:qy a b c=text a++(text b++c):=by simp [qy]
 have d1:(text a++(text b++c)).drop (1+(a.length:Int)).toNat=text b++c:=by
  rw [show(1+(a.length:Int)).toNat=(text a).length by omega];simp
 have d2:(text a++(text b++c)).drop (1+(a.length:Int)+(1+(b.length:Int))).toNat=c:=by
  rw [show(1+(a.length:Int)+(1+(b.length:Int))).toNat=(text a).length+(text b).length by omega,<-b?];simp
 unfold EV;rw [hB,h1,if_neg z!];simp only [d1,h2,d2];rw [if_neg z!,if_neg w!,if_neg w!]
abbrev aY:=Int×Int×M cr
def ba(l:M aY)(i:Nat):aY:=l.getD i (0,0,[])
def dT(d:M cr):O:=d.map (·.1)
def wi(t:B8)(d:M cr):U:=(d.filter λe=>decide (e.1=t)).flatMap (·.2)
def uO(s:aY):Bool:=amC s.1 s.2.1 s.2.2
theorem Uz(d:M cr):(dT d).length=d.length:=by simp [dT]
theorem UA(d:M cr)(i:Nat):(dT d).getD i []=fY d i:=by
 grind[dT,fY]
theorem ahk {a b:B8}(h:Ll a b=false):Op.bytesLess b a=true:=by
 grind[Ll,Bool.or_eq_false_iff,decide_eq_false_iff_not,pd,absurd]
theorem BS(h:bg d=true):uG (dT d):=by
 have hs:∀n i,i<n->n<d.length->Op.bytesLess (fY d i) (fY d n)=true:=by
  intro n;induction n with
  |zero=>omega
  |succ n ih=>
   grind[uJ,zq,ahk,mz]
 unfold uG;grind[List.pairwise_iff_getElem,dT,fY,UA,List.getElem?_eq_getElem,Uz]
theorem zt(h:t∉dT d):wi t d=[]:=by
 have :d.filter (λe=>decide (e.1=t))=[]:=by
  rw [List.filter_eq_nil_iff];intro e he;simp;intro e2;exact h (by rw [<-e2];exact T?.2 ⟨e,he,rfl⟩)
 grind[wi]
theorem C0:∀ {d:M cr},uG (dT d)->∀ {i:Nat},i<d.length->wi (fY d i) d=jS d i
 |[],_,i,hi=>by rfl
 |e::d,h,0,_=>by
  have h1:=List.pairwise_cons.1 h;have hn:e.1∉dT d:=λhm=>by have:=h1.1 _ hm;grind[eS]
  have:=zt hn;grind[wi,fY,jS]
 |e::d,h,i+1,hi=>by
  have h1:=a?.1 h
  have hm:fY d i∈dT d:=by
   rw [<-UA,List.getD_eq_getElem?_getD,List.getElem?_eq_getElem (by grind[Uz])];grind
  have fh:¬e.1=fY d i:=λhe=>by have h5:=h1.1 _ hm;grind[eS]
  have ih:=C0 (d:=d) h1.2 (i:=i) x!;have e1:fY (e::d) (i+1)=fY d i:=rfl;have e2:jS (e::d) (i+1)=jS d i:=rfl;simp_all[wi,List.filter_cons,decide_eq_true_eq,if_neg]
variable {l x:List aY}
theorem I1(h:i<l.length):ba l i∈l:=bC l i _ h
theorem XB(h:bg d=true)(t:B8):(wi t d).length<=1000:=by
 by_cases hm:t∈dT d
 . obtain⟨i,hi,e⟩:=List.mem_iff_getElem.1 hm;have e2:fY d i=t:=by rw [<-UA,G!,D! hi];exact e
   grind[Uz,C0,BS,ou,ye]
 grind[zt]
abbrev Sp:=Int×Int
def ma(l:M Sp)(i:Nat):Sp:=l.getD i (0,0)
def lg(n:Int):Int:=(Nat.log2 n.toNat:Nat)
def aAS(a b:Int):Int:=if a<0\/b<0\/b<=a then -1 else lg (b-a)
def alc(l:M Sp)(i:Nat):Int:=aAS (ma l i).1 (ma l i).2
def I2(l:M Sp):Nat->Int×Bool
 |0=>(0,false)
 |k+1=>if alc l k<=alc l (k+1) then((k:Int),true) else I2 l k
def zu(l:M Sp):Int×Bool:=I2 l (l.length-1)
def Hg(l:M Sp)(i:Nat):M Sp:=l.take i++[((ma l i).1,(ma l (i+1)).2)]++l.drop (i+2)
def yg:Nat->M Sp->M Sp
 |0,l=>l
 |n+1,l=>if(zu l).2 then yg n (Hg l (zu l).1.toNat) else l
def yh(l:M Sp):M Sp:=yg l.length l
def fL(l:M aY):M Sp:=l.map λs=>(s.1,s.2.1)
def bF(docs:O)(l:M Sp):M aY:=l.map λs=>(s.1,s.2,make docs s.1 s.2)
def ig(l:M aY)(i:Nat):Int:=if i=0 then 0 else(ba l (i-1)).2.1
def nF(docs:O)(l:M aY)(i:Nat):Bool:=
 decide ((ba l i).1=ig l i)&&(jI docs (ba l i).1 (ba l i).2.1&&decide ((ba l i).2.2=make docs (ba l i).1 (ba l i).2.1))
def bG(docs:O)(l:M aY):Bool:=eZ docs 0 0&&(decide ((l.length:Int)<=64)&&(List.range l.length).all (nF docs l))
def ao(docs:O)(l:M aY):O×M aY:=if bG docs l then(docs,l) else([],[])
def cO(l:M aY):Int:=ig l l.length
def mc(docs:O)(l:M aY):Int:=cO (ao docs l).2
def cP(docs:O)(l:M aY)(doc:B8):(O×M aY)×Int:=
 if(2000:Int)<doc.length then(ao docs l,1)
 else if(1000:Int)<=(ao docs l).1.length then(ao docs l,3)
 else(((ao docs l).1++[doc],(ao docs l).2),0)
def bY(docs:O)(l:M aY):(O×M aY)×Int:=
 if mc docs l=(ao docs l).1.length then(ao docs l,5)
 else if(64:Int)<=(ao docs l).2.length then(ao docs l,3)
 else(((ao docs l).1,(ao docs l).2++[(mc docs l,((ao docs l).1.length:Int),make (ao docs l).1 (mc docs l) (ao docs l).1.length)]),0)
def Oo(l:M aY)(i m:Nat)(s:aY):M aY:=l.take i++[s]++l.drop (i+m)
def D6(docs:O)(l:M aY)(i m:Nat):aY:=((ba l i).1,(ba l (i+m-1)).2.1,make docs (ba l i).1 (ba l (i+m-1)).2.1)
def Sh(l:M aY)(i m:Int):Bool:=decide (m<2) || (decide (i<0) || (decide ((l.length:Int)<m) || decide ((l.length:Int)-m<i)))
def C1(docs:O)(l:M aY)(i m:Int):(O×M aY)×Int:=
 if Sh (ao docs l).2 i m then(ao docs l,1)
 else(((ao docs l).1,Oo (ao docs l).2 i.toNat m.toNat (D6 (ao docs l).1 (ao docs l).2 i.toNat m.toNat)),0)
def yi(docs:O)(l:M aY):O×M aY:=((ao docs l).1,bF (ao docs l).1 (yh (fL (ao docs l).2)))
def Hh(s:aY):Sg:=rOf s.1 s.2.1 s.2.2
def cB(docs:O)(l:M aY):M Sg:=(ao docs l).2.map Hh
def BT(docs:O)(l:M aY)(k:Nat):Prop:=eZ docs 0 0=true/\l.length<=64/\(∀i,i<k->nF docs l i=true)/\k<=l.length
def fD(docs:O):Int->M Sp->Bool
 |_,[]=>true
 |a,s::r=>decide (s.1=a)&&(jI docs s.1 s.2&&fD docs s.2 r)
def e7:Int->M Sp->Int
 |a,[]=>a
 |_,s::r=>e7 s.2 r
theorem rH(docs:O):∀(a:Int) (l m:M Sp),fD docs a (l++m)=(fD docs a l&&fD docs (e7 a l) m)
 |a,[],m=>by rfl
 |a,s::r,m=>by simp [e?,fD,e7];rw [rH docs s.2 r m,Bool.and_assoc,Bool.and_assoc]
theorem nG:∀(a:Int) (l m:M Sp),e7 a (l++m)=e7 (e7 a l) m
 |_,[],_=>rfl
 |_,s::r,m=>by exact nG s.2 r m
theorem rI(h:jI docs a b=true):a<b/\0<=a/\b<=docs.length/\docs.length<=1000/\∀d∈docs,d.length<=2000:=by
 simp [jI,eZ,Bool.and_eq_true,List.all_eq_true,decide_eq_true_eq] at h;grind
theorem yj(h:eZ docs 0 0=true)(h1:0<=a)(h2:a<b)(h3:b<=docs.length):jI docs a b=true:=by
 simp [jI,eZ,Bool.and_eq_true,List.all_eq_true,decide_eq_true_eq] at h |-;grind
theorem ale(h:jI docs a b=true):eZ docs 0 0=true:=by
 simp_all[jI,eZ,B!,Z!,H!,Int.le_refl]
theorem Hi {docs:O}:∀ {l:M Sp} {a:Int},fD docs a l=true->a<=e7 a l/\(l≠ []->jI docs a (e7 a l)=true)/\(e7 a l<=docs.length\/l=[])
 |[],a,_=>⟨Int.le_refl _,λh=>absurd rfl h,.inr rfl⟩
 |s::r,a,h=>by
  simp [fD,Bool.and_eq_true,decide_eq_true_eq] at h;obtain⟨h1,h2,h3⟩:=h;have ih:=Hi h3;have h4:=rI h2;grind[e7,yj,ale]
theorem tP {docs:O}:∀ {l:M Sp} {a:Int},fD docs a l=true->∀s∈l,jI docs s.1 s.2=true
 |[],_,_,s,hs=>by grind
 |t::r,a,h,s,hs=>by
  simp [fD,B!,H!] at h;rcases P!.1 hs with rfl|hs
  . exact h.2.1
  . exact tP h.2.2 s hs
theorem Oq:∀(l:M aY),e7 0 (fL l)=cO l:=by
 intro l;unfold cO ig;by_cases h:l.length=0
 . have :l=[]:=V! h;subst this;rfl
 . obtain⟨m,s,rfl⟩:∃m s,l=m++[s]:=⟨l.dropLast,l.getLast x!,(List.dropLast_concat_getLast _).symm⟩
   have e:ba (m++[s]) ((m++[s]).length-1)=s:=by
    grind[ba,List.length_append,List.length_singleton,Nat.add_sub_cancel]
   rw [e];simp [fL,l?,G?,List.map_nil];rw [nG];rfl
theorem xi(docs:O)(l:M Sp):fL (bF docs l)=l:=by
 simp [fL,bF,List.map_map];have :((λ(s:aY)=>(s.1,s.2.1))∘λ(s:Sp)=>((s.1,s.2,make docs s.1 s.2):aY))=id:=by rfl
 simp_all
theorem wj(docs:O)(l m:M Sp):bF docs (l++m)=bF docs l++bF docs m:=by simp [bF]
theorem Ot(l m:M aY):fL (l++m)=fL l++fL m:=by simp [fL]
theorem uP(l:M aY):(fL l).length=l.length:=by simp [fL]
theorem lN(docs:O)(l:M Sp):(bF docs l).length=l.length:=by simp [bF]
theorem EY {m:M aY}(h:i<l.length):ba (l++m) i=ba l i:=by
 grind[ba,List.getElem?_append_left]
theorem ß(l:M aY)(s:aY):ba (l++[s]) l.length=s:=by
 simp_all[ba,G!,List.getElem?_append_right,S!,Nat.sub_self]
theorem XC {docs:O}:∀(n:Nat) (l:M aY),l.length=n->((∀i,i<l.length->nF docs l i=true)↔fD docs 0 (fL l)=true/\l=bF docs (fL l))
 |0,l,h=>by
  have :l=[]:=V! h;subst this;exact⟨λ_=>⟨rfl,rfl⟩,λ_ i hi=>by omega⟩
 |n+1,l,h=>by
  obtain⟨m,s,rfl⟩:∃m s,l=m++[s]:=⟨l.dropLast,l.getLast x!,(List.dropLast_concat_getLast _).symm⟩;have hm:m.length=n:=by grind
  have ih:=XC (docs:=docs) n m hm
  have e1:∀i,i<m.length->nF docs (m++[s]) i=nF docs m i:=λi hi=>by
   have h2:ig (m++[s]) i=ig m i:=by
    unfold ig;by_cases h0:i=0
    . omega
    . rw [J! h0,J! h0,EY w!]
   grind[nF,EY]
  have e2:ig (m++[s]) m.length=cO m:=by
   unfold cO ig;by_cases h0:m.length=0
   . omega
   . rw [J! h0,J! h0,EY w!]
  have e3:nF docs (m++[s]) m.length=true↔s.1=cO m/\jI docs s.1 s.2.1=true/\s.2.2=make docs s.1 s.2.1:=by
   grind[nF,ß]
  have e4:fD docs 0 (fL (m++[s]))=true↔fD docs 0 (fL m)=true/\s.1=cO m/\jI docs s.1 s.2.1=true:=by
   rw [Ot,rH,Oq,B!];simp_all[fL,G?,List.map_nil,fD,Bool.and_true,B!,H!]
  have e5:m++[s]=bF docs (fL (m++[s]))↔m=bF docs (fL m)/\s.2.2=make docs s.1 s.2.1:=by
   rw [Ot,wj];constructor
   . intro h;have h5:=List.append_inj h (by rw [lN,uP]);have h6:=h5.2;simp only [bF,fL,List.map_cons,List.map_nil,List.cons.injEq,and_true] at h6;grind
   . rintro⟨h5,h6⟩;congr 1
     simp only [bF,fL,List.map_cons,List.map_nil,List.cons.injEq,and_true];grind
  grind
theorem LP:bG docs l=true↔eZ docs 0 0=true/\l.length<=64/\fD docs 0 (fL l)=true/\l=bF docs (fL l):=by
 unfold bG;rw [Bool.and_eq_true,Bool.and_eq_true,decide_eq_true_eq,List.all_eq_true,<-XC (docs:=docs) l.length l rfl];grind
theorem abu:bG [] []=true:=by decide
theorem pR(docs:O)(l:M aY):bG (ao docs l).1 (ao docs l).2=true:=by
 unfold ao;by_cases h:bG docs l=true
 . grind
 simp_all[J!,abu]
theorem me(h:bG docs l=true):ao docs l=(docs,l):=by simp_all[ao,M!]
theorem aAT{l:M Sp}(h1:eZ docs 0 0=true)(h2:l.length<=64)(h3:fD docs 0 l=true):bG docs (bF docs l)=true:=
 LP.2 ⟨h1,by grind[lN],by grind[xi],by rw [xi]⟩
theorem I3:∀(l acc:U),2*(pV acc l).length<=l.length+1+(if acc.isEmpty then 0 else 1)
 |[],acc=>by grind[pV]
 |c::l,acc=>by
  simp [pV,O?];by_cases hc:l4 c=true
  . have:=I3 l (acc++[c]);grind
  . have:=I3 l [];grind
theorem XD(b:B8):2*(bM b).length<=b.length+1:=by
 have h:=I3 (decode b) [];grind[Bx,bM,List.length_map]
theorem Si {docs:O}(h:∀d∈docs,d.length<=2000)(a:Int):∀k,(xh docs a k).length<=1000*k
 |0=>by simp [xh]
 |k+1=>by
  rw [<-Kw,List.length_append];have:=Si h a k;have h2:=rG (bM (docs.getD (Int.toNat (a+(k:Int))) []));have h3:=XD (docs.getD (Int.toNat (a+(k:Int))) []);grind
theorem XE(h:jI docs a b=true):bn (make docs a b):=by
 have hg:=rI h;grind[Ý,uM,Si,rG,xh,dA]
variable {m S:List Sp}
theorem zv(h:fD docs a m=true)(hm:m≠ []):(ma m 0).1=a:=by
 cases m with
 |nil=>grind
 |cons s r=>
  simp [fD,B!,H!] at h;exact h.1
theorem Hk:∀(m:M Sp) (a:Int),m≠ []->e7 a m=(ma m (m.length-1)).2
 |[],_,h=>absurd rfl h
 |[s],a,_=>rfl
 |s::t::r,a,_=>by
  have:=Hk (t::r) s.2 z!;simp only [e7,O?,ma] at this |-;rw [this];rfl
theorem zw(docs:O)(m:M Sp)(i:Nat)(h:i<m.length):ba (bF docs m) i=((ma m i).1,(ma m i).2,make docs (ma m i).1 (ma m i).2):=by
 simp [ba,bF,ma,G!,B?,D! h,Option.map_some,Option.getD_some]
theorem EZ {docs:O}:∀ {m:M Sp} {a:Int},fD docs a m=true->∀i,i+1<m.length->(ma m (i+1)).1=(ma m i).2
 |[],_,_,i,hi=>by rfl
 |s::r,a,h,0,hi=>by
  simp [fD,Bool.and_eq_true,decide_eq_true_eq] at h;have :r≠ []:=by grind
  exact zv h.2.2 this
 |s::r,a,h,i+1,hi=>by
  simp [fD,Bool.and_eq_true,decide_eq_true_eq] at h;exact EZ h.2.2 i x!
theorem KB(h:fD docs a m=true):∀s∈bF docs m,uO s=true:=by
 intro s hs;simp only [bF,T?] at hs;obtain⟨p,hp,rfl⟩:=hs;have h1:=tP h p hp;exact ak6 (uM h1) (rI h1).1
abbrev QS:=O×M aY
abbrev rf:=Int×Int×Int×B8
def pA(docs:O)(l:M aY)(a b c:Int)(d:B8):QS×Int:=
 if a=0 then cP docs l d else if a=1 then bY docs l else if a=2 then C1 docs l b c else(yi docs l,0)
def uQ(l:M rf)(i:Nat):rf:=l.getD i (0,0,0,[])
def mW(x:QS)(l:M rf):Nat->QS
 |0=>x
 |k+1=>if(2500:Int)<(uQ l k).2.2.2.length then mW x l k else(pA (mW x l k).1 (mW x l k).2 (uQ l k).1 (uQ l k).2.1 (uQ l k).2.2.1 (uQ l k).2.2.2).1
def fq(l:M rf):QS:=mW ([],[]) l (min l.length 40)
structure RI (docs:List B8) (l:List aY) (S:List Sp):Prop where
 fair:eZ docs 0 0=true
 le:S.length<=64
 row:fD docs 0 S=true
 eq:l=bF docs S
theorem RI.right(h:RI docs l S):bG docs l=true:=by
 rw [h.eq];exact aAT h.fair h.le h.row
theorem RI.of(h:bG docs l=true):RI docs l (fL l):=by
 have:=LP.1 h;exact⟨this.1,by grind[uP],this.2.2.1,this.2.2.2⟩
theorem sx(docs:O)(l:M aY):RI (ao docs l).1 (ao docs l).2 (fL (ao docs l).2):=RI.of (pR docs l)
theorem RI.XG(h:RI docs l S):cO l=e7 0 S:=by
 rw [<-Oq,h.eq,xi]
theorem RI.bd(h:RI docs l S):0<=cO l/\cO l<=docs.length/\docs.length<=1000/\l.length=S.length:=by
 have h1:=Hi h.row;rw [h.XG]
 have h2:docs.length<=1000:=by
  have:=h.fair;simp [eZ,B!,H!] at this;omega
 refine⟨h1.1,?_,h2,by rw [h.eq,lN]⟩;grind[e7]
def gL(docs:O)(l:M aY):Nat:=(ao docs l).2.length
def sY(l:M aY)(i:Nat):Nat:=(ba l i).2.2.length
def gX(l:M α)(k:Nat):Prop:=k<=l.length
def I4(a b:U):Bool:=decide (a=b)
def Hn(a b:U)(k:Nat):Prop:=a.length=b.length/\a.take k=b.take k/\k<=a.length
def BV(x1:B8)(x2:U)(y1:B8)(y2:U):Bool:=decide (x1=y1)&&decide (x2=y2)
def Ow(docs:O)(l:M aY)(k:Nat):Prop:=docs.length<=1000/\l.length<=64/\BJ docs k
def wo(docs:O)(l:M aY):Prop:=docs.length<=1000000/\l.length<=1000000/\(∀b∈docs,small b)/\∀s∈l,small s.2.2/\∀e∈s.2.2,small e.2
def eo(z:α)(l:M α)(k:Nat):M α:=l.take k++List.replicate (l.length-k) z
def wu(x r:M aY)(i j:Nat):Prop:=i<x.length/\j<=(ba x i).2.2.length/\r.length=x.length/\∀d,r.set i ((ba r i).1,(ba r i).2.1,d)=(eo (0,0,[]) x i).set i ((ba x i).1,(ba x i).2.1,d)
def alj(docs:O)(l:M Sp):Prop:=l.length<=1000000/\∀s∈l,oY docs s.1 s.2
def lE(docs:O)(l:M aY)(k:Nat):M Sg:=(cB docs l).take k
theorem alk {s:aY}(h:uO s=true):bg s.2.2=true:=by
 simp_all[uO,amC,B!]
theorem alm{a b:M α}(h:(a.length:Int)=b.length):a.length=b.length/\a.take 0=b.take 0/\0<=a.length:=⟨w!,z!,U! _⟩
theorem Sk{a b:M α}(z:α){k:Nat}(h:a.length=b.length/\a.take k=b.take k/\k<=a.length)(hk:(k:Int)<a.length)(he:a.getD k z=b.getD k z):a.length=b.length/\a.take (k+1)=b.take (k+1)/\k+1<=a.length:=by
 grind[aD]
theorem XJ{a b:M α}{k:Nat}(h:a.length=b.length/\a.take k=b.take k/\k<=a.length)(hk:¬(k:Int)<a.length):a=b:=by
 grind
theorem XK{a b:M α}(h:¬(a.length:Int)=b.length):¬a=b:=λe=>h (by rw [e])
theorem XL{a b:M α}(z:α){k:Nat}(h:¬a.getD k z=b.getD k z):¬a=b:=λe=>h (by rw [e])
theorem aGQ {docs:O}{l:M aY}(h:1000<(docs.length:Int)\/64<(l.length:Int)):false=bG docs l:=by
 symm
 rw [<-Bool.not_eq_true];intro hc;obtain⟨h1,h2,_⟩:=LP.1 hc;simp [eZ,B!,H!] at h1;omega
theorem aGR {docs:O}{k:Nat}(hk:(k:Int)<docs.length)(h:2000<((docs.getD k []).length:Int)):false=bG docs l:=by
 grind[LP,ag7]
theorem aln{k:Nat}(h:Ow docs l k)(hk:¬(k:Int)<docs.length):BT docs l 0:=by
 refine⟨?_,h.2.1,λi hi=>by omega,U! _⟩;have h1:=h.1;simp only [eZ,B!,H!];exact⟨ag8 h.2.2 hk,w!,w!,w!,w!⟩
theorem abv{k:Nat}(hk:(k:Int)<l.length)(h:nF docs l k=false):false=bG docs l:=by
 symm
 rw [<-Bool.not_eq_true];intro hc;simp_all[bG,B!,Z!,f?]
theorem alo{k:Nat}(h:BT docs l k)(hk:(k:Int)<l.length)(h1:nF docs l k=true):BT docs l (k+1):=
 ⟨h.1,h.2.1,λi hi=>by
   by_cases e:i=k
   . grind
   . exact h.2.2.1 i w!,w!⟩
theorem aqD{k:Nat}(h:BT docs l k)(hk:¬(k:Int)<l.length):true=bG docs l:=by
 have h2:=h.2.1;simp [bG,B!,Z!,f?,H!];exact⟨h.1,w!,λi hi=>h.2.2.1 i w!⟩
theorem aGS {docs:O}{l:M aY}{k:Nat}(h:¬(ba l k).1=ig l k\/(ba l k).2.1<=ig l k\/(docs.length:Int)<(ba l k).2.1):nF docs l k=false:=by
 rw [<-Bool.not_eq_true];intro hc;simp [nF,B!,H!] at hc;obtain⟨h1,h2,_⟩:=hc;have:=rI h2;omega
theorem ayB {docs:O}{l:M aY}{k:Nat}(hk:BT docs l k)(h:(ba l k).1=ig l k/\¬(ba l k).2.1<=ig l k/\¬(docs.length:Int)<(ba l k).2.1):
  jI docs (ba l k).1 (ba l k).2.1=true:=by
 refine yj hk.1 ?_ w! w!
 have :∀i,i<=k->0<=ig l i:=by
  intro i hi;unfold ig;split
  . omega
  . have:=hk.2.2.1 (i-1) w!;simp [nF,B!,H!] at this;have:=rI this.2.1;omega
 grind
theorem aGT {docs:O}{l:M aY}{k:Nat}(hk:BT docs l k)(h:(ba l k).1=ig l k/\¬(ba l k).2.1<=ig l k/\¬(docs.length:Int)<(ba l k).2.1)
  (h2:¬(cm docs (ba l k).1 (ba l k).2.1).2=0\/sI (cm docs (ba l k).1 (ba l k).2.1).1.2.2 (ba l k).2.2=false):nF docs l k=false:=by
 have hf:=ayB hk h;have hb:cm docs (ba l k).1 (ba l k).2.1=(((ba l k).1,(ba l k).2.1,make docs (ba l k).1 (ba l k).2.1),0):=by grind[cm]
 rw [hb] at h2;rcases h2 with h2|h2
 . omega
 . simp [sI,q?] at h2;rw [<-Bool.not_eq_true];intro hc;simp_all[nF,B!,H!]
theorem aGU {docs:O}{l:M aY}{k:Nat}(hk:BT docs l k)(h:(ba l k).1=ig l k/\¬(ba l k).2.1<=ig l k/\¬(docs.length:Int)<(ba l k).2.1)
  (h2:(cm docs (ba l k).1 (ba l k).2.1).2=0/\sI (cm docs (ba l k).1 (ba l k).2.1).1.2.2 (ba l k).2.2=true):nF docs l k=true:=by
 have hf:=ayB hk h;simp_all[cm,ba,make,sI,H!,nF,B!]
theorem ahn(l:M aY)(k:Nat):(ba l k).2.1=ig l (k+1):=by rfl
theorem alp(h:bG docs l=false):ao docs l=([],[]):=by grind[ao]
theorem aAU {l:M aY}(h:(l.length:Int)=0):0=cO l:=by simp_all[cO,ig,M!]
theorem aAV {l:M aY}(h:¬(l.length:Int)=0):(ba l ((l.length:Int)-1).toNat).2.1=cO l:=by
 simp_all[cO,ig,J!]
theorem abw(z:α)(l:M α):List.replicate (Int.toNat ((l.length:Nat):Int)) z=eo z l 0:=by rfl
theorem C2(z:α){l:M α}{k:Nat}(h:(k:Int)<l.length):(k:Int)<(eo z l k).length/\k<(eo z l k).length:=by
 grind[eo,List.length_append,List.length_take,List.length_replicate]
theorem æ(z:α){l:M α}{k:Nat}(h:k<=l.length):(eo z l k).length=l.length:=by
 grind[eo,List.length_append,List.length_take,List.length_replicate]
theorem XM(z:α){l:M α}{k:Nat}(h:(k:Int)<l.length):(eo z l k).set k (l.getD k z)=eo z l (k+1):=by
 have e:l.length-k=(l.length-(k+1))+1:=by omega
 grind[eo,aD,List.set_append_right,List.length_take,min,List.append_assoc]
theorem aho(z:α){l:M α}{k:Nat}(h:¬(k:Int)<l.length):eo z l k=l:=by
 simp_all[eo,t?]
theorem aAW{k:Nat}(h:(k:Int)<x.length):wu x ((eo (0,0,[]) x k).set k ((ba x k).1,(ba x k).2.1,[])) k 0:=by
 have hl:=æ ((0,0,[]):aY) (l:=x) (k:=k) w!;refine⟨w!,Nat.zero_le _,x!,λd=>?_⟩;grind[ba,eo,set,List.getElem?_set_self,List.set_set]
theorem alq {r:M aY}(h:wu x r i j):r.set i ((ba r i).1,(ba r i).2.1,(ba x i).2.2)=eo (0,0,[]) x (i+1):=by
 rw [h.2.2.2];exact XM ((0,0,[]):aY) (l:=x) (k:=i) (by have:=h.1;omega)
theorem XN(h:wo docs l)(k:Nat):small (docs.getD k []):=by
 by_cases hk:k<docs.length
 . exact h.2.2.1 _ (bC docs k [] hk)
 grind[List.getElem?_eq_none,small]
theorem E1(h:wo docs l)(k:Nat):small (ba l k).2.2/\∀j,small ((ba l k).2.2.getD j ([],[])).2:=by
 by_cases hk:k<l.length
 . have h1:=h.2.2.2 _ (I1 hk);grind[ba,bC,List.getElem?_eq_none,small]
 simp_all[ba,G!,List.getElem?_eq_none,small]
theorem CD(z:α)(l:M α)(j:Nat):l.set j (l.getD j z)=l:=by
 apply List.ext_getElem?;grind
theorem aqE {a b:cr}(h:BV a.1 a.2 b.1 b.2=true):a=b:=by
 simp [BV,Bool.and_eq_true,decide_eq_true_eq] at h;grind
theorem aqF {a b:cr}(h:BV a.1 a.2 b.1 b.2=false):¬a=b:=by
 grind[BV]
theorem ahp{l:M α}{k:Nat}(h:small l)(hk:(k:Int)<l.length):(k:Int)+1<=9223372036854775807:=by grind[small]
theorem ahq {x r:M aY}{i j:Nat}(h:wu x r i j)(hj:(j:Int)<((ba x i).2.2.length:Int)):wu x r i (j+1):=⟨h.1,w!,h.2.2⟩
theorem ahr {x:M aY}{i j:Nat}(hj:(j:Int)<((ba x i).2.2.length:Int)):ag (sY x i) (j+1)<ag (sY x i) j:=by
 grind[ag,sY]
theorem ahs(h:bg d=true):∀e∈d,e.2.length<=1000:=by
 intro e he;obtain⟨j,hj,rfl⟩:=List.mem_iff_getElem.1 he;have h1:=C0 (BS h) hj;grind[XB,fY,jS,List.getElem?_eq_getElem]
theorem RI.seg(h:RI docs l S):∀s∈l,uO s=true/\bn s.2.2/\s=(s.1,s.2.1,make docs s.1 s.2.1)/\jI docs s.1 s.2.1=true:=by
 intro s hs;rw [h.eq] at hs;have h1:=KB h.row s hs;simp only [bF,List.mem_map] at hs;obtain⟨p,hp,rfl⟩:=hs;have hf:=tP h.row p hp;grind[XE]
theorem RI.small {docs:O}{l:M aY}{S:M Sp}(h:RI docs l S):wo docs l:=by
 have hb:=h.bd;have hle:=h.le;refine⟨w!,w!,λb hb=>?_,λs hs=>?_⟩
 . have:=h.fair;simp [eZ,Bool.and_eq_true,List.all_eq_true,decide_eq_true_eq] at this;grind[Go.S.small]
 . obtain⟨h1,h2,_⟩:=h.seg s hs;refine⟨by have:=h2.1;grind[Go.S.small],λe he=>?_⟩;grind[ahs,alk,Go.S.small]
theorem KE(docs:O)(l:M aY):wo (ao docs l).1 (ao docs l).2:=(sx docs l).small
theorem yk(docs:O)(l:M aY):(ao docs l).1.length<=1000/\(ao docs l).2.length<=64/\0<=cO (ao docs l).2/\cO (ao docs l).2<=(ao docs l).1.length:=by
 have h:=sx docs l;have hb:=h.bd;have hle:=h.le;omega
theorem Sl(docs:O)(l:M aY){k:Nat}(hk:k<(ao docs l).2.length):uO (ba (ao docs l).2 k)=true/\bn (ba (ao docs l).2 k).2.2:=
 have h:=(sx docs l).seg _ (I1 hk)
 ⟨h.1,h.2.1⟩
variable {d b:B8}{i:Int}
theorem aGV(h:(2000:Int)<d.length):cP docs l d=(ao docs l,1):=by simp_all[cP,M!]
theorem aGW(h:¬(2000:Int)<d.length)(h1:(1000:Int)<=(ao docs l).1.length):cP docs l d=(ao docs l,3):=by simp_all[cP,J!,M!]
theorem ayC(h:¬(2000:Int)<d.length)(h1:¬(1000:Int)<=(ao docs l).1.length):cP docs l d=(((ao docs l).1++[d],(ao docs l).2),0):=by simp_all[cP,J!]
theorem aGX {docs:O}{l:M aY}(h:cO (ao docs l).2=((ao docs l).1.length:Int)):bY docs l=(ao docs l,5):=by simp_all[bY,mc,M!]
theorem aGY {docs:O}{l:M aY}(h:¬cO (ao docs l).2=((ao docs l).1.length:Int))(h1:(64:Int)<=(ao docs l).2.length):bY docs l=(ao docs l,3):=by simp_all[bY,mc,J!,M!]
theorem ayD {docs:O}{l:M aY}(h:¬cO (ao docs l).2=((ao docs l).1.length:Int)):
  cm (ao docs l).1 (cO (ao docs l).2) ((ao docs l).1.length:Nat)=((cO (ao docs l).2,((ao docs l).1.length:Int),make (ao docs l).1 (cO (ao docs l).2) ((ao docs l).1.length:Nat)),0):=by
 have hb:=yk docs l;have hf:=yj (sx docs l).fair hb.2.2.1 (by omega :cO (ao docs l).2<((ao docs l).1.length:Int)) (Int.le_refl _);grind[cm]
theorem aGZ {docs:O}{l:M aY}(h:¬cO (ao docs l).2=((ao docs l).1.length:Int))(h1:¬(64:Int)<=(ao docs l).2.length):
  bY docs l=(((ao docs l).1,(ao docs l).2++[(cm (ao docs l).1 (cO (ao docs l).2) ((ao docs l).1.length:Nat)).1]),0):=by
 simp_all[ayD,bY,mc,J!]
theorem alr{k:Nat}(h:(k:Int)<(ao docs l).2.length):
  lE docs l k++[(sJ (ba (ao docs l).2 k).1 (ba (ao docs l).2 k).2.1 (ba (ao docs l).2 k).2.2).1]=lE docs l (k+1):=by
 have hg:=Sl docs l (k:=k) w!;have hr:amC (ba (ao docs l).2 k).1 (ba (ao docs l).2 k).2.1 (ba (ao docs l).2 k).2.2=true:=hg.1;have hk:k<(cB docs l).length:=by grind[cB,List.length_map]
 unfold lE;rw [aD (cB docs l) k (0,0,0,[]) hk];rw [List.getD_eq_getElem?_getD,List.getElem?_eq_getElem hk];simp [cB,List.getElem_map,Option.getD_some,Hh];grind[aqB,ao,ba,List.getElem?_eq_getElem,CY]
theorem aqH{k:Nat}(h:¬(k:Int)<(ao docs l).2.length):lE docs l k=cB docs l:=by
 grind[lE,List.take_of_length_le,cB,List.length_map]
theorem UC(docs:O)(l:M aY)(k:Nat):(lE docs l k).length<=64:=by
 grind[yk,lE,cB,List.length_take,List.length_map]
theorem RI.with{L:M Sp}(h:RI docs l L):alj docs L:=by
 have:=h.le;exact⟨w!,λs hs=>uM (tP h.row s hs)⟩
theorem KF(h:bG docs l=true):mc docs l=cO l:=by grind[mc,me]
theorem ç(h:bG docs l=true):kW (cB docs l) (mc docs l)=true:=by
 have R:=RI.of h;have hg:=me h;have hle:=R.le;have hlen:(cB docs l).length=l.length:=by grind[cB,List.length_map]
 have Ez:=uP l;rw [KF h]
 have hsg:∀i,i<l.length->sg (cB docs l) i=Hh (ba l i):=λi hi=>by
  simp [sg,cB,hg,ba,G!,B?,D! hi,Option.map_some,Option.getD_some]
 have hse:∀i,i<l.length->ba l i=((ma (fL l) i).1,(ma (fL l) i).2,make docs (ma (fL l) i).1 (ma (fL l) i).2):=λi hi=>by
  have:=zw docs (fL l) i w!;rw [<-R.eq] at this;omega
 unfold kW;rw [hlen];by_cases h0:l.length=0
 . have :l=[]:=V! h0;subst this;rfl
 . rw [if_neg h0];have fh:fL l≠ []:=λe=>by grind
   simp;refine⟨λi hi=>?_,w!,?_,?_⟩
   . have hr:=(R.seg _ (I1 hi));have hr1:amC (ba l i).1 (ba l i).2.1 (ba l i).2.2=true:=hr.1;simp [oZ,B!,M?,Bool.and_eq_false_iff,q?,Bool.not_eq_false',H!];rw [hsg i hi];refine⟨?_,?_⟩
     . grind[Hh,CY,ak5]
     . by_cases TV:0<i
       . rw [hsg (i-1) w!];simp [Hh];rw [CY,CY,hse i hi,hse (i-1) w!];have:=EZ R.row (i-1) w!;grind
       omega
   . rw [hsg 0 w!];simp [Hh];rw [CY,hse 0 w!];exact zv R.row fh
   . rw [hsg (l.length-1) w!];simp [Hh];rw [CY,hse (l.length-1) w!,R.XG,Hk _ _ fh,Ez]
abbrev Hd:=Int×B8×M Sg
def bN(n:Int)(g:B8)(l:M Sg):Bool:=decide (0<=n)&&(decide (n<=1000)&&(decide ((g.length:Int)=32)&&kW l n))
def gv(docs:O)(l:M aY):Bool:=bG docs l&&decide (mc docs l=(docs.length:Int))
def iv(docs:O)(l:M aY):Hd×Int:=if gv docs l then(((docs.length:Int),root (leaves docs),cB docs l),0) else((0,[],[]),7)
def E2(s:Sg):B8:=num s.2.1++num s.2.2.1++s.2.2.2
def jl(l:M Sg):B8:=l.flatMap E2
def hB(n:Int)(g:B8)(l:M Sg):B8:=num n++g++num l.length++jl l
def hW(n:Int)(g:B8)(l:M Sg):B8×Int:=if bN n g l then(hB n g l,0) else([],1)
def dw(b:B8)(f:Int):Sg×Int×Int:=
 if(first b).2.2≠0 then((0,0,0,[]),0,(first b).2.2)
 else if(first (b.drop (first b).2.1.toNat)).2.2≠0 then((0,0,0,[]),0,(first (b.drop (first b).2.1.toNat)).2.2)
 else if(b.length:Int)<(first b).2.1+(first (b.drop (first b).2.1.toNat)).2.1+32 then((0,0,0,[]),0,4)
 else((f,(first b).1,(first (b.drop (first b).2.1.toNat)).1,(b.drop ((first b).2.1+(first (b.drop (first b).2.1.toNat)).2.1).toNat).take 32),(first b).2.1+(first (b.drop (first b).2.1.toNat)).2.1+32,0)
abbrev Hs:=M Sg×Int×Int×Int
def cw(b:B8)(p:Int):Nat->Hs
 |0=>([],0,p,0)
 |k+1=>if(cw b p k).2.2.2≠0 then cw b p k
  else if(dw (b.drop (cw b p k).2.2.1.toNat) (cw b p k).2.1).2.2≠0 then((cw b p k).1,(cw b p k).2.1,(cw b p k).2.2.1,(dw (b.drop (cw b p k).2.2.1.toNat) (cw b p k).2.1).2.2)
  else((cw b p k).1++[(dw (b.drop (cw b p k).2.2.1.toNat) (cw b p k).2.1).1],(dw (b.drop (cw b p k).2.2.1.toNat) (cw b p k).2.1).1.2.1,(cw b p k).2.2.1+(dw (b.drop (cw b p k).2.2.1.toNat) (cw b p k).2.1).2.1,0)
def xj(b:B8)(n:Int)(g:B8)(s:Hs):Hd×Int:=
 if s.2.2.2≠0 then((0,[],[]),s.2.2.2)
 else if s.2.2.1<b.length\/bN n g s.1=false then((0,[],[]),2)
 else((n,g,s.1),0)
def hR(b:B8):Hd×Int:=
 if(first b).2.2≠0 then((0,[],[]),(first b).2.2)
 else if(b.length:Int)<(first b).2.1+32 then((0,[],[]),4)
 else if(first (b.drop ((first b).2.1+32).toNat)).2.2≠0 then((0,[],[]),(first (b.drop ((first b).2.1+32).toNat)).2.2)
 else if 64<(first (b.drop ((first b).2.1+32).toNat)).1 then((0,[],[]),2)
 else xj b (first b).1 ((b.drop (first b).2.1.toNat).take 32) (cw b ((first b).2.1+32+(first (b.drop ((first b).2.1+32).toNat)).2.1) (first (b.drop ((first b).2.1+32).toNat)).1.toNat)
theorem wv(h:(first b).2.2=0):b=num (first b).1++b.drop (first b).2.1.toNat/\(first b).2.1=((num (first b).1).length:Int):=by
 obtain⟨q1,q2⟩:=Þ h;have h0:=j5 b;grind[List.take_append_drop,List.length_take]
theorem I5 {b:Int}(h:jH a b c d=true):0<=a/\a<b/\b<=1000/\1<=c/\c<=1099511627776/\d.length=32:=by
 simp [jH,jO,B!,H!] at h;omega
theorem rJ {l:M Sg}(h:kW l n=true):l.length<=64/\(∀i,i<l.length->jH (sg l i).1 (sg l i).2.1 (sg l i).2.2.1 (sg l i).2.2.2=true)/\(0<l.length->(sg l 0).1=0)/\(∀i,i+1<l.length->(sg l (i+1)).1=(sg l i).2.1):=by
 unfold kW at h;split at h
 . grind
 . simp at h;obtain⟨h1,h2,h3,h4⟩:=h;refine⟨w!,λi hi=>?_,λ_=>h3,λi hi=>?_⟩
   . simp_all[oZ,B!]
   . have:=h1 (i+1) hi;simp_all[oZ,B!,M?,Bool.and_eq_false_iff,q?,Bool.not_eq_false',H!]
theorem jm{l:M Sg}:bN n g l=true↔0<=n/\n<=1000/\g.length=32/\kW l n=true:=by
 simp [bN,Bool.and_eq_true,decide_eq_true_eq];grind
theorem Sn(h:(dw b f).2.2=0):b=E2 (dw b f).1++b.drop (dw b f).2.1.toNat/\(dw b f).2.1=((E2 (dw b f).1).length:Int)/\(dw b f).1.1=f:=by
 unfold dw at h |-;split at h
 . grind
 . rename_i h1;split at h
   . grind
   . rename_i h2;split at h
     . cases h
     . rename_i h3;rw [J! h1,J! h2,J! h3];obtain⟨p1,p2⟩:=wv (b:=b) (P? h1);obtain⟨q1,q2⟩:=wv (b:=b.drop (first b).2.1.toNat) (P? h2);generalize hm:(first b).2.1=m at *;generalize hk:(first (b.drop m.toNat)).2.1=k at *;have e1:b.drop (m+k).toNat=(b.drop m.toNat).drop k.toNat:=by rw [b?];congr 1;omega
       have e2:b.drop (m+k+32).toNat=(b.drop (m+k).toNat).drop 32:=by rw [b?];congr 1;omega
       have hl:((b.drop (m+k).toNat).take 32).length=32:=by rw [J?,N?];omega
       refine⟨?_,?_,rfl⟩
       . simp only [E2];rw [W!,W!,e2,V?,e1,<-q1];exact p1
       . simp [E2,K!,hl];omega
theorem aby {b:B8}{p:Int}(hp:0<=p):∀k,(cw b p k).2.2.2=0->p<=(cw b p k).2.2.1/\b.drop p.toNat=jl (cw b p k).1++b.drop (cw b p k).2.2.1.toNat/\(cw b p k).1.length=k
 |0,_=>by simp [cw,jl]
 |k+1,h=>by
  have ih:=aby (b:=b) hp k;rw [cw] at h |-;generalize cw b p k=s at *;by_cases h1:s.2.2.2=0
  . rw [J! (λe=>e h1)] at h |-;by_cases h2:(dw (b.drop s.2.2.1.toNat) s.2.1).2.2=0
    . rw [J! (λe=>e h2)];obtain⟨i1,i2,i3⟩:=ih h1;obtain⟨q1,q2,q3⟩:=Sn h2;generalize dw (b.drop s.2.2.1.toNat) s.2.1=g at *;refine⟨by simp;omega,?_,by simp [i3]⟩;have e:b.drop (s.2.2.1+g.2.1).toNat=(b.drop s.2.2.1.toNat).drop g.2.1.toNat:=by rw [b?];congr 1;omega
      have e2:jl (s.1++[g.1])=jl s.1++E2 g.1:=by simp [jl]
      rw [e,e2,W!,<-q1];exact i2
    grind
  grind
theorem Ox(h:(hR b).2=0):bN (hR b).1.1 (hR b).1.2.1 (hR b).1.2.2=true/\hB (hR b).1.1 (hR b).1.2.1 (hR b).1.2.2=b:=by
 unfold hR at h |-;split at h
 . omega
 . rename_i h1;split at h
   . cases h
   . rename_i h2;split at h
     . omega
     . rename_i h3;split at h
       . cases h
       . rename_i h4;rw [if_neg h1,if_neg h2,if_neg h3,if_neg h4];unfold xj at h |-;split at h
         . omega
         . rename_i h5;split at h
           . cases h
           . rename_i h6;rw [J! h5,J! h6];obtain⟨p1,p2⟩:=wv (b:=b) (P? h1);obtain⟨q1,q2⟩:=wv (b:=b.drop ((first b).2.1+32).toNat) (P? h3);have b1:=j5 (b.drop ((first b).2.1+32).toNat);generalize hm:(first b).2.1=m at *;generalize hw:(first (b.drop (m+32).toNat)).1=w at *;generalize hk:(first (b.drop (m+32).toNat)).2.1=k at *;obtain⟨i1,i2,i3⟩:=aby (b:=b) (p:=m+32+k) w! w.toNat (P? h5);refine⟨?_,?_⟩
             . grind
             . have e0:b.drop (cw b (m+32+k) w.toNat).2.2.1.toNat=[]:=s? w!;rw [e0,H?] at i2;have e1:b.drop (m+32).toNat=(b.drop m.toNat).drop 32:=by rw [b?];congr 1;omega
               have e2:b.drop (m+32+k).toNat=(b.drop (m+32).toNat).drop k.toNat:=by rw [b?];congr 1;omega
               simp only [hB];rw [i3,<-i2,show((w.toNat:Nat):Int)=w by omega,e2,W!,W!,<-q1,e1,V?];exact p1.symm
theorem als(h:(hR b).2≠0):(hR b).1=(0,[],[]):=by
 grind[hR,xj]
def sK(n:Int)(g:B8)(l:M Sg)(k:Nat):B8:=num n++g++num l.length++jl (l.take k)
def D7(n:Int)(g:B8)(l:M Sg)(k:Nat):Prop:=bN n g l=true/\k<=l.length
def tC(b:B8)(a e f:Int):(Int×Int)×Sg:=
 (((ar b (af b (af b a e).1.2.1 (af b a e).1.2.2).1.2.1 (af b (af b a e).1.2.1 (af b a e).1.2.2).1.2.2).1.2.1,
   (ar b (af b (af b a e).1.2.1 (af b a e).1.2.2).1.2.1 (af b (af b a e).1.2.1 (af b a e).1.2.2).1.2.2).1.2.2),
  f,(af b a e).2,(af b (af b a e).1.2.1 (af b a e).1.2.2).2,
  (ar b (af b (af b a e).1.2.1 (af b a e).1.2.2).1.2.1 (af b (af b a e).1.2.1 (af b a e).1.2.2).1.2.2).2)
abbrev Ps:=(Int×Int)×Int×M Sg
def qA(b:B8)(a e:Int):Nat->Ps
 |0=>((a,e),0,[])
 |k+1=>((tC b (qA b a e k).1.1 (qA b a e k).1.2 (qA b a e k).2.1).1,(tC b (qA b a e k).1.1 (qA b a e k).1.2 (qA b a e k).2.1).2.2.1,
   (qA b a e k).2.2++[(tC b (qA b a e k).1.1 (qA b a e k).1.2 (qA b a e k).2.1).2])
def iw(b:B8):(Int×B8×Int)×Int×Int:=
 (((af b 0 0).2,(ar b (af b 0 0).1.2.1 (af b 0 0).1.2.2).2,
   (af b (ar b (af b 0 0).1.2.1 (af b 0 0).1.2.2).1.2.1 (ar b (af b 0 0).1.2.1 (af b 0 0).1.2.2).1.2.2).2),
  (af b (ar b (af b 0 0).1.2.1 (af b 0 0).1.2.2).1.2.1 (ar b (af b 0 0).1.2.1 (af b 0 0).1.2.2).1.2.2).1.2.1,
  (af b (ar b (af b 0 0).1.2.1 (af b 0 0).1.2.2).1.2.1 (ar b (af b 0 0).1.2.1 (af b 0 0).1.2.2).1.2.2).1.2.2)
def jJ(b:B8)(k:Nat):Ps:=qA b (iw b).2.1 (iw b).2.2 k
def pN(b:B8):Nat:=(iw b).1.2.2.toNat
theorem C4(b:B8)(a e:Int):(af b a e).1.1=b/\(ar b a e).1.1=b:=by
 grind[af,ar]
theorem Oy(h:e≠0):bX b a e=e:=by simp_all[bX,J!]
theorem Ho(h:0<=a)(h1:a<=b.length):bX b a 0=0:=by
 simp_all[bX,J!,inside,Bool.and_eq_false_iff,q?]
theorem XP(h:e≠0):af b a e=((b,a,e),0):=by
 simp_all[af,Oy,M!]
theorem XQ(h:e≠0):ar b a e=((b,a,e),[]):=by
 simp_all[ar,Oy,M!]
theorem E3(h:0<=a)(h1:a<=b.length)(h2:(first (b.drop a.toNat)).2.2=0):af b a 0=((b,a+(first (b.drop a.toNat)).2.1,0),(first (b.drop a.toNat)).1):=by
 have e:(aO b a).2.2=0:=h2;unfold af;rw [Ho h h1,if_neg (λq=>q rfl),if_neg (λq=>q e)];simp_all[aO,RS,if_true]
theorem Oz(h:0<=a)(h1:a<=b.length)(h2:(first (b.drop a.toNat)).2.2≠0):af b a 0=((b,a,(first (b.drop a.toNat)).2.2),0):=by
 have e:(aO b a).2.2≠0:=h2;unfold af;rw [Ho h h1,if_neg (λq=>q rfl),if_pos e];rfl
theorem ë(h:0<=a)(h1:a+32<=b.length):ar b a 0=((b,a+32,0),(b.drop a.toNat).take 32):=by
 unfold ar;rw [Ho h w!,if_neg (λq=>q rfl),if_neg w!]
theorem ì {b:B8}(h:0<=a)(h1:a<=b.length)(h2:(b.length:Int)<a+32):ar b a 0=((b,a,4),[]):=by
 unfold ar;rw [Ho h h1,if_neg (λq=>q rfl),if_pos w!]
theorem alu(h:e≠0):(tC b a e f).1=(a,e):=by
 grind[tC,XP,XQ]
theorem aqM(h:0<=a)(h1:a<=b.length)(h2:(dw (b.drop a.toNat) f).2.2=0):
  tC b a 0 f=((a+(dw (b.drop a.toNat) f).2.1,0),(dw (b.drop a.toNat) f).1)/\a+(dw (b.drop a.toNat) f).2.1<=b.length:=by
 unfold dw at h2 |-;split at h2
 . grind
 . rename_i q1;split at h2
   . grind
   . rename_i q2;split at h2
     . grind
     . rename_i q3;rw [J! q1,J! q2,J! q3];have q1':=P? q1;have q2':=P? q2;have b0:=j5 (b.drop a.toNat);have b1:=j5 ((b.drop a.toNat).drop (first (b.drop a.toNat)).2.1.toNat);have r1:=E3 h h1 q1';rw [N?] at q3;generalize hn:(first (b.drop a.toNat)).2.1=n at *;have ed:(b.drop a.toNat).drop n.toNat=b.drop (a+n).toNat:=by rw [b?];congr 1;omega
       rw [ed] at q2' b1 q3 |-;have r2:=E3 (b:=b) (a:=a+n) w! w! q2';generalize hm:(first (b.drop (a+n).toNat)).2.1=m at *;have ed2:(b.drop a.toNat).drop (n+m).toNat=b.drop (a+n+m).toNat:=by rw [b?];congr 1;omega
       have r3:=ë (b:=b) (a:=a+n+m) w! w!;unfold tC;simp only [r1,r2,r3,ed2];refine⟨?_,w!⟩;congr 2
       omega
theorem aqN(h:0<=a)(h1:a<=b.length)(h2:(dw (b.drop a.toNat) f).2.2≠0):(tC b a 0 f).1.2=(dw (b.drop a.toNat) f).2.2:=by
 unfold dw at h2 |-;by_cases q1:(first (b.drop a.toNat)).2.2=0
 . have b0:=j5 (b.drop a.toNat);have r1:=E3 h h1 q1;generalize hn:(first (b.drop a.toNat)).2.1=n at *;have ed:(b.drop a.toNat).drop n.toNat=b.drop (a+n).toNat:=by grind[List.drop_drop]
   rw [ed] at h2 |-;have hb:a+n<=b.length:=by grind
   by_cases q2:(first (b.drop (a+n).toNat)).2.2=0
   . have b1:=j5 (b.drop (a+n).toNat);have r2:=E3 (b:=b) (a:=a+n) w! hb q2;generalize hm:(first (b.drop (a+n).toNat)).2.1=m at *;by_cases q3:((b.drop a.toNat).length:Int)<n+m+32
     . grind[List.length_drop,ì,tC]
     grind
   . grind[Oz,XQ,tC]
 simp_all[M!,Oz,XP,XQ,tC]
theorem C5 {b:B8}{p:Int}(hp:0<=p)(TF:p<=b.length):∀k,((cw b p k).2.2.2=0->qA b p 0 k=(((cw b p k).2.2.1,0),(cw b p k).2.1,(cw b p k).1)/\0<=(cw b p k).2.2.1/\(cw b p k).2.2.1<=b.length)/\((cw b p k).2.2.2≠0->(qA b p 0 k).1.2=(cw b p k).2.2.2)
 |0=>⟨λ_=>⟨rfl,hp,TF⟩,λh=>absurd rfl h⟩
 |k+1=>by
  obtain⟨i1,i2⟩:=C5 (b:=b) hp TF k;rw [cw,qA];generalize cw b p k=s at *;generalize qA b p 0 k=t at *;by_cases h1:s.2.2.2=0
  . obtain⟨rfl,j1,j2⟩:=i1 h1;by_cases h2:(dw (b.drop s.2.2.1.toNat) s.2.1).2.2=0
    . obtain⟨g1,g2⟩:=aqM j1 j2 h2;have g3:=(Sn h2).2.1;grind
    simp_all[M!,absurd,aqN]
  simp_all[M!,alu]
theorem OA(b:B8)(a e:Int):∀k,(qA b a e k).2.2.length=k
 |0=>rfl
 |k+1=>by simp [qA,K!,C?,OA b a e k]
theorem OB {b:B8}{a e:Int}(h:e≠0):∀k,(qA b a e k).1=(a,e)
 |0=>rfl
 |k+1=>by simp only [qA,OB h k];exact alu h
theorem E4(b:B8):
  ((iw b).2.2≠0/\(iw b).1.2.2=0/\hR b=((0,[],[]),(iw b).2.2))\/
  ((iw b).2.2=0/\0<=(iw b).2.1/\(iw b).2.1<=b.length/\0<=(iw b).1.2.2/\hR b=if 64<(iw b).1.2.2 then((0,[],[]),2) else xj b (iw b).1.1 (iw b).1.2.1 (cw b (iw b).2.1 (iw b).1.2.2.toNat)):=by
 have b0:=j5 b;unfold hR;by_cases q1:(first b).2.2=0
 . have r1:=E3 (b:=b) (a:=0) (Int.le_refl _) (Int.natCast_nonneg _) q1;generalize hn:(first b).2.1=n at *;by_cases q2:(b.length:Int)<n+32
   . simp_all[M!,ì,XP,iw,trivial]
   . rw [J! q2];have r2:=ë (b:=b) (a:=n) w! w!;have b1:=j5 (b.drop (n+32).toNat);by_cases q3:(first (b.drop (n+32).toNat)).2.2=0
     . grind[E3,iw]
     . have r3:=Oz (b:=b) (a:=n+32) w! w! q3;simp_all[iw,trivial]
 . simp_all[Oz,Int.le_refl,Int.natCast_nonneg,XQ,XP,iw,trivial]
theorem XR(h:64<(iw b).1.2.2):hR b=((0,[],[]),2):=by
 grind[E4]
theorem alv {b:B8}(h:¬64<(iw b).1.2.2)(h0:done b (jJ b (pN b)).1.1 (jJ b (pN b)).1.2≠0):hR b=((0,[],[]),done b (jJ b (pN b)).1.1 (jJ b (pN b)).1.2):=by
 unfold jJ pN at *;rcases E4 b with⟨h1,h2,h3⟩|⟨h1,h2,h3,h4,h5⟩
 . simp_all[OB,done,M!]
 . rw [h5,if_neg h];obtain⟨l1,l2⟩:=C5 h2 h3 (iw b).1.2.2.toNat;generalize cw b (iw b).2.1 (iw b).1.2.2.toNat=s at *;unfold xj;by_cases h6:s.2.2.2=0
   . simp_all[J!,inside,B!,H!,done]
   simp_all[M!,done]
theorem abz {b:B8}(h:¬64<(iw b).1.2.2)(h0:done b (jJ b (pN b)).1.1 (jJ b (pN b)).1.2=0):
  hR b=if bN (iw b).1.1 (iw b).1.2.1 (jJ b (pN b)).2.2 then(((iw b).1.1,(iw b).1.2.1,(jJ b (pN b)).2.2),0) else((0,[],[]),2):=by
 unfold jJ pN at *;rcases E4 b with⟨h1,h2,h3⟩|⟨h1,h2,h3,h4,h5⟩
 . simp_all[OB,done,M!,absurd]
 . rw [h5,if_neg h];obtain⟨l1,l2⟩:=C5 h2 h3 (iw b).1.2.2.toNat;generalize cw b (iw b).2.1 (iw b).1.2.2.toNat=s at *;unfold xj;by_cases h6:s.2.2.2=0
   . grind[done]
   simp_all[done,M!,absurd]
theorem aqO(n:Int)(g:B8)(l:M Sg):(bif decide (0<=n) then bif decide (n<=1000) then bif decide ((g.length:Int)=32) then kW l n else false else false else false)=bN n g l:=by
 grind[bN,decide]
theorem aqP {docs:O}(h:bG docs l=false\/¬mc docs l=(docs.length:Int)):iv docs l=((0,[],[]),7):=by
 grind[gv,iv]
theorem XS {docs:O}(h:bG docs l=true/\mc docs l=(docs.length:Int)):iv docs l=(((docs.length:Int),root (leaves docs),cB docs l),0):=by
 simp_all[gv,K?,iv,M!]
theorem OC(h:bG docs l=true):l8 docs/\small (leaves docs):=by
 have R:=RI.of h;have hb:=R.bd;refine⟨⟨w!,λb hb=>?_⟩,?_⟩
 . have:=R.fair;simp [eZ,Bool.and_eq_true,List.all_eq_true,decide_eq_true_eq] at this;grind
 grind[small,leaves,List.length_map]
theorem XT(docs:O):xe (leaves docs)=0/\zp (leaves docs)=root (leaves docs):=by
 grind[xe,zp,tB]
theorem ayE(h:fT v=false)(l:B8):xV v=0/\mn l v=l++num v:=by grind[xV,mn]
theorem OD(h:0<=v)(h1:v<=1099511627776):fT v=false:=by
 grind[fT,Bool.or_eq_false_iff,decide_eq_false_iff_not]
variable {l:List Sg}
theorem í(h:bN n g l=false):hW n g l=([],1):=by grind[hW]
theorem LQ(h:bN n g l=true):hW n g l=(hB n g l,0):=by grind[hW]
theorem E5{k:Nat}(h:D7 n g l k)(hk:(k:Int)<l.length):fT (sg l k).2.1=false/\fT (sg l k).2.2.1=false/\(sg l k).2.2.2.length=32:=by
 have hg:=I5 ((rJ (jm.1 h.1).2.2.2).2.1 k w!);grind[OD]
theorem C6{k:Nat}(h:D7 n g l k):(sK n g l k).length<=100000:=by
 have hr:=jm.1 h.1;have h1:=cX n;have h2:=cX (l.length:Int);have h3:=(rJ hr.2.2.2).1
 have h4:∀j,j<=l.length->(jl (l.take j)).length<=50*j:=by
  intro j;induction j with
  |zero=>grind[jl]
  |succ j ih=>
   intro hj;have hg:=I5 ((rJ hr.2.2.2).2.1 j w!);have:=ih w!;rw [aD l j (0,0,0,[]) w!];simp [jl,List.flatMap_append,List.flatMap_cons,List.flatMap_nil,List.append_nil,List.length_append] at this |-;grind[cX,sg,E2,List.length_append]
 have h6:=h.2;grind[sK,List.length_append]
theorem ayF(n:Int)(g:B8)(l:M Sg):num n++g++num (l.length:Int)=sK n g l 0:=by simp [sK,jl]
theorem XU{k:Nat}(hk:(k:Int)<l.length):sK n g l k++num (sg l k).2.1++num (sg l k).2.2.1++(sg l k).2.2.2=sK n g l (k+1):=by
 simp [sK];rw [aD l k (0,0,0,[]) w!];simp [jl,List.flatMap_append,List.flatMap_cons,List.flatMap_nil,H?,E2,sg,W!]
theorem UD{k:Nat}(hk:¬(k:Int)<l.length):sK n g l k=hB n g l:=by
 grind[sK,hB,List.take_of_length_le]
theorem alw{k:Nat}(h:(k:Int)<(iw b).1.2.2):k+1<=pN b:=by grind[pN]
theorem î{k:Nat}(h:k<=pN b)(h1:¬(k:Int)<(iw b).1.2.2):k=pN b:=by grind[pN]
theorem aAY(b:B8)(k:Nat):(jJ b k).2.2.length=k:=OA b _ _ k
theorem ayG {b:B8}{k:Nat}(h:¬64<(iw b).1.2.2)(hk:k<=pN b)(h1:¬(k:Int)<(iw b).1.2.2)(h0:¬done b (jJ b k).1.1 (jJ b k).1.2=0):hR b=((0,[],[]),done b (jJ b k).1.1 (jJ b k).1.2):=by
 grind[î,alv]
theorem ayH {b:B8}{k:Nat}(h:¬64<(iw b).1.2.2)(hk:k<=pN b)(h1:¬(k:Int)<(iw b).1.2.2)(h0:done b (jJ b k).1.1 (jJ b k).1.2=0)(h2:bN (iw b).1.1 (iw b).1.2.1 (jJ b k).2.2=false):hR b=((0,[],[]),2):=by
 rw [î hk h1] at h0 h2;simp_all[abz,J!]
theorem ayI {b:B8}{k:Nat}(h:¬64<(iw b).1.2.2)(hk:k<=pN b)(h1:¬(k:Int)<(iw b).1.2.2)(h0:done b (jJ b k).1.1 (jJ b k).1.2=0)(h2:bN (iw b).1.1 (iw b).1.2.1 (jJ b k).2.2=true):hR b=(((iw b).1.1,(iw b).1.2.1,(jJ b k).2.2),0):=by
 rw [î hk h1] at h0 h2 |-;simp_all[abz,M!]
variable {l:List aY}
theorem uR:gv docs l=true↔bG docs l=true/\mc docs l=(docs.length:Int):=by
 simp_all[gv,B!,H!]
theorem alx(h:gv docs l=false):iv docs l=((0,[],[]),7):=by grind[iv]
theorem C7(h:gv docs l=true):iv docs l=(((docs.length:Int),root (leaves docs),cB docs l),0):=XS (uR.1 h)
theorem ï(h:gv docs l=true):bN (docs.length:Int) (root (leaves docs)) (cB docs l)=true:=by
 obtain⟨h1,h2⟩:=uR.1 h;have hb:=(RI.of h1).bd;grind[jm,Int.natCast_nonneg,LL,tB,ç]
variable {l:List Sg}
theorem aly(h:(hW n g l).2=0):bN n g l=true/\hW n g l=(hB n g l,0):=by
 grind[LQ,í]
theorem abA(h:bN n g l=true):(hB n g l).length<=100000:=by
 have:=C6 (k:=l.length) ⟨h,Nat.le_refl _⟩;grind[UD]
def aZ(i n:Int):M Bool:=if h:n<2 then [] else if i<((sp n.toNat:Nat):Int) then false ::aZ i ((sp n.toNat:Nat):Int) else true ::aZ (i-((sp n.toNat:Nat):Int)) (n-((sp n.toNat:Nat):Int))
termination_by n.toNat
decreasing_by
 . have:=gN (n:=n.toNat) w!;omega
 . have:=gN (n:=n.toNat) w!;omega
def Nl(d:B8)(x:Bool×B8):B8:=if x.1 then aT x.2 d else aT d x.2
def wx(d:B8)(s:M Bool)(p:O):B8:=(List.zip s.reverse p).foldl Nl d
def kN(d:B8)(i n:Int)(p:O):B8:=wx d (aZ i n) p
def e8(i n:Int):Int:=((aZ i n).length:Int)
def path(l:O)(i:Int):O:=if h:l.length<2 then [] else if i<((sp l.length:Nat):Int) then path (l.take (sp l.length)) i++[root (l.drop (sp l.length))] else path (l.drop (sp l.length)) (i-((sp l.length:Nat):Int))++[root (l.take (sp l.length))]
termination_by l.length
decreasing_by
 . have:=gN (n:=l.length) w!;rw [J?];omega
 . have:=gN (n:=l.length) w!;rw [N?];omega
theorem jK(h:n<2):aZ i n=[]:=by rw [aZ,dif_pos h]
theorem mq {n:Int}(h:2<=n)(hi:i<((sp n.toNat:Nat):Int)):aZ i n=false ::aZ i ((sp n.toNat:Nat):Int):=by rw [aZ,dif_neg w!,M! hi]
theorem nH {n:Int}(h:2<=n)(hi:¬i<((sp n.toNat:Nat):Int)):aZ i n=true ::aZ (i-((sp n.toNat:Nat):Int)) (n-((sp n.toNat:Nat):Int)):=by rw [aZ,dif_neg w!,J! hi]
variable {l:List B8}
theorem UE(h:l.length<2):path l i=[]:=by rw [path,dif_pos h]
theorem UF {l:O}(h:2<=l.length)(hi:i<((sp l.length:Nat):Int)):path l i=path (l.take (sp l.length)) i++[root (l.drop (sp l.length))]:=by rw [path,dif_neg w!,M! hi]
theorem UG {l:O}(h:2<=l.length)(hi:¬i<((sp l.length:Nat):Int)):path l i=path (l.drop (sp l.length)) (i-((sp l.length:Nat):Int))++[root (l.take (sp l.length))]:=by rw [path,dif_neg w!,J! hi]
theorem E6 {C:Nat->Prop}(h0:∀n,n<2->C n)(h1:∀n,2<=n->C (sp n)->C (n-sp n)->C n)(n:Nat):C n:=by
 induction n using Nat.strongRecOn with
 |_ n ih=>
  by_cases h:n<2
  . exact h0 n h
  . have hb:=gN (n:=n) w!;exact h1 n w! (ih _ w!) (ih _ w!)
theorem ahu(n:Nat):∀(l:O) (i:Int),l.length=n->(path l i).length=(aZ i l.length).length:=by
 refine E6 (C:=λn=>∀(l:O) (i:Int),l.length=n->(path l i).length=(aZ i l.length).length) (λn h l i e=>?_) (λn h i1 i2 l i e=>?_) n
 . grind[UE,jK]
 . have hb:=gN (n:=l.length) w!;by_cases hi:i<((sp l.length:Nat):Int)
   . rw [UF w! hi,mq w! x!,List.length_append];grind
   . rw [UG w! hi,nH w! x!,List.length_append];grind
theorem KG(d:B8)(x:Bool)(s:M Bool)(p:O)(y:B8)(h:p.length=s.length):wx d (x::s) (p++[y])=Nl (wx d s p) (x,y):=by
 simp_all[wx,List.reverse_cons,List.zip_append,List.foldl_append]
theorem D8(a b:B8)(ha:a.length=32)(hb:b.length=32):(aT a b).length=32:=by
 simp [aT,NZ,ha,hb,decide_true,Bool.and_self,Q?];rfl
theorem KH:∀(s:M (Bool×B8)) (d:B8),d.length=32->(∀x∈s,x.2.length=32)->(s.foldl Nl d).length=32
 |[],d,h,_=>h
 |x::s,d,h,hx=>by
  refine KH s _ ?_ (λy hy=>hx y (List.mem_cons_of_mem _ hy));have:=hx x (List.mem_cons_self ..);unfold Nl;split
  . exact D8 _ _ this h
  . exact D8 _ _ h this
theorem OF(h:d.length=32)(hp:bQ p=true):(kN d i n p).length=32:=
 KH _ _ h λx hx=>(eA p).1 hp _ (List.of_mem_zip hx).2
def rK(l:O)(i:Int):O:=if bQ l=true/\0<=i/\i<l.length then path l i else []
def BW(l:O)(i:Int):Int:=if bQ l=true/\0<=i/\i<l.length then 0 else 1
def dM(l:O):Prop:=l.length<=1099511627776
def gj(l:O)(i:Int)(k:O×Int×O):Prop:=
 bQ k.1=true/\k.1.length<=l.length/\0<=k.2.1/\k.2.1<k.1.length/\path l i=path k.1 k.2.1++k.2.2.reverse/\k.2.2.length+k.1.length<=l.length
def eQ(d:B8)(i n:Int)(p:O):Int:=
 if(d.length:Int)=32/\1<=n/\n<=1099511627776/\0<=i/\i<n then(if(p.length:Int)=e8 i n/\bQ p=true then 0 else 6) else 1
def kq(d:B8)(i n:Int)(p:O):B8:=if eQ d i n p=0 then kN d i n p else []
def jL(d:B8)(i n:Int)(p:O)(k:Nat):B8:=((List.zip (aZ i n).reverse p).take k).foldl Nl d
def eM(i n:Int):Prop:=0<=i/\i<n/\n<=1099511627776
def j6(i n:Int)(k:Int×Int×M Bool):Prop:=0<=k.1/\k.1<k.2.1/\k.2.1<=n/\aZ i n=k.2.2++aZ k.1 k.2.1/\(k.2.2.length:Int)+k.2.1<=n
def gy(m n:Int):M Bool:=if h:n<=m\/n<2 then [] else if m<=((sp n.toNat:Nat):Int) then false ::gy m ((sp n.toNat:Nat):Int) else true ::gy (m-((sp n.toNat:Nat):Int)) (n-((sp n.toNat:Nat):Int))
termination_by n.toNat
decreasing_by
 . have:=gN (n:=n.toNat) w!;omega
 . have:=gN (n:=n.toNat) w!;omega
def abB(r:B8×B8)(x:Bool×B8):B8×B8:=if x.1 then(aT x.2 r.1,aT x.2 r.2) else(r.1,aT r.2 x.2)
def mf(s:M Bool)(r:B8×B8)(p:O):B8×B8:=(List.zip s.reverse p).foldl abB r
def ayJ(one two:B8)(s:M Bool)(r:B8×B8)(p:O):Bool:=decide (p.length=s.length)&&decide (mf s r p=(one,two))
def abC(s:M Bool)(one two:B8)(p:O):Bool:=decide (1<=p.length)&&ayJ one two s (p.getD 0 [],p.getD 0 []) (p.drop 1)
def qB(m:Int):Bool:=decide (Vg.aM m (m-1)=0)
def accepted(m n:Int)(one two:B8)(p:O):Bool:=
 if m=0 then decide (p.length=0)&&decide (one=sum [])
 else if m=n then decide (p.length=0)&&decide (one=two)
 else abC (gy m n) one two (if qB m then one::p else p)
def ia(m n:Int)(one two:B8)(p:O):Int:=
 if m<0\/n<m\/1099511627776<n\/(one.length:Int)≠32\/(two.length:Int)≠32 then 1 else if bQ p=true/\accepted m n one two p=true then 0 else 6
def OH(l:O):O:=l.reverse
variable {n:Nat}
theorem aqQ(h:2<=n):n<=2*sp n:=by
 have:=Nat.lt_log2_self (n:=n-1);grind[sp,Nat.pow_succ]
theorem XZ {t:Nat}(h:2<=n)(h1:n<=2^(t+1)):sp n<=2^t/\n-sp n<=2^t:=by
 have h2:=gN h;have h3:=aqQ h
 have :sp n<=2^t:=by
  unfold sp at *;have :2^Nat.log2 (n-1)<2^(t+1):=by omega
  grind[Nat.pow_lt_pow_iff_right]
 omega
theorem I8:∀(t n:Nat) (i:Int),0<=i->i<n->n<=2^t->(aZ i n).length<=t
 |0,n,i,h0,h1,h=>by grind[jK]
 |t+1,n,i,h0,h1,h=>by
  by_cases h2:2<=n
  . have hs:=XZ h2 h;by_cases hi:i<((sp n:Nat):Int)
    . rw [mq w! (by exact hi),X!];have:=I8 t (sp n) i h0 hi hs.1;simp;omega
    . rw [nH w! (by exact hi),X!];have:=I8 t (n-sp n) (i-((sp n:Nat):Int)) w! w! hs.2;rw [Int.natCast_sub w!] at this;simp;omega
  grind[jK]
theorem alB{t:Nat}(h0:0<=i)(h1:i<l.length)(h:l.length<=2^t):(path l i).length<=t:=by
 rw [ahu _ l i rfl];simp_all[I8]
theorem pC(h:bQ l=true)(k:Nat):bQ (l.take k)=true:=(eA _).2 λd hd=>(eA l).1 h d (List.mem_of_mem_take hd)
theorem zz(h:bQ l=true)(k:Nat):bQ (l.drop k)=true:=(eA _).2 λd hd=>(eA l).1 h d (List.mem_of_mem_drop hd)
theorem OI(h:bQ l=true)(h1:d.length=32):bQ (l++[d])=true:=
 (eA _).2 λx hx=>by
   grind[eA,List.mem_singleton]
theorem ñ(n:Nat):∀(l:O) (i:Int),l.length=n->bQ l=true->bQ (path l i)=true:=by
 refine E6 (C:=λn=>∀(l:O) (i:Int),l.length=n->bQ l=true->bQ (path l i)=true) ?_ ?_ n
 . intro n h l i e _;rw [UE w!];rfl
 . intro n h h1 h2 l i e hd;have hb:=gN h;by_cases hi:i<((sp l.length:Nat):Int)
   . grind[UF,OI,pC,LL,zz,List.length_take]
   grind[UG,OI,zz,LL,pC,List.length_drop]
theorem I9(h:2<=l.length)(h1:l.length<=1099511627776):split l.length=((sp l.length:Nat):Int):=by
 grind[nD,Int.toNat_natCast]
theorem aG1(h:bQ l=true)(h0:0<=i)(h1:i<l.length):gj l i (l,i,[]):=
 ⟨h,S! _,h0,h1,z!,z!⟩
theorem aG2 {m acc:O}{j:Int}(h:gj l i (m,j,acc))(h2:2<=m.length)(hj:j<((sp m.length:Nat):Int)):
  gj l i (m.take (sp m.length),j,acc++[root (m.drop (sp m.length))]):=by
 obtain⟨a1,a2,a3,a4,a5,a6⟩:=h;have hb:=gN h2;refine⟨pC a1 _,?_,a3,?_,?_,?_⟩
 . grind
 . grind
 . grind[UF,List.reverse_append]
 grind
theorem aG3 {m acc:O}{j:Int}(h:gj l i (m,j,acc))(h2:2<=m.length)(hj:¬j<((sp m.length:Nat):Int)):
  gj l i (m.drop (sp m.length),j-((sp m.length:Nat):Int),acc++[root (m.take (sp m.length))]):=by
 obtain⟨a1,a2,a3,a4,a5,a6⟩:=h;have hb:=gN h2;refine⟨zz a1 _,?_,x!,?_,?_,?_⟩
 . grind
 . grind
 . grind[UG,List.reverse_append]
 grind
theorem aqR {m acc:O}{j:Int}(h:gj l i (m,j,acc))(h2:¬1<(m.length:Int)):OH acc=path l i:=by
 have:=h.2.2.2.2.1;grind[OH,UE]
def ahw(l:O)(i:Int):Prop:=nC l/\0<=i/\i<l.length
theorem aA0 {l:O}(h:bQ l=false\/i<0\/(l.length:Int)<=i): []=rK l i/\1=BW l i:=by
 grind[bQ,rK,BW]
theorem aqS {l:O}(h:bQ l=true/\¬i<0/\¬(l.length:Int)<=i):rK l i=path l i/\BW l i=0:=by
 grind[bQ,rK,BW]
theorem Hp{x:O×Int×O}(hp:l.length<=1099511627776)(h:gj l i x)(h2:1<(x.1.length:Int)):
  (0<=split x.1.length/\split x.1.length<=x.1.length/\ -9223372036854775808<=x.2.1-split x.1.length/\x.2.1-split x.1.length<=9223372036854775807)/\
  nC (x.1.take (split x.1.length).toNat)/\nC (x.1.drop (split x.1.length).toNat)/\(∀d:B8,x.2.2.length+[d].length<=8796093022208)/\
  len (x.1.take (split x.1.length).toNat)<len x.1/\len (x.1.drop (split x.1.length).toNat)<len x.1:=by
 obtain⟨a1,a2,a3,a4,a5,a6⟩:=h;have hb:=gN (n:=x.1.length) w!;rw [I9 w! w!,Int.toNat_natCast];refine⟨w!,⟨pC a1 _,x!⟩,⟨zz a1 _,x!⟩,λd=>by grind,?_,?_⟩
 . grind[len,List.length_take]
 grind[len,List.length_drop]
theorem aA1{x:O×Int×O}(hp:l.length<=1099511627776)(h:gj l i x)(h2:1<(x.1.length:Int))(hj:x.2.1<split x.1.length):
  gj l i (x.1.take (split x.1.length).toNat,x.2.1,x.2.2++[root (x.1.drop (split x.1.length).toNat)]):=by
 have:=h.2.1;grind[I9,Int.toNat_natCast,aG2]
theorem aA2{x:O×Int×O}(hp:l.length<=1099511627776)(h:gj l i x)(h2:1<(x.1.length:Int))(hj:¬x.2.1<split x.1.length):
  gj l i (x.1.drop (split x.1.length).toNat,x.2.1-split x.1.length,x.2.2++[root (x.1.take (split x.1.length).toNat)]):=by
 have:=h.2.1;rw [I9 w! w!] at hj |-;exact aG3 h w! hj
theorem aA3{x:O×Int×O}(hp:l.length<=1099511627776)(h:gj l i x):small x.2.2:=by
 have:=h.2.2.2.2.2;grind[small]
theorem aqT {l:O}{x:O×Int×O}(h0:bQ l=true/\¬i<0/\¬(l.length:Int)<=i)(h:gj l i x)(h2:¬1<(x.1.length:Int)):OH x.2.2=rK l i/\0=BW l i:=by
 grind[aqS,aqR]
theorem ahx {l:O}(h:bQ l=true/\¬i<0/\¬(l.length:Int)<=i):gj l i (l,i,[]):=aG1 h.1 w! w!
abbrev Pf:=Int×B8×B8×B8×O×B8
def la(d:M cr)(t:B8):Pf:=
 (bt d t+1,(bj (l9 d (bt d t+1).toNat)).1.1,(bj (l9 d (bt d t+1).toNat)).1.2.1,(bj (l9 d (bt d t+1).toNat)).1.2.2,path (leaves (ie d)) (bt d t+1),if k9 d t then BF (qz d t) else [])
def X0:Pf:=(0,[],[],[],[],[])
def ij(d:M cr)(t:B8):Pf×Int:=if bg d&&isTerm t then(la d t,0) else(X0,1)
variable {d:List cr}
theorem abD(h:dE d≠0\/isTerm t=false):ij d t=(X0,1):=by
 grind[ij,dE,bg]
theorem OJ(h:bg d=true)(h1:isTerm t=true):ij d t=(la d t,0):=by
 grind[ij]
theorem X1(h:bg d=true):0<=bt d t+1/\bt d t+1<=d.length/\(ie d).length=d.length+1:=by
 have:=He (d:=d) (t:=t) d.length;unfold bt;grind[ie,iV]
theorem ahy(d:M cr)(h0:0<=i)(h:i<=d.length):(ie d).getD i.toNat []=l9 d i.toNat:=by
 grind[ie,iV]
theorem X2(hp:bn d)(hr:bg d=true)(t:B8):
  (0<=bt d t+1/\bt d t+1<=1048576/\bt d t+1<(bU d).length/\(bt d t+1).toNat<(bU d).length)/\((bU d).getD (bt d t+1).toNat []).length<=140737488355328/\l8 (bU d)/\dM (leaves (bU d))/\ahw (leaves (bU d)) (bt d t+1)/\
  (bU d).getD (bt d t+1).toNat []=l9 d (bt d t+1).toNat/\rK (leaves (bU d)) (bt d t+1)=path (leaves (ie d)) (bt d t+1)/\bU d=ie d:=by
 obtain⟨f1,f2,f3⟩:=X1 (t:=t) hr;have e:bU d=ie d:=by grind[bU]
 have hl:=hp.1;have hlen:(leaves (ie d)).length=d.length+1:=by grind[leaves]
 have ha:=ahy d f1 f2;rw [e];refine⟨w!,?_,(pz hp hr).1,by grind[dM],⟨(pz hp hr).2,f1,w!⟩,ha,?_,rfl⟩
 . rcases Hc hr (k:=(bt d t+1).toNat) with q|q
   . grind[EW,l9]
   omega
 . have q:bQ (leaves (ie d))=true/\0<=bt d t+1/\bt d t+1<(leaves (ie d)).length:=⟨(pz hp hr).2.1,f1,w!⟩;simp_all[rK,M!]
theorem aA4(hp:bn d)(hr:bg d=true)(t:B8):
  la d t=(bt d t+1,(bj ((bU d).getD (bt d t+1).toNat [])).1.1,(bj ((bU d).getD (bt d t+1).toNat [])).1.2.1,(bj ((bU d).getD (bt d t+1).toNat [])).1.2.2,rK (leaves (bU d)) (bt d t+1),if k9 d t then qw (qz d t) else []):=by
 have q:=X2 hp hr t;rw [q.2.2.2.2.2.1,q.2.2.2.2.2.2.1];unfold la;congr 5
 split
 . have :bK (qz d t)=true:=by
    unfold qz;rename_i h1;rw [if_pos h1];have hb:=LN h1;exact(ye hr (i:=(bt d t).toNat) w!).2
   unfold qw;rw [this];rfl
 . rfl
abbrev dC:=Int×B8
def jY(l:M dC)(i:Nat):dC:=l.getD i (0,[])
def nW(l:M dC):Nat->Int
 |0=>0
 |k+1=>nW l k+if(jY l k).1=0 then 1 else 0
def gw(l:M dC)(k:Nat):Int:=2*nW l k-k
def uS(l:M dC)(i:Nat):Bool:=
 if(jY l i).1=0 then isTerm (jY l i).2 else(decide (1<=(jY l i).1)&&decide ((jY l i).1<=3))&&(decide ((jY l i).2=[])&&decide (2<=gw l i))
def bw(l:M dC):Bool:=(List.range l.length).all (uS l)&&(decide (gw l l.length=1)&&decide (nW l l.length<=16))
def oF(l:M dC)(k:Nat):Prop:=k<=l.length/\l.length<=1099511627776/\∀i,i<k->uS l i=true
def ajc(l:M dC):Bool:=l.any (λo=>decide ((200:Int)<o.2.length)) || decide ((60:Int)<l.length)
def aAX(l:M dC)(k:Nat):Prop:=k<=l.length/\∀o∈l.take k,¬(200:Int)<o.2.length
def bS(l:M dC)(k:Nat):O:=((l.take k).filter λo=>decide (o.1=0)).map (·.2)
def qC(l:M dC):O:=bS l l.length
def ax(l:M dC):O:=sorted (qC l)
theorem xk(l:M dC):∀k,0<=nW l k/\nW l k<=k
 |0=>by simp [nW]
 |k+1=>by have:=xk l k;grind[nW]
variable {l:List dC}
theorem UI{k:Nat}(h:(jY l k).1=0):nW l (k+1)=nW l k+1:=by simp_all[nW,M!]
theorem OK{k:Nat}(h:¬(jY l k).1=0):nW l (k+1)=nW l k:=by simp_all[nW,J!]
theorem X3{k:Nat}(h:(jY l k).1=0):gw l (k+1)=gw l k+1:=by grind[gw,UI]
theorem LS{k:Nat}(h:¬(jY l k).1=0):gw l (k+1)=gw l k-1:=by grind[gw,OK]
theorem aG4(h:small l):oF l 0:=⟨U! _,h,λi hi=>by omega⟩
theorem X4{k:Nat}(h:oF l k)(hk:(k:Int)<l.length)(h1:uS l k=true):oF l (k+1):=by
 refine⟨w!,h.2.1,λi hi=>?_⟩;by_cases he:i=k
 . grind
 . exact h.2.2 i w!
theorem abE{k:Nat}(hk:(k:Int)<l.length)(h:uS l k=false):false=bw l:=by
 grind[List.range,uS,bw]
theorem aqU{k:Nat}(h:oF l k)(hk:¬(k:Int)<l.length):(decide (gw l k=1)&&decide (nW l k<=16))=bw l:=by
 have e:k=l.length:=by have:=h.1;omega
 subst e;have :(List.range l.length).all (uS l)=true:=List.all_eq_true.2 λi hi=>h.2.2 i (List.mem_range.1 hi);grind[bw]
theorem OL{k:Nat}(h:(jY l k).1=0):uS l k=isTerm (jY l k).2:=by simp_all[uS,M!]
theorem alC {l:M dC}{k:Nat}(h:¬(jY l k).1=0)(h1:1<=(jY l k).1)(h2:(jY l k).1<=3)(h3:(jY l k).2=[])(h4:2<=gw l k):uS l k=true:=by
 simp_all[uS,J!]
theorem aqV {l:M dC}{k:Nat}(h:¬(jY l k).1=0)(h1:¬1<=(jY l k).1\/¬(jY l k).1<=3\/¬(jY l k).2=[]\/¬2<=gw l k):uS l k=false:=by
 grind[uS]
theorem aNK{k:Nat}(h:aAX l k)(hk:(k:Int)<l.length)(h1:¬(200:Int)<(jY l k).2.length):aAX l (k+1):=by
 refine⟨w!,?_⟩;rw [aD l k (0,[]) w!];intro o ho;rcases F!.1 ho with q|q
 . exact h.2 o q
 . rw [v?.1 q];exact h1
theorem aOZ{k:Nat}(hk:(k:Int)<l.length)(h1:(200:Int)<(jY l k).2.length):true=ajc l:=by
 have :l.any (λo=>decide ((200:Int)<o.2.length))=true:=List.any_eq_true.2 ⟨_,bC l k _ (show k<l.length by omega),decide_eq_true h1⟩;grind[ajc]
theorem aO0{k:Nat}(h:aAX l k)(hk:¬(k:Int)<l.length):decide ((60:Int)<l.length)=ajc l:=by
 have :l.any (λo=>decide ((200:Int)<o.2.length))=false:=by
  rw [<-Bool.not_eq_true,List.any_eq_true];rintro⟨o,ho,h1⟩;exact h.2 o (by grind[List.take_of_length_le]) (of_decide_eq_true h1)
 grind[ajc]
theorem aNL(h:ajc l=false):l.length<=60/\∀o∈l,o.2.length<=200:=by
 grind[ajc,Bool.or_eq_false_iff,of_decide_eq_false,decide,List.any_eq_true,decide_eq_true]
theorem aMw(h:ajc l=false):small l:=by grind[aNL,small]
theorem abF{k:Nat}(hk:(k:Int)<l.length)(h:(jY l k).1=0):bS l k++[(jY l k).2]=bS l (k+1):=by
 unfold bS;rw [aD l k (0,[]) w!,List.filter_append,List.map_append];have :(List.filter (λo:dC=>decide (o.1=0)) [l.getD k (0,[])])=[jY l k]:=by grind[jY]
 grind
theorem alD{k:Nat}(hk:(k:Int)<l.length)(h:¬(jY l k).1=0):bS l k=bS l (k+1):=by
 unfold bS;rw [aD l k (0,[]) w!,List.filter_append,List.map_append];have :(List.filter (λo:dC=>decide (o.1=0)) [l.getD k (0,[])])=[]:=by grind[jY]
 grind
theorem aqW{k:Nat}(h:k<=l.length)(hk:¬(k:Int)<l.length):bS l k=qC l:=by
 grind[qC]
theorem alE(l:M dC):∀k,k<=l.length->((bS l k).length:Int)=nW l k
 |0,_=>by rfl
 |k+1,hk=>by
  have ih:=alE l k w!;by_cases h:(jY l k).1=0
  . rw [<-abF w! h,UI h,K!,<-ih];simp
  . rw [<-alD w! h,OK h,ih]
theorem abG:bw l=true↔(∀i,i<l.length->uS l i=true)/\gw l l.length=1/\nW l l.length<=16:=by
 simp_all[bw,B!,Z!,f?,H!]
theorem pS(h:bw l=true):(ax l).length<=16:=by
 obtain⟨_,_,h3⟩:=abG.1 h;have:=rG (qC l);have e:=alE l l.length (Nat.le_refl _);grind[ax,qC]
theorem X5(h:bw l=true):∀t∈ax l,isTerm t=true:=by
 obtain⟨h1,_,_⟩:=abG.1 h;intro t ht;have:=(jk (qC l) t).1 ht;simp only [qC,bS,List.mem_map,List.mem_filter,decide_eq_true_eq,List.take_length] at this;obtain⟨o,⟨ho,h0⟩,rfl⟩:=this;obtain⟨i,hi,rfl⟩:=List.mem_iff_getElem.1 ho;grind[jY,OL]
theorem alF {l:M dC}{k:Nat}(h:oF l k)(hk:(k:Int)<l.length)(h0:(l.getD k (0,[])).1=0)(ht:isTerm (l.getD (Int.toNat (k:Int)) (0,[])).2=true):oF l (k+1):=
 X4 h hk (by rw [OL h0];rwa [X!] at ht)
theorem alG {l:M dC}{k:Nat}(hk:(k:Int)<l.length)(h0:(l.getD k (0,[])).1=0)(ht:isTerm (l.getD (Int.toNat (k:Int)) (0,[])).2=false):false=bw l:=
 abE hk (by rw [OL h0];rwa [X!] at ht)
theorem OM {l:M dC}{k:Nat}(h:oF l k)(hk:(k:Int)<l.length)(h0:¬(l.getD k (0,[])).1=0)(h1:1<=(l.getD k (0,[])).1/\(l.getD k (0,[])).1<=3)(h2:(l.getD k (0,[])).2=[]/\¬gw l k<2):oF l (k+1):=
 X4 h hk (alC h0 h1.1 h1.2 h2.1 w!)
theorem Hq {l:M dC}{k:Nat}(hk:(k:Int)<l.length)(h0:¬(l.getD k (0,[])).1=0)(h:¬(1<=(l.getD k (0,[])).1/\(l.getD k (0,[])).1<=3)\/¬(l.getD k (0,[])).2=[]\/gw l k<2):false=bw l:=
 abE hk (aqV h0 (by
  grind[jY]))
theorem aMx {l:M dC}{k:Nat}(h:oF l k)(hk:(k:Int)<l.length)(h0:¬(l.getD k (0,[])).1=0)(h1:¬(l.getD k (0,[])).1<0/\¬3<(l.getD k (0,[])).1/\(l.getD k (0,[])).2=[]/\¬nW l k<k-nW l k+2):oF l (k+1):=
 OM h hk h0 w! ⟨h1.2.2.1,by grind[gw]⟩
theorem aNM {l:M dC}{k:Nat}(hk:(k:Int)<l.length)(h0:¬(l.getD k (0,[])).1=0)(h:(l.getD k (0,[])).1<0\/3<(l.getD k (0,[])).1\/¬(l.getD k (0,[])).2=[]\/nW l k<k-nW l k+2):false=bw l:=
 Hq hk h0 (by
  grind[gw])
theorem aqX{k:Nat}(h:oF l k)(hk:¬(k:Int)<l.length):(bif decide (gw l k=1) then decide (nW l k<=16) else false)=bw l:=by
 grind[aqU]
theorem aNN{k:Nat}(h:oF l k)(hk:¬(k:Int)<l.length):(bif decide (nW l k=l.length-nW l k+1) then decide (nW l k<=16) else false)=bw l:=by
 rw [<-aqX h hk];have:=h.1;grind[gw]
theorem aG5(l:M dC): []=bS l 0:=rfl
theorem alH{k:Nat}(hk:(k:Int)<l.length)(h:(l.getD k (0,[])).1=0):bS l k++[(l.getD (Int.toNat (k:Int)) (0,[])).2]=bS l (k+1):=by exact abF hk h
theorem alI{k:Nat}(hp:l.length<=1099511627776)(h:gX l k)(s:B8):(bS l k).length+[s].length<=8796093022208/\small (bS l k)/\small (fm (bS l k))/\small (bW (fm (bS l k))):=by
 grind[Î,bS,rG,N9,gX,List.length_singleton,small]
theorem aqY{k:Nat}(h:gX l k)(hk:¬(k:Int)<l.length):bW (fm (bS l k))=ax l/\sorted (bS l k)=ax l:=by
 have:=aqW h hk;rw [N9,this];exact⟨rfl,rfl⟩
def zA:B8:=[104,97,121]
abbrev El:=Int×Int×B8
def kE1:M El:=[(-1,0,zA)]
def kE:M El:=[(-1,0,zA),(-2,3,[])]
def fy:M dC:=[(0,zA)]
def hdT(l:O):B8:=l.getD 0 []
def tD(k:Nat):Int:=if k=0 then -1 else 0
def vw(l:M El)(n:Int):El:=l.getD n.toNat (0,0,[])
def fV(l:M dC):Prop:=small l/\∀o∈l,small o.2
theorem aFY(h:ajc l=false):fV l:=by
 refine⟨aMw h,λo ho=>?_⟩;have:=(aNL h).2 o ho;grind[small]
theorem aA5(h:fV l)(k:Nat):small (jY l k).2:=by
 by_cases hk:k<l.length
 . exact h.2 _ (bC l k _ hk)
 . unfold jY;rw [List.getD_eq_getElem?_getD,List.getElem?_eq_none w!];exact Nat.zero_le _
theorem ym {x:Nat}(h:(x:Int)<(([104,97,121]:U).length:Int)):x=0\/x=1\/x=2:=by
 grind
theorem ge3 {x:Nat}(h2:cc x 3)(h:¬(x:Int)<(([104,97,121]:U).length:Int)):x=3:=by
 grind[cc]
abbrev Wp:=B8×Bool
def lO(v:Int):Wp:=if fT v then([],true) else(num v,false)
def ik(b:B8)(cd:Int):Wp:=if cd<b.length then([],true) else(text b,false)
def ajd(n:Int)(g:B8)(l:M Sg):Wp:=if bN n g l then ik (hB n g l) 10000 else([],true)
def KJ(d:B8):Bool:=decide ((d.length:Int)=32)
def kO(p:O):Wp:=if 64<(p.length:Int) then([],true) else(num p.length++(p.takeWhile KJ).flatten,!bQ p)
def aL4(p:O)(k:Nat):B8:=num p.length++(p.take k).flatten
def mA(p:O)(k:Nat):Prop:=p.length<=64/\k<=p.length/\∀d∈p.take k,(d.length:Int)=32
def cat(a b:Wp):Wp:=(a.1++b.1,a.2 || b.2)
def ku(p:Pf):Wp:=
 if fU p.2.1 p.2.2.1 p.2.2.2.1 then cat (cat (cat (lO p.1) (ik (qy p.2.1 p.2.2.1 p.2.2.2.1) 200)) (kO p.2.2.2.2.1)) (ik p.2.2.2.2.2 4000)
 else((lO p.1).1,true)
def pfD(l:M Pf)(i:Nat):Pf:=l.getD i X0
def ON(l:M Pf):Nat->Wp
 |0=>(num l.length,false)
 |k+1=>cat (ON l k) (ku (pfD l k))
def iE(l:M (M Pf))(i:Nat):M Pf:=l.getD i []
def cY(n:Int)(g:B8)(s:M Sg)(l:M (M Pf)):Nat->Wp
 |0=>cat ([1],false) (ajd n g s)
 |k+1=>cat (cY n g s l k) (ON (iE l k) (iE l k).length)
def wy(w:Wp):B8:=if w.2 then [] else if 1048576<(w.1.length:Int) then [] else w.1
def wz(w:Wp):Int:=if w.2 then 1 else if 1048576<(w.1.length:Int) then 3 else 0
def UJ(l:M (M Pf)):Bool:=l.all λx=>decide ((x.length:Int)<=16)
def kv(n:Int)(g:B8)(s:M Sg)(l:M (M Pf)):B8×Int:=
 if(l.length:Int)≠s.length\/UJ l=false then([],1) else(wy (cY n g s l l.length),wz (cY n g s l l.length))
def X6(p:Pf):Bool:= !fT p.1&&(fU p.2.1 p.2.2.1 p.2.2.2.1&&(decide ((p.2.2.2.2.1.length:Int)<=64)&&(bQ p.2.2.2.2.1&&decide ((p.2.2.2.2.2.length:Int)<=4000))))
abbrev Rs:=Int×Int
def cC(b:B8)(a e:Int):Rs×Hd:=
 if(an b a e 10000).1.2.2≠0 then((an b a e 10000).1.2,(0,[],[]))
 else(((an b a e 10000).1.2.1,(hR (an b a e 10000).2).2),(hR (an b a e 10000).2).1)
def kQ(b:B8)(a e:Int):Rs×Lk:=
 if(an b a e 200).1.2.2≠0 then((an b a e 200).1.2,([],[],[]))
 else(((an b a e 200).1.2.1,(bj (an b a e 200).2).2),(bj (an b a e 200).2).1)
def dh(b:B8)(a e cd:Int):Rs×Int:=
 if cd<(af b a e).2 then(((af b a e).1.2.1,2),0) else((af b a e).1.2,(af b a e).2)
def rL(b:B8)(a e:Int):Nat->Rs×O
 |0=>((a,e),[])
 |k+1=>((ar b (rL b a e k).1.1 (rL b a e k).1.2).1.2,(rL b a e k).2++[(ar b (rL b a e k).1.1 (rL b a e k).1.2).2])
def pg(b:B8)(a e:Int):Nat:=(dh b a e 64).2.toNat
def dB(b:B8)(a e:Int)(k:Nat):Rs×O:=rL b (dh b a e 64).1.1 (dh b a e 64).1.2 k
def iK(b:B8)(a e:Int):Rs×O:=dB b a e (pg b a e)
def q1(b:B8)(a e:Int):Rs×Int:=((af b a e).1.2,(af b a e).2)
def q2(b:B8)(a e:Int):Rs×Lk:=kQ b (q1 b a e).1.1 (q1 b a e).1.2
def q3(b:B8)(a e:Int):Rs×O:=iK b (q2 b a e).1.1 (q2 b a e).1.2
def q4(b:B8)(a e:Int):Rs×B8:=((an b (q3 b a e).1.1 (q3 b a e).1.2 4000).1.2,(an b (q3 b a e).1.1 (q3 b a e).1.2 4000).2)
def iF(b:B8)(a e:Int):Rs×Pf:=((q4 b a e).1,((q1 b a e).2,(q2 b a e).2.1,(q2 b a e).2.2.1,(q2 b a e).2.2.2,(q3 b a e).2,(q4 b a e).2))
def D9(b:B8)(a e:Int):Nat->Rs×M Pf
 |0=>((a,e),[])
 |k+1=>((iF b (D9 b a e k).1.1 (D9 b a e k).1.2).1,(D9 b a e k).2++[(iF b (D9 b a e k).1.1 (D9 b a e k).1.2).2])
def ò(b:B8)(a e:Int):Nat:=(dh b a e 16).2.toNat
def abH(b:B8)(a e:Int)(k:Nat):Rs×M Pf:=D9 b (dh b a e 16).1.1 (dh b a e 16).1.2 k
def ayK(b:B8)(a e:Int):Rs×M Pf:=abH b a e (ò b a e)
def sL(b:B8)(a e:Int):Nat->Rs×M (M Pf)
 |0=>((a,e),[])
 |k+1=>((ayK b (sL b a e k).1.1 (sL b a e k).1.2).1,(sL b a e k).2++[(ayK b (sL b a e k).1.1 (sL b a e k).1.2).2])
def dY(b:B8)(kind:UInt8):Int:=if 1048576<(b.length:Int) then 3 else if b.length=0 then 4 else if b.getD 0 0=kind then 0 else 2
def aH(b:B8):Rs×Hd:=cC b 1 0
def js(b:B8)(k:Nat):Rs×M (M Pf):=sL b (aH b).1.1 (aH b).1.2 k
def aN(b:B8):Nat:=(aH b).2.2.2.length
def bp(b:B8):(Int×B8×M Sg×M (M Pf))×Int:=
 if dY b 1≠0 then((0,[],[],[]),dY b 1)
 else if done b (js b (aN b)).1.1 (js b (aN b)).1.2≠0 then((0,[],[],[]),done b (js b (aN b)).1.1 (js b (aN b)).1.2)
 else(((aH b).2.1,(aH b).2.2.1,(aH b).2.2.2,(js b (aN b)).2),0)
def st1(b:B8):Rs×Hd:=cC b 1 0
def st2(b:B8):Rs×Hd:=cC b (st1 b).1.1 (st1 b).1.2
def uV(b:B8):Rs×O:=iK b (st2 b).1.1 (st2 b).1.2
def ah(b:B8):(Int×B8×M Sg×Int×B8×M Sg×O)×Int:=
 if dY b 3≠0 then((0,[],[],0,[],[],[]),dY b 3)
 else if done b (uV b).1.1 (uV b).1.2≠0 then((0,[],[],0,[],[],[]),done b (uV b).1.1 (uV b).1.2)
 else(((st1 b).2.1,(st1 b).2.2.1,(st1 b).2.2.2,(st2 b).2.1,(st2 b).2.2.1,(st2 b).2.2.2,(uV b).2),0)
theorem aqZ(h:bQ p=true):p.takeWhile KJ=p:=by
 induction p with
 |nil=>rfl
 |cons a l ih=>
  simp_all[bQ,List.all_cons,B!,List.takeWhile_cons_of_pos,KJ]
theorem Sq {p:Pf}:X6 p=true↔fT p.1=false/\fU p.2.1 p.2.2.1 p.2.2.2.1=true/\(p.2.2.2.2.1.length:Int)<=64/\bQ p.2.2.2.2.1=true/\(p.2.2.2.2.2.length:Int)<=4000:=by
 simp_all[X6,B!,M?,H!]
end Go.S
