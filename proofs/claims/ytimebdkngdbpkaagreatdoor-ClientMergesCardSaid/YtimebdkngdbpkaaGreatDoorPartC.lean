import Derived.Test.YtimebdkngdbpkaaGreatDoorPartB
set_option linter.unusedVariables false
set_option linter.unusedSimpArgs false
set_option linter.unusedSectionVars false
set_option linter.defProp false
section
namespace Go.Vg
open Go Go.ChangeShapes Go.WideShapes Go.ChangeAt Go.RowKit
variable [HP]
def PS.of(T:bY)(t:TypeId):Option PS:=match T.find t,rowOf T qp t with
 |some te,some row=>bif xp T qp t then(bif te.desc.mw then some (.agg row) else match row with
  |[u]=>some (.one u)
  |_=>none) else none
 |_,_=>none
def PS.ofs(T:bY):List TypeId->Option (List PS)
 |[]=>some []
 |t::ts=>match PS.of T t,PS.ofs T ts with
  |some p,some ps=>some (p::ps)
  |_,_=>none
section
variable {P:Program} {E:Env} {w:World} {A:Nat->Prop} {β:Nat->Value} {T:bY} {H:Type} {enc:TypeId×Value->H} {sp:Nat->Bool} {held:Bool}
def afI:∀(t:Ty) (x:D t),∃y,Tk t (DK t x)=some y
 |.int k,x=>⟨_,by simp [DK,Tk];rfl⟩
 |.bool,b=>⟨b,rfl⟩
 |.str,s=>⟨s,rfl⟩
 |.slice row,l=>by
   simp only [DK,Tk,eU]
   have :Ty.yC row row=true:=by
    have :∀(r:List Ty),Ty.yC r r=true:=λr=>zB r;exact this row
   rw [dif_pos this];exact⟨_,rfl⟩
where
 Xb:∀(t:Ty),Ty.beq t t=true
  |.int k=>by simp [Ty.beq]
  |.bool|.str=>rfl
  |.slice r=>by simp only [Ty.beq];exact zB r
 zB:∀(r:List Ty),Ty.yC r r=true
  |[]=>rfl
  |t::ts=>by simp only [Ty.yC,Xb t,zB ts,Bool.and_self]
def uW:∀(ts:List Ty) (x:Row ts) (us:List Ty) (as_:List AV) (z:Row us),jR us as_=some z->∃y,jR (ts++us) (aF ts x++as_)=some y
 |[],x,us,as_,z,h=>⟨z,h⟩
 |t::ts,x,us,as_,z,h=>by
  obtain⟨d,hd⟩:=afI t (Row.hd x);obtain⟨y,hy⟩:=uW ts (Row.tl x) us as_ z h;refine⟨Row.mk d y,?_⟩;show jR (t::(ts++us)) (DK t (Row.hd x)::(aF ts (Row.tl x)++as_))=_;simp only [jR,hd,hy]
def Lg(hT:bx T P)(hA:∀b,b<w.heap.size->A b):∀(ts:List TypeId) (ps:List PS) (vs:List Value) (ds:List (DataW H)) (q:List MemPlace),PS.ofs T ts=some ps->
  (∀(j:Nat) t v,ts[j]? =some t->vs[j]? =some v->∃b,Value.okWide P w .any b t v)->
  DataW.TrodAll enc P w 0 sp held ts vs ds q->ds.length=ts.length/\∃aX cs z,ae w A β vs aX/\PS.cells ps aX=some cs/\jR (PS.flat ps) cs=some z
 |[],ps,vs,ds,q,hp,_,h=>by
   simp only [PS.ofs,A!] at hp;subst hp;cases vs with
   |nil=>
    cases ds with
    |nil=>exact⟨rfl,[],[],(),by simp only [ae],rfl,rfl⟩
    |cons _ _=>simp [DataW.TrodAll] at h
   |cons _ _=>simp [DataW.TrodAll] at h
 |t::ts,ps,vs,ds,q,hp,Rr,h=>by
  simp only [PS.ofs] at hp;split at hp
  . rename_i p ps' h1 h2;simp only [A!] at hp;subst hp;match vs,ds,h with
    |v::vs,d::ds,h=>
     simp only [DataW.TrodAll] at h;obtain⟨q1,q2,g1,g2,_⟩:=h;obtain⟨k1,aX,cs,z,k2,k3,k4⟩:=Lg hT hA ts ps' vs ds q2 h2 (λj t' v' hj hv=>Rr (j+1) t' v' (by simpa using hj) (by simpa using hv)) g2;refine⟨by simp [k1],?_⟩;obtain⟨b,hv⟩:=Rr 0 t v rfl rfl;obtain⟨m,hm⟩:=g1;unfold PS.of at h1;split at h1
     . rename_i te row iz k8;cases hfl:xp T qp t with
       |false=>rw [hfl] at h1;cases h1
       |true=>
        rw [hfl] at h1;simp only [I!] at h1;obtain⟨hu,_⟩:=hT.ok t te iz;obtain⟨r,hr⟩:=A3 (A:=A) hT hA qp m t row _ _ k8 hfl hm;have hrel:=fY (β:=β) _ _ _ hr;cases QH:te.desc.mw with
        |true=>
         rw [QH] at h1;simp only [I!,A!] at h1;subst h1
         have :∃arr:Array Value,v= .agg arr:=by
          unfold Value.okWide at hv;rw [hu] at hv;cases hd:te.desc with
          |struct fs=>rw [hd] at hv;obtain⟨arr,e,_⟩:=hv;exact⟨arr,e⟩
          |array k e=>rw [hd] at hv;obtain⟨arr,e,_⟩:=hv;exact⟨arr,e⟩
          |_=>rw [hd] at QH;cases QH
         obtain⟨arr,rfl⟩:=this;obtain⟨y,hy⟩:=uW row r _ _ z k4;refine⟨.agg (aF row r)::aX,aF row r++cs,y,?_,?_,hy⟩
         . simp only [ae,aa];exact⟨_,vs,rfl,⟨arr,rfl,hrel⟩,k2⟩
         . simp only [PS.cells,eH,k3,ct,I!]
        |false=>
         rw [QH] at h1;simp only [L!] at h1;split at h1
         . rename_i u;simp only [A!] at h1;subst h1;obtain⟨y,hy⟩:=uW [u] r _ _ z k4
           have hc:v.cells.toList=[v]:=by
            unfold Value.okWide at hv;rw [hu] at hv;cases v with
            |agg arr=>
             exfalso;cases hd:te.desc<;>rw [hd] at hu hv QH<;>simp_all [Cell.okWide,Cell.ok,TypeDesc.mw]
            |_=>rfl
           rw [hc] at hrel;simp only [aF,ae] at hrel;obtain⟨v',bS,e,e1,_⟩:=hrel;simp only [f?] at e;obtain⟨rfl,_⟩:=e;refine⟨DK u (Row.hd r)::aX,DK u (Row.hd r)::cs,y,?_,?_,hy⟩
           . simp only [ae];exact⟨_,vs,rfl,e1,k2⟩
           . simp only [PS.cells,k3]
         . cases h1
     . cases h1
    |[],_::_,h=>simp [DataW.TrodAll] at h
    |[],[],h=>simp [DataW.TrodAll] at h
    |_::_,[],h=>simp [DataW.TrodAll] at h
  . cases hp
def Lh(hl:laidOutB P=true){W W':World}(hb:Below W.heap.size W W'):∀(ts:List TypeId) (vs:List Value) (ds:List (DataW H)) (q:List MemPlace),(∀t∈ts,P.readableRec t=true/\t<P.types.size)->
  DataW.TrodAll enc P W 0 (λ_=>true) true ts vs ds q->(∀x∈q,x.block<W.heap.size)->DataW.TrodAll enc P W' 0 (λb=>decide (b<W.heap.size)) true ts vs ds q
 |[],[],[],q,_,h,_=>h
 |t::ts,v::vs,d::ds,q,ht,h,hq=>by
  simp only [DataW.TrodAll] at h |-;obtain⟨q1,q2,g1,g2,rfl⟩:=h
  exact⟨q1,q2,Below.trod hl (ht t (H! ..)).1 (ht t (H! ..)).2 g1 hb (λx hx=>hq x (U! _ hx)),
   Lh hl hb ts vs ds q2 (λu hu=>ht u (E! _ hu)) g2 (λx hx=>hq x (A? _ hx)),rfl⟩
 |[],_::_,_,_,_,h,_|[],[],_::_,_,_,h,_|_::_,[],_,_,_,h,_|_::_,_::_,[],_,_,h,_=>by simp [DataW.TrodAll] at h
def N3(hT:bx T P)(hl:laidOutB P=true){G:Nat->Option GD}{f:FuncId}{fn:Func}{s:ChangeSpec}{ps:List PS}(hv:Valid P G f (eM ps λ_=>(True,.bool true,[])))
  (hps:PS.ofs T fn.params.toList=some ps) (afJ:(fn.params.toList.all λt=>P.readableRec t&&decide (t<P.types.size))=true) {tb:TypeId} (vJ:fn.resultTypes= #[tb]) (htb:P.underlying tb=some .bool)
  (hsv:s.vars=[]) (hs:∀(H:Type) (ds:List (DataW H)),ds.length=fn.params.toList.length->s.fn H ds= {results:=[.lit (.bool true)],args:=ds})
  {W:World} {base:Nat} {args:Array Value} {ds gs:List (DataW H)} {before:List MemPlace} (hG:∀i d,G i=some d->na W (λb=>b<W.heap.size) i d)
  (zb:∀(j:Nat) t v,fn.params[j]? =some t->args[j]? =some v->Value.okWide P W .any base t v)
  (hW:DataW.Whole enc P fn.params.toList s.vars false W args.toList ds gs before):
  Calls P f args W λe W'=>∃v,e= .returned v/\s.post enc P fn false true false false W args v W':=by
 have hW':=hW;obtain⟨p,q,hA,hV,rfl,Br,hnd⟩:=hW;rw [hsv] at hV
 have hV':gs=[]/\q=[]:=by
  cases gs with
  |nil=>exact⟨rfl,by simpa [DataW.TrodVars] using hV⟩
  |cons _ _=>simp [DataW.TrodVars] at hV
 obtain⟨rfl,rfl⟩:=hV';simp only [F?] at hW';obtain⟨hlen,aX,cs,z,k1,k2,k3⟩:=Lg (β:=λ_=>undef) (A:=λb=>b<W.heap.size) hT (λb hb=>hb) _ ps _ _ _ hps (λj t v hj hv=>⟨base,zb j t v (by simpa using hj) (by simpa using hv)⟩) hA;have hc:=hv W (λb=>b<W.heap.size) (λ_=>undef) args.toList aX True (.bool true) [] (λb hb=>hb) hG k1 (by simp only [eM,Gr,k2,k3]) trivial;rw [Array.toArray_toList] at hc;refine hc.mono ?_;rintro e W' ⟨v,rfl,A',aw,hp⟩;have hvt:=hp.res;simp only [aa] at hvt;subst hvt;have hb:Below W.heap.size W W':=⟨hp.os,hp.tape,hp.output,hp.size,λk hk=>hp.same k hk⟩;have iU:∀x∈p,x.block<W.heap.size:=λx hx=>by simpa using hW'.lt x hx
 rw [X!] at afJ
 have bj:=Lh hl hb fn.params.toList args.toList ds p (λt ht=>by
  have:=afJ t ht;simp only [B!,J!] at this;exact this) hA iU
 have Cy:=hs H ds hlen;refine⟨_,rfl,ds,[],p,[],p,[],hW',?_,?_,?_,hb.frame _,λh=>by cases h⟩
 . rw [vJ];simp only [F?,Cy,Value.resultList];exact trodAll_mk1 (shut_bool htb true)
 . simp only [F?,Cy];exact bj
 . rw [hsv];simp only [F?,Cy];rfl
end
end Go.Vg

end
section
namespace Go.V
theorem xq {a b:Bool}:((bif a then true else b)=true)=(a=true\/b=true):=by grind
theorem jz {a b:Bool}:((bif a then true else b)=false)=(a=false/\b=false):=by grind
theorem afK {a b:Bool}:((bif a then b else false)=true)=(a=true/\b=true):=by grind
theorem EP {a b:Bool}:((bif a then b else false)=false)=(a=false\/b=false):=by grind
theorem dI {p A B:Prop}[Decidable p](h1:p->A)(h2:¬p->B):(decide p=true->A)/\(decide p=false->B):=⟨λh=>h1 (V? h),λh=>h2 (z? h)⟩
end Go.V
namespace Go.S
theorem ax {α:Type}(l:List α)(n:Nat)(d:α)(h:n<l.length):l.take (n+1)=l.take n++[l.getD n d]:=by
 simp_all
theorem bA {α:Type}(l:List α)(n:Nat)(d:α)(h:n<l.length):l.getD n d∈l:=by
 grind
end Go.S
namespace Go.S
theorem ab9 {α:Type}(l:List α)(z x:α)(n m:Nat)(hl:l.length=n)(hn:n<m):(l++List.replicate (m-n) z).set n x=l++[x]++List.replicate (m-(n+1)) z:=by
 rw [List.set_append_right _ _ w!,hl,Nat.sub_self,show m-n=(m-(n+1))+1 by omega,List.replicate_succ,List.set_cons_zero];simp
end Go.S

end
section
namespace Go.Vg
open Go
variable [HP]
def St.CT(G:Nat->Option GD)(n:Nat)(aX:List AV)(hs:List AB):St:=
 {St.init G n aX with h:=λk=>bif Nat.ble 50000 k&&Nat.blt k 60000 then hs[k-50000]? else none}
def xr:AB->Bool
 |.row _ _ _ true=>false
 |.fvar _ _=>false
 |_=>true
def kindOk:AB->Bool
 |.row _ _ _ false=>true
 |.cells _|.arr _ _|.aX _ _ _ _|.gG _ _ _ _ _|.dM _ _ _ _=>true
 |_=>false
def afL:Option AB->Bool
 |some b=>kindOk b
 |none=>true
def Xc(r:bk)(k:Nat):Bool:=pR k&&(match r.heap[k-50000]? with
 |some (some _)=>true
 |_=>false)
def j5(r:bk)(k:Nat):Bool:= !(Xc r k)
def sL(st:St)(k n e:Nat)(row:List Ty)(l:List (Row row)):St:=
 {st with
  t:=λi=>dR 70000 (st.t i)
  h:=λj=>bif Nat.beq j 70000 then some (.row e row (l.take n) false) else bif Nat.beq j k then none else match st.h j with
   |some b=>some (lI 70000 b)
   |none=>none}
def sM(st:St)(x:AV):St×AV:=match x with
 |.pre k n=>match st.h k with
   |some (.row e row l false)=>(sL st k n e row l,.own 70000)
   |_=>(st,x)
 |_=>(st,x)
mutual
def xt(h:aJ)(s:List (Nat×Option Nat))(bad:Nat->Bool):AV->AV->List Prop×List Nat
 |.sl r l,.own k=>CI h r l k
 |.agg xs,.agg ys|.bn xs,.bn ys=>nM h s bad xs ys
 |.own i,y=>(KD s bad y (.own i),[])
 |x,y=>(KD s bad (hX h y).1 x,(hX h y).2)
def nM(h:aJ)(s:List (Nat×Option Nat))(bad:Nat->Bool):List AV->List AV->List Prop×List Nat
 |[],[]=>([],[])
 |x::xs,y::ys=>((xt h s bad x y).1++(nM h s bad xs ys).1,(xt h s bad x y).2++(nM h s bad xs ys).2)
 |_,_=>([False],[])
end
def ub(h:aJ)(s:List (Nat×Option Nat))(bad:Nat->Bool):Option AB->AB->List Prop×List Nat
 |some (.cells xs),.cells ys=>nM h s bad ys xs
 |o,b=>(NU s bad o b,[])
def mJ(h:aJ)(s:List (Nat×Option Nat))(bad:Nat->Bool):Nat->List (Option AB)->List Prop×List Nat
 |_,[]=>([],[])
 |i,some b::bs=>((ub h s bad (h (50000+i)) b).1++(mJ h s bad (i+1) bs).1,(ub h s bad (h (50000+i)) b).2++(mJ h s bad (i+1) bs).2)
 |i,none::bs=>mJ h s bad (i+1) bs
def yd(h:aJ)(s:List (Nat×Option Nat))(bad:Nat->Bool)(K:Nat)(b:AB):List Prop×List Nat:=match cn s K with
 |some (some k)=>ub h s bad (h k) b
 |some none=>match b with
  |.row _ _ l false=>([[]=l],[])
  |_=>([False],[])
 |none=>([False],[])
def sN(h:aJ)(s:List (Nat×Option Nat))(bad:Nat->Bool):Nat->List AB->List Prop×List Nat
 |_,[]=>([],[])
 |j,b::bs=>((yd h s bad (60000+j) b).1++(sN h s bad (j+1) bs).1,(yd h s bad (60000+j) b).2++(sN h s bad (j+1) bs).2)
def ER(h:aJ):Nat->List (Option AB)->List (Nat×Option Nat)
 |_,[]=>[]
 |i,some (.cells ys)::bs=>(match h (50000+i) with
  |some (.cells xs)=>sA ys xs
  |_=>[])++ER h (i+1) bs
 |i,some (.dM _ (some j) _ _)::bs=>(match h (50000+i) with
  |some (.dM _ (some k) _ _)=>[(j,some k)]
  |_=>[])++ER h (i+1) bs
 |i,_::bs=>ER h (i+1) bs
def RB(h:aJ)(s:List (Nat×Option Nat)):Nat->List AB->List (Nat×Option Nat)
 |_,[]=>[]
 |j,.cells ys::bs=>(match cn s (60000+j) with
  |some (some k)=>match h k with
   |some (.cells xs)=>sA ys xs
   |_=>[]
  |_=>[])++RB h s (j+1) bs
 |j,_::bs=>RB h s (j+1) bs
def ES(acc:List (Nat×Option Nat)):List (Nat×Option Nat)->List (Nat×Option Nat)
 |[]=>acc
 |(k,x)::r=>bif Nat.ble 60000 k&&(match cn acc k with|none=>true|some _=>false) then ES ((k,x)::acc) r else ES acc r
def auT(h:aJ)(x:AV)(r:bk):List (Nat×Option Nat):=ES [] (Jr r.res x++ER h 0 r.heap)
def asP(h:aJ)(r:bk)(s:List (Nat×Option Nat)):List (Nat×Option Nat):=ES s (RB h s 0 r.new)
def aAK(h:aJ)(x:AV)(r:bk):List (Nat×Option Nat):=asP h r (asP h r (auT h x r))
def Li(h:aJ)(s:List (Nat×Option Nat))(x:AV)(r:bk):List Nat:=(xt h s (j5 r) r.res x).2++((mJ h s (j5 r) 0 r.heap).2++(sN h s (j5 r) 0 r.new).2)
def RC(h:aJ)(x:AV)(r:bk)(s:List (Nat×Option Nat)):Prop:=
 bif jK (dS s)&&(((dS s).all (j5 r))&&((s.all λy=>Nat.ble 60000 y.1)&&(((Li h s x r).all λk=>!au (dS s) k&&j5 r k)&&(r.new.all kindOk&&r.heap.all afL)))) then
  HA ((xt h s (j5 r) r.res x).1++((mJ h s (j5 r) 0 r.heap).1++(sN h s (j5 r) 0 r.new).1)) else False
def Lj(T:bY)(st:St)(rs:List ResultVar)(r:bk):Prop:=match mH T st rs with
 |none=>False
 |some as_=>RC (sM st (gb as_)).1.h (sM st (gb as_)).2 r (aAK (sM st (gb as_)).1.h (sM st (gb as_)).2 r)
def alp(T:bY)(rs:List ResultVar)(r:bk)(e:Ex)(st:St):Prop:=match e with
 |.norm|.ret=>Lj T st rs r
 |_=>False
def CU(E:Env)(L:Nat->Option bq)(c:Code)(n:Nat)(rs:List ResultVar)(aX:List AV)(hs:List AB)(r:bk):Prop:=
 bif Nat.ble aX.length n then pw E L c (alp E.T rs r) (St.CT E.fQ n aX hs) else False
section
variable {P:Program} {C:Ctx} {E:Env} {A A':Nat->Prop} {β aw:Nat->Value} {st:St} {a:Act} {w:World} {T:bY}
theorem Ll {G:Nat->Option GD}{n:Nat}{aX:List AV}{hs:List AB}{k:Nat}{ab:AB}(h:(St.CT G n aX hs).h k=some ab):∃i,k=50000+i/\hs[i]? =some ab:=by
 simp [St.CT] at h;cases hb:(Nat.ble 50000 k&&Nat.blt k 60000) with
 |false=>grind
 |true=>
  simp only [Bool.and_eq_true] at hb;have:=Nat.le_of_ble_eq_true hb.1;grind
def aq.CT {G:Nat->Option GD}{args:List Value}{aX:List AV}{hs:List AB}{n:Nat}(hA:∀b,A b->b<w.heap.size)(hG:∀i d,G i=some d->na w A i d)(hr:ae w A β args aX)(hn:aX.length<=n)
  (eu:∀i ab,hs[i]? =some ab->BR w A β (50000+i) ab) (tF:∀i j b,i<hs.length->j<hs.length->ag (β (50000+i))=some b->ag (β (50000+j))=some b->i=j):
  aq ⟨w,A,HM β hs.length,G,β⟩ A β (St.CT G n aX hs) {tmps:=args.toArray++Array.replicate (n-args.toArray.size) undef,defers:=[]} w:=by
 have hI:=aq.init (β:=β) (G:=G) (n:=n) hA hG hr hn
 have hk:∀k,((St.CT G n aX hs).h k).isSome->∃i,k=50000+i/\i<hs.length:=by
  grind[Option.isSome_iff_exists,Ll,List.getElem?_eq_some_iff]
 refine⟨hI.defers,hI.size,hI.tmps,λk ab h=>?_,λk k' b h h' hb ek=>?_,hI.bound,⟨rfl,rfl,rfl,S! _,λb _ _=>rfl⟩,λb _ h=>.inl h,λb h=>h,λk b h hb=>?_,λi d h=>h,hG,λk _=>rfl⟩
 . grind[Ll]
 . grind
 . obtain⟨i,rfl,h1⟩:=hk k h;exact .inr ⟨i,h1,hb⟩
def afM {hs:List AB}(hnf:∀ab∈hs,xr ab=true)(eu:∀i ab,hs[i]? =some ab->BR w A β (50000+i) ab):∀b,HM β hs.length b->¬A b:=by
 rintro b ⟨i,hi,hb⟩;have hg:=D! hi;have h:=eu i _ hg;have hn:=hnf _ (List.getElem_mem hi);generalize hs[i]=ab at h hn;cases ab with
 |cells cs=>
  obtain⟨b',arr,e,h1,h2,h3,_⟩:=h;grind[ag,Option.some.injEq]
 |arr row l=>
  obtain⟨b',arr,e,h1,h2,h3,_⟩:=h;grind[ag,Option.some.injEq]
 |fvar _ _=>cases hn
 |mp b2 es ck=>
  obtain⟨h1,h2,h3⟩:=h;grind[ag,Option.some.injEq]
 |views _ _ _ _ _|eE _ _ _|aX _ _ _ _|dM _ _ _ _=>
  obtain⟨xs,h1,h2,_⟩:=h;grind
 |row e row l fr=>
  obtain⟨xs,h1,h2,h3⟩:=h;grind[xr]
 |gG e j row l i=>
  obtain⟨xs,v0,h1,h2,_⟩:=h;grind
theorem aq.shrink(hB:aq C A β st a w){k n e:Nat}{row:List Ty}{l:List (Row row)}{v:Value}(hk:st.h k=some (.row e row l false))(hv:aa w A β v (.pre k n)):
  aq C A (bg β 70000 v) (sL st k n e row l) a w/\aa w A (bg β 70000 v) v (.own 70000):=by
 obtain⟨xs,o1,o2,o3⟩:=Kb hB hk;have Cy:=eW l xs n o2
 have ib:w.ownsRow 0 e row.length v n (xs.take (n*row.length))/\n<=l.length/\ag v=ag (β k):=by
  simp only [aa] at hv;rcases hv with⟨h1,h2,h3⟩|⟨b,mm,cap,h1,h2,h3⟩
  . simp_all[World.ownsRow_nil]
  . rcases o1.2 with⟨g1,_⟩|⟨g,jg,cur,g1,g2,g3,g4,g5,g6,g7⟩
    . grind
    . rw [h1] at g1;obtain⟨rfl,rfl,rfl⟩:=g1;refine⟨⟨?_,.inr ⟨b,cap,cur,h2,w!,g3,w!,g5,g6,?_⟩⟩,h3,by rw [h1,h2];rfl⟩
      . grind[List.length_take,Nat.min_eq_left,Nat.mul_le_mul_right]
      grind[Nat.min_eq_left,Nat.mul_le_mul_right]
 obtain⟨ib,hnl,hbv⟩:=ib
 have jF:v.oneCell'=true:=by
  simp only [aa] at hv;rcases hv with⟨_,h2,_⟩|⟨b,mm,cap,_,h2,_⟩<;>subst h2<;>rfl
 have hs:∀j,((sL st k n e row l).h j).isSome->(j=70000/\bg β 70000 v j=v)\/(j≠70000/\j≠k/\(st.h j).isSome/\bg β 70000 v j=β j):=by
  intro j hj;by_cases h7:j=70000
  . subst h7;exact .inl ⟨rfl,by rfl⟩
  . simp only [sL,aG h7,cond_false] at hj;grind[ct,aG,bg]
 have I3:∀j b,((sL st k n e row l).h j).isSome->ag (bg β 70000 v j)=some b->∃j',(st.h j').isSome/\ag (β j')=some b/\((j=70000/\j'=k)\/(j≠70000/\j'=j/\j≠k)):=by
  grind
 refine⟨⟨hB.defers,hB.size,λi=>wO 70000 v _ _ (hB.tmps i),λj ab hj=>?_,λj j' b h1 h2 g1 g2=>?_,hB.bound,hB.frame,hB.gH,hB.base,λj b h1 g1=>?_,hB.nR,hB.laid,λj hj=>?_⟩,?_⟩
 . by_cases h7:j=70000
   . subst h7;simp only [sL,ct,cond_true,Option.some.injEq] at hj;grind[bg,BR,List.length_take,Nat.min_eq_left]
   . simp only [sL,aG h7,L!] at hj;by_cases CA:j=k
     . simp_all
     . rw [aG CA] at hj;cases hh:st.h j with
       |none=>grind
       |some x=>
        rw [hh] at hj;simp only [L!,A!] at hj;subst hj
        exact vI (new:=[(70000,.cells [])]) (w':=w) (A':=A) (aw:=bg β 70000 v) (λq hq=>by
         have :¬q=70000:=by rintro rfl;simp_all[ah]
         grind[bg]) (by grind[bg]) (λb _=>⟨rfl,id⟩) (λb hb=>⟨hb,rfl⟩) (hB.blocks j x hh)
 . obtain⟨i,a1,a2,a3⟩:=I3 j b h1 g1;obtain⟨i',b1,b2,b3⟩:=I3 j' b h2 g2;have:=hB.apart i i' b a1 b1 a2 b2;omega
 . obtain⟨i,a1,a2,_⟩:=I3 j b h1 g1;exact hB.lK i b a1 a2
 . have :¬j=70000:=by rintro rfl;simp_all[pR]
   simp only [bg,Q! this];exact hB.held j hj
 grind[aa,bg]
theorem RD(hB:aq C A β st a w){x:AV}{v:Value}(hv:aa w A β v x):∃aw,aq C A aw (sM st x).1 a w/\aa w A aw v (sM st x).2:=by
 unfold sM;split
 . split
   . rename_i e row l hk;obtain⟨h1,h2⟩:=hB.shrink hk hv;grind
   grind
 grind
mutual
theorem xu(hB:aq C A β st a w){s:List (Nat×Option Nat)}{bad:Nat->Bool}(hA:∀b,A b->A' b)(hK:Keyed bad s β aw):∀(x y:AV) (v:Value),
  (∀p∈(xt st.h s bad x y).1,p)->(∀k∈(xt st.h s bad x y).2,∀b,ag (β k)=some b->A' b)->aa w A β v y->aa w A' aw v x/\∀k∈(xt st.h s bad x y).2,(st.h k).isSome
 |x,y,v,h,hF,hr=>by
  generalize he:xt st.h s bad x y=r at h hF |-;unfold xt at he;split at he
  . rename_i r0 l0 k;subst he;exact EI hB hA r0 l0 k v h hF hr
  . rename_i xs ys;subst he;simp only [aa] at hr |-;obtain⟨arr,e1,e2⟩:=hr;obtain⟨g1,g2⟩:=nA hB hA hK xs ys _ h hF e2;exact⟨⟨arr,e1,g1⟩,g2⟩
  . rename_i xs ys;subst he;simp only [aa] at hr |-;obtain⟨arr,e1,e2⟩:=hr;obtain⟨g1,g2⟩:=nA hB hA hK xs ys _ h hF e2;exact⟨⟨arr,e1,g1⟩,g2⟩
  . subst he;exact⟨hY (λb hb=>⟨hA b hb,rfl⟩) _ _ (p9 hK _ _ _ h hr),λk hk=>by cases hk⟩
  . subst he;obtain⟨g1,g2⟩:=sa hB hr hA hF;exact⟨p9 hK _ _ _ h g1,λk hk=>by obtain⟨e,row,l,fr,hr⟩:=g2 k hk;simp [hr]⟩
theorem nA(hB:aq C A β st a w){s:List (Nat×Option Nat)}{bad:Nat->Bool}(hA:∀b,A b->A' b)(hK:Keyed bad s β aw):∀(xs ys:List AV) (vs:List Value),
  (∀p∈(nM st.h s bad xs ys).1,p)->(∀k∈(nM st.h s bad xs ys).2,∀b,ag (β k)=some b->A' b)->ae w A β vs ys->ae w A' aw vs xs/\∀k∈(nM st.h s bad xs ys).2,(st.h k).isSome
 |[],[],vs,_,_,hr=>by
   simp only [ae] at hr |-;exact⟨hr,λk hk=>by simp [nM] at hk⟩
 |x::xs,y::ys,vs,h,hF,hr=>by
  simp only [nM] at h hF |-;obtain⟨g1,g2⟩:=kK h;simp only [ae] at hr |-;obtain⟨v,bS,e,r1,r2⟩:=hr;obtain⟨q1,q2⟩:=xu hB hA hK x y v g1 (λk hk=>hF k (U! _ hk)) r1;obtain⟨q3,q4⟩:=nA hB hA hK xs ys bS g2 (λk hk=>hF k (A? _ hk)) r2;refine⟨⟨v,bS,e,q1,q3⟩,λk hk=>?_⟩;rcases G!.1 hk with hk|hk
  . exact q2 k hk
  . exact q4 k hk
 |[],_::_,vs,h,_,_|_::_,[],vs,h,_,_=>by simp only [nM] at h;exact(aQ h).elim
end
def auV {k:Nat}{b:AB}(hA:∀b,A b->A' b)(hk:kindOk b=true)(tG:∀g,ag (β k)=some g->¬A g->¬A' g)(h:BR w A β k b):BR w A' β k b:=by
 have hK:b7 w w A A':=λb hb=>⟨hA b hb,rfl⟩;cases b with
 |cells cs=>
  obtain⟨g,arr,e,h1,h2,h3,h4,h5⟩:=h;exact⟨g,arr,e,h1,h2,tG g (by rw [h1];rfl) h3,cu hK _ _ h4,h5⟩
 |arr row l=>
  obtain⟨g,arr,e,h1,h2,h3,h4⟩:=h;exact⟨g,arr,e,h1,h2,tG g (by rw [h1];rfl) h3,bm (λc x hx=>bw hK row c x hx) l _ h4⟩
 |views _ _ _ _ _|eE _ _ _|fvar _ _|mp _ _ _=>grind[kindOk]
 |aX e sz n cs=>
  obtain⟨xs,h1,h2,h3⟩:=h;exact⟨xs,h1,λg hg=>tG g hg (h2 g hg),λej=>cu hK _ _ (h3 ej)⟩
 |dM e j xs i=>
  obtain⟨ys,h1,h2,h3⟩:=h;exact⟨ys,h1,λg hg=>tG g hg (h2 g hg),h3⟩
 |gG e j row l i=>
  obtain⟨xs,v0,h1,h2,h3,h4⟩:=h;exact⟨xs,v0,h1,λg hg=>tG g hg (h2 g hg),bm (λc x hx=>bw hK row c x hx) l _ h3,h4⟩
 |row e row l fr=>
  cases fr with
  |true=>grind[kindOk]
  |false=>
   obtain⟨xs,x1,x2,x3⟩:=h;refine⟨xs,x1,bm (λc x hx=>bw hK row c x hx) l xs x2,λb hb=>?_⟩;grind
def Ib(hB:aq C A β st a w){s:List (Nat×Option Nat)}{bad:Nat->Bool}(hA:∀b,A b->A' b)(hK:Keyed bad s β aw){k K:Nat}{b:AB}(hk:aw K=β k)(Lm:kindOk b=true)
  (h:∀p∈(ub st.h s bad (st.h k) b).1,p) (hF:∀q∈(ub st.h s bad (st.h k) b).2,∀g,ag (β q)=some g->A' g) (tG:∀g,ag (β k)=some g->¬A g->¬A' g):BR w A' aw K b:=by
 generalize he:ub st.h s bad (st.h k) b=r at h hF;unfold ub at he;split at he
 . rename_i xs ys qX;subst he;obtain⟨g,arr,e,h1,h2,h3,h4,h5⟩:=hB.blocks k _ qX;obtain⟨q1,_⟩:=nA hB hA hK ys xs _ h hF h4;exact⟨g,arr,e,hk.trans h1,h2,tG g (by rw [h1];rfl) h3,q1,h5⟩
 . subst he;obtain⟨c,hc⟩:=vV h;rw [hc] at h;exact auV hA Lm x! (xk hK hk h (hB.blocks k c hc))
def xv(hB:aq C A β st a w){s:List (Nat×Option Nat)}{bad:Nat->Bool}(hK:Keyed bad s β aw){k:Nat}{b:AB}
  (h:∀p∈(ub st.h s bad (st.h k) b).1,p):(st.h k).isSome/\∀q∈(ub st.h s bad (st.h k) b).2,(st.h q).isSome:=by
 generalize he:ub st.h s bad (st.h k) b=r at h |-;unfold ub at he;split at he
 . rename_i xs ys qX;subst he;obtain⟨g,arr,e,h1,h2,h3,h4,h5⟩:=hB.blocks k _ qX;exact⟨x!,(nA (A':=λ_=>True) hB (λ_ _=>trivial) hK ys xs _ h (λ_ _ _ _=>trivial) h4).2⟩
 . subst he;obtain⟨c,hc⟩:=vV h;grind
def uc {h:aJ}{s:List (Nat×Option Nat)}{bad:Nat->Bool}:∀(bs:List (Option AB)) (i j:Nat) (b:AB),bs[j]? =some (some b)->
  (∀p∈(ub h s bad (h (50000+(i+j))) b).1,p∈(mJ h s bad i bs).1)/\∀p∈(ub h s bad (h (50000+(i+j))) b).2,p∈(mJ h s bad i bs).2
 |some b0::bs,i,0,b,hb=>by
  grind[List.getElem?_cons_zero,Option.some.injEq,mJ,List.mem_append_left]
 |some b0::bs,i,j+1,b,hb=>by
  simp [mJ];have:=uc (h:=h) (s:=s) (bad:=bad) bs (i+1) j b x!;grind
 |none::bs,i,0,b,hb=>by grind
 |none::bs,i,j+1,b,hb=>by
  simp [mJ];have:=uc (h:=h) (s:=s) (bad:=bad) bs (i+1) j b x!;grind
def zC {h:aJ}{s:List (Nat×Option Nat)}{bad:Nat->Bool}:∀(bs:List (Option AB)) (i q:Nat),q∈(mJ h s bad i bs).2->
  ∃(j:Nat) (b:AB),bs[j]? =some (some b)/\q∈(ub h s bad (h (50000+(i+j))) b).2
 |[],i,q,hq=>by grind[mJ]
 |some b0::bs,i,q,hq=>by
  simp [mJ,G!] at hq;rcases hq with hq|hq
  . exact⟨0,b0,rfl,hq⟩
  . obtain⟨j,b,h1,h2⟩:=zC bs (i+1) q hq;exact⟨j+1,b,by simpa using h1,by rwa [show i+1+j=i+(j+1) by omega] at h2⟩
 |none::bs,i,q,hq=>by
  obtain⟨j,b,h1,h2⟩:=zC bs (i+1) q hq;exact⟨j+1,b,by simpa using h1,by rwa [show i+1+j=i+(j+1) by omega] at h2⟩
def CV {h:aJ}{s:List (Nat×Option Nat)}{bad:Nat->Bool}:∀(bs:List AB) (i j:Nat) (b:AB),bs[j]? =some b->
  (∀p∈(yd h s bad (60000+(i+j)) b).1,p∈(sN h s bad i bs).1)/\∀p∈(yd h s bad (60000+(i+j)) b).2,p∈(sN h s bad i bs).2
 |b0::bs,i,0,b,hb=>by
  grind[List.getElem?_cons_zero,Option.some.injEq,sN,List.mem_append_left]
 |b0::bs,i,j+1,b,hb=>by
  simp [sN];have:=CV (h:=h) (s:=s) (bad:=bad) bs (i+1) j b x!;grind
def Ln {h:aJ}{s:List (Nat×Option Nat)}{bad:Nat->Bool}:∀(bs:List AB) (i q:Nat),q∈(sN h s bad i bs).2->
  ∃(j:Nat) (b:AB),bs[j]? =some b/\q∈(yd h s bad (60000+(i+j)) b).2
 |[],i,q,hq=>by grind[sN]
 |b0::bs,i,q,hq=>by
  simp [sN,G!] at hq;rcases hq with hq|hq
  . exact⟨0,b0,rfl,hq⟩
  . obtain⟨j,b,h1,h2⟩:=Ln bs (i+1) q hq;exact⟨j+1,b,by simpa using h1,by rwa [show i+1+j=i+(j+1) by omega] at h2⟩
theorem RE(hT:bx T P){fn:Func}(hB:aq C A β st a w){as_:List AV}(h:mH T st fn.results.toList=some as_):∃v,(results fn a.tmps).run P w= .ok v w/\aa w A β v (gb as_):=by
 obtain⟨vs,p1,p2⟩:=rM hT hB fn.results.toList as_ h;have hl:=cT as_ vs p2;refine⟨if h:vs.toArray.size=1 then vs.toArray[0] else .tuple vs.toArray,?_,?_⟩
 . grind[H6,Array.mapM_eq_mapM_toList,Sem.run_bind,map_eq_pure_bind,Result.andThen_ok,Sem.run_pure]
 . match as_,vs,hl,p2 with
   |[x],[v],_,p2=>
     grind[ae,List.cons.injEq,gb]
   |[],[],_,p2=>
     grind[gb,aa,ae]
   |x::y::l,v::u::m,_,p2=>
    simp_all[dif_neg,gb,aa]
theorem RF {w0:World}{A0:Nat->Prop}{G:Nat->Option GD}{DW oz:Nat->Value}{n:Nat}(hB:aq ⟨w0,A0,HM DW n,G,DW⟩ A oz st a w){r:bk}{x:AV}{v:Value}{s:List (Nat×Option Nat)}
  (hn:r.heap.length=n) (ae7:n<=100) (hA0:∀b,HM DW n b->¬A0 b) (Jb:∀b,A0 b->b<w0.heap.size) (I2:aa w A oz v x) (h:RC st.h x r s):
  ∃A' aw,Gf w0 A0 DW n w v r A' aw:=by
 unfold RC at h;cases hq:(jK (dS s)&&(((dS s).all (j5 r))&&((s.all λy=>Nat.ble 60000 y.1)&&(((Li st.h s x r).all λk=>!au (dS s) k&&j5 r k)&&(r.new.all kindOk&&r.heap.all afL))))) with
 |false=>grind
 |true=>
  rw [hq] at h;simp only [I!] at h;simp only [B!,X!] at hq;obtain⟨q1,q2,q3,q4,q5,q6⟩:=hq;obtain⟨c1,c2⟩:=kK (vT _ h);obtain⟨c2,c3⟩:=kK c2;let F:=Li st.h s x r
  let ej:Nat->Value:=λi=>match cn s i with
   |some (some k)=>oz k
   |some none=>ry
   |none=>oz i
  have h60:∀K y,cn s K=some y->60000<=K:=by
   have :∀(l:List (Nat×Option Nat)),(∀z∈l,Nat.ble 60000 z.1=true)->∀K y,cn l K=some y->60000<=K:=by
    intro l;induction l with
    |nil=>intro _ K y h;cases h
    |cons z l ih=>
     intro hl K y h;obtain⟨z1,z2⟩:=z;simp only [cn] at h;cases hb:Nat.beq K z1 with
     |true=>rw [C! hb];exact M! (hl _ (H! ..))
     |false=>rw [hb] at h;exact ih (λz hz=>hl z (E! _ hz)) K y h
   exact this s q3
  have afN:∀K,j5 r K=false->pR K=true/\cn s K=none/\∃ab,r.heap[K-50000]? =some (some ab):=by
   intro K hK;simp only [j5,Xc,Bool.not_eq_false',B!] at hK;obtain⟨k1,k2⟩:=hK;refine⟨k1,?_,?_⟩
   . cases hl:cn s K with
     |none=>rfl
     |some y=>
      have:=h60 K y hl;simp only [pR,B!] at k1;have:=M! k1.2;omega
   . split at k2
     . rename_i ab ku;exact⟨ab,ku⟩
     . cases k2
  have Bw:Keyed (j5 r) s oz ej:=⟨λK k h=>by simp only [ej,h],λK h=>by simp only [ej,h],λK h _=>by simp only [ej,h],λK h=>by simp only [ej,(afN K h).2.1]⟩
  have RG:∀i ab,r.heap[i]? =some (some ab)->i<100/\j5 r (50000+i)=false/\ej (50000+i)=oz (50000+i)/\oz (50000+i)=DW (50000+i):=by
   intro i ab hi;have iU:=(C?.1 hi).1
   have hip:pR (50000+i)=true:=by
    simp only [pR,B!];exact⟨Nat.ble_eq_true_of_le w!,Nat.ble_eq_true_of_le w!⟩
   have hb:j5 r (50000+i)=false:=by
    simp only [j5,Xc,hip,Bool.true_and,Nat.add_sub_cancel_left,hi,Bool.not_true]
   exact⟨w!,hb,by simp only [ej,(afN _ hb).2.1],hB.held _ hip⟩
  have RH:∀q∈F,(st.h q).isSome:=by
   intro q hq;simp only [F,Li,G!] at hq;rcases hq with hq|hq|hq
   . exact(xu (A':=λ_=>True) hB (λ_ _=>trivial) Bw r.res x v c1 (λ_ _ _ _=>trivial) I2).2 q hq
   . obtain⟨j,b,h1,h2⟩:=zC _ _ _ hq;have hm:=uc (h:=st.h) (s:=s) (bad:=j5 r) r.heap 0 j b h1;exact(xv hB Bw (λp hp=>c2 p (hm.1 p hp))).2 q h2
   . obtain⟨j,b,h1,h2⟩:=Ln _ _ _ hq;have hm:=CV (h:=st.h) (s:=s) (bad:=j5 r) r.new 0 j b h1;have hc:∀p∈(yd st.h s (j5 r) (60000+(0+j)) b).1,p:=λp hp=>c3 p (hm.1 p hp);generalize hg:yd st.h s (j5 r) (60000+(0+j)) b=g at hc h2;unfold yd at hg;split at hg
     . subst hg;exact(xv hB Bw hc).2 q h2
     . split at hg<;>(subst hg;cases h2)
     . subst hg;cases h2
  have hFA:∀q∈F,∀b,ag (oz q)=some b->cc A oz F b:=λq hq b hb=>.inr ⟨q,hq,hb⟩;have hAA:∀b,A b->cc A oz F b:=λb hb=>.inl hb
  have tG:∀k,(st.h k).isSome->k∉F->∀g,ag (oz k)=some g->¬A g->¬cc A oz F g:=by
   rintro k hk hkF g hg kD (hAg|⟨j,hj,hjg⟩)
   . exact kD hAg
   . have:=hB.apart j k g (RH j hj) hk hjg hg;subst this;exact hkF hj
  have afO:∀k,(k∈dS s\/j5 r k=false)->k∉F:=by
   rintro k hk hF;have h4:=q4 k hF;rcases hk with hk|hk
   . have:=mG.2 hk;rw [this] at h4;simp at h4
   . rw [hk] at h4;simp at h4
  have NL:∀i ab,r.heap[i]? =some (some ab)->BR w (cc A oz F) ej (50000+i) ab/\(st.h (50000+i)).isSome:=by
   intro i ab hi;obtain⟨_,hb,bt,_⟩:=RG i ab hi;have hm:=uc (h:=st.h) (s:=s) (bad:=j5 r) r.heap 0 i ab hi;rw [q?] at hm;have hl:=xv (k:=50000+i) hB Bw (λp hp=>c2 p (hm.1 p hp));have Lm:kindOk ab=true:=q6 _ (K? hi);exact⟨Ib hB hAA Bw bt Lm (λp hp=>c2 p (hm.1 p hp)) (λq hq=>hFA q (by simp only [F,Li,G!];exact .inr (.inl (hm.2 q hq)))) (tG _ hl.1 (afO _ (.inr hb))),hl.1⟩
  have hN1:∀j ab,r.new[j]? =some ab->BR w (cc A oz F) ej (60000+j) ab/\(ej (60000+j)=ry\/∃k,cn s (60000+j)=some (some k)/\ej (60000+j)=oz k/\(st.h k).isSome):=by
   intro j ab hj;have hm:=CV (h:=st.h) (s:=s) (bad:=j5 r) r.new 0 j ab hj;rw [q?] at hm;have hc:∀p∈(yd st.h s (j5 r) (60000+j) ab).1,p:=λp hp=>c3 p (hm.1 p hp);have hf:∀q∈(yd st.h s (j5 r) (60000+j) ab).2,q∈F:=λq hq=>by simp only [F,Li,G!];exact .inr (.inr (hm.2 q hq))
   have Lm:kindOk ab=true:=q5 _ (List.mem_of_getElem? hj);generalize hg:yd st.h s (j5 r) (60000+j) ab=g at hc hf;unfold yd at hg;split at hg
   . rename_i k hk;subst hg;have bt:ej (60000+j)=oz k:=by simp only [ej,hk]
     have hl:=xv (k:=k) hB Bw hc;exact⟨Ib hB hAA Bw bt Lm hc (λq hq=>hFA q (hf q hq)) (tG _ hl.1 (afO _ (.inl (jn s _ _ hk)))),.inr ⟨k,hk,bt,hl.1⟩⟩
   . rename_i hk;have bt:ej (60000+j)=ry:=by simp only [ej,hk]
     split at hg
     . subst hg;exact⟨Rq bt (aQ hc),.inl bt⟩
     . subst hg;exact(aQ hc).elim
   . subst hg;exact(aQ hc).elim
  have vJ:=(xu hB hAA Bw r.res x v c1 (λq hq=>hFA q (by simp only [F,Li,G!];exact .inl hq)) I2).1
  have eV:∀k b,y8 r k->ag (ej k)=some b->∃k',(st.h k').isSome/\ag (oz k')=some b/\((j5 r k=false/\k'=k)\/cn s k=some (some k')):=by
   rintro k b (⟨i,ab,rfl,_,hi⟩|⟨j,rfl,hj⟩) hb
   . obtain⟨_,h1,h2,_⟩:=RG i ab hi;rw [h2] at hb;exact⟨_,(NL i ab hi).2,hb,.inl ⟨h1,rfl⟩⟩
   . rcases(hN1 j _ (D! hj)).2 with h|⟨k,h1,h2,h3⟩
     . rw [h] at hb;simp [ry,ag] at hb
     . rw [h2] at hb;exact⟨k,h3,hb,.inr h1⟩
  refine⟨cc A oz F,ej,⟨hB.frame.os,hB.frame.tape,hB.frame.output,hB.frame.size,λb hb hM=>hB.frame.block b hb hM,λb hb=>⟨.inl (hB.base b hb),hB.frame.block b (Jb b hb) λhM=>hA0 b hM hb⟩,λb hb J2=>?_,λb hb=>?_,vJ,λi ab hi=>⟨(NL i ab hi).1,(RG i ab hi).2.2.1.trans (RG i ab hi).2.2.2⟩,λj ab hj=>⟨(hN1 j ab hj).1,λb hb=>?_⟩,λk k' b h1 h2 g1 g2=>?_⟩⟩
  . rcases J2 with J2|⟨j,hj,yW⟩
    . exact hB.gH b hb J2
    . rcases hB.lK j b (RH j hj) yW with h|h
      . exact absurd hb (Nat.not_lt.2 h)
      . exact .inr h
  . rcases hb with hb|⟨j,hj,yW⟩
    . exact hB.bound b hb
    . exact l4 hB (RH j hj) yW
  . obtain⟨k,g1,g2,_⟩:=eV _ b (.inr ⟨j,rfl,(C?.1 hj).1⟩) hb;exact hB.lK k b g1 g2
  . obtain⟨j,a1,a2,a3⟩:=eV k b h1 g1;obtain⟨j',b1,b2,b3⟩:=eV k' b h2 g2;have:=hB.apart j j' b a1 b1 a2 b2;subst this;rcases a3 with⟨p1,p2⟩|p1<;>rcases b3 with⟨r1,r2⟩|r1
    . exact p2.symm.trans r2
    . have:=q2 j (jn s _ _ r1);rw [p2,p1] at this;cases this
    . have:=q2 j (jn s _ _ p1);rw [r2,r1] at this;cases this
    . exact xl s q1 k k' j p1 r1
def Uz(hT:bx T P){fn:Func}{w0:World}{A0:Nat->Prop}{G:Nat->Option GD}{DW:Nat->Value}{n:Nat}(hB:aq ⟨w0,A0,HM DW n,G,DW⟩ A β st a w){r:bk}
  (hn:r.heap.length=n) (ae7:n<=100) (hA0:∀b,HM DW n b->¬A0 b) (Jb:∀b,A0 b->b<w0.heap.size) (h:Lj T st fn.results.toList r):
  ∃v,(results fn a.tmps).run P w= .ok v w/\∃A' aw,Gf w0 A0 DW n w v r A' aw:=by
 grind[Lj,RE,RD,RF]
def N4(hE:aU P E)(hm:P.follows .mixedOrders=true){f:FuncId}{fn:Func}{c:Code}{s:cX}(L:List AV->List AB->Nat->Option bq)(hf:P.funcs[f]? =some fn)(hb:fn.body=some c)
  (hnf:∀aX hs r,s aX hs=some r->∀ab∈hs,xr ab=true)
  (h:∀aX hs r,s aX hs=some r->r.pre->CU E (L aX hs) c fn.ntmps fn.results.toList aX hs r):ay P E.fQ f s:=by
 intro w A β args aX hs r hA hG bj eu tF mK hp hlen B1;have Gq:=h aX hs r mK hp;unfold CU at Gq;cases hn:Nat.ble aX.length fn.ntmps with
 |false=>grind
 |true=>
  rw [hn] at Gq;refine calls_of_wp hf hb (cV (C:=⟨w,A,HM β hs.length,E.fQ,β⟩) ⟨hE,rfl⟩ hm c _ _ _ w _ Gq ⟨A,β,aq.CT hA hG bj (M! hn) eu tF⟩ ?_);intro e aS a' w' hk _ hR;obtain⟨A',aw,hB⟩:=hR
  have key:Lj E.T aS fn.results.toList r->bodyPost P fn (λe w'=>∃v,e= .returned v/\∃A' aw,Gf w A β hs.length w' v r A' aw) .ret a' w':=by
   intro hk;obtain⟨v,h1,A2,ej,h2⟩:=Uz hE.eA hB hlen B1 (afM (hnf aX hs r mK) eu) hA hk;exact⟨hB.defers,v,h1,v,rfl,A2,ej,h2⟩
  cases e with
  |norm=>exact key hk
  |ret=>exact key hk
  |exit i=>exact hk.elim
end
end Go.Vg

end
section
namespace Go.Vg
open Go
variable [HP]
inductive TA where
 |c9 (t:Ty)
 |own (k:Nat)
 |ref (k off:Nat)
 |nil
 |jQ
 |k7
 |agg (l:List TA)
 |fn (f:Fn) (first aR:List TA)
 |var (ts:List Ty)
mutual
@[reducible] def TA.tys:TA->List Ty
  |.c9 t=>[t]
  |.agg l=>TA.du l
  |.fn _ l m=>TA.du l++TA.du m
  |.var ts=>ts
  |_=>[]
@[reducible] def TA.du:List TA->List Ty
  |[]=>[]
  |t::ts=>TA.tys t++TA.du ts
end
mutual
def TA.get:TA->AV->Option (List AV)
 |.c9 _,a=>some [a]
 |.own k,.own k'=>bif Nat.beq k k' then some [] else none
 |.ref k o,.ref k' o'=>bif Nat.beq k k'&&Nat.beq o o' then some [] else none
 |.nil,.nil|.jQ,.jQ|.k7,.k7=>some []
 |.agg l,.agg cs=>TA.ye l cs
 |.fn f l m,.fn f' cs ds=>if f=f' then BC (TA.ye l cs) (TA.ye m ds) else none
 |.var ts,.cN Ez x 0=>match eU Ez ts [x] with
   |some (y::_)=>some (aF ts y)
   |_=>none
 |_,_=>none
def TA.ye:List TA->List AV->Option (List AV)
 |[],[]=>some []
 |t::ts,a::as_=>BC (TA.get t a) (TA.ye ts as_)
 |_,_=>none
end
mutual
def TA.put:TA->List AV->AV
 |.c9 _,cs=>cs.headD .cr
 |.own k,_=>.own k
 |.ref k o,_=>.ref k o
 |.nil,_=>.nil
 |.jQ,_=>.jQ
 |.k7,_=>.k7
 |.agg l,cs=>.agg (TA.pG l cs)
 |.fn f l m,cs=>.fn f (TA.pG l (cs.take (TA.du l).length)) (TA.pG m (cs.drop (TA.du l).length))
 |.var ts,cs=>xo ts cs
def TA.pG:List TA->List AV->List AV
 |[],_=>[]
 |t::ts,cs=>TA.put t (cs.take (TA.tys t).length)::TA.pG ts (cs.drop (TA.tys t).length)
end
inductive TB where
 |row (e:Nat) (row:List Ty)
 |cells (l:List TA)
 |arr (row:List Ty)
 |dM (e k:Nat)
@[reducible] def TB.D:TB->Type
  |.row _ r=>List (Row r)
  |.cells l=>Row (TA.du l)
  |.arr r=>List (Row r)
  |.dM _ _=>List Value×Nat
@[reducible] def bT:List TB->Type
  |[]=>Unit
  |b::bs=>TB.D b×bT bs
def TB.get:(b:TB)->AB->Option (TB.D b)
 |.row e r,.row e' r' l false=>bif Nat.beq e e' then eU r' r l else none
 |.cells ts,.cells cs=>match TA.ye ts cs with
   |some as_=>jR (TA.du ts) as_
   |none=>none
 |.arr r,.arr r' l=>eU r' r l
 |.dM e k,.dM e' (some k') xs i=>bif Nat.beq e e'&&Nat.beq k k' then some (xs,i) else none
 |_,_=>none
def TB.put:(b:TB)->TB.D b->AB
 |.row e r,l=>.row e r l false
 |.cells ts,x=>.cells (TA.pG ts (aF (TA.du ts) x))
 |.arr r,l=>.arr r l
 |.dM e k,x=>.dM e (some k) x.1 x.2
def TB.ok:(b:TB)->TB.D b->Prop
 |.row _ r,l=>D.ok (.slice r) l
 |.cells ts,x=>Row.ok (TA.du ts) x
 |.arr _,_=>True
 |.dM _ _,x=>x.1.length<=maxLen
def bT.get:(bs:List TB)->List AB->Option (bT bs)
 |[],[]=>some ()
 |b::bs,h::hs=>match TB.get b h,bT.get bs hs with
  |some x,some y=>some (x,y)
  |_,_=>none
 |_,_=>none
def bT.put:(bs:List TB)->bT bs->List AB
 |[],_=>[]
 |b::bs,x=>TB.put b x.1::bT.put bs x.2
def bT.ok:(bs:List TB)->bT bs->Prop
 |[],_=>True
 |b::bs,x=>TB.ok b x.1/\bT.ok bs x.2
def bH(ts:List TA)(bs:List TB)(F:Row (TA.du ts)->bT bs->bk):cX:=λaX hs=>match TA.ye ts aX with
 |some cs=>match jR (TA.du ts) cs,bT.get bs hs with
  |some x,some y=>some (F x y)
  |_,_=>none
 |none=>none
def mL(s t:cX):cX:=λaX hs=>match s aX hs with
 |some r=>some r
 |none=>t aX hs
section
variable {P:Program} {E:Env} {w:World} {A:Nat->Prop} {β:Nat->Value}
def Lo {α:Type}{a b:Option (List α)}{c:List α}(h:BC a b=some c):∃x y,a=some x/\b=some y/\c=x++y:=by
 cases a with
 |none=>grind[BC]
 |some x=>
  cases b with
  |none=>grind[BC]
  |some y=>grind[BC,Option.some.injEq]
def Ic {as_ bs fi:List AV}{us vs:List Value}(h1:ae w A β us as_)(hl:fi.length=(as_++bs).length)(h:ae w A β (us++vs) fi):
  ae w A β us (fi.take as_.length)/\ae w A β vs (fi.drop as_.length):=by
 grind[j4,List.take_append_drop,ua,List.length_take,List.append_inj]
def UA {v:Value}{ts Ez:List Ty}{x:Row Ez}{y:Row ts}{r:List (Row ts)}(h:aa w A β v (.cN Ez x 0))(hy:eU Ez ts [x]=some (y::r)):
  ∃vs,ae w A β vs (aF ts y)/\∀fi,fi.length=ts.length->ae w A β vs fi->aa w A β v (xo ts fi):=by
 obtain⟨b,o,Cz,g0,gA,gr,gd⟩:=h;obtain⟨e,he⟩:=im hy;subst e;simp only [List.cons.injEq] at he;obtain⟨rfl,_⟩:=he;refine⟨Cz,fY _ _ _ gd,λfi hl hr=>?_⟩;unfold xo;split
 . rename_i z hz;exact⟨b,o,Cz,g0,gA,gr,lY _ _ _ _ hr hz⟩
 . trivial
mutual
theorem alr:∀(t:TA) (a:AV) (cs:List AV) (v:Value),TA.get t a=some cs->aa w A β v a->
  cs.length=(TA.tys t).length/\∃vs,ae w A β vs cs/\∀fi,fi.length=cs.length->ae w A β vs fi->aa w A β v (TA.put t fi)
 |t,a,cs,v,h,hr=>by
  unfold TA.get at h;split at h
  . simp only [A!] at h;subst h;refine⟨rfl,[v],by simp only [ae];exact⟨v,[],rfl,hr,rfl⟩,λfi hl oH=>?_⟩;match fi,hl with
    |[c],_=>
      simp only [ae] at oH;obtain⟨v',bS,e,r1,r2⟩:=oH;simp only [f?] at e;obtain⟨rfl,rfl⟩:=e;simpa only [TA.put,List.headD] using r1
  . rename_i k k';cases hb:Nat.beq k k' with
    |false=>rw [hb] at h;cases h
    |true=>
     rw [hb] at h;simp only [I!,A!] at h;subst h;have:=C! hb;subst this;exact⟨rfl,[],by simp [ae],λfi _ _=>by simpa only [TA.put] using hr⟩
  . rename_i k o k' o';cases hb:(Nat.beq k k'&&Nat.beq o o') with
    |false=>rw [hb] at h;cases h
    |true=>
     rw [hb] at h;simp only [I!,A!] at h;subst h;simp only [B!] at hb;have h1:=C! hb.1;have h2:=C! hb.2;subst h1;subst h2;exact⟨rfl,[],by simp [ae],λfi _ _=>by simpa only [TA.put] using hr⟩
  . simp only [A!] at h;subst h;exact⟨rfl,[],by simp [ae],λfi _ _=>by simpa only [TA.put] using hr⟩
  . simp only [A!] at h;subst h;exact⟨rfl,[],by simp [ae],λfi _ _=>by simpa only [TA.put] using hr⟩
  . simp only [A!] at h;subst h;exact⟨rfl,[],by simp [ae],λfi _ _=>by simpa only [TA.put] using hr⟩
  . rename_i l ds;simp only [aa] at hr;obtain⟨arr,rfl,hr⟩:=hr;obtain⟨g1,vs,g2,g3⟩:=zD l ds cs _ h hr;exact⟨g1,vs,g2,λfi hl oH=>by simp only [TA.put,aa];exact⟨arr,rfl,g3 fi hl oH⟩⟩
  . rename_i f l m f' ds es;split at h
    . rename_i hf;subst hf;obtain⟨x,y,hx,hy,rfl⟩:=Lo h;simp only [aa] at hr;obtain⟨a1,a2,rfl,r1,r2⟩:=hr;obtain⟨g1,us,g2,g3⟩:=zD l ds x _ hx r1;obtain⟨q1,vs,q2,q3⟩:=zD m es y _ hy r2;refine⟨by simp [g1,q1],us++vs,gv _ _ _ _ g2 q2,λfi hl oH=>?_⟩;obtain⟨p1,p2⟩:=Ic g2 hl oH;simp only [TA.put,aa];rw [<-g1];refine⟨a1,a2,rfl,g3 _ ?_ p1,q3 _ ?_ p2⟩
      . simp at hl |-;omega
      . simp at hl |-;omega
    . cases h
  . rename_i ts Ez x;split at h
    . rename_i y r hy;simp only [A!] at h;subst h;obtain⟨vs,g1,g2⟩:=UA hr hy;exact⟨eH _ _,vs,g1,λfi hl=>g2 fi (by rw [hl,eH])⟩
    . cases h
  . cases h
theorem zD:∀(ts:List TA) (as_ cs:List AV) (Kg:List Value),TA.ye ts as_=some cs->ae w A β Kg as_->
  cs.length=(TA.du ts).length/\∃vs,ae w A β vs cs/\∀fi,fi.length=cs.length->ae w A β vs fi->ae w A β Kg (TA.pG ts fi)
 |[],[],cs,Kg,h,hr=>by
   simp only [TA.ye,A!] at h;subst h;exact⟨rfl,[],by simp [ae],λfi _ _=>by simpa only [TA.pG] using hr⟩
 |t::ts,a::as_,cs,Kg,h,hr=>by
  simp only [TA.ye] at h;obtain⟨x,y,hx,hy,rfl⟩:=Lo h;simp only [ae] at hr;obtain⟨v,vs1,rfl,r1,r2⟩:=hr;obtain⟨g1,us,g2,g3⟩:=alr t a x v hx r1;obtain⟨q1,vs,q2,q3⟩:=zD ts as_ y vs1 hy r2;refine⟨by simp [g1,q1],us++vs,gv _ _ _ _ g2 q2,λfi hl oH=>?_⟩;obtain⟨p1,p2⟩:=Ic g2 hl oH;simp only [TA.pG,ae];rw [<-g1];refine⟨v,vs1,rfl,g3 _ ?_ p1,q3 _ ?_ p2⟩
  . simp at hl |-;omega
  . simp at hl |-;omega
 |[],_::_,cs,Kg,h,_|_::_,[],cs,Kg,h,_=>by simp [TA.ye] at h
end
def A4 {ts:List TA}{as_ cs:List AV}{Kg:List Value}{x:Row (TA.du ts)}(h:TA.ye ts as_=some cs)(hx:jR (TA.du ts) cs=some x)(hr:ae w A β Kg as_):
  ae w A β Kg (TA.pG ts (aF (TA.du ts) x))/\Row.ok (TA.du ts) x:=by
 obtain⟨g1,vs,g2,g3⟩:=zD ts as_ cs Kg h hr;grind[lY,eH,fY,EM]
def als:∀(b:TB) (ab:AB) (k:Nat) (y:TB.D b),TB.get b ab=some y->BR w A β k ab->BR w A β k (TB.put b y)/\TB.ok b y
 |b,ab,k,y,h,hr=>by
  unfold TB.get at h;split at h
  . rename_i e r e' r' l;cases hb:Nat.beq e e' with
    |false=>grind
    |true=>
     rw [hb] at h;have:=C! hb;subst this;obtain⟨er,hl⟩:=kJ h;subst er;subst hl;refine⟨hr,?_⟩;obtain⟨xs,h1,h2,h3⟩:=hr;refine⟨?_,Rx (λc x hx=>EM _ c x hx) _ xs h2⟩;rcases h1.2 with⟨_,h⟩|⟨g,cap,cur,_,_,_,g4,g5,_⟩
     . omega
     . exact h? g4 g5
  . split at h
    . rename_i as_ has;obtain⟨g,arr,e,h1,h2,h3,h4,h5⟩:=hr;obtain⟨q1,q2⟩:=A4 has h h4;exact⟨⟨g,arr,e,h1,h2,h3,q1,h5⟩,q2⟩
    . cases h
  . obtain⟨er,hl⟩:=kJ h;subst er;subst hl;exact⟨hr,trivial⟩
  . rename_i e0 k0 e' k' xs i;cases hb:(Nat.beq e0 e'&&Nat.beq k0 k') with
    |false=>rw [hb] at h;cases h
    |true=>
     rw [hb] at h;simp only [I!,A!] at h;subst h;simp only [B!] at hb;have h1:=C! hb.1;have h2:=C! hb.2;subst h1;subst h2;refine⟨hr,?_⟩;obtain⟨ys,h1,_⟩:=hr;rcases h1.2 with⟨_,h⟩|⟨g,cap,cur,_,_,_,g4,g5,_⟩
     . show xs.length<=maxLen;omega
     . exact h? g4 g5
  grind
def ET:∀(bs:List TB) (hs:List AB) (y:bT bs) (n:Nat),bT.get bs hs=some y->(∀i ab,hs[i]? =some ab->BR w A β (n+i) ab)->
  (bT.put bs y).length=hs.length/\(∀i ab,(bT.put bs y)[i]? =some ab->BR w A β (n+i) ab)/\bT.ok bs y
 |[],[],y,n,_,_=>⟨rfl,λi ab h=>by grind[bT.put],trivial⟩
 |b::bs,h::hs,y,n,hg,hr=>by
  simp [bT.get] at hg;split at hg
  . rename_i x z hx hz;simp at hg;subst hg;obtain⟨g1,g2⟩:=als b h n x hx (hr 0 h rfl)
    obtain⟨q1,q2,q3⟩:=ET bs hs z (n+1) hz λi ab hi=>by
     have:=hr (i+1) ab x!;grind
    refine⟨by grind[bT.put],λi ab hi=>?_,g2,q3⟩;grind[bT.put,List.getElem?_cons_zero,Option.some.injEq,hi]
  grind
 |[],_::_,y,n,h,_|_::_,[],y,n,h,_=>by grind[bT.get]
theorem í:∀(bs:List TB) (y:bT bs),∀ab∈bT.put bs y,xr ab=true
 |[],_,ab,h=>by grind[bT.put]
 |b::bs,y,ab,h=>by
  simp [bT.put,N!] at h;rcases h with rfl|h
  . cases b<;>rfl
  . exact í bs y.2 ab h
def N5(hE:aU P E)(hm:P.follows .mixedOrders=true){f:FuncId}{fn:Func}{c:Code}(ts:List TA)(bs:List TB){F:Row (TA.du ts)->bT bs->bk}
  (L:Row (TA.du ts)->bT bs->Nat->Option bq) (hf:P.funcs[f]? =some fn) (hb:fn.body=some c)
  (h:∀x y,(F x y).pre->Row.ok (TA.du ts) x->bT.ok bs y->CU E (L x y) c fn.ntmps fn.results.toList (TA.pG ts (aF (TA.du ts) x)) (bT.put bs y) (F x y)):ay P E.fQ f (bH ts bs F):=by
 intro w A β args aX hs r hA hG bj eu tF mK hp hlen B1;unfold bH at mK;split at mK
 . rename_i cs dm;split at mK
   . rename_i x y hx hy;simp only [A!] at mK;obtain⟨g1,g2⟩:=A4 dm hx bj;obtain⟨q1,q2,q3⟩:=ET bs hs y 50000 hy eu
     have hv:ay P E.fQ f (λEN jb=>open Classical in if EN=TA.pG ts (aF (TA.du ts) x)/\jb=bT.put bs y then some (F x y) else none):=by
      refine N4 hE hm (λ_ _=>L x y) hf hb (λEN jb r' aAO=>?_) λEN jb r' aAO zA=>?_
      . grind[í]
      grind
     have:=hv w A β args _ _ r hA hG g1 q2 (λi j b hi hj=>tF i j b w! w!) x! hp w! w!;grind
   grind
 grind
def ay.or {G:Nat->Option GD}{f:FuncId}{s t:cX}(h1:ay P G f s)(h2:ay P G f t):ay P G f (mL s t):=by
 intro w A β args aX hs r hA hG bj eu tF mK hp hlen B1;unfold mL at mK;split at mK
 . rename_i r' oH;simp at mK;subst mK;exact h1 w A β args aX hs _ hA hG bj eu tF oH hp hlen B1
 . exact h2 w A β args aX hs r hA hG bj eu tF mK hp hlen B1
def Env.bE(f:Nat)(m:List Bool)(s:cX)(E:Env):Env:={E with qG:=λg=>bif Nat.beq g f then some (m,s) else E.qG g}
def aU.bE(hE:aU P E){f:FuncId}{m:List Bool}{s:cX}(h:ay P E.fQ f s)(hf:cO P f):aU P (E.bE f m s):=by
 refine⟨hE.eA,hE.sig,λg m' t hg=>?_,hE.hp,hE.ca⟩;simp [Env.bE] at hg;cases hb:Nat.beq g f with
 |true=>
  rw [hb] at hg;have:=C! hb;obtain⟨_,rfl⟩:=hg;subst this;exact⟨h,hf⟩
 |false=>
  rw [hb] at hg;exact hE.qG g m' t hg
end
end Go.Vg

end
section
namespace Go.Vg
open Go
variable [HP]
def Env.jc(f:Nat)(t:List AV->Option (Option Nat×CF))(E:Env):Env:={E with ca:=λg=>bif Nat.beq g f then some t else E.ca g}
def zE(ps:List PS)(F:Row (PS.flat ps)->CF)(aX:List AV):Option (Option Nat×CF):=match aX.getLast?,Gr ps aX.dropLast with
 |some (.ref k 0),some x=>some (some k,F x)
 |_,_=>none
def bv:AV->Bool
 |.bool b=>b
 |.tt=>true
 |_=>false
def isB:AV->Bool
 |.bool _=>true
 |_=>false
def bN:List CF->Z->Prop×Bool×Z
 |[],z=>(True,true,z)
 |F::l,z=>((F z).1/\isB (F z).2.1=true/\(bv (F z).2.1=true->(bN l (F z).2.2).1),bif bv (F z).2.1 then(bN l (F z).2.2).2.1 else false,bif bv (F z).2.1 then(bN l (F z).2.2).2.2 else(F z).2.2)
def Z.rows:Z->List (List Int)
 |.g _ _ l=>l
 |_=>[]
def Z.txt:Z->B8
 |.s t=>t
 |_=>[]
def runT:List CF->Z->B8
 |[],z=>z.txt
 |F::l,z=>bif bv (F z).2.1 then runT l (F z).2.2 else(F z).2.2.txt
theorem runT_eq:∀(l:List CF) (z:Z),runT l z=(bN l z).2.2.txt
 |[],_=>rfl
 |F::l,z=>by
  unfold runT bN;rw [runT_eq l];cases bv (F z).2.1<;>rfl
abbrev aW.run(l:List CF)(z:Z):Prop×Bool×Z:=bN l z
abbrev aW.Ie(n:Nat):List (List Int):=List.replicate n []
abbrev aW.rows(z:Z):List (List Int):=z.rows
def O1(b:Bool):AV:=.int .i64 (bif b then 0 else 6)
def EU(ei:Nat):cX:=λaX hs=>match aX,hs with
 |[.own 50000],[.eE _ _ l]=>some ⟨(bN l .n).1,O1 (bN l .n).2.1,[none],[]⟩
 |[.own 50000],[.eE _ (some 50001) l,.cells [.str t]]=>some ⟨(bN l (.s t)).1,O1 (bN l (.s t)).2.1,[none,some (.cells [.str (runT l (.s t))])],[]⟩
 |[.own 50000],[.eE _ (some 50001) l,.cells [.own 50002],.aX e 1 n cs]=>
   some ⟨cs=aW.Ku n/\(aW.run l (.g e ei (aW.Ie n))).1,O1 (aW.run l (.g e ei (aW.Ie n))).2.1,[none,some (.cells [.own 50002]),some (.row e [.slice [.int .i64]] (aW.rows (aW.run l (.g e ei (aW.Ie n))).2.2) false)],[]⟩
 |_,_=>none
section
variable {P:Program} {E:Env} {w:World} {A:Nat->Prop} {β:Nat->Value}
def aU.jc(hE:aU P E){f:FuncId}{t:List AV->Option (Option Nat×CF)}(h:CB E.fQ f t):aU P (E.jc f t):=by
 refine⟨hE.eA,hE.sig,hE.qG,hE.hp,λg u hg=>?_⟩;simp [Env.jc] at hg;cases hb:Nat.beq g f with
 |true=>
  rw [hb] at hg;have:=C! hb;simp at hg;subst this;subst hg;exact h
 |false=>
  rw [hb] at hg;exact hE.ca g u hg
def O2 {G:Nat->Option GD}{f:FuncId}{ps:List PS}{F:Row (PS.flat ps)->CF}(hP:∀Q,HP.is Q->Q=P)(hf:cO P f)
  (h:∀(w:World) (A S:Nat->Prop) (β:Nat->Value) (b:Nat) (args:List Value) (x:Row (PS.flat ps)) (z:Z),(∀b,A b->b<w.heap.size)->(∀i d,G i=some d->na w A i d)->ae w A β args (mf ps x)->Row.ok (PS.flat ps) x->
    (∀b,S b->¬A b/\b<w.heap.size)->HB w S (.pointer (some ⟨b,0,none⟩)) z->(F x z).1->
    Calls P f (args++[Value.pointer (some ⟨b,0,none⟩)]).toArray w λe w'=>∃v,e= .returned v/\∃A' S',rv w A S z w' A' S' (.pointer (some ⟨b,0,none⟩)) v (F x z).2):
  CB G f (zE ps F):=by
 intro w A β aR aX k C hG hr ht p hp;unfold zE at ht;split at ht
 . rename_i k0 x hl hx;obtain⟨rfl,rfl⟩:=ht;obtain⟨ys,rfl⟩:=List.getLast?_eq_some_iff.1 hl;rw [List.dropLast_concat] at hx;obtain⟨us,vs,hc,h1,h2⟩:=j4 _ _ _ hr;obtain⟨v,bS,rfl,h3,h4⟩:=h2;subst h4;obtain⟨b,h5,rfl⟩:=h3;obtain⟨g1,g2⟩:=qb ps hx h1;have hpp:=(hp k0 rfl).trans h5;subst hpp;refine⟨rfl,f,aR,rfl,λQ hQ=>?_⟩;have:=hP Q hQ;subst this;refine⟨hf,λw' A' z S hK hb hS hH sG=>?_⟩;have:=h w' A' S β b us x z hb (λi d hd=>(hG i d hd).mono hK) (cu hK _ _ g1) g2 hS hH sG;rw [<-hc] at this;simpa using this
 grind
end
end Go.Vg

end
section
namespace Go.Vg
open Go
variable [HP]
section
variable {P:Program} {G:Nat->Option GD} {w:World} {A:Nat->Prop} {β aw:Nat->Value}
def O3:∀(ts:List Ty) (x:Row ts),ar (aF ts x)=[]
 |[],_=>rfl
 |t::ts,x=>by
  simp [aF,ar,O3 ts (Row.tl x),F?];cases t<;>rfl
def CW:∀(cs:List AV) (n:Nat),ar cs=[]->ar (cs.take n)=[]/\ar (cs.drop n)=[]
 |[],n,h=>by grind
 |c::cs,0,h=>⟨rfl,h⟩
 |c::cs,n+1,h=>by
  simp [ar,List.append_eq_nil_iff] at h;obtain⟨g1,g2⟩:=CW cs n h.2;exact⟨by simp [List.take_succ_cons,ar,h.1,g1,F?],g2⟩
def qQ:∀(ps:List PS) (cs:List AV),ar cs=[]->ar (PS.group ps cs)=[]
 |[],_,_=>rfl
 |.one _::ps,[],h=>by
   exact qQ ps [] rfl
 |.one _::ps,c::cs,h=>by
   simp [ar,List.append_eq_nil_iff] at h;simp [PS.group,List.headD,List.tail,ar,h.1,d?];exact qQ ps cs h.2
 |.agg ts::ps,cs,h=>by
   obtain⟨g1,g2⟩:=CW cs ts.length h;simp [PS.group,ar,ao,g1,d?];exact qQ ps _ g2
 |.var ts::ps,cs,h=>by
   obtain⟨g1,g2⟩:=CW cs ts.length h;simp only [PS.group,ar];have :ao (xo ts (cs.take ts.length))=[]:=by unfold xo;split<;>rfl
   rw [this,d?];exact qQ ps _ g2
def Ig {ps:List PS}{x:Row (PS.flat ps)}{args:List Value}(h:ae w A β args (mf ps x)):ae w A aw args (mf ps x):=
 Ks (qQ ps _ (O3 _ x)) h
def O4 {args:List Value}{aX:List AV}{b:Nat}(h:ae w A β args aX)(hb:β 50000= .pointer (some ⟨b,0,none⟩)):ae w A β (args++[.pointer (some ⟨b,0,none⟩)]) (aX++[.ref 50000 0]):=
 gv _ _ _ _ h ⟨_,[],rfl,⟨b,hb,rfl⟩,rfl⟩
def O5 {S:Nat->Prop}{e:Nat}:∀ {xs:List Value} {l:List (List Int)},nK w S e xs l->xs.length=l.length/\∀(i:Nat) (u:Value) (x:List Int),xs[i]? =some u->l[i]? =some x->
  w.ownsRow 0 e 1 u x.length (x.map (Value.int .i64))/\(∀n∈x,lo .i64<=n/\n<=hi .i64)/\∀b,ag u=some b->S b/\∀i' u',i'≠i->xs[i']? =some u'->ag u'≠some b
 |[],[],_=>⟨rfl,λi u x h=>by cases h⟩
 |v::vs,y::l,⟨h1,h2,h3,h4⟩=>by
  obtain⟨g1,g2⟩:=O5 h4;refine⟨by simp [g1],λi u x hu hx=>?_⟩;match i,hu,hx with
  |0,hu,hx=>
   cases hu;cases hx;refine⟨h1,h2,λb hb=>⟨(h3 b hb).1,λi' u' hi lX=>?_⟩⟩;match i',hi,lX with
   |i'+1,_,lX=>exact(h3 b hb).2 u' (K? (by simpa using lX))
  |i+1,hu,hx=>
   obtain⟨q1,q2,q3⟩:=g2 i u x (by simpa using hu) (by simpa using hx);refine⟨q1,q2,λb hb=>⟨(q3 b hb).1,λi' u' hi lX=>?_⟩⟩;match i',hi,lX with
   |0,_,lX=>
    cases lX;intro hv;exact(h3 b hv).2 u (K? (by simpa using hu)) hb
   |i'+1,hi,lX=>exact(q3 b hb).2 i' u' w! (by simpa using lX)
def O6 {S:Nat->Prop}{e:Nat}:∀ {xs:List Value} {l:List (List Int)},xs.length=l.length->(∀(i:Nat) (u:Value) (x:List Int),xs[i]? =some u->l[i]? =some x->
  w.ownsRow 0 e 1 u x.length (x.map (Value.int .i64))/\(∀n∈x,lo .i64<=n/\n<=hi .i64)/\∀b,ag u=some b->S b/\∀i' u',i'≠i->xs[i']? =some u'->ag u'≠some b)->nK w S e xs l
 |[],[],_,_=>trivial
 |v::vs,y::l,hl,h=>by
  obtain⟨h1,h2,h3⟩:=h 0 v y rfl rfl;refine⟨h1,h2,λb hb=>⟨(h3 b hb).1,λu hu=>?_⟩,O6 (by simpa using hl) λi u x hu hx=>?_⟩
  . obtain⟨i,hi,rfl⟩:=k? hu;exact(h3 b hb).2 (i+1) _ w! (by simp [hi])
  . obtain⟨q1,q2,q3⟩:=h (i+1) u x (by simpa using hu) (by simpa using hx);exact⟨q1,q2,λb hb=>⟨(q3 b hb).1,λi' u' hi lX=>(q3 b hb).2 (i'+1) u' w! (by simpa using lX)⟩⟩
 |[],_::_,hl,_|_::_,[],hl,_=>by grind
def O7:∀ {x:List Int},(∀n∈x,lo .i64<=n/\n<=hi .i64)->dc (br w A [.int .i64]) (x.map (Value.int .i64)) x
 |[],_=>rfl
 |n::x,h=>⟨[_],_,rfl,⟨_,[],rfl,⟨rfl,h n (H! ..)⟩,rfl⟩,O7 λm hm=>h m (E! _ hm)⟩
def O8:∀ {x:List Int} {zs:List Value},dc (br w A [.int .i64]) zs x->zs=x.map (Value.int .i64)/\∀n∈x,lo .i64<=n/\n<=hi .i64
 |[],zs,h=>⟨h,nofun⟩
 |n::x,zs,⟨c1,c2,hc,⟨v,vs,h1,⟨h2,h3⟩,h4⟩,h5⟩=>by
  obtain⟨g1,g2⟩:=O8 h5;subst hc h1 h4;have h2:v= .int .i64 n:=h2;grind
def alv {e n g:Nat}{v:Value}{xs:List Value}(h:w.ownsRow 0 e 1 v n xs)(hb:ag v=some g):g<w.heap.size:=by
 rcases h.2 with⟨hn,_⟩|⟨g',cap,cur,hv,_,hg,_⟩
 . rw [hn] at hb;cases hb
 . rw [hv] at hb;cases hb;grind
def UB {f:FuncId}{s:cX}{ps:List PS}{F:Row (PS.flat ps)->CF}(hP:∀Q,HP.is Q->Q=P)(hf:cO P f)(hv:ay P G f s)
  (h:∀x z,(F x z).1->∃e ei l j y,z= .g e ei l/\(F x z).2.2= .g e ei (l.set j y)/\j<l.length/\(∃c,(F x z).2.1= .bool c)/\∀xs:List Value,xs.length=l.length->∃r,s (mf ps x++[.ref 50000 0]) [.cells [.own 50001],.dM e (some 50002) xs j,.row ei [.int .i64] (l.getD j []) false]=some r/\
    r.pre/\r.res=(F x z).2.1/\((r.heap=[some (.cells [.own 50001]),some (.dM e (some 50002) xs j),some (.row ei [.int .i64] y false)]/\r.new=[])\/(r.heap=[some (.cells [.own 50001]),some (.dM e (some 60000) xs j),none]/\r.new=[.row ei [.int .i64] y false]))):
  CB G f (zE ps F):=by
 refine O2 hP hf λw A S β b args x z hA hG bj Rr hS hH sG=>?_;obtain⟨e,ei,l,j,y,rfl,hz,hj,⟨c,hk⟩,h⟩:=h x z sG;obtain⟨b1,e0,v,xs,c1,c2,c3,c4,c5,c6,c7,c8⟩:=hH;simp only [Value.pointer.injEq,A!,Addr.mk.injEq,t?] at c1;subst c1;obtain⟨Ja,NM⟩:=O5 c8;obtain⟨r,hs,hp,hr,hh⟩:=h xs Ja;have hju:j<xs.length:=by omega
 obtain⟨u,hu⟩:∃u,u=xs[j]:=⟨_,rfl⟩;have hxj:xs[j]? =some u:=by grind
 have hlj:l[j]? =some (l.getD j []):=by grind
 obtain⟨u1,u2,u3⟩:=NM j u _ hxj hlj;let aw:Nat->Value:=λk=>if k=50000 then .pointer (some ⟨b,0,none⟩) else if k=50001 then v else if k=50002 then u else undef
 have bt:aw 50000= .pointer (some ⟨b,0,none⟩):=rfl;have Oz:aw 50001=v:=rfl;have H9:aw 50002=u:=rfl;have hub:∀g,ag u=some g->g≠b:=λg hg RJ=>c7 u (K? hxj) (RJ▸hg);have huv:∀g,ag u=some g->ag v≠some g:=λg hg hv=>(c6 g hv).2.2 u (K? hxj) hg
 have hM:∀q,HM aw 3 q↔q=b\/ag v=some q\/ag u=some q:=by
  intro q;constructor
  . rintro⟨i,hi,hq⟩;match i,hi,hq with
    |0,_,hq=>exact .inl (X? (show some b=some q from hq)).symm
    |1,_,hq=>exact .inr (.inl hq)
    |2,_,hq=>exact .inr (.inr hq)
  . rintro(rfl|hq|hq)
    . exact⟨0,by decide,rfl⟩
    . exact⟨1,by decide,hq⟩
    . exact⟨2,by decide,hq⟩
 have hMS:∀q,HM aw 3 q->S q:=λq hq=>by
  rcases(hM q).1 hq with rfl|hq|hq
  . exact c3
  . exact(c6 q hq).1
  . exact(u3 q hq).1
 have auY:u.oneCell'=true:=by obtain⟨_,_,_,lX⟩:=iA u1;rw [lX];rfl
 refine(hv w A aw _ _ [.cells [.own 50001],.dM e (some 50002) xs j,.row ei [.int .i64] (l.getD j []) false] r hA hG (O4 (Ig bj) bt) ?_ ?_ hs hp (by rcases hh with⟨hh,_⟩|⟨hh,_⟩<;>rw [hh]<;>rfl) z!).mono ?_
 . intro i ab hi;match i,hi with
   |0,hi=>
    cases hi;exact⟨b,_,e0,bt,c2,(hS b c3).1,⟨_,[],rfl,⟨rfl,c4⟩,rfl⟩,by simpa using c4⟩
   |1,hi=>
    cases hi;exact⟨xs,by rw [Ja];exact c5,λq hq=>(hS q (c6 q hq).1).1,λ_ _=>rfl,λj' fk=>by cases fk;exact⟨hxj,auY⟩⟩
   |2,hi=>
    cases hi;exact⟨_,u1,O7 u2,λq hq=>(hS q (u3 q hq).1).1⟩
   |_+3,hi=>cases hi
 . intro i i' q hi e7 hq Bx;have e1:∀q,ag (aw 50000)=some q->q=b:=λq hq=>(X? (show some b=some q from hq)).symm;match i,i',hi,e7,hq,Bx with
   |0,0,_,_,_,_|1,1,_,_,_,_|2,2,_,_,_,_=>rfl
   |0,1,_,_,hq,Bx=>exact absurd (e1 q hq) (c6 q Bx).2.1
   |1,0,_,_,hq,Bx=>exact absurd (e1 q Bx) (c6 q hq).2.1
   |0,2,_,_,hq,Bx=>exact absurd (e1 q hq) (hub q Bx)
   |2,0,_,_,hq,Bx=>exact absurd (e1 q Bx) (hub q hq)
   |1,2,_,_,hq,Bx=>exact absurd hq (huv q Bx)
   |2,1,_,_,hq,Bx=>exact absurd Bx (huv q hq)
   |_+3,_,hi,_,_,_|_,_+3,_,hi,_,_=>exact absurd hi z!
 . rintro e' w' ⟨v',he,A',ej,q⟩
   obtain⟨kj,k1,k2,k3,k4,k5,k6⟩:∃kj,BR w' A' ej 50001 (.dM e (some kj) xs j)/\BR w' A' ej kj (.row ei [.int .i64] y false)/\y8 r 50000/\y8 r 50001/\y8 r kj/\(kj≠50000/\kj≠50001/\(∀g,ag (ej kj)=some g->w.heap.size<=g\/HM aw 3 g)):=by
    rcases hh with⟨hh,hn⟩|⟨hh,hn⟩
    . refine⟨50002,(q.kept 1 _ (by rw [hh];rfl)).1,(q.kept 2 _ (by rw [hh];rfl)).1,.inl ⟨0,_,rfl,by decide,by rw [hh];rfl⟩,.inl ⟨1,_,rfl,by decide,by rw [hh];rfl⟩,.inl ⟨2,_,rfl,by decide,by rw [hh];rfl⟩,by decide,by decide,λg hg=>?_⟩;rw [(q.kept 2 _ (by rw [hh];rfl)).2] at hg;exact .inr ((hM g).2 (.inr (.inr hg)))
    . refine⟨60000,(q.kept 1 _ (by rw [hh];rfl)).1,(q.rows 0 _ (by rw [hn];rfl)).1,.inl ⟨0,_,rfl,by decide,by rw [hh];rfl⟩,.inl ⟨1,_,rfl,by decide,by rw [hh];rfl⟩,.inr ⟨0,rfl,by rw [hn];exact Nat.one_pos⟩,by decide,by decide,(q.rows 0 _ (by rw [hn];rfl)).2⟩
   have hk0:BR w' A' ej 50000 (.cells [.own 50001])/\ej 50000=aw 50000:=q.kept 0 _ (by rcases hh with⟨hh,_⟩|⟨hh,_⟩<;>rw [hh]<;>rfl)
   have I1:ej 50001=v:=by
    rcases hh with⟨hh,_⟩|⟨hh,_⟩
    . exact(q.kept 1 _ (by rw [hh];rfl)).2
    . exact(q.kept 1 _ (by rw [hh];rfl)).2
   obtain⟨⟨b2,arr,e2,d1,d2,d3,⟨u',us,d4,⟨d5,d6⟩,d7⟩,_⟩,d8⟩:=hk0
   have IZ:b2=b:=by
    have:=d1.symm.trans (d8.trans bt);simp only [Value.pointer.injEq,A!,Addr.mk.injEq,t?] at this;exact this
   subst IZ;simp only [ae] at d7;subst d7;subst d5;rw [I1] at d4 d6;have y7:arr= #[v]:=by apply r?;exact d4
   subst y7;obtain⟨ys,o1,o2,o3,o4⟩:=k1;rw [I1] at o1 o2;obtain⟨o5,o6⟩:=o4 kj rfl;obtain⟨zs,p1,p2,p3⟩:=k2;obtain⟨rfl,p4⟩:=O8 p2;have p3:∀g,ag (ej kj)=some g->¬A' g:=λg hg=>by simpa using p3 g hg
   have hyl:ys.length=l.length:=by have:=o1.1;omega
   have W7:∀i,i≠j->ys[i]? =xs[i]? :=o3;have hA0:∀g,g<w.heap.size->A' g->A g\/HM aw 3 g:=q.gH
   have nc:∀g,ag (ej kj)=some g->g≠b2/\ag v≠some g:=λg hg=>by
    refine⟨λRJ=>?_,λhgv=>?_⟩
    . subst RJ;exact k6.1 (q.apart kj 50000 g k5 k3 hg (by rw [d1];rfl))
    . exact k6.2.1 (q.apart kj 50001 g k5 k4 hg (by rw [I1];exact hgv))
   have hko:∀i u2 g,i≠j->xs[i]? =some u2->ag u2=some g->S g/\g<w.heap.size/\¬HM aw 3 g/\¬A' g/\ag (ej kj)≠some g:=λi u2 g hi By hg=>by
    have hil:i<l.length:=by rw [<-Ja];exact(C?.1 By).1
    obtain⟨_,_,q3⟩:=NM i u2 l[i] By (D! hil);obtain⟨s1,s2⟩:=q3 g hg
    have hm:¬HM aw 3 g:=λhm=>by
     rcases(hM g).1 hm with rfl|hm|hm
     . exact c7 u2 (K? By) hg
     . exact(c6 g hm).2.2 u2 (K? By) hg
     . exact s2 j u (λh=>hi h.symm) hxj hm
    refine⟨s1,(hS g s1).2,hm,λha=>(hA0 g (hS g s1).2 ha).elim (hS g s1).1 hm,λBu=>?_⟩;rcases k6.2.2 g Bu with h|h
    . have:=(hS g s1).2;omega
    . exact hm h
   refine⟨v',he,λg=>A' g/\(g<w.heap.size->A g),λg=>(S g/\¬A' g)\/ag (ej kj)=some g,?_,q.os,q.tape,q.output,q.size,λg hg hn=>q.same g hg λhm=>hn (hMS g hm),λg hg=>⟨(q.mono g hg).1,λ_=>hg⟩,λg hg ha=>ha.2 hg,λg hg=>q.bound g hg.1,?_,λNP=>?_,?_⟩
   . rw [hz];refine⟨rfl,rfl,λu0 ⟨b3,e3,g1,g2⟩=>?_⟩;simp only [Value.pointer.injEq,A!,Addr.mk.injEq,t?] at g1;subst g1;rw [c2] at g2;simp only [A!,Obj.cells.injEq] at g2;have :u0=v:=by have:=g2.1;simpa using this.symm
     subst this;exact⟨b2,e2,rfl,d2⟩
   . rintro g (⟨h1,h2⟩|h)
     . exact⟨.inl h1,λha=>h2 ha.1,N? (hS g h1).2 q.size⟩
     . refine⟨?_,λha=>p3 g h ha.1,alv p1 h⟩;rcases k6.2.2 g h with h|h
       . exact .inr h
       . exact .inl (hMS g h)
   . have:=q.res;rw [hr,hk] at this;rw [hk];exact this
   . rw [hz];refine⟨b2,e2,v,ys,rfl,d2,.inl ⟨c3,d3⟩,d6,by rw [n?];simpa [Ja] using o1,λg hg=>⟨.inl ⟨(c6 g hg).1,o2 g hg⟩,(c6 g hg).2.1,λu2 By Bu=>?_⟩,λu2 By Bu=>?_,O6 (by rw [n?];exact hyl) λi un x2 By WZ=>?_⟩
     . obtain⟨i,hi,rfl⟩:=k? By;have e7:=D! hi;by_cases rL:i=j
       . subst rL;rw [o5,A!] at e7;rw [<-e7] at Bu;exact(nc g Bu).2 hg
       . rw [W7 i rL] at e7;exact(c6 g hg).2.2 _ (K? e7) Bu
     . obtain⟨i,hi,rfl⟩:=k? By;have e7:=D! hi;by_cases rL:i=j
       . subst rL;rw [o5,A!] at e7;rw [<-e7] at Bu;exact(nc b2 Bu).1 rfl
       . rw [W7 i rL] at e7;exact c7 _ (K? e7) Bu
     . by_cases rL:i=j
       . subst rL;rw [o5] at By;cases By;rw [List.getElem?_set_self w!] at WZ;cases WZ;refine⟨p1,p4,λg hg=>⟨.inr hg,λi' u' e7 lX vU=>?_⟩⟩;rw [W7 i' e7] at lX;exact(hko i' u' g e7 lX vU).2.2.2.2 hg
       . rw [W7 i rL] at By;rw [List.getElem?_set_ne (λh=>rL h.symm)] at WZ;obtain⟨q1,q2,q3⟩:=NM i un x2 By WZ;refine⟨cI q1 (λg hg=>?_),q2,λg hg=>⟨?_,λi' u' e7 lX vU=>?_⟩⟩
         . obtain⟨_,s2,s3,_,_⟩:=hko i un g rL By hg;exact q.same g s2 s3
         . obtain⟨s1,_,_,s4,_⟩:=hko i un g rL By hg;exact .inl ⟨s1,s4⟩
         . by_cases asQ:i'=j
           . subst asQ;rw [o5] at lX;cases lX;exact(hko i un g rL By hg).2.2.2.2 vU
           . rw [W7 i' asQ] at lX;exact(q3 g hg).2 i' u' e7 lX vU
end
end Go.Vg

end
section
namespace Go.Vg
open Go
variable [HP]
theorem Valid.cases {P:Program}{G:Nat->Option GD}{f:FuncId}{ps:List PS}{F F1 F2:Row (PS.flat ps)->Prop×AV×List AB}(h1:Valid P G f (eM ps F1))(h2:Valid P G f (eM ps F2))
  (h:∀x,(F x).1->((F1 x).1/\(F x).2=(F1 x).2)\/((F2 x).1/\(F x).2=(F2 x).2)):Valid P G f (eM ps F):=by
 intro w A β args aX pre res bs hA hG ha hs hp;unfold eM at hs;split at hs
 . rename_i x hx
   have key:∀F':Row (PS.flat ps)->Prop×AV×List AB,Valid P G f (eM ps F')->(F' x).1->(F x).2=(F' x).2->Calls P f args.toArray w λe w'=>∃v,e= .returned v/\∃A' aw,jX w A w' v res bs A' aw:=by
    intro F' hv p1 e1;refine hv w A β args aX (F' x).1 res bs hA hG ha ?_ p1;unfold eM;grind
   grind
 grind
theorem ay.cases {P:Program}{G:Nat->Option GD}{f:FuncId}{ts:List TA}{bs:List TB}{F F1 F2:Row (TA.du ts)->bT bs->bk}(h1:ay P G f (bH ts bs F1))(h2:ay P G f (bH ts bs F2))
  (h:∀x y,(F x y).pre->((F1 x y).pre/\F x y= {F1 x y with pre:=(F x y).pre})\/((F2 x y).pre/\F x y= {F2 x y with pre:=(F x y).pre})):ay P G f (bH ts bs F):=by
 intro w A β args aX hs r hA hG ha eu tF mK hp hl B1;unfold bH at mK;split at mK
 . rename_i cs dm;split at mK
   . rename_i x y hx hy;cases mK
     have key:∀F':Row (TA.du ts)->bT bs->bk,ay P G f (bH ts bs F')->(F' x y).pre->F x y= {F' x y with pre:=(F x y).pre}->Calls P f args.toArray w λe w'=>∃v,e= .returned v/\∃A' aw,Gf w A β hs.length w' v (F x y) A' aw:=by
      intro F' hv p1 e1;have e2:(F x y).heap=(F' x y).heap:=by rw [e1]
      refine(hv w A β args aX hs (F' x y) hA hG ha eu tF (by unfold bH;simp only [dm,hx,hy]) p1 (by rw [<-e2];exact hl) B1).mono ?_;rintro e w' ⟨v,he,A',aw,q⟩;refine⟨v,he,A',aw,?_⟩;rw [e1];exact⟨q.os,q.tape,q.output,q.size,q.same,q.mono,q.gH,q.bound,q.res,q.kept,q.rows,q.apart⟩
     rcases h x y hp with⟨p1,e1⟩|⟨p1,e1⟩
     . exact key F1 h1 p1 e1
     . exact key F2 h2 p1 e1
   . cases mK
 . cases mK
end Go.Vg

end
section
namespace Go.Vg
open Go
variable [HP]
def qZ(f:Func):Code:=f.body.getD .skip
def cS(f:Nat)(p:List PS)(F:Row (PS.flat p)->Prop×AV×List AB)(E:Env):Env:=Env.cons f (eM p F) E
def cH(f:Nat)(m:List Bool)(p:List TA)(q:List TB)(F:Row (TA.du p)->bT q->bk)(E:Env):Env:=Env.bE f m (bH p q F) E
def nL {α:Type}:α->Nat->Option bq:=λ_ _=>none
def lb {α β:Type}:α->β->Nat->Option bq:=λ_ _ _=>none
def CX(f:Func):Bool:=f.body.isSome&& !(f.name== "runtime.NumGoroutine")
section
variable {P:Program} {E:Env} {f:FuncId} {fn:Func}
abbrev Jc(p:Prop):Prop:=∃V:Prop,V/\V=p
def Jc.go {p:Prop}(h:Jc p):p:=h.elim λ_ h=>h.2▸h.1
theorem vX(h:CX fn=true):fn.body=some (qZ fn)/\(fn.name== "runtime.NumGoroutine")=false :=by
 unfold CX at h;unfold qZ;cases hb:fn.body with
 |none=>rw [hb] at h;cases h
 |some c=>rw [hb] at h;simpa using h
theorem cO.k(hf:P.funcs[f]? =some fn)(hb:CX fn=true):cO P f:=cO.of hf (vX hb).1 (vX hb).2
def vS(hE:aU P E)(hm:P.follows .mixedOrders=true)(p:List PS){F:Row (PS.flat p)->Prop×AV×List AB}(L:Row (PS.flat p)->Nat->Option bq)
  (hf:P.funcs[f]? =some fn) (hb:CX fn=true)
  (h:∀x,(F x).1->Row.ok (PS.flat p) x->Jc (KG E (L x) (qZ fn) fn.ntmps fn.results.toList (mf p x) (F x).2.1 (F x).2.2)):Valid P E.fQ f (eM p F):=
 Rz hE hm p L hf (vX hb).1 λx a b=>(h x a b).go
def vH(hE:aU P E)(hm:P.follows .mixedOrders=true)(p:List TA)(q:List TB){F:Row (TA.du p)->bT q->bk}(L:Row (TA.du p)->bT q->Nat->Option bq)
  (hf:P.funcs[f]? =some fn) (hb:CX fn=true)
  (h:∀x y,(F x y).pre->Row.ok (TA.du p) x->bT.ok q y->Jc (CU E (L x y) (qZ fn) fn.ntmps fn.results.toList (TA.pG p (aF (TA.du p) x)) (bT.put q y) (F x y))):ay P E.fQ f (bH p q F):=
 N5 hE hm p q L hf (vX hb).1 λx y a b c=>(h x y a b c).go
def vH2(hE:aU P E)(o:Nat->Bool)(cl:Nat->Option Nat)(sp:Nat->Bool)(hm:P.follows .mixedOrders=true)(p:List TA)(q:List TB){F:Row (TA.du p)->bT q->bk}(L:Row (TA.du p)->bT q->Nat->Option bq)
  (hf:P.funcs[f]? =some fn) (hb:CX fn=true)
  (h:∀x y,(F x y).pre->Row.ok (TA.du p) x->bT.ok q y->Jc (CU {E with gG:=o,cls:=cl,NB:=sp} (L x y) (qZ fn) fn.ntmps fn.results.toList (TA.pG p (aF (TA.du p) x)) (bT.put q y) (F x y))):ay P E.fQ f (bH p q F):=
 vH (E:={E with gG:=o,cls:=cl,NB:=sp}) ⟨hE.eA,hE.sig,hE.qG,hE.hp,hE.ca⟩ hm p q L hf hb h
def kS2(hm:P.follows .mixedOrders=true)(hE:aU P E)(o:Nat->Bool)(cl:Nat->Option Nat)(sp:Nat->Bool){p:List PS}{F:Row (PS.flat p)->Prop×AV×List AB}(L:Row (PS.flat p)->Nat->Option bq)
  (hf:P.funcs[f]? =some fn) (hb:CX fn=true)
  (h:∀x,(F x).1->Row.ok (PS.flat p) x->Jc (KG {E with gG:=o,cls:=cl,NB:=sp} (L x) (qZ fn) fn.ntmps fn.results.toList (mf p x) (F x).2.1 (F x).2.2)):aU P (cS f p F E):=
 aU.cons hE (vS (E:={E with gG:=o,cls:=cl,NB:=sp}) ⟨hE.eA,hE.sig,hE.qG,hE.hp,hE.ca⟩ hm p L hf hb h) (cO.k hf hb)
def kS(hm:P.follows .mixedOrders=true)(hE:aU P E){p:List PS}{F:Row (PS.flat p)->Prop×AV×List AB}(L:Row (PS.flat p)->Nat->Option bq)
  (hf:P.funcs[f]? =some fn) (hb:CX fn=true)
  (h:∀x,(F x).1->Row.ok (PS.flat p) x->Jc (KG E (L x) (qZ fn) fn.ntmps fn.results.toList (mf p x) (F x).2.1 (F x).2.2)):aU P (cS f p F E):=
 aU.cons hE (vS hE hm p L hf hb h) (cO.k hf hb)
def kH2(hm:P.follows .mixedOrders=true)(hE:aU P E)(o:Nat->Bool)(cl:Nat->Option Nat)(sp:Nat->Bool){m:List Bool}{p:List TA}{q:List TB}{F:Row (TA.du p)->bT q->bk}(L:Row (TA.du p)->bT q->Nat->Option bq)
  (hf:P.funcs[f]? =some fn) (hb:CX fn=true)
  (h:∀x y,(F x y).pre->Row.ok (TA.du p) x->bT.ok q y->Jc (CU {E with gG:=o,cls:=cl,NB:=sp} (L x y) (qZ fn) fn.ntmps fn.results.toList (TA.pG p (aF (TA.du p) x)) (bT.put q y) (F x y))):aU P (cH f m p q F E):=
 aU.bE hE (vH (E:={E with gG:=o,cls:=cl,NB:=sp}) ⟨hE.eA,hE.sig,hE.qG,hE.hp,hE.ca⟩ hm p q L hf hb h) (cO.k hf hb)
def kH(hm:P.follows .mixedOrders=true)(hE:aU P E){m:List Bool}{p:List TA}{q:List TB}{F:Row (TA.du p)->bT q->bk}(L:Row (TA.du p)->bT q->Nat->Option bq)
  (hf:P.funcs[f]? =some fn) (hb:CX fn=true)
  (h:∀x y,(F x y).pre->Row.ok (TA.du p) x->bT.ok q y->Jc (CU E (L x y) (qZ fn) fn.ntmps fn.results.toList (TA.pG p (aF (TA.du p) x)) (bT.put q y) (F x y))):aU P (cH f m p q F E):=
 aU.bE hE (vH hE hm p q L hf hb h) (cO.k hf hb)
def kX(hE:aU P E){p:List PS}{F:Row (PS.flat p)->Prop×AV×List AB}(hf:P.funcs[f]? =some fn)(hb:CX fn=true)(h:Valid P E.fQ f (eM p F)):aU P (cS f p F E):=aU.cons hE h (cO.k hf hb)
def kXH(hE:aU P E){m:List Bool}{p:List TA}{q:List TB}{F:Row (TA.du p)->bT q->bk}(hf:P.funcs[f]? =some fn)(hb:CX fn=true)(h:ay P E.fQ f (bH p q F)):aU P (cH f m p q F E):=aU.bE hE h (cO.k hf hb)
def kV {F:Qz}(h:aU P E)(hs:E.sig f=some F):Valid P E.fQ f F:=(h.sig f F hs).1
end
abbrev bo(p:List PS)(x:Row (PS.flat p)):Prop:=Row.ok (PS.flat p) x
abbrev dL(p:List TA)(x:Row (TA.du p)):Prop:=Row.ok (TA.du p) x
abbrev hlen {α:Type}(l:List α):Prop:=l.length<=9223372036854775807
abbrev hint(x:Int):Prop:= -9223372036854775808<=x/\x<=9223372036854775807
end Go.Vg

end
section
namespace Go.Vg
open Go
variable [HP]
section
variable {P:Program} {E:Env} {f:FuncId} {fn:Func}
def vP(hE:aU P E)(hG:∀i d,E.fQ i=some d->dJ d.row=true)(hm:P.follows .mixedOrders=true)(ps:List PS){F:Row (PS.flat ps)->Prop×AV×List AB}(L:Row (PS.flat ps)->Nat->Option bq)
  (hf:P.funcs[f]? =some fn) (hb:CX fn=true)
  (h:∀x,(F x).1->Row.ok (PS.flat ps) x->Jc (Rw E (L x) (qZ fn) fn.ntmps fn.results.toList (mf ps x) (F x).2.1 (F x).2.2)):Valid P E.fQ f (eM ps F):=by
 intro w A β args aX pre res bs hA hG' bj hs hp;unfold eM at hs;split at hs
 . rename_i x hx;obtain⟨g1,g2⟩:=qb ps hx bj
   have hv:Valid P E.fQ f (λEN=>open Classical in if EN=mf ps x then some (F x) else none):=by
    refine N2 hE hG hm (λ_=>L x) hf (vX hb).1 λEN aAH aAI bs' jb zA=>?_;grind
   exact hv w A β args (mf ps x) pre res bs hA hG' g1 x! hp
 grind
def kP(hG:∀i d,E.fQ i=some d->dJ d.row=true)(hm:P.follows .mixedOrders=true)(hE:aU P E){p:List PS}{F:Row (PS.flat p)->Prop×AV×List AB}(L:Row (PS.flat p)->Nat->Option bq)
  (hf:P.funcs[f]? =some fn) (hb:CX fn=true)
  (h:∀x,(F x).1->Row.ok (PS.flat p) x->Jc (Rw E (L x) (qZ fn) fn.ntmps fn.results.toList (mf p x) (F x).2.1 (F x).2.2)):aU P (cS f p F E):=
 aU.cons hE (vP hE hG hm p L hf hb h) (cO.k hf hb)
def kS3(hm:P.follows .mixedOrders=true)(hE:aU P E)(o:Nat->Bool)(cl:Nat->Option Nat)(sp:Nat->Bool)(fz:Nat->Option (List (Option TypeId))){p:List PS}{F:Row (PS.flat p)->Prop×AV×List AB}(L:Row (PS.flat p)->Nat->Option bq)
  (hf:P.funcs[f]? =some fn) (hb:CX fn=true)
  (h:∀x,(F x).1->Row.ok (PS.flat p) x->Jc (KG {E with gG:=o,cls:=cl,NB:=sp,QA:=fz} (L x) (qZ fn) fn.ntmps fn.results.toList (mf p x) (F x).2.1 (F x).2.2)):aU P (cS f p F E):=
 aU.cons hE (vS (E:={E with gG:=o,cls:=cl,NB:=sp,QA:=fz}) ⟨hE.eA,hE.sig,hE.qG,hE.hp,hE.ca⟩ hm p L hf hb h) (cO.k hf hb)
def kH3(hm:P.follows .mixedOrders=true)(hE:aU P E)(o:Nat->Bool)(cl:Nat->Option Nat)(sp:Nat->Bool)(fz:Nat->Option (List (Option TypeId))){m:List Bool}{p:List TA}{q:List TB}{F:Row (TA.du p)->bT q->bk}(L:Row (TA.du p)->bT q->Nat->Option bq)
  (hf:P.funcs[f]? =some fn) (hb:CX fn=true)
  (h:∀x y,(F x y).pre->Row.ok (TA.du p) x->bT.ok q y->Jc (CU {E with gG:=o,cls:=cl,NB:=sp,QA:=fz} (L x y) (qZ fn) fn.ntmps fn.results.toList (TA.pG p (aF (TA.du p) x)) (bT.put q y) (F x y))):aU P (cH f m p q F E):=
 aU.bE hE (vH (E:={E with gG:=o,cls:=cl,NB:=sp,QA:=fz}) ⟨hE.eA,hE.sig,hE.qG,hE.hp,hE.ca⟩ hm p q L hf hb h) (cO.k hf hb)
end
end Go.Vg

end
section
namespace Go.S
def len {α:Type}(l:List α):Nat:=l.length
def al(m n:Nat):Nat:=m-n
def ud {α:Type}(l:List α)(n:Nat):Prop:=n<=l.length
def fe(n m:Nat):Prop:=n<=m
def B2 {α:Type}(l:List α):Int:=l.length
def small {α:Type}(l:List α):Prop:=l.length<=1099511627776
def oU(n:Int)(k:Nat)(h:0<=n):Vg.aK n ((2:Int)^k-1)=n%2^k:=by
 obtain⟨m,rfl⟩:=Int.eq_ofNat_of_zero_le h
 have h1:((2:Int)^k-1).toNat=2^k-1:=by
  have :(1:Nat)<=2^k:=Nat.one_le_two_pow;have e:((2:Int)^k-1)=((2^k-1:Nat):Int):=by rw [Int.natCast_sub this];simp
  rw [e];rfl
 simp only [Vg.aK,Z!,h1,Nat.and_two_pow_sub_one_eq_mod];simp
theorem acb(n:Int)(h:0<=n):Vg.aK n 7=n%8:=by simpa using oU n 3 h
theorem Xe(n:Int)(h:0<=n):Vg.aK n 15=n%16:=by simpa using oU n 4 h
theorem CY(n:Int)(h:0<=n):Vg.aK n 31=n%32:=by simpa using oU n 5 h
theorem Lp(n:Int)(h:0<=n):Vg.aK n 63=n%64:=by simpa using oU n 6 h
theorem mg(n:Int)(h:0<=n):Vg.aK n 127=n%128:=by simpa using oU n 7 h
def fT(a b:Int)(k:Nat)(ha:0<=a)(h0:0<=b)(h:b<2^k):Vg.cm (a*2^k) b=a*2^k+b:=by
 obtain⟨m,rfl⟩:=Int.eq_ofNat_of_zero_le ha
 have h1:((m:Int)*2^k).toNat=m*2^k:=by
  rfl
 grind[Vg.cm,Int.toNat_natCast,Nat.mul_comm,Nat.two_pow_add_eq_or_of_lt,Int.mul_comm]
theorem zF(a b:Int):Vg.cm a b=Vg.cm b a:=by grind[Vg.cm]
theorem Lq(n:Int)(h:0<=n)(h1:n<128):Vg.cm n 128=n+128:=by
 rw [zF,show(128:Int)=1*2^7 by rfl,fT 1 n 7 w! h h1];omega
def N6 {α:Type}(p:α->Bool)(l:List α):(l.takeWhile p).length<=l.length:=by
 induction l with
 |nil=>simp
 |cons x l ih=>grind[List.takeWhile_cons]
end Go.S

end
section
namespace Go.S
abbrev H8:=Int×Int×Int×Int×Int×Int×Int×Int
def right(x n:Int):Int:=(x/2^n.toNat+x*2^(32-n).toNat%4294967296)%4294967296
def rotl(x k:Int):Int:=right x (-k)
def iS(x k:Int):Prop:= -32<k/\k<0/\0<=x/\x<4294967296
def A5(p:B8)(i:Nat):Int:=(p.getD i 0).toNat
def word(p:B8)(i:Nat):Int:=A5 p (4*i)*16777216+A5 p (4*i+1)*65536+A5 p (4*i+2)*256+A5 p (4*i+3)
def aAU(x:Int):Int:=Vg.fC (Vg.fC (right x 7) (right x 18)) (x/2^Int.toNat 3)
def aAV(y:Int):Int:=Vg.fC (Vg.fC (right y 17) (right y 19)) (y/2^Int.toNat 10)
def afR(w:List Int)(n:Nat):Int:=(((w.getD (n-16) 0+aAU (w.getD (n-15) 0))%4294967296+w.getD (n-7) 0)%4294967296+aAV (w.getD (n-2) 0))%4294967296
def EV(p:B8)(w:List Int)(n:Nat):Int:=if n<16 then word p n else afR w n
def sched(p:B8):Nat->List Int
 |0=>[]
 |n+1=>sched p n++[EV p (sched p n) n]
def aI(p:B8)(n:Nat):List Int:=sched p n++List.replicate (64-n) 0
def Ih:List Int:=[1116352408,1899447441,3049323471,3921009573,961987163,1508970993,2453635748,2870763221,3624381080,310598401,607225278,1426881987,1925078388,2162078206,2614888103,3248222580,3835390401,4022224774,264347078,604807628,770255983,1249150122,1555081692,1996064986,2554220882,2821834349,2952996808,3210313671,3336571891,3584528711,113926993,338241895,666307205,773529912,1294757372,1396182291,1695183700,1986661051,2177026350,2456956037,2730485921,2820302411,3259730800,3345764771,3516065817,3600352804,4094571909,275423344,430227734,506948616,659060556,883997877,958139571,1322822218,1537002063,1747873779,1955562222,2024104815,2227730452,2361852424,2428436474,2756734187,3204031479,3329325298]
def H0:H8:=(1779033703,3144134277,1013904242,2773480762,1359893119,2600822924,528734635,1541459225)
def aAW(a:Int):Int:=Vg.fC (Vg.fC (right a 2) (right a 13)) (right a 22)
def aAX(e:Int):Int:=Vg.fC (Vg.fC (right e 6) (right e 11)) (right e 25)
def ch(e f g:Int):Int:=Vg.fC (Vg.aK e f) (Vg.aK (4294967296-1-e) g)
def maj(a b c:Int):Int:=Vg.fC (Vg.fC (Vg.aK a b) (Vg.aK a c)) (Vg.aK b c)
def one(k w e f g h:Int):Int:=((((h+aAX e)%4294967296+ch e f g)%4294967296+k)%4294967296+w)%4294967296
def two(a b c:Int):Int:=(aAW a+maj a b c)%4294967296
def rnd(k w:Int)(s:H8):H8:=((one k w s.2.2.2.2.1 s.2.2.2.2.2.1 s.2.2.2.2.2.2.1 s.2.2.2.2.2.2.2+two s.1 s.2.1 s.2.2.1)%4294967296,s.1,s.2.1,s.2.2.1,
 (s.2.2.2.1+one k w s.2.2.2.2.1 s.2.2.2.2.2.1 s.2.2.2.2.2.2.1 s.2.2.2.2.2.2.2)%4294967296,s.2.2.2.2.1,s.2.2.2.2.2.1,s.2.2.2.2.2.2.1)
def bW(w:List Int)(s:H8):Nat->H8
 |0=>s
 |n+1=>rnd (Ih.getD n 0) (w.getD n 0) (bW w s n)
def î(s t:H8):H8:=((s.1+t.1)%4294967296,(s.2.1+t.2.1)%4294967296,(s.2.2.1+t.2.2.1)%4294967296,(s.2.2.2.1+t.2.2.2.1)%4294967296,
 (s.2.2.2.2.1+t.2.2.2.2.1)%4294967296,(s.2.2.2.2.2.1+t.2.2.2.2.2.1)%4294967296,(s.2.2.2.2.2.2.1+t.2.2.2.2.2.2.1)%4294967296,(s.2.2.2.2.2.2.2+t.2.2.2.2.2.2.2)%4294967296)
def block(s:H8)(p:B8):H8:=î s (bW (sched p 64) s 64)
def proc(s:H8)(b:B8):Nat->H8
 |0=>s
 |n+1=>block (proc s b n) ((b.drop (64*n)).take 64)
def n0(s:H8):List Int:=[s.1,s.2.1,s.2.2.1,s.2.2.2.1,s.2.2.2.2.1,s.2.2.2.2.2.1,s.2.2.2.2.2.2.1,s.2.2.2.2.2.2.2]
def b32(w:Int):B8:=[UInt8.ofNat (w/16777216%256).toNat,UInt8.ofNat (w/65536%256).toNat,UInt8.ofNat (w/256%256).toNat,UInt8.ofNat (w%256).toNat]
def vY(s:H8)(n:Nat):B8:=((n0 s).take n).flatMap b32
def dig(s:H8):B8:=vY s 8
def lf(n:Nat):Nat:=(119-n%64)%64
def len8(n:Int)(k:Nat):B8:=(List.range k).map λi=>UInt8.ofNat (n/2^(56-8*i)%256).toNat
def j6(rest:B8)(k:Nat):B8:=rest++[128]++List.replicate k 0
def jd(rest:B8)(n:Int)(k:Nat):B8:=j6 rest (lf rest.length)++len8 (n*8) k
def tail(rest:B8)(n:Int):B8:=jd rest n 8
def blocks(b:B8):Nat:=b.length/64
def aE(s:H8)(b:B8):H8:=proc s b (blocks b)
def jo(b:B8):B8:=b.drop (64*blocks b)
def sum(b:B8):B8:=dig (aE H0 (tail b b.length))
def vZ(s:H8):Prop:=∀x∈n0 s,0<=x/\x<4294967296
def okW(l:List Int):Prop:=∀x∈l,0<=x/\x<4294967296
def fb(rest:B8)(k:Nat):Prop:=k<=lf rest.length
def oV(r:B8)(n:Int):Bool:=decide (0<=n)&&decide (n<=1099511627776)&&decide ((r.length:Int)=n%64)
def RK(s:H8)(r:B8)(n:Int)(b:B8):Prop:=vZ s/\r=[]/\n=0/\small b
def Jt(s:H8)(r:B8)(n:Int):Prop:=vZ s/\0<=n/\n<=1099511627776/\(r.length:Int)=n%64
def RL(s:H8)(p:B8):Prop:=vZ s/\p.length=64
end Go.S
namespace Go.S
def gg(b:B8)(k:Nat):B8:=b.drop (64*k)
end Go.S
namespace Go.S
def afS(a b c d:UInt8):Vg.cm (Vg.cm (Vg.cm ((a.toNat:Int)*2^Int.toNat 24%4294967296) ((b.toNat:Int)*2^Int.toNat 16%4294967296)) ((c.toNat:Int)*2^Int.toNat 8%4294967296)) (d.toNat:Int)=
  (a.toNat:Int)*16777216+(b.toNat:Int)*65536+(c.toNat:Int)*256+(d.toNat:Int):=by
 have ha:=a.toNat_lt;have hb:=b.toNat_lt;have hc:=c.toNat_lt;have hd:=d.toNat_lt
 have e1:(a.toNat:Int)*2^Int.toNat 24%4294967296=((a.toNat:Int))*2^24:=by grind
 have e2:(b.toNat:Int)*2^Int.toNat 16%4294967296=(b.toNat:Int)*2^16:=by grind
 have e3:(c.toNat:Int)*2^Int.toNat 8%4294967296=(c.toNat:Int)*2^8:=by grind
 rw [e1,e2,e3,fT _ _ 24 w! w! w!];rw [show(a.toNat:Int)*2^24+(b.toNat:Int)*2^16=((a.toNat:Int)*256+b.toNat)*2^16 by omega,fT _ _ 16 w! w! w!];rw [show((a.toNat:Int)*256+b.toNat)*2^16+(c.toNat:Int)*2^8=((a.toNat:Int)*65536+b.toNat*256+c.toNat)*2^8 by omega,fT _ _ 8 w! w! w!];omega
theorem xw(p:B8):∀n,(sched p n).length=n
 |0=>rfl
 |n+1=>by simp [sched,xw p n]
theorem sO(p:B8)(n:Nat)(h:n<=64):(aI p n).length=64:=by grind[aI,xw]
def ï(p:B8):aI p 64=sched p 64:=by simp [aI]
def afT(p:B8)(n:Nat):0<=word p n/\word p n<4294967296:=by
 simp only [word,A5];have h1:=(p.getD (4*n) 0).toNat_lt;have h2:=(p.getD (4*n+1) 0).toNat_lt;have h3:=(p.getD (4*n+2) 0).toNat_lt;have h4:=(p.getD (4*n+3) 0).toNat_lt
 omega
def O9(p:B8):∀n,okW (sched p n)
 |0=>by simp [sched,okW]
 |n+1=>by
  intro x hx;simp [sched,G!,p?] at hx;rcases hx with hx|rfl
  . exact O9 p n x hx
  . simp [EV];split
    . exact afT p n
    . simp [afR];omega
def afU {l:List Int}(h:okW l)(i:Nat):0<=l.getD i 0/\l.getD i 0<4294967296:=by
 rw [F!];cases hg:l[i]? with
 |none=>simp
 |some x=>simpa using h x (K? hg)
def alw(p:B8)(n i:Nat):0<=(aI p n).getD i 0/\(aI p n).getD i 0<4294967296:=by
 refine afU ?_ i;intro x hx;simp [aI,G!] at hx;rcases hx with hx|hx
 . exact O9 p n x hx
 grind
def UC(p:B8)(n i:Nat)(k:Int)(h: -32<k/\k<0):iS ((aI p n).getD i 0) k:=⟨h.1,h.2,alw p n i⟩
def A6(p:B8)(n i:Nat)(h:i<n):(aI p n).getD i 0=(sched p n).getD i 0:=by
 grind[aI,List.getElem?_append_left,xw]
def UD(p:B8)(n:Nat)(v:Int)(h:n<64)(hv:v=EV p (sched p n) n):(aI p n).set n v=aI p (n+1):=by
 grind[aI,sched,ab9,xw]
def alx(p:B8)(x:Nat)(h:x<16):List.set (aI p x) (0+Int.toNat (x:Int)*1)
  (Vg.cm (Vg.cm (Vg.cm (((List.getD p (Int.toNat (4*(x:Int))) 0).toNat:Int)*2^Int.toNat 24%4294967296) (((List.getD p (Int.toNat (4*(x:Int)+1)) 0).toNat:Int)*2^Int.toNat 16%4294967296))
    (((List.getD p (Int.toNat (4*(x:Int)+2)) 0).toNat:Int)*2^Int.toNat 8%4294967296)) ((List.getD p (Int.toNat (4*(x:Int)+3)) 0).toNat:Int))=aI p (x+1):=by
 rw [afS,show 0+Int.toNat (x:Int)*1=x by omega];refine UD p x _ w! ?_;simp [EV,R! h,word,A5,show Int.toNat (4*(x:Int))=4*x by omega,show Int.toNat (4*(x:Int)+1)=4*x+1 by omega,show Int.toNat (4*(x:Int)+2)=4*x+2 by omega,show Int.toNat (4*(x:Int)+3)=4*x+3 by omega]
def aly(p:B8)(x:Nat)(h:16<=x)(h1:x<64):List.set (aI p x) (0+Int.toNat (x:Int)*1)
  ((((List.getD (aI p x) (0+Int.toNat ((x:Int)-16)*1) 0+
    Vg.fC (Vg.fC (rotl (List.getD (aI p x) (0+Int.toNat ((x:Int)-15)*1) 0) (-7)) (rotl (List.getD (aI p x) (0+Int.toNat ((x:Int)-15)*1) 0) (-18))) (List.getD (aI p x) (0+Int.toNat ((x:Int)-15)*1) 0/2^Int.toNat 3))%4294967296+
    List.getD (aI p x) (0+Int.toNat ((x:Int)-7)*1) 0)%4294967296+
    Vg.fC (Vg.fC (rotl (List.getD (aI p x) (0+Int.toNat ((x:Int)-2)*1) 0) (-17)) (rotl (List.getD (aI p x) (0+Int.toNat ((x:Int)-2)*1) 0) (-19))) (List.getD (aI p x) (0+Int.toNat ((x:Int)-2)*1) 0/2^Int.toNat 10))%4294967296)=aI p (x+1):=by
 simp only [show 0+Int.toNat (x:Int)*1=x by omega,show 0+Int.toNat ((x:Int)-16)*1=x-16 by omega,show 0+Int.toNat ((x:Int)-15)*1=x-15 by omega,show 0+Int.toNat ((x:Int)-7)*1=x-7 by omega,show 0+Int.toNat ((x:Int)-2)*1=x-2 by omega,
  A6 p x (x-16) w!,A6 p x (x-15) w!,A6 p x (x-7) w!,A6 p x (x-2) w!]
 refine UD p x _ w! ?_;simp only [EV,Q! (by omega :¬x<16)];rfl
def alz(k w:Int)(s:H8)(h:vZ s):vZ (rnd k w s):=by
 simp [vZ,n0,N!,List.not_mem_nil,or_false,forall_eq_or_imp,forall_eq,rnd] at h |-;omega
def Lr(w:List Int)(s:H8)(h:vZ s):∀n,vZ (bW w s n)
 |0=>h
 |n+1=>alz _ _ _ (Lr w s h n)
def ace(s:H8)(p:B8):vZ (block s p):=by
 simp [block,î,vZ,n0,N!,List.not_mem_nil,or_false,forall_eq_or_imp,forall_eq];omega
theorem UE(s:H8)(b:B8)(h:vZ s):∀n,vZ (proc s b n)
 |0=>h
 |n+1=>ace _ _
def au1 {s:H8}(h:vZ s)(k:Int)(hk: -32<k/\k<0):iS s.1 k:=⟨hk.1,hk.2,h _ (by simp [n0])⟩
def au2 {s:H8}(h:vZ s)(k:Int)(hk: -32<k/\k<0):iS s.2.2.2.2.1 k:=⟨hk.1,hk.2,h _ (by simp [n0])⟩
def Pa:(64:Nat)=Ih.length:=by decide
theorem afV:vZ H0:=by simp [vZ,n0,H0]
end Go.S
namespace Go.S
theorem alA {x k:Int}(h:iS x k):Vg.cm (x*2^Int.toNat (Vg.aK (k%18446744073709551616) 31)%4294967296) (x/2^Int.toNat ((32-Vg.aK (k%18446744073709551616) 31)%18446744073709551616))=rotl x k:=by
 obtain⟨h1,h2,h3,h4⟩:=h;have e1:Vg.aK (k%18446744073709551616) 31=32+k:=by grind[CY]
 rw [e1,show(32-(32+k))%18446744073709551616= -k by omega];obtain⟨n,hn⟩:∃n:Nat,n=(-k).toNat:=⟨_,rfl⟩;rw [show Int.toNat (32+k)=32-n by omega,<-hn];simp [rotl,right,<-hn,show(32- -k).toNat=32-n by omega];obtain⟨m,rfl⟩:=Int.eq_ofNat_of_zero_le h3;have hm:m<2^32:=by omega
 have aEU:(2:Nat)^(32-n)*2^n=2^32:=by rw [<-Nat.pow_add];grind
 have hq:m/2^n<2^(32-n):=by
  simp_all[Nat.div_lt_iff_lt_mul,Nat.two_pow_pos]
 have aAZ:m*2^(32-n)%4294967296=(m%2^n)*2^(32-n):=by
  grind[Nat.mul_comm,Nat.mul_mod_mul_right]
 have c1:((m:Int)*2^(32-n)%4294967296)=(((m%2^n:Nat):Int))*2^(32-n):=by
  have:=congrArg (Nat.cast (R:=Int)) aAZ;grind
 have c2:((m:Int)/2^n)=((m/2^n:Nat):Int):=by simp
 rw [c1,c2,fT _ _ (32-n) (Int.natCast_nonneg _) (Int.natCast_nonneg _) x!]
 have iU:(m%2^n)*2^(32-n)+m/2^n<4294967296:=by
  have h1:m%2^n<2^n:=Nat.mod_lt _ (Nat.two_pow_pos n);have h2:(m%2^n+1)*2^(32-n)<=2^n*2^(32-n):=Nat.mul_le_mul_right _ h1;grind
 grind
theorem alB {x k:Int}(h:iS x k):Vg.aK (k%18446744073709551616) 31=32+k:=by
 obtain⟨h1,h2,h3,h4⟩:=h;grind[CY]
end Go.S
namespace Go.S
def acf {s:H8}{r:B8}{n:Int}(h:Jt s r n):oV r n=true:=by
 obtain⟨_,h1,h2,h3⟩:=h;grind[oV]
theorem fm(r:B8)(k:Nat):(j6 r k).length=r.length+1+k:=by grind[j6]
def afW(r:B8):r++[UInt8.ofNat (Int.toNat 128)]=j6 r 0:=by simp [j6]
theorem UF(r:B8)(k:Nat):j6 r k++[UInt8.ofNat (Int.toNat 0)]=j6 r (k+1):=by
 grind[j6,List.append_assoc,List.replicate_succ']
theorem Xf {r:B8}{k:Nat}(h:fb r k)(h1:¬((j6 r k).length:Int)%64=56):fb r (k+1):=by
 grind[fb,lf,fm]
theorem acg {r:B8}{k:Nat}(h:fb r k)(h1:((j6 r k).length:Int)%64=56):k=lf r.length:=by
 grind[fb,lf,fm]
def ach(n:Int)(k:Nat):(len8 n k).length=k:=by simp [len8]
theorem iE(r:B8)(n:Int)(k:Nat):(jd r n k).length=r.length+1+lf r.length+k:=by simp [jd,fm,ach]
theorem afX(r:B8)(n:Int):jd r n 0=j6 r (lf r.length):=by simp [jd,len8]
def UG(r:B8)(n:Int)(x:Nat)(h0:0<=n)(h1:n<=1099511627776)(hx:x<8):
  jd r n x++[UInt8.ofNat (Int.toNat (n%18446744073709551616*8%18446744073709551616/2^Int.toNat (56-8*(x:Int))%256))]=jd r n (x+1):=by
 rw [show n%18446744073709551616*8%18446744073709551616=n*8 by omega,show Int.toNat (56-8*(x:Int))=56-8*x by omega];grind[jd,len8,List.range_succ,List.append_assoc]
def Pb(s:H8)(k:Nat)(hk:k<=8):(vY s k).length=4*k:=by
 match k,hk with
 |0,_|1,_|2,_|3,_|4,_|5,_|6,_|7,_|8,_=>rfl
def Xg(s:H8)(x:Nat)(hx:x<8):vY s x++b32 ((n0 s).getD x 0)=vY s (x+1):=by
 have hl:x<(n0 s).length:=by simp_all[n0]
 grind[vY,ax,n0]
def afY(s:H8):(dig s).length=32:=Pb s 8 w!
theorem UH(b:B8):(sum b).length=32:=afY _
def Gt(s:H8)(x y:B8):∀n,64*n<=x.length->proc s (x++y) n=proc s x n
 |0,_=>rfl
 |n+1,h=>by
  simp [proc];rw [Gt s x y n w!,List.drop_append_of_le_length w!,List.take_append_of_le_length (by rw [D?];omega)]
def Ls(s:H8)(x y:B8)(a:Nat)(h:x.length=64*a):∀n,proc s (x++y) (a+n)=proc (proc s x a) y n
 |0=>Gt s x y a w!
 |n+1=>by
  simp [proc];rw [Ls s x y a h n,show 64*(a+n)=x.length+64*n by omega,List.drop_append,x? w!,d?,Nat.add_sub_cancel_left]
theorem qR(b:B8):(jo b).length=b.length%64:=by grind[jo,blocks]
def aci(n:Nat):lf (n%64)=lf n:=by simp [lf]
def Xh(b:B8)(n:Int):aE (aE H0 b) (tail (jo b) n)=aE H0 (tail b n):=by
 have hb:b=b.take (64*blocks b)++jo b:=(Z? _ b).symm;have hl:(b.take (64*blocks b)).length=64*blocks b:=by simp [blocks];omega
 have ht:tail b n=b.take (64*blocks b)++tail (jo b) n:=by
  have :lf (jo b).length=lf b.length:=by rw [qR,aci]
  simp [tail,jd,j6,this];conv=>lhs;rw [hb]
  simp only [Y!,K!];rw [<-K!,<-hb]
 have hk:blocks (tail b n)=blocks b+blocks (tail (jo b) n):=by
  rw [ht];simp [blocks,K!] at *;omega
 simp [aE];rw [hk,ht,Ls H0 _ _ (blocks b) hl,<-Gt H0 (b.take (64*blocks b)) (jo b) (blocks b) w!,<-hb]
def alC(s:H8)(x:Nat)(hx:x<8):vY s x++[UInt8.ofNat (Int.toNat (List.getD (n0 s) (Int.toNat (x:Int)) 0/2^Int.toNat 24%256)),UInt8.ofNat (Int.toNat (List.getD (n0 s) (Int.toNat (x:Int)) 0/2^Int.toNat 16%256)),
 UInt8.ofNat (Int.toNat (List.getD (n0 s) (Int.toNat (x:Int)) 0/2^Int.toNat 8%256)),UInt8.ofNat (Int.toNat (List.getD (n0 s) (Int.toNat (x:Int)) 0%256))]=vY s (x+1):=Xg s x hx
theorem alD(s:H8)(b:B8)(n:Nat):block ((proc s b n).1,(proc s b n).2.1,(proc s b n).2.2.1,(proc s b n).2.2.2.1,(proc s b n).2.2.2.2.1,(proc s b n).2.2.2.2.2.1,(proc s b n).2.2.2.2.2.2.1,(proc s b n).2.2.2.2.2.2.2) (List.take (Int.toNat 64) (gg b n))=proc s b (n+1):=rfl
end Go.S

end
section
namespace Go.S
def pH:Nat->Nat->B8
 |0,_=>[]
 |f+1,v=>if v<128 then [UInt8.ofNat v] else UInt8.ofNat (v%128+128)::pH f (v/128)
def num(v:Int):B8:=pH 9 v.toNat
def text(s:B8):B8:=num s.length++s
def fD(v:Int):Bool:=decide (v<0) || decide (4611686018427387904<v)
def lh(b:B8)(v:Int):B8:=if fD v then [] else b++num v
def v7(v:Int):Int:=if fD v then 1 else 0
def rP(l:B8)(v:Int)(m:B8)(u:Int):Prop:=0<=u/\u<=v/\m++num u=l++num v
def EW(l:B8)(v:Int):Prop:=0<=v/\l.length<=70368744177664
def nB(l s:B8):Prop:=l.length<=35184372088832/\s.length<=35184372088832
def lead(b:B8):Nat:=(b.takeWhile λx=>decide (128<=x.toNat)).length
def dx:B8->Nat
 |[]=>0
 |x::l=>x.toNat%128+128*dx l
def first(b:B8):Int×Int×Int:=
 if 9<=lead b then(0,0,2)
 else if lead b=b.length then(0,0,4)
 else if dx (b.take (lead b+1))>4611686018427387904\/num (dx (b.take (lead b+1)))≠b.take (lead b+1) then(0,0,2)
 else(dx (b.take (lead b+1)),lead b+1,0)
def aO(b:B8)(dg:Int):B8×Int×Int:=
 if(first b).2.2≠0 then([],0,(first b).2.2)
 else if(first b).1>dg then([],0,2)
 else if(first b).1>b.length-(first b).2.1 then([],0,4)
 else((b.drop (first b).2.1.toNat).take (first b).1.toNat,(first b).2.1+(first b).1,0)
def dy(b:B8)(at':Int):Prop:=0<=at'/\at'<=b.length
def Pc(at':Int)(x:Int×Int×Int):Int×Int×Int:=(x.1,if x.2.2=0 then at'+x.2.1 else 0,x.2.2)
def aD(b:B8)(at':Int):Int×Int×Int:=Pc at' (first (b.drop at'.toNat))
def cM(b:B8)(p dg:Int):B8×Int×Int:=
 if(aD b p).2.2≠0 then([],0,(aD b p).2.2)
 else if dg<(aD b p).1 then([],0,2)
 else if(b.length:Int)-(aD b p).2.1<(aD b p).1 then([],0,4)
 else((b.take ((aD b p).2.1+(aD b p).1).toNat).drop (aD b p).2.1.toNat,(aD b p).2.1+(aD b p).1,0)
def inside(b:B8)(a:Int):Bool:=decide (0<=a)&&decide (a<=b.length)
def bU(b:B8)(a e:Int):Int:=if e=0/\inside b a=false then 1 else e
abbrev Rd:=B8×Int×Int
def ai(b:B8)(a e dg:Int):Rd×B8:=
 if bU b a e≠0 then((b,a,bU b a e),[])
 else if(cM b a dg).2.2≠0 then((b,a,(cM b a dg).2.2),[])
 else((b,(cM b a dg).2.1,0),(cM b a dg).1)
def af(b:B8)(a e:Int):Rd×Int:=
 if bU b a e≠0 then((b,a,bU b a e),0)
 else if(aD b a).2.2≠0 then((b,a,(aD b a).2.2),0)
 else((b,(aD b a).2.1,0),(aD b a).1)
def an(b:B8)(a e:Int):Rd×B8:=
 if bU b a e≠0 then((b,a,bU b a e),[])
 else if(b.length:Int)-a<32 then((b,a,4),[])
 else((b,a+32,0),(b.drop a.toNat).take 32)
def done(b:B8)(a e:Int):Int:=if e≠0 then e else if inside b a=false then 1 else if a<b.length then 2 else 0
def jq(b:B8)(a:Int)(n:Nat):Prop:=n<=9/\a+n<=b.length/\∀x∈(b.drop a.toNat).take n,128<=x.toNat
def fA(b:B8)(a:Int)(n:Nat):Int:=(dx ((b.drop a.toNat).take n):Int)
def EX(b:B8)(n:Nat):Prop:=n<=9/\n<=b.length/\∀x∈b.take n,128<=x.toNat
theorem Gu:∀(f v:Nat),(pH f v).length<=f
 |0,_=>by simp [pH]
 |f+1,v=>by
  have:=Gu f (v/128);simp [pH];split<;>simp<;>omega
theorem eN(v:Int):(num v).length<=9:=Gu 9 _
theorem Lt:∀(f g v:Nat),v<128^f->1<=f->f<=g->pH g v=pH f v
 |0,g,v,_,h,_=>by omega
 |f+1,0,v,_,_,h=>by omega
 |f+1,g+1,v,h,_,hg=>by
  simp [pH];split
  . rfl
  . by_cases hf:f=0
    . subst hf;omega
    . rw [Lt f g (v/128) w! w! w!]
theorem Ju(v:Int)(h:v<128):num v=[UInt8.ofNat v.toNat]:=by
 simp_all[num,pH,R!]
def alE(v:Int)(h:128<=v)(h1:v<=9223372036854775807):num v=UInt8.ofNat (v%128+128).toNat::num (v/128):=by
 simp [num];rw [pH,if_neg w!];grind[Lt]
theorem Ii:∀(l:B8) (h:l≠ []),dx l=0->(l.getLast h).toNat<128->(l.getLast h).toNat=0
 |[x],_,h,hx=>by grind[dx]
 |x::y::l,_,h,hx=>by
  simp [dx] at h;exact Ii (y::l) z! (by simp [dx];omega) hx
def Pd:∀(f:Nat) (l:B8) (h:l≠ []),l.length<=f->(∀x∈l.dropLast,128<=x.toNat)->(l.getLast h).toNat<128->(pH f (dx l)=l↔(l.length=1\/(l.getLast h).toNat≠0))
 |0,l,h,hl,_,_=>by
  grind
 |f+1,[x],_,_,_,hx=>by
  have hv:dx [x]=x.toNat:=by grind[dx]
  simp_all[pH,R!]
 |f+1,x::y::l,_,hl,hd,hx=>by
  have NG:128<=x.toNat:=hd x z!;have WZ:=x.toNat_lt;have ih:=Pd f (y::l) z! x! (λz hz=>hd z x!) hx;have e:dx (x::y::l)=x.toNat%128+128*dx (y::l):=rfl;rw [pH,e];by_cases hV:dx (y::l)=0
  . grind[Ii]
  . have e1:(x.toNat%128+128*dx (y::l))%128+128=x.toNat:=by omega
    have e2:(x.toNat%128+128*dx (y::l))/128=dx (y::l):=by omega
    rw [e1,e2,UInt8.ofNat_toNat];grind[dx]
theorem Gv:∀(l:B8),dx l<128^l.length
 |[]=>by simp [dx]
 |x::l=>by
  have:=Gv l;simp [dx,G?,Nat.pow_succ];omega
theorem B3:∀(l m:B8),dx (l++m)=dx l+128^l.length*dx m
 |[],m=>by simp [dx]
 |x::l,m=>by
  simp [List.cons_append,dx,B3 l m,List.length_cons,Nat.pow_succ];grind
def UI(b:B8)(n:Nat)(h:∀x∈b.take n,128<=x.toNat)(hn:n<=b.length)(he:n=b.length\/(b.getD n 0).toNat<128):lead b=n:=by
 induction b generalizing n with
 |nil=>simp at hn;subst hn;rfl
 |cons x b ih=>
  cases n with
  |zero=>
   simp_all[List.getD_cons_zero,lead,List.takeWhile_cons,Q!]
  |succ n=>
   have hx:=h x z!;have:=ih n (λy hy=>h y (by simp [hy])) (by simpa using hn) (by simpa using he);simp [lead,List.takeWhile_cons] at this |-;rw [R! (by simpa using hx),G?,this]
def afZ(b:B8)(n:Nat)(h:∀x∈b.take n,128<=x.toNat)(hn:n<=b.length):n<=lead b:=by
 induction b generalizing n with
 |nil=>grind
 |cons x b ih=>
  cases n with
  |zero=>omega
  |succ n=>
   simp_all[lead,List.takeWhile_cons,R!,G?]
def Xi(b:B8)(n:Nat)(hn:n<b.length):∃h,(b.take (n+1)).getLast h=b.getD n 0:=by
 refine⟨by intro h;simp_all,?_⟩;grind
def Pe(b:B8)(n:Nat)(h:∀x∈b.take n,128<=x.toNat)(hn:n<b.length)(h9:n<9)(he:(b.getD n 0).toNat<128):
  first b=if((1<=n/\(b.getD n 0).toNat=0)\/dx (b.take (n+1))>4611686018427387904) then(0,0,2) else((dx (b.take (n+1)):Int),(n:Int)+1,0):=by
 have hl:=UI b n h w! (.inr he);obtain⟨dU,Q6⟩:=Xi b n hn;have hlen:(b.take (n+1)).length=n+1:=by grind
 have hc:=Pd 9 (b.take (n+1)) dU w! (by
  grind[List.dropLast_eq_take]) x!
 simp [first,hl,num,Int.toNat_natCast];grind
def af0(b:B8)(h:∀x∈b.take 9,128<=x.toNat)(hn:9<=b.length):first b=(0,0,2):=by
 simp_all[afZ,first,R!]
def Xj(b:B8)(n:Nat)(h:∀x∈b.take n,128<=x.toNat)(hn:n=b.length)(h9:n<9):first b=(0,0,4):=by
 have:=UI b n h w! (.inl hn);simp_all[first,Q!,R!]
def mM(b:B8):0<=(first b).1/\(first b).1<=4611686018427387904/\0<=(first b).2.1/\(first b).2.1<=b.length/\((first b).2.2=0\/(first b).2.2=2\/(first b).2.2=4):=by
 have hl:=N6 (λx:UInt8=>decide (128<=x.toNat)) b;unfold first
 split
 . simp
 . split
   . simp
   . split
     . simp
     . simp [lead,not_or,Nat.not_lt] at *;grind
def acj {b:B8}{x:Nat}(h:EX b x)(h1:x<b.length)(h2:x<9)(h3:128<=(b.getD x 0).toNat):EX b (x+1):=by
 refine⟨w!,w!,λy hy=>?_⟩;rw [ax b x 0 h1] at hy;rcases G!.1 hy with hy|hy
 . exact h.2.2 y hy
 grind
theorem au3 {b:B8}(h:EX b 9):first b=(0,0,2):=af0 b h.2.2 h.2.1
def af1 {b:B8}{x:Nat}(h:EX b x)(h1:x=b.length)(h2:x≠9):first b=(0,0,4):=Xj b x h.2.2 h1 (by have:=h.1;omega)
theorem aA0 {b:B8}{p:Int}(h:dy b p):jq b p 0:=by grind[dy,jq]
def fU {b:B8}{p:Int}{x:Nat}(h:jq b p x):x<=9/\p+x<=b.length:=⟨h.1,h.2.1⟩
def Ph(b:B8)(p:Int)(x:Nat)(hp:0<=p):(b.drop p.toNat).getD x 0=b.getD (p+x).toNat 0:=by
 grind
theorem Lu {b:B8}{p:Int}{x:Nat}(hp:dy b p)(h:jq b p x):EX (b.drop p.toNat) x:=by
 simp [dy] at hp;exact⟨h.1,by rw [D?];have:=h.2.1;omega,h.2.2⟩
def ack {b:B8}{p:Int}{x:Nat}(hp:dy b p)(h:jq b p x)(h1:p+x<b.length)(h2:x≠9)(h3:128<=(b.getD (p+x).toNat 0).toNat):jq b p (x+1):=by
 have zA:=hp;simp [dy] at zA;have:=acj (Lu hp h) x! (by have:=h.1;omega) x!;exact⟨this.1,w!,this.2.2⟩
theorem af2 {b:B8}{p:Int}(hp:dy b p)(h:jq b p 9):aD b p=(0,0,2):=by
 grind[aD,au3,Lu,Pc]
theorem UJ {b:B8}{p:Int}{x:Nat}(hp:dy b p)(h:jq b p x)(h1:(x:Int)=b.length-p)(h2:x≠9):aD b p=(0,0,4):=by
 have zA:=hp;simp [dy] at zA;have:=af1 (Lu hp h) x! h2;grind[aD,Pc]
theorem ð {b:B8}{p:Int}{x:Nat}(hp:dy b p)(h:jq b p x)(h1:p+x<b.length):
  Vg.cm (fA b p x) (Vg.aK ((b.getD (p+x).toNat 0).toNat:Int) 127*2^(7*(x:Int)).toNat)=fA b p (x+1):=by
 have zA:=hp;simp [dy] at zA;have hx:x<(b.drop p.toNat).length:=by grind
 rw [mg _ w!,zF,fT _ _ _ w! (by simp [fA])]
 . simp [fA];rw [ax _ x 0 hx,B3,Ph _ _ _ zA.1,T?,Nat.min_eq_left w!];simp [dx,show(7*(x:Int)).toNat=7*x by omega,Nat.mul_zero,Nat.add_zero];simp_all[Int.natCast_add,Int.natCast_mul,Int.natCast_pow,Int.natCast_emod,Int.pow_mul,Int.mul_comm,Int.add_comm]
 . simp [fA,show(7*(x:Int)).toNat=7*x by omega];grind[Gv,Nat.pow_le_pow_right,List.length_take,Int.natCast_pow,Int.pow_mul]
def aA1(b:B8)(p:Int):fA b p 0=0:=by rfl
def alF {b:B8}{p:Int}{x:Nat}(h:x<=9):0<=fA b p x/\fA b p x<=9223372036854775807:=by
 have:=Gv ((b.drop p.toNat).take x);have e:(128:Nat)^((b.drop p.toNat).take x).length<=128^9:=Nat.pow_le_pow_right w! x!;grind[fA]
def ñ(c:Int)(x:Nat)(h0:0<=c)(h1:c<=127)(hx:x<=8):0<=c*2^(7*(x:Int)).toNat/\c*2^(7*(x:Int)).toNat<=9223372036854775807:=by
 have fV:(2:Nat)^(7*(x:Int)).toNat<=2^56:=Nat.pow_le_pow_right w! w!;have e:(2:Int)^(7*(x:Int)).toNat=((2^(7*(x:Int)).toNat:Nat):Int):=by simp
 have hp:(2:Int)^(7*(x:Int)).toNat<=72057594037927936:=by omega
 have hq:(0:Int)<2^(7*(x:Int)).toNat:=Int.pow_pos w!;constructor
 . exact Int.mul_nonneg h0 w!
 . have:=Int.mul_le_mul h1 hp w! w!;omega
def af3 {b:B8}{p:Int}{x:Nat}(hp:dy b p)(h:jq b p x)(h1:p+x<b.length)(h2:x≠9)(h3:(b.getD (p+x).toNat 0).toNat<128):
  aD b p=if((1<=x/\(b.getD (p+x).toNat 0).toNat=0)\/fA b p (x+1)>4611686018427387904) then(0,0,2) else(fA b p (x+1),p+(x+1),0):=by
 have zA:=hp;simp [dy] at zA;have:=Pe (b.drop p.toNat) x h.2.2 x! (by have:=h.1;omega) x!;rw [Ph _ _ _ zA.1] at this;simp [aD,this,fA];have e:(dx ((b.drop p.toNat).take (x+1))>4611686018427387904)↔((dx ((b.drop p.toNat).take (x+1)):Int)>4611686018427387904):=by omega
 simp [e];rw [apply_ite (Pc p)];rfl
theorem af4(v:Int):1<=(num v).length:=by
 grind[num,pH]
theorem EY {l m:B8}{v u:Int}(h:rP l v m u):m.length+1<=l.length+9:=by
 have:=congrArg List.length h.2.2;grind[eN,af4,List.length_append]
theorem acm {l m:B8}{v u:Int}(h:rP l v m u)(h1:127<u)(h2:v<=9223372036854775807):
  rP l v (m++[UInt8.ofNat (Vg.cm (Vg.aK u 127%256) 128).toNat]) (u/2^(7:Int).toNat):=by
 have h4:=h.2.1;have e:=alE u w! w!
 have e2:Vg.cm (Vg.aK u 127%256) 128=u%128+128:=by
  grind[mg,Lq]
 have h3:=h.2.2;refine⟨x!,x!,?_⟩;grind
theorem af5 {l m:B8}{v u:Int}(h:rP l v m u)(h1:¬127<u):m++[UInt8.ofNat (u%256).toNat]=l++num v:=by
 have e:=Ju u w!;rw [<-h.2.2,e];have:=h.1;grind
theorem ò {l m:B8}{v u:Int}(h:rP l v m u):0<=u:=h.1
theorem UK {b:B8}{p:Int}{x:Nat}(hp:dy b p)(h:jq b p x)(h1:p+x<b.length)(h2:x≠9)(h3:(b.getD (p+x).toNat 0).toNat<128){c:Bool}
  (hc:(bif decide (1<(x:Int)+1) then bif decide (((b.getD (p+((x:Int)+1)-1).toNat 0).toNat:Int)=0) then true else decide (4611686018427387904<Vg.cm (fA b p x) (Vg.aK ((b.getD (p+x).toNat 0).toNat:Int) 127*2^(7*(x:Int)).toNat)) else decide (4611686018427387904<Vg.cm (fA b p x) (Vg.aK ((b.getD (p+x).toNat 0).toNat:Int) 127*2^(7*(x:Int)).toNat)))=c):
  aD b p=if c=true then(0,0,2) else(Vg.cm (fA b p x) (Vg.aK ((b.getD (p+x).toNat 0).toNat:Int) 127*2^(7*(x:Int)).toNat),p+(x+1),0):=by
 have hf:=af3 hp h h1 h2 h3;rw [<-hc,hf];rw [ð hp h h1,show p+((x:Int)+1)-1=p+x by omega];grind
def Gw {b:B8}{p:Int}{x:Nat}(hp:dy b p)(h:jq b p x)(h1:p+x<b.length)(h2:x≠9)(h3:(b.getD (p+x).toNat 0).toNat<128)
  (hc:(bif decide (1<(x:Int)+1) then bif decide (((b.getD (p+((x:Int)+1)-1).toNat 0).toNat:Int)=0) then true else decide (4611686018427387904<Vg.cm (fA b p x) (Vg.aK ((b.getD (p+x).toNat 0).toNat:Int) 127*2^(7*(x:Int)).toNat)) else decide (4611686018427387904<Vg.cm (fA b p x) (Vg.aK ((b.getD (p+x).toNat 0).toNat:Int) 127*2^(7*(x:Int)).toNat)))=true):
  0=(aD b p).1/\0=(aD b p).2.1/\2=(aD b p).2.2:=by
 rw [UK hp h h1 h2 h3 hc];grind
def Gx {b:B8}{p:Int}{x:Nat}(hp:dy b p)(h:jq b p x)(h1:p+x<b.length)(h2:x≠9)(h3:(b.getD (p+x).toNat 0).toNat<128)
  (hc:(bif decide (1<(x:Int)+1) then bif decide (((b.getD (p+((x:Int)+1)-1).toNat 0).toNat:Int)=0) then true else decide (4611686018427387904<Vg.cm (fA b p x) (Vg.aK ((b.getD (p+x).toNat 0).toNat:Int) 127*2^(7*(x:Int)).toNat)) else decide (4611686018427387904<Vg.cm (fA b p x) (Vg.aK ((b.getD (p+x).toNat 0).toNat:Int) 127*2^(7*(x:Int)).toNat)))=false):
  Vg.cm (fA b p x) (Vg.aK ((b.getD (p+x).toNat 0).toNat:Int) 127*2^(7*(x:Int)).toNat)=(aD b p).1/\p+(x+1)=(aD b p).2.1/\0=(aD b p).2.2:=by
 rw [UK hp h h1 h2 h3 hc];grind
def Xk {b:B8}{p:Int}(hp:dy b p):0<=(aD b p).1/\(aD b p).1<=4611686018427387904/\0<=(aD b p).2.1/\(aD b p).2.1<=b.length/\((aD b p).2.2=0\/(aD b p).2.2=2\/(aD b p).2.2=4):=by
 have h:=mM (b.drop p.toNat);grind[dy,List.length_drop,aD,Pc]
theorem acn {b:B8}{a e:Int}(h:bU b a e=0):0<=a/\a<=b.length/\e=0:=by
 grind[bU,inside]
end Go.S

end
section
namespace Go.S
def fM(kind:UInt8)(parts:List B8):B8:=kind::parts.flatten
def mN(kind:UInt8)(parts:List B8)(k:Nat):B8:=fM kind (parts.take k)
def nC(parts:List B8):Prop:=parts.flatten.length<=35184372088832
def nd(kind:Nat)(b:B8):B8:=UInt8.ofNat kind::b
def lB(kind:Nat)(b:B8):B8:=sum (nd kind b)
def leaf(b:B8):B8:=lB 0 b
def RN(l r:B8):B8:=lB 1 (l++r)
def Pj(l r:B8):Bool:=decide (l.length=32)&&decide (r.length=32)
def bc(l r:B8):B8:=if Pj l r then RN l r else []
def qc(l r:B8):Int:=if Pj l r then 0 else 1
def bQ(b:B8):Prop:=b.length<1099511627776
theorem Pl(k:Nat)(b:B8):(lB k b).length=32:=UH _
def aco {parts:List B8}{n:Nat}(h:nC parts)(hn:n<parts.length):(fM 0 (parts.take n)).length+(parts.getD n []).length<=140737488355328:=by
 have h1:(parts.take (n+1)).flatten.length<=parts.flatten.length:=by
  grind[List.take_append_drop,List.flatten_append,List.length_append]
 rw [ax parts n [] hn,List.flatten_append,List.length_append] at h1;grind[nC,fM,List.length_cons,List.flatten_cons,List.flatten_nil]
def Xl {parts:List B8}{n:Nat}(k:UInt8)(h:nC parts)(hn:n<parts.length):(fM k (parts.take n)).length+(parts.getD n []).length<=140737488355328:=by
 have:=aco h hn;grind[fM]
theorem acp(k:UInt8)(p:List B8): [UInt8.ofNat (Int.toNat (k.toNat:Int))]=mN k p 0:=by simp [mN,fM]
def RO(k:UInt8)(p:List B8)(x:Nat)(h:x<p.length):mN k p x++List.getD p (Int.toNat (x:Int)) []=mN k p (x+1):=by
 grind[mN,fM,Int.toNat_natCast,ax,List.flatten_append]
theorem UL(k:UInt8)(p:List B8)(x:Nat)(h:¬x<p.length):mN k p x=fM k p:=by
 grind[mN,List.take_of_length_le,Nat.not_lt]
end Go.S

end
section
namespace Go.S
def cq(c:Int):Bool:=decide (0<=c)&&(decide (c<=1114111)&&(decide (c<55296) || decide (57343<c)))
def dY(c:Int):Int:=if c<128 then 1 else if c<2048 then 2 else if c<65536 then 3 else 4
def u8(c:Int):UInt8:=UInt8.ofNat c.toNat
def more(c:Int):UInt8:=u8 (128+c%64)
def enc(c:Int):B8:=if c<128 then [u8 c] else if c<2048 then [u8 (192+c/64),more c] else if c<65536 then [u8 (224+c/4096),more (c/64),more c]
 else [u8 (240+c/262144),more (c/4096),more (c/64),more c]
def gN(c:Int):B8:=if cq c then enc c else []
def yf(c:Int):Int:=if cq c then 0 else 1
def db(b:B8):Int:=((b.getD 0 0).toNat:Int)
def uN(b:B8):Nat:=if db b<128 then 1 else if db b/32=6 then 2 else if db b/16=14 then 3 else if db b/8=30 then 4 else 0
def uC(b:B8):Int:=if db b/32=6 then db b%32 else if db b/16=14 then db b%16 else db b%8
def bX(b:B8):Nat->Int
 |0=>uC b
 |k+1=>bX b k*64+((b.getD (k+1) 0).toNat:Int)%64
def uX(b:B8)(n:Nat):Bool:=((b.drop 1).take (n-1)).all λx=>x.toNat/64==2
def aL(b:B8):Int×Int:=
 if uN b=1 then(db b,1)
 else if uN b=0\/b.length<uN b\/uX b (uN b)=false\/cq (bX b (uN b-1))=false\/dY (bX b (uN b-1))≠uN b then(65533,1)
 else(bX b (uN b-1),uN b)
def ue:Nat->B8->List Int
 |0,_=>[]
 |f+1,b=>if b.isEmpty then [] else(aL b).1::ue f (b.drop (aL b).2.toNat)
def decode(b:B8):List Int:=ue b.length b
def oW:List (Int×Int):=[(65,90),(97,122),(192,214),(216,246),(248,255),(913,929),(931,937),(945,969),(1024,1119)]
def mO:List (Int×Int×Int):=[(65,90,32),(192,214,32),(216,222,32),(913,929,32),(931,937,32),(1024,1039,80),(1040,1071,32)]
def mP(c:Int)(s:Int×Int):Bool:=decide (s.1<=c)&&decide (c<=s.2)
def letter(c:Int):Bool:=oW.any (mP c)
def digit(c:Int):Bool:=decide (48<=c)&&decide (c<=57)
def bJ(c:Int):Int:=match mO.find? (λs=>mP c (s.1,s.2.1)) with
 |some s=>c+s.2.2
 |none=>c
def ot(c:Int)(k:Nat):Prop:=k<=9/\∀s∈oW.take k,mP c s=false
def oX(c:Int)(k:Nat):Prop:=k<=7/\∀s∈mO.take k,mP c (s.1,s.2.1)=false
def pI(b:B8)(k:Nat):Prop:=(2<=uN b/\k+1<=uN b/\uN b<=b.length)/\∀x∈(b.drop 1).take k,x.toNat/64=2
def rQ(b r:B8)(l:List Int):Prop:=l++decode r=decode b/\r.length+l.length<=b.length
def cg(b:B8)(m:Int)(h1:1<=m)(h:m<=b.length):(List.drop (Int.toNat 1) (List.take (Int.toNat m) b)).length=m.toNat-1:=by
 grind
def j7(b:B8)(m:Int)(x:Nat)(h:(x:Int)+1<m):List.getD (List.drop (Int.toNat 1) (List.take (Int.toNat m) b)) (Int.toNat (x:Int)) 0=b.getD (x+1) 0:=by
 grind
def mQ(b:B8)(m:Int)(x:Nat)(h:(x:Int)+1<m):List.getD (List.drop (Int.toNat 1) (List.take (Int.toNat m) b)) x 0=b.getD (x+1) 0:=j7 b m x h
section
variable {b:B8} {n x:Nat}
theorem sP(h1:¬((b.getD (Int.toNat 0) 0).toNat:Int)<128)(h2:((b.getD (Int.toNat 0) 0).toNat:Int)/2^Int.toNat 5=6):uN b=2:=by
 have e:((b.getD (Int.toNat 0) 0).toNat:Int)=db b:=rfl;grind[Int.toNat,uN]
def uf(h1:¬((b.getD (Int.toNat 0) 0).toNat:Int)<128)(h2:¬((b.getD (Int.toNat 0) 0).toNat:Int)/2^Int.toNat 5=6)(h3:((b.getD (Int.toNat 0) 0).toNat:Int)/2^Int.toNat 4=14):uN b=3:=by
 have e:((b.getD (Int.toNat 0) 0).toNat:Int)=db b:=rfl;grind[Int.toNat,uN]
def ug(h1:¬((b.getD (Int.toNat 0) 0).toNat:Int)<128)(h2:¬((b.getD (Int.toNat 0) 0).toNat:Int)/2^Int.toNat 5=6)(h3:¬((b.getD (Int.toNat 0) 0).toNat:Int)/2^Int.toNat 4=14)
  (h4:((b.getD (Int.toNat 0) 0).toNat:Int)/2^Int.toNat 3=30):uN b=4:=by
 have e:((b.getD (Int.toNat 0) 0).toNat:Int)=db b:=rfl;grind[Int.toNat,uN]
def uf1(h1:((b.getD (Int.toNat 0) 0).toNat:Int)<128):aL b=(((b.getD (Int.toNat 0) 0).toNat:Int),1):=by
 have hn:uN b=1:=by
  exact R! h1
 simp [aL,hn,R?];rfl
theorem uf0(h1:¬((b.getD (Int.toNat 0) 0).toNat:Int)<128)(h2:¬((b.getD (Int.toNat 0) 0).toNat:Int)/2^Int.toNat 5=6)(h3:¬((b.getD (Int.toNat 0) 0).toNat:Int)/2^Int.toNat 4=14)
  (h4:¬((b.getD (Int.toNat 0) 0).toNat:Int)/2^Int.toNat 3=30):aL b=(65533,1):=by
 have hn:uN b=0:=by
  have e:((b.getD (Int.toNat 0) 0).toNat:Int)=db b:=rfl;grind[Int.toNat,uN]
 grind[aL]
theorem RP(hn:uN b=n)(h2:2<=n)(h:b.length<n\/uX b n=false\/cq (bX b (n-1))=false\/dY (bX b (n-1))≠n):aL b=(65533,1):=by
 grind[aL]
def sc(hn:uN b=n)(h2:2<=n)(h:(b.length:Int)<n):aL b=(65533,1):=RP hn h2 (.inl w!)
def Xm(hn:uN b=n)(h2:2<=n)(h:¬(b.length:Int)<n):pI b 0:=⟨w!,z!⟩
theorem aA2(h2:((b.getD (Int.toNat 0) 0).toNat:Int)/2^Int.toNat 5=6):Vg.aK ((b.getD (Int.toNat 0) 0).toNat:Int) 31=bX b 0:=by
 rw [CY _ w!];have e:((b.getD (Int.toNat 0) 0).toNat:Int)=db b:=rfl;grind[Int.toNat,bX,uC]
def aA3(h2:¬((b.getD (Int.toNat 0) 0).toNat:Int)/2^Int.toNat 5=6)(h3:((b.getD (Int.toNat 0) 0).toNat:Int)/2^Int.toNat 4=14):Vg.aK ((b.getD (Int.toNat 0) 0).toNat:Int) 15=bX b 0:=by
 rw [Xe _ w!];have e:((b.getD (Int.toNat 0) 0).toNat:Int)=db b:=rfl;grind[Int.toNat,bX,uC]
def aA4(h2:¬((b.getD (Int.toNat 0) 0).toNat:Int)/2^Int.toNat 5=6)(h3:¬((b.getD (Int.toNat 0) 0).toNat:Int)/2^Int.toNat 4=14):Vg.aK ((b.getD (Int.toNat 0) 0).toNat:Int) 7=bX b 0:=by
 rw [acb _ w!];have e:((b.getD (Int.toNat 0) 0).toNat:Int)=db b:=rfl;grind[Int.toNat,bX,uC]
def UM(b:B8):∀k,k<=4->0<=bX b k/\bX b k*64^(4-k)<=536870911
 |0,_=>by grind[bX,uC]
 |k+1,h=>by
  have ih:=UM b k w!;simp [bX];have :k=0\/k=1\/k=2\/k=3:=by omega
  grind
def bM(h:pI b x):x<=3/\0<=bX b x/\bX b x<=536870911/\2<=uN b/\uN b<=4/\x+1<=uN b/\uN b<=b.length:=by
 have h4:uN b<=4:=by grind[uN]
 have hx:x<=3:=by have:=h.1;omega
 have:=UM b x w!
 have hp:(1:Int)<=64^(4-x):=by
  have :x=0\/x=1\/x=2\/x=3:=by omega
  grind
 have hm:bX b x*1<=bX b x*64^(4-x):=Int.mul_le_mul_of_nonneg_left hp this.1;exact⟨hx,this.1,w!,h.1.1,h4,h.1.2.1,h.1.2.2⟩
theorem Xn(h1:1<=x)(h:x<b.length)(m:Nat)(hm:x<=m):b.getD x 0∈(b.drop 1).take m:=by
 have iU:x-1<((b.drop 1).take m).length:=by grind
 have :((b.drop 1).take m)[x-1]=b.getD x 0:=by
  grind
 grind
def v8(hn:uN b=n)(h:pI b x)(hx:x+1<n)(hb:¬((b.getD (x+1) 0).toNat:Int)/2^Int.toNat 6=2):aL b=(65533,1):=by
 have ek:=bM h;grind[RP,uX,List.all_eq_true,Xn]
def RQ(h:pI b x)(hb:((b.getD (x+1) 0).toNat:Int)/2^Int.toNat 6=2)(hx:x+1<uN b):pI b (x+1):=by
 refine⟨by have:=h.1;omega,λy hy=>?_⟩;have ek:=bM h;have hl:x<(b.drop 1).length:=by grind
 rw [ax _ x 0 hl] at hy;rcases G!.1 hy with hy|hy
 . exact h.2 y hy
 grind
def Xo(h:pI b x)(hx:x+1<uN b):Vg.cm (bX b x*2^Int.toNat 6) (Vg.aK ((b.getD (x+1) 0).toNat:Int) 63)=bX b (x+1):=by
 have:=bM h;rw [Lp _ w!,show Int.toNat 6=6 by rfl,fT _ _ 6 this.2.1 w! w!];rfl
theorem UN(h:pI b x)(hx:x+1=uN b):uX b (uN b)=true:=by
 simp only [uX,X!,<-hx,Nat.add_sub_cancel];intro y hy;simpa using h.2 y hy
def alG {c:Bool}(hn:uN b=n)(h:pI b x)(hx:x+1=n)(hc:(bif !cq (bX b x) then true else !decide (dY (bX b x)=(n:Int)))=c):aL b=if c=true then(65533,1) else(bX b x,(n:Int)):=by
 have hb:=bM h;grind[UN,aL,Nat.add_sub_cancel]
end
theorem alH(c:Int):Vg.cm (c%64) 128=((more c).toNat:Int):=by
 grind[Lq,more,u8,UInt8.toNat_ofNat']
theorem eC {c:Int}(h:cq c=true):0<=c/\c<=1114111:=by
 simp_all[cq,B!,J!]
theorem Xp(x:UInt8):UInt8.ofNat (Int.toNat (x.toNat:Int))=x:=by simp
theorem alI(c:Int)(h0:0<=c)(h:c<128): [UInt8.ofNat (Int.toNat (c%256))]=enc c:=by
 simp [enc,R! h,u8,show c%256=c by omega]
theorem alJ(d:Int)(h0:0<=d)(h:d<32):Vg.cm 192 d=192+d:=by
 rw [show(192:Int)=6*2^5 by rfl,fT 6 d 5 w! h0 h]
theorem alK(d:Int)(h0:0<=d)(h:d<16):Vg.cm 224 d=224+d:=by
 rw [show(224:Int)=14*2^4 by rfl,fT 14 d 4 w! h0 h]
theorem alL(d:Int)(h0:0<=d)(h:d<8):Vg.cm 240 d=240+d:=by
 rw [show(240:Int)=30*2^3 by rfl,fT 30 d 3 w! h0 h]
theorem alM(c:Int)(h0:0<=c)(h:128<=c/\c<2048): [UInt8.ofNat (Int.toNat (Vg.cm 192 (c/2^Int.toNat 6%256))),UInt8.ofNat (Int.toNat ((more c).toNat:Int))]=enc c:=by
 simp [enc,if_neg (by omega :¬c<128),if_pos h.2,Xp,u8,show Int.toNat 6=6 by rfl];grind[alJ]
theorem alN(c:Int)(h0:0<=c)(h:2048<=c/\c<65536): [UInt8.ofNat (Int.toNat (Vg.cm 224 (c/2^Int.toNat 12%256))),UInt8.ofNat (Int.toNat ((more (c/2^Int.toNat 6)).toNat:Int)),UInt8.ofNat (Int.toNat ((more c).toNat:Int))]=enc c:=by
 simp [enc,if_neg (by omega :¬c<128),if_neg (by omega :¬c<2048),if_pos h.2,Xp,u8,show Int.toNat 6=6 by rfl,show Int.toNat 12=12 by rfl];grind[alK]
theorem alO(c:Int)(h0:0<=c)(h1:c<=1114111)(h:65536<=c): [UInt8.ofNat (Int.toNat (Vg.cm 240 (c/2^Int.toNat 18%256))),UInt8.ofNat (Int.toNat ((more (c/2^Int.toNat 12)).toNat:Int)),UInt8.ofNat (Int.toNat ((more (c/2^Int.toNat 6)).toNat:Int)),UInt8.ofNat (Int.toNat ((more c).toNat:Int))]=enc c:=by
 simp [enc,if_neg (by omega :¬c<128),if_neg (by omega :¬c<2048),if_neg (by omega :¬c<65536),Xp,u8,show Int.toNat 6=6 by rfl,show Int.toNat 12=12 by rfl,show Int.toNat 18=18 by rfl];grind[alL]
def sQ(b:B8)(h:0<b.length):1<=(aL b).2/\(aL b).2<=b.length/\0<=(aL b).1/\(aL b).1<=1114111:=by
 unfold aL;split
 . have:=(b.getD 0 0).toNat_lt;grind[db]
 . split
   . omega
   . rename_i h1 h2;simp at h2;have:=eC h2.2.2.2.1;omega
def EZ:∀(f g:Nat) (b:B8),b.length<=f->b.length<=g->ue f b=ue g b
 |0,0,b,_,_=>rfl
 |0,g+1,b,h,_=>by
  grind[List.eq_nil_of_length_eq_zero,ue]
 |f+1,0,b,_,h=>by
  grind[List.eq_nil_of_length_eq_zero,ue]
 |f+1,g+1,b,h1,h2=>by
  simp only [ue];cases hb:b.isEmpty with
  |true=>rfl
  |false=>
   have hl:0<b.length:=by
    grind
   have:=sQ b hl;rw [EZ f g _ (by rw [D?];omega) (by rw [D?];omega)]
theorem UO:decode []=[]:=rfl
def xx(b:B8)(h:0<b.length):decode b=(aL b).1::decode (b.drop (aL b).2.toNat):=by
 have hb:=sQ b h;unfold decode;obtain⟨n,hn⟩:∃n,b.length=n+1:=⟨b.length-1,w!⟩;rw [hn];simp only [ue];have :b.isEmpty=false:=by grind
 rw [this];simp only [Bool.false_eq_true,if_false];rw [EZ n _ _ x! (Nat.le_refl _)]
theorem au4(b:B8):rQ b b []:=⟨rfl,z!⟩
theorem RR {b r:B8}{l:List Int}(h:rQ b r l)(hr:0<(r.length:Int)):1<=(aL r).2/\(aL r).2<=r.length/\r.length+l.length<=b.length:=by
 have:=sQ r w!;exact⟨this.1,this.2.1,h.2⟩
theorem acq {b r:B8}{l:List Int}(h:rQ b r l)(hr:0<(r.length:Int)):rQ b (r.drop (aL r).2.toNat) (l++[(aL r).1]):=by
 have hb:=sQ r w!;refine⟨?_,?_⟩
 . rw [Y!,List.singleton_append,<-xx r w!];exact h.1
 . have:=h.2;grind
theorem af6 {b r:B8}{l:List Int}(h:rQ b r l)(hr:¬0<(r.length:Int)):l=decode b:=by
 have :r=[]:=List.eq_nil_of_length_eq_zero w!;have:=h.1;grind[UO]
theorem zG(b:B8):(decode b).length<=b.length:=by
 have :∀f (c:B8),(ue f c).length<=f:=by
  intro f;induction f with
  |zero=>grind[ue]
  |succ f ih=>grind[ue,aL]
 exact this _ _
theorem E1(a b:Bool):(bif a then b else false)=(a&&b):=by grind
def nine {x:Nat}(h:(x:Int)<9):x=0\/x=1\/x=2\/x=3\/x=4\/x=5\/x=6\/x=7\/x=8:=by omega
theorem Lv {c:Int}{x:Nat}(h:(x:Int)<9):(bif decide (List.getD [65,97,192,216,248,913,931,945,1024] (Int.toNat (x:Int)) 0<=c) then decide (c<=List.getD [90,122,214,246,255,929,937,969,1119] (Int.toNat (x:Int)) 0) else false)=mP c (oW.getD x (0,0)):=by
 rcases nine h with rfl|rfl|rfl|rfl|rfl|rfl|rfl|rfl|rfl<;>simp [mP,oW,Z!,List.getD_cons_zero,List.getD_cons_succ,E1]
def Xq {c:Int}{x:Nat}(h:(x:Int)<9)(hc:(bif decide (List.getD [65,97,192,216,248,913,931,945,1024] (Int.toNat (x:Int)) 0<=c) then decide (c<=List.getD [90,122,214,246,255,929,937,969,1119] (Int.toNat (x:Int)) 0) else false)=true):true=letter c:=by
 grind[Lv,letter,List.any_eq_true,bA,oW,List.length_cons,List.length_nil]
def Xr {c:Int}{x:Nat}(hi:ot c x)(h:(x:Int)<9)(hc:(bif decide (List.getD [65,97,192,216,248,913,931,945,1024] (Int.toNat (x:Int)) 0<=c) then decide (c<=List.getD [90,122,214,246,255,929,937,969,1119] (Int.toNat (x:Int)) 0) else false)=false):ot c (x+1):=by
 rw [Lv h] at hc;refine⟨w!,λs hs=>?_⟩;rw [ax oW x (0,0) (by grind[oW,List.length_cons,List.length_nil])] at hs;rcases List.mem_append.1 hs with hs|hs
 . exact hi.2 s hs
 grind
theorem Xs {c:Int}{x:Nat}(hi:ot c x)(h:¬(x:Int)<9):false=letter c:=by
 symm
 have hx:x=9:=by have:=hi.1;omega
 simp only [letter,List.any_eq_false];intro s hs;have:=hi.2 s (by simp_all[oW]);grind
def seven {x:Nat}(h:(x:Int)<7):x=0\/x=1\/x=2\/x=3\/x=4\/x=5\/x=6:=by omega
theorem Pm {c:Int}{x:Nat}(h:(x:Int)<7):(bif decide (List.getD [65,192,216,913,931,1024,1040] (Int.toNat (x:Int)) 0<=c) then decide (c<=List.getD [90,214,222,929,937,1039,1071] (Int.toNat (x:Int)) 0) else false)=mP c ((mO.getD x (0,0,0)).1,(mO.getD x (0,0,0)).2.1)/\
  List.getD ([32,32,32,32,32,80,32]:List Int) (Int.toNat (x:Int)) 0=(mO.getD x (0,0,0)).2.2:=by
 rcases seven h with rfl|rfl|rfl|rfl|rfl|rfl|rfl<;>simp [mP,mO,Z!,List.getD_cons_zero,List.getD_cons_succ,E1,and_self]
def Ij {α:Type}(p:α->Bool)(d:α):∀(l:List α) (x:Nat),x<l.length->(∀s∈l.take x,p s=false)->p (l.getD x d)=true->l.find? p=some (l.getD x d)
 |[],x,h,_,_=>by grind
 |a::l,0,_,_,h=>by grind
 |a::l,x+1,hx,h1,h=>by
  have ha:=h1 a z!;rw [List.find?_cons,ha];exact Ij p d l x (by simpa using hx) (λs hs=>h1 s (by simp [hs])) h
def Pn {c:Int}{x:Nat}(hi:oX c x)(h:(x:Int)<7)(hc:(bif decide (List.getD [65,192,216,913,931,1024,1040] (Int.toNat (x:Int)) 0<=c) then decide (c<=List.getD [90,214,222,929,937,1039,1071] (Int.toNat (x:Int)) 0) else false)=true):
  c+List.getD ([32,32,32,32,32,80,32]:List Int) (Int.toNat (x:Int)) 0=bJ c/\(c<=1071/\65<=c/\List.getD ([32,32,32,32,32,80,32]:List Int) (Int.toNat (x:Int)) 0<=80/\0<=List.getD ([32,32,32,32,32,80,32]:List Int) (Int.toNat (x:Int)) 0):=by
 have hat:=Pm (c:=c) h;refine⟨?_,?_⟩
 . rw [hat.1] at hc;rw [hat.2];simp only [bJ];rw [Ij (λs=>mP c (s.1,s.2.1)) (0,0,0) mO x x! hi.2 hc]
 . rcases seven h with rfl|rfl|rfl|rfl|rfl|rfl|rfl<;>simp [List.getD] at hc |- <;>omega
def acs {c:Int}{x:Nat}(hi:oX c x)(h:(x:Int)<7)(hc:(bif decide (List.getD [65,192,216,913,931,1024,1040] (Int.toNat (x:Int)) 0<=c) then decide (c<=List.getD [90,214,222,929,937,1039,1071] (Int.toNat (x:Int)) 0) else false)=false):oX c (x+1):=by
 rw [(Pm h).1] at hc;refine⟨w!,λs hs=>?_⟩;rw [ax mO x (0,0,0) (by grind[mO,List.length_cons,List.length_nil])] at hs;rcases List.mem_append.1 hs with hs|hs
 . exact hi.2 s hs
 grind
theorem acu {c:Int}{x:Nat}(hi:oX c x)(h:¬(x:Int)<7):c=bJ c:=by
 have hx:x=7:=by have:=hi.1;omega
 simp [bJ];rw [List.find?_eq_none.2 (λs hs=>by rw [hi.2 s (by simp_all[mO])];simp)]
def wa {b:B8}{n x:Nat}{m:Int}(hn:uN b=n)(h:pI b x)(hx:x+1=n)(hc:cq (bX b x)=false\/¬dY (bX b x)=m)(hm:(n:Int)=m):aL b=(65533,1):=by
 have hb:=bM h;grind[RP]
def wb {b:B8}{n x:Nat}{m:Int}(hn:uN b=n)(h:pI b x)(hx:x+1=n)(hc:cq (bX b x)=true/\dY (bX b x)=m)(hm:(n:Int)=m):aL b=(bX b x,m):=by
 have:=alG (c:=false) hn h hx x!;grind
theorem Xt {A B:Prop}[Decidable A][Decidable B](h:A/\B):(bif decide A then decide B else false)=true:=by grind
def af7 {A B:Prop}[Decidable A][Decidable B](h:¬A\/¬B):(bif decide A then decide B else false)=false:=by
 grind
end Go.S
namespace Go.S
def Jv(c:Int):Bool:=(decide (0<=c)&&decide (c<55296)) || (decide (57343<c)&&decide (c<1114112))
def fW(c a b:Int):Bool:=decide (a<=c)&&decide (c<=b)
def aBO(a b:Int):Int:=if a<b then a else b
def alP(n:Int):Int:=[0,0,192,224,240].getD n.toNat 0
def asR(b:B8)(n:Int):Nat->Int
 |0=>db b-alP n
 |k+1=>asR b n k*64+((b.getD (k+1) 0).toNat:Int)-128
def dZ(b:B8)(n:Int):Int:=if(b.length:Int)<n then -1 else asR b n (n.toNat-1)
def aD5(b:B8)(n:Int):Prop:=0<b.length/\1<=n/\n<=4
def aCW(b:B8)(n:Int)(k:Nat):Prop:=(n<=b.length)/\1<=k/\k<=n
def rz(b:B8)(k:Nat):Bool:=Jv (dZ b k)&&decide (enc (dZ b k)=b.take k)
def uY(b:B8):Nat->Int×Int
 |0=>(65533,1)
 |k+1=>if rz b (k+1) then(dZ b (k+1:Nat),((k+1:Nat):Int)) else uY b k
def Xu(c:Int):Jv c=cq c:=by
 grind[Jv,cq]
def Gy {c:Int}{y:UInt8}(h0:0<=c)(h1:c<256):u8 c=y↔c=(y.toNat:Int):=by
 constructor
 . grind[u8,UInt8.toNat_ofNat']
 simp_all[u8]
def Lw {c:Int}{y:UInt8}:more c=y↔128+c%64=(y.toNat:Int):=Gy w! w!
theorem au5 {c:Int}{y0:UInt8}(h0:0<=c)(h1:c<=1114111):enc c=[y0]↔c<128/\c=(y0.toNat:Int):=by
 unfold enc;split
 . simp [f?,t?,Gy h0 w!, *,true_and]
 grind
theorem au6 {c:Int}{y0 y1:UInt8}(h0:0<=c)(h1:c<=1114111):enc c=[y0,y1]↔128<=c/\c<2048/\192+c/64=(y0.toNat:Int)/\128+c%64=(y1.toNat:Int):=by
 unfold enc;split
 . grind
 . split
   . simp [f?,t?,Gy (c:=192+c/64) w! w!,Lw];omega
   grind
theorem au7 {c:Int}{y0 y1 y2:UInt8}(h0:0<=c)(h1:c<=1114111):enc c=[y0,y1,y2]↔2048<=c/\c<65536/\224+c/4096=(y0.toNat:Int)/\128+c/64%64=(y1.toNat:Int)/\128+c%64=(y2.toNat:Int):=by
 unfold enc;split
 . grind
 . split
   . grind
   . split
     . simp [f?,t?,Gy (c:=224+c/4096) w! w!,Lw];omega
     grind
theorem au8 {c:Int}{y0 y1 y2 y3:UInt8}(h0:0<=c)(h1:c<=1114111):enc c=[y0,y1,y2,y3]↔65536<=c/\240+c/262144=(y0.toNat:Int)/\128+c/4096%64=(y1.toNat:Int)/\128+c/64%64=(y2.toNat:Int)/\128+c%64=(y3.toNat:Int):=by
 unfold enc;split
 . grind
 . split
   . grind
   . split
     . grind
     . simp [f?,t?,Gy (c:=240+c/262144) w! w!,Lw];omega
def j8(b:B8)(k:Nat):Prop:=uN b=k/\k<=b.length/\(k=1\/(uX b k=true/\cq (bX b (k-1))=true/\dY (bX b (k-1))=(k:Int)))
theorem wc(b:B8)(k:Nat):rz b k=true↔cq (dZ b k)=true/\enc (dZ b k)=b.take k:=by
 simp_all[rz,Xu,B!,J!]
def Xv {b:B8}{k:Nat}(h:b.length<k):rz b k=false:=by
 simp_all[dZ,R!,rz,Jv]
theorem UP(b:B8):0<=db b/\db b<256:=by have:=(b.getD 0 0).toNat_lt;grind[db]
theorem af8(x0:UInt8)(l:B8):(rz (x0::l) 1=true↔j8 (x0::l) 1)/\dZ (x0::l) 1=db (x0::l):=by
 have hb:dZ (x0::l) 1=db (x0::l):=by
  rfl
 refine⟨?_,hb⟩;have hl:=UP (x0::l);rw [wc];show cq (dZ (x0::l) 1)=true/\enc (dZ (x0::l) 1)=[x0]↔_;rw [hb];have hr:cq (db (x0::l))=true:=by grind[cq]
 rw [au5 hl.1 w!,hr];simp [j8,uN,true_or,and_true,List.length_cons,true_and];have :db (x0::l)=(x0.toNat:Int):=rfl;grind
theorem acv(b:B8):uN b=2↔db b/32=6:=by grind[uN]
theorem acw(b:B8):uN b=3↔db b/16=14:=by grind[uN]
theorem acx(b:B8):uN b=4↔db b/8=30:=by grind[uN]
theorem af9(c:Int):dY c=2↔128<=c/\c<2048:=by grind[dY]
theorem aga(c:Int):dY c=3↔2048<=c/\c<65536:=by grind[dY]
theorem agb(c:Int):dY c=4↔65536<=c:=by grind[dY]
theorem qS(c:Int):cq c=true↔0<=c/\c<=1114111/\(c<55296\/57343<c):=by simp [cq]
theorem au9(x0 x1:UInt8)(l:B8):(rz (x0::x1::l) 2=true↔j8 (x0::x1::l) 2)/\(j8 (x0::x1::l) 2->dZ (x0::x1::l) 2=bX (x0::x1::l) 1):=by
 have hb:dZ (x0::x1::l) 2=((x0.toNat:Int)-192)*64+x1.toNat-128:=by
  rfl
 have hl:db (x0::x1::l)=(x0.toNat:Int):=rfl
 have ha:db (x0::x1::l)/32=6->bX (x0::x1::l) 1=(x0.toNat:Int)%32*64+(x1.toNat:Int)%64:=by
  simp_all[bX,uC,R!]
 have hg:j8 (x0::x1::l) 2↔(db (x0::x1::l)/32=6/\(x1.toNat/64=2/\cq (bX (x0::x1::l) 1)=true/\dY (bX (x0::x1::l) 1)=2)):=by
  grind[j8,acv,uX]
 grind[wc,qS,au6,af9]
theorem ava(x0 x1 x2:UInt8)(l:B8):(rz (x0::x1::x2::l) 3=true↔j8 (x0::x1::x2::l) 3)/\(j8 (x0::x1::x2::l) 3->dZ (x0::x1::x2::l) 3=bX (x0::x1::x2::l) 2):=by
 have hb:dZ (x0::x1::x2::l) 3=(((x0.toNat:Int)-224)*64+x1.toNat-128)*64+x2.toNat-128:=by
  rfl
 have hl:db (x0::x1::x2::l)=(x0.toNat:Int):=rfl
 have ha:db (x0::x1::x2::l)/16=14->bX (x0::x1::x2::l) 2=((x0.toNat:Int)%16*64+(x1.toNat:Int)%64)*64+(x2.toNat:Int)%64:=by
  grind[bX,uC]
 have hg:j8 (x0::x1::x2::l) 3↔(db (x0::x1::x2::l)/16=14/\((x1.toNat/64=2/\x2.toNat/64=2)/\cq (bX (x0::x1::x2::l) 2)=true/\dY (bX (x0::x1::x2::l) 2)=3)):=by
  grind[j8,acw,uX]
 grind[wc,qS,au7,aga]
theorem avb(x0 x1 x2 x3:UInt8)(l:B8):(rz (x0::x1::x2::x3::l) 4=true↔j8 (x0::x1::x2::x3::l) 4)/\(j8 (x0::x1::x2::x3::l) 4->dZ (x0::x1::x2::x3::l) 4=bX (x0::x1::x2::x3::l) 3):=by
 have hb:dZ (x0::x1::x2::x3::l) 4=((((x0.toNat:Int)-240)*64+x1.toNat-128)*64+x2.toNat-128)*64+x3.toNat-128:=by
  rfl
 have hl:db (x0::x1::x2::x3::l)=(x0.toNat:Int):=rfl
 have ha:db (x0::x1::x2::x3::l)/8=30->bX (x0::x1::x2::x3::l) 3=(((x0.toNat:Int)%8*64+(x1.toNat:Int)%64)*64+(x2.toNat:Int)%64)*64+(x3.toNat:Int)%64:=by
  grind[bX,uC]
 have hg:j8 (x0::x1::x2::x3::l) 4↔(db (x0::x1::x2::x3::l)/8=30/\((x1.toNat/64=2/\x2.toNat/64=2/\x3.toNat/64=2)/\cq (bX (x0::x1::x2::x3::l) 3)=true/\dY (bX (x0::x1::x2::x3::l) 3)=4)):=by
  grind[j8,acx,uX]
 rw [hg,wc];grind[qS,au8,agb]
def sR(b:B8)(k:Nat)(hb:0<b.length)(h1:1<=k)(h4:k<=4):(rz b k=true↔j8 b k)/\(j8 b k->dZ b k=bX b (k-1)\/(k=1/\dZ b k=db b)):=by
 by_cases hs:b.length<k
 . rw [Xv hs];exact⟨⟨λh=>absurd h (by decide),λh=>absurd h.2.1 w!⟩,λh=>absurd h.2.1 w!⟩
 . have :k=1\/k=2\/k=3\/k=4:=by omega
   match b,this with
   |[],_=>grind
   |x0::l,.inl h=>grind[af8]
   |x0::x1::l,.inr (.inl h)=>grind[au9]
   |x0::x1::x2::l,.inr (.inr (.inl h))=>grind[ava]
   |x0::x1::x2::x3::l,.inr (.inr (.inr h))=>grind[avb]
   |[_],.inr (.inl h)|[_],.inr (.inr (.inl h))|[_,_],.inr (.inr (.inl h))|[_],.inr (.inr (.inr h))|[_,_],.inr (.inr (.inr h))|[_,_,_],.inr (.inr (.inr h))=>grind
def UQ {b:B8}{k:Nat}(h:j8 b k)(h1:1<=k)(h4:k<=4)(hb:0<b.length):aL b=(dZ b k,(k:Int)):=by
 have ht:=(sR b k hb h1 h4).2 h;obtain⟨hn,hl,hr⟩:=h;simp [aL,hn];by_cases hk:k=1
 . subst hk;rcases ht with ht|ht
   . obtain⟨x0,l,rfl⟩:∃x0 l,b=x0::l:=by cases b with
      |nil=>grind
      |cons x l=>grind
     rfl
   grind
 grind
theorem Po {b:B8}(hb:0<b.length)(n:Nat):∀k,k<=4->(∀j,j<=k->1<=j->¬j8 b j)->uY b k=(65533,1)
 |0,_,_=>rfl
 |k+1,h4,h=>by
  simp [uY]
  have :rz b (k+1)=false:=by
   cases ht:rz b (k+1) with
   |false=>rfl
   |true=>simp_all[absurd,sR,S!]
  rw [this];exact Po hb n k w! (λj hj=>h j w!)
def CZ {b:B8}(hb:0<b.length){n:Nat}(hg:j8 b n)(h1:1<=n):∀k,k<=4->n<=k->uY b k=(dZ b n,(n:Int))
 |0,_,h=>by omega
 |k+1,h4,h=>by
  simp only [uY];by_cases hk:n=k+1
  . subst hk;rw [(sR b (k+1) hb w! h4).1.2 hg,R! rfl]
  . have :rz b (k+1)=false:=by
     cases ht:rz b (k+1) with
     |false=>rfl
     |true=>
      have:=(sR b (k+1) hb w! h4).1.1 ht;have h2:=this.1;have h3:=hg.1;omega
    rw [this];exact CZ hb hg h1 k w! w!
theorem agc(b:B8):uN b<=4:=by grind[uN]
theorem Ik(b:B8)(hb:0<b.length):uY b 4=aL b:=by
 by_cases hg:j8 b (uN b)/\1<=uN b
 . rw [CZ hb hg.1 hg.2 4 (S! _) (agc b),UQ hg.1 hg.2 (agc b) hb]
 . rw [Po hb 0 4 (Nat.le_refl _) (λj hj h1 h=>hg (by have:=h.1;grind))];simp [aL];by_cases h1:uN b=1
   . exfalso;apply hg
     exact⟨⟨rfl,w!,.inl h1⟩,w!⟩
   . rw [Q! h1];rw [R!];by_cases h0:uN b=0
     . omega
     . refine .inr ?_;by_cases hl:b.length<uN b
       . omega
       . refine .inr ?_;cases hc:uX b (uN b) with
         |false=>grind
         |true=>
          cases hr:cq (bX b (uN b-1)) with
          |false=>grind
          |true=>
           refine .inr (.inr λhs=>hg ⟨⟨rfl,w!,.inr ⟨hc,hr,hs⟩⟩,w!⟩)
def aK5(c:Int)(h0:0<=c)(h:c<128): [UInt8.ofNat (Int.toNat (c%256))]=enc c:=alI c h0 h
theorem aK6(c:Int)(h0:0<=c)(h:128<=c/\c<2048): [UInt8.ofNat (Int.toNat ((192+c/64)%256)),UInt8.ofNat (Int.toNat ((128+c%64)%256))]=enc c:=by
 simp [enc,if_neg (by omega :¬c<128),if_pos h.2,more,u8];grind
theorem aK7(c:Int)(h0:0<=c)(h:2048<=c/\c<65536): [UInt8.ofNat (Int.toNat ((224+c/4096)%256)),UInt8.ofNat (Int.toNat ((128+c/64%64)%256)),UInt8.ofNat (Int.toNat ((128+c%64)%256))]=enc c:=by
 simp [enc,if_neg (by omega :¬c<128),if_neg (by omega :¬c<2048),if_pos h.2,more,u8];grind
theorem aK8(c:Int)(h0:0<=c)(h1:c<=1114111)(h:65536<=c): [UInt8.ofNat (Int.toNat ((240+c/262144)%256)),UInt8.ofNat (Int.toNat ((128+c/4096%64)%256)),UInt8.ofNat (Int.toNat ((128+c/64%64)%256)),UInt8.ofNat (Int.toNat ((128+c%64)%256))]=enc c:=by
 simp only [enc,if_neg (by omega :¬c<128),if_neg (by omega :¬c<2048),if_neg (by omega :¬c<65536),more,u8];grind
theorem Xw(c:Int):letter c=(fW c 65 90 || (fW c 97 122 || (fW c 192 214 || (fW c 216 246 || (fW c 248 255 || (fW c 913 929 || (fW c 931 937 || (fW c 945 969 || fW c 1024 1119)))))))):=by
 simp_all[letter,oW,mP,fW,List.any_cons,List.any_nil,Bool.or_false]
theorem Gz {c:Int}(h:fW c 1024 1039=true):c+80=bJ c/\c<=1039/\1024<=c:=by
 simp [fW,Bool.and_eq_true,decide_eq_true_eq] at h;simp [bJ,mO,mP,List.find?_cons];grind
theorem GA {c:Int}(h:fW c 1024 1039=false)(hc:fW c 65 90=true\/fW c 192 214=true\/fW c 216 222=true\/fW c 913 929=true\/fW c 931 937=true\/fW c 1040 1071=true):c+32=bJ c/\c<=1071/\65<=c:=by
 have e:∀a b:Int,mP c (a,b)=fW c a b:=λ_ _=>rfl;simp [bJ,mO,List.find?_cons,e,h];grind[fW]
theorem E2 {c:Int}(h:fW c 1024 1039=false)(hc:fW c 65 90=false/\fW c 192 214=false/\fW c 216 222=false/\fW c 913 929=false/\fW c 931 937=false/\fW c 1040 1071=false):c=bJ c:=by
 have e:∀a b:Int,mP c (a,b)=fW c a b:=λ_ _=>rfl;simp_all[bJ,mO,List.find?_cons,List.find?_nil]
theorem aFN(b:B8)(n:Int):∀k,k<=4-> -(1000*128^k)<=asR b n k/\asR b n k<=1000*128^k
 |0,_=>by
  have:=UP b;grind[alP,asR]
 |k+1,h=>by
  have ih:=aFN b n k w!;simp [asR];have hx:=(b.getD (k+1) 0).toNat_lt;have :k=0\/k=1\/k=2\/k=3:=by omega
  grind
def aHO {b:B8}{n:Int}{k:Nat}(h:aCW b n k)(hp:aD5 b n): -268435456000<=asR b n (k-1)/\asR b n (k-1)<=268435456000:=by
 obtain⟨h1,h2,h3⟩:=h;obtain⟨_,_,hp⟩:=hp;have:=aFN b n (k-1) w!;have hk:k-1=0\/k-1=1\/k-1=2\/k-1=3:=by omega
 grind
def aIE {b:B8}{n:Int}{k:Nat}(h:aCW b n k):asR b n (k-1)*64+((b.getD (Int.toNat (k:Int)) 0).toNat:Int)-128=asR b n (k+1-1):=by
 obtain⟨j,rfl⟩:∃j,k=j+1:=⟨k-1,by have:=h.2.1;omega⟩;rfl
theorem aGf {b:B8}{n:Int}:((b.getD (Int.toNat 0) 0).toNat:Int)- [0,0,192,224,240].getD n.toNat 0=asR b n 0:=rfl
theorem aJD {b:B8}{n:Int}{k:Nat}(h:aCW b n k)(hk:¬(k:Int)<n):asR b n (k-1)=dZ b n:=by
 have h1:=h.1;have h2:=h.2
 have :k=n.toNat:=by omega
 simp_all[dZ,Q!]
theorem aGB {b:B8}{n:Int}(h:(b.length:Int)<n): -1=dZ b n:=by simp_all[dZ,R!]
theorem aIF {b:B8}{i j:Nat}(hi:i<b.length):List.drop (Int.toNat (i:Int)) (List.take (Int.toNat (aBO ((i:Int)+(j:Int)) (b.length:Int))) b)=(b.drop i).take j:=by
 simp [aBO];split
 . grind[Int.toNat_natCast,List.drop_take,Nat.add_sub_cancel_left]
 grind[Int.toNat_natCast,List.take_length,List.take_of_length_le,List.length_drop]
theorem aG7(b:B8)(k:Nat):uY b (k+1)=if Jv (dZ b ((k+1:Nat):Int))=true/\enc (dZ b ((k+1:Nat):Int))=b.take (k+1) then(dZ b ((k+1:Nat):Int),((k+1:Nat):Int)) else uY b k:=by
 simp_all[uY,rz,B!,J!]
def aG8 {c:Int}(h:Jv c=true):0<=c/\c<=1114111:=by simp_all[Xu,eC]
theorem aK9(b:B8):rQ b (b.drop 0) []:=⟨rfl,z!⟩
theorem aCB {b:B8}{x1:Nat×List Int}{x4:Nat×Nat}(h2:rQ b (b.drop x1.1) x1.2/\x1.1<=b.length)(h3:(x1.1:Int)<b.length)(h5:x4.1<=4/\(x1.1:Int)=x4.2)(h9:¬((x4.1+1:Nat):Int)<=4):
  1<=(uY (b.drop x4.2) x4.1).2/\(x1.1:Int)+(uY (b.drop x4.2) x4.1).2<=b.length/\
  rQ b (b.drop (Int.toNat ((x1.1:Int)+(uY (b.drop x4.2) x4.1).2))) (x1.2++[(uY (b.drop x4.2) x4.1).1])/\x1.2.length+1<=b.length:=by
 have e1:x4.1=4:=by omega
 have e2:x4.2=x1.1:=by omega
 have hl:0<(b.drop x1.1).length:=by grind
 rw [e1,e2,Ik _ hl];have hb:=sQ _ hl;have hs:=acq h2.1 w!;rw [List.drop_drop] at hs;have h6:=h2.1.2;grind
def aGg {b:B8}{x1:Nat×List Int}{x4:Nat×Nat}(h3:(x1.1:Int)<b.length)(h5:x4.1<=4/\(x1.1:Int)=x4.2):
  uY (b.drop x1.1) (x4.1+1)=bif (bif Jv (dZ (b.drop (Int.toNat (x1.1:Int))) ((x4.1+1:Nat):Int)) then decide (enc (dZ (b.drop (Int.toNat (x1.1:Int))) ((x4.1+1:Nat):Int))=List.drop (Int.toNat (x1.1:Int)) (List.take (Int.toNat (aBO ((x1.1:Int)+((x4.1+1:Nat):Int)) (b.length:Int))) b)) else false)
   then(dZ (b.drop (Int.toNat (x1.1:Int))) ((x4.1+1:Nat):Int),((x4.1+1:Nat):Int)) else uY (b.drop x4.2) x4.1:=by
 rw [aIF w!,aG7,show x4.2=x1.1 by omega,Int.toNat_natCast];grind
theorem aIG {α β:Type}(c:Bool)(p q:α×β):(bif c then p else q).1=(bif c then p.1 else q.1):=by grind
theorem aIH {α β:Type}(c:Bool)(p q:α×β):(bif c then p else q).2=(bif c then p.2 else q.2):=by grind
end Go.S

end
section
namespace Go.S
def kM(c:Int):Bool:=letter c || digit c
def kN(t:B8):List Int->B8
 |[]=>t
 |c::w=>if 64<t.length+(gN (bJ c)).length then t else kN (t++gN (bJ c)) w
def iT(w:List Int):B8:=kN [] w
def okC(w:List Int):Prop:=w.length<=1099511627776/\∀c∈w,cq c=true
def oY(w:List Int)(k:Nat)(t:B8):Prop:=kN t (w.drop k)=iT w/\k<=w.length/\t.length<=64
def oB(acc:List Int):List Int->List (List Int)
 |[]=>if acc.isEmpty then [] else [acc]
 |c::l=>if kM c then oB (acc++[c]) l else if acc.isEmpty then oB [] l else acc::oB [] l
def bK(b:B8):List B8:=(oB [] (decode b)).map iT
def jL(d:List Int)(k:Nat)(T:List B8)(W:List Int):Prop:=
 T++(oB W (d.drop k)).map iT=(oB [] d).map iT/\k<=d.length/\T.length<=k/\W.length<=k/\(∀c∈W,c∈d)
def isTerm(s:B8):Bool:=decide (bK s=[s])
def nD(l:List B8):Nat->Nat
 |0=>0
 |k+1=>if Op.bytesLess (l.getD k []) (l.getD (nD l k) []) then k else nD l k
def mh(l:List B8):Nat:=nD l l.length
theorem RS(c:Int):bJ c=c\/(65<=c/\c<=1071/\(bJ c=c+32\/bJ c=c+80)):=by
 cases h:fW c 1024 1039 with
 |true=>grind[Gz]
 |false=>
  by_cases h2:fW c 65 90=true\/fW c 192 214=true\/fW c 216 222=true\/fW c 913 929=true\/fW c 931 937=true\/fW c 1040 1071=true
  . grind[GA]
  . grind[E2]
def E3 {c:Int}(h:cq c=true):cq (bJ c)=true:=by
 grind[RS,qS]
theorem N7(b:B8):cq (aL b).1=true:=by
 grind[aL,UP,qS]
theorem qy(b:B8):∀c∈decode b,cq c=true:=by
 have :∀f (x:B8),∀c∈ue f x,cq c=true:=by
  intro f;induction f with
  |zero=>grind[ue]
  |succ f ih=>
   grind[ue,N7]
 exact this _ b
theorem sS {α:Type}(l:List α)(k:Nat)(d:α)(h:k<l.length):l.drop k=l.getD k d::l.drop (k+1):=by
 simp_all
theorem alQ(w:List Int):oY w 0 []:=⟨rfl,T! _,z!⟩
theorem Xx {w:List Int}{k:Nat}{t:B8}(h:oY w k t)(hk:(k:Int)<w.length)(hs:¬(64:Int)<(t.length:Int)+((gN (bJ (w.getD (Int.toNat (k:Int)) 0))).length:Int)):oY w (k+1) (t++gN (bJ (w.getD (Int.toNat (k:Int)) 0))):=by
 obtain⟨h1,h2,h3⟩:=h;rw [Int.toNat_natCast] at *;rw [sS w k 0 w!] at h1;simp only [kN] at h1;rw [if_neg w!] at h1;exact⟨h1,w!,x!⟩
theorem Xy {w:List Int}{k:Nat}{t:B8}(h:oY w k t)(hk:(k:Int)<w.length)(hs:(64:Int)<(t.length:Int)+((gN (bJ (w.getD (Int.toNat (k:Int)) 0))).length:Int)):t=iT w:=by
 obtain⟨h1,h2,h3⟩:=h;grind[Int.toNat_natCast,sS,kN]
theorem acy {w:List Int}{k:Nat}{t:B8}(h:oY w k t)(hk:¬(k:Int)<w.length):t=iT w:=by
 obtain⟨h1,h2,h3⟩:=h;rw [x? w!] at h1;exact h1
theorem age(c:Int):(enc c).length<=4:=by grind[enc]
theorem Pq(c:Int):(gN c).length<=4:=by grind[gN,age]
theorem avc(d:List Int):jL d 0 [] []:=⟨rfl,T! _,z!,z!,z!⟩
theorem acz {d:List Int}{k:Nat}{T:List B8}{W:List Int}(h:jL d k T W)(hk:(k:Int)<d.length)(hw:kM (d.getD (Int.toNat (k:Int)) 0)=true):jL d (k+1) T (W++[d.getD (Int.toNat (k:Int)) 0]):=by
 obtain⟨h1,h2,h3,h4,h5⟩:=h;rw [Int.toNat_natCast] at *;rw [sS d k 0 w!] at h1;simp only [oB] at h1;rw [if_pos hw] at h1;refine⟨h1,w!,w!,x!,λc hc=>?_⟩;grind
theorem agf {d:List Int}{k:Nat}{T:List B8}{W:List Int}(h:jL d k T W)(hk:(k:Int)<d.length)(hw:kM (d.getD (Int.toNat (k:Int)) 0)=false)(hW:(0:Int)<W.length):jL d (k+1) (T++[iT W]) []:=by
 obtain⟨h1,h2,h3,h4,h5⟩:=h;rw [sS d k 0 w!] at h1;simp [oB] at h1;refine⟨?_,w!,x!,z!,z!⟩;grind
theorem acA {d:List Int}{k:Nat}{T:List B8}{W:List Int}(h:jL d k T W)(hk:(k:Int)<d.length)(hw:kM (d.getD (Int.toNat (k:Int)) 0)=false)(hW:¬(0:Int)<W.length):jL d (k+1) T W:=by
 obtain⟨h1,h2,h3,h4,h5⟩:=h;have :W=[]:=List.eq_nil_of_length_eq_zero w!;subst this;rw [sS d k 0 w!] at h1;simp only [oB] at h1;rw [if_neg x!,if_pos z!] at h1;exact⟨h1,w!,w!,z!,z!⟩
theorem acB {b:B8}{k:Nat}{T:List B8}{W:List Int}(h:jL (decode b) k T W)(hk:¬(k:Int)<(decode b).length)(hW:(0:Int)<W.length):T++[iT W]=bK b:=by
 obtain⟨h1,h2,h3,h4,h5⟩:=h;rw [List.drop_eq_nil_of_le w!] at h1;simp [oB] at h1;rw [if_neg x!] at h1;exact h1
theorem acC {b:B8}{k:Nat}{T:List B8}{W:List Int}(h:jL (decode b) k T W)(hk:¬(k:Int)<(decode b).length)(hW:¬(0:Int)<W.length):T=bK b:=by
 obtain⟨h1,h2,h3,h4,h5⟩:=h;have :W=[]:=V! w!;subst this;rw [x? w!] at h1;simp [oB,List.isEmpty_nil,R?,List.map_nil,F?] at h1;exact h1
theorem oZ {b:B8}{k:Nat}{T:List B8}{W:List Int}(h:jL (decode b) k T W)(hb:b.length<=1099511627776):okC W/\T.length<=1099511627776/\W.length<=1099511627776/\k<=1099511627776:=by
 obtain⟨h1,h2,h3,h4,h5⟩:=h;have:=zG b;exact⟨⟨w!,λc hc=>qy b c (h5 c hc)⟩,w!,w!,w!⟩
def UR:∀(u acc rest:List Int),(∀c∈u,kM c=true)->oB acc (u++rest)=oB (acc++u) rest
 |[],acc,rest,_=>by simp
 |c::u,acc,rest,h=>by
  simp_all[o?,oB,R!,UR,Y!]
theorem acD(s:B8):(bif decide (((bK s).length:Int)=1) then decide (List.getD (bK s) (Int.toNat 0) []=s) else false)=isTerm s:=by
 unfold isTerm;match h:bK s with
 |[]=>simp
 |[x]=>grind
 |x::y::l=>grind
def Il {l:List B8}:∀k,0<l.length->k<=l.length->nD l k<l.length
 |0,h,_=>h
 |k+1,h,hk=>by
  simp [nD];split
  . omega
  . exact Il k h w!
theorem agh {c:Int}(h:letter c=true\/digit c=true):kM c=true:=by grind[kM]
theorem US {c:Int}(h:letter c=false/\digit c=false):kM c=false:=by grind[kM]
theorem aII(c:Int):(bif letter c then true else bif decide (48<=c) then decide (c<=57) else false)=kM c:=by
 grind[kM,digit,letter]
def xy:Nat->List B8->List B8
 |0,_=>[]
 |f+1,l=>if l.isEmpty then [] else l.getD (mh l) []::xy f (l.filter (λx=>!decide (x=l.getD (mh l) [])))
def sorted(l:List B8):List B8:=xy l.length l
def at5(l:List B8)(t:B8)(k:Nat):List Int:=((List.range k).filter (λi=>decide (l.getD i []=t))).map (λ(i:Nat)=>(i:Int))
def places(b t:B8):List Int:=at5 (bK b) t (bK b).length
def Xz(c:Int):Bool:=kM c&&decide (bJ c=c)
def XA(s:B8):Bool:=(decode s).all Xz&&(decide (0<((decode s).length:Int))&&decide ((s.length:Int)<=64))
def aCY(d:List Int)(k:Nat):Prop:=(∀c∈d.take k,Xz c=true)/\k<=d.length
def Im {l:List B8}(h:0<l.length):mh l<l.length:=Il _ h (S! _)
def xz {l:List B8}(h:0<l.length):(l.filter (λx=>!decide (x=l.getD (mh l) []))).length<l.length:=by
 have hm:=bA l (mh l) [] (Im h);simp_all
def B4:∀(f g:Nat) (l:List B8),l.length<=f->l.length<=g->xy f l=xy g l
 |0,0,_,_,_=>rfl
 |0,g+1,l,h,_=>by
  have :l=[]:=V! w!;subst this;rfl
 |f+1,0,l,_,h=>by
  have :l=[]:=V! w!;subst this;rfl
 |f+1,g+1,l,h1,h2=>by
  simp only [xy];cases hl:l.isEmpty with
  |true=>rfl
  |false=>
   have hp:0<l.length:=by grind
   have:=xz hp;rw [Q! z!,Q! z!,B4 f g _ w! w!]
def RT {l:List B8}(h:0<l.length):sorted l=l.getD (mh l) []::sorted (l.filter (λx=>!decide (x=l.getD (mh l) []))):=by
 have hr:=xz h;unfold sorted;obtain⟨n,hn⟩:∃n,l.length=n+1:=⟨l.length-1,w!⟩;rw [hn];simp only [xy];have :l.isEmpty=false:=by grind
 rw [this,Q! z!,B4 n _ _ w! (S! _)]
def aLa(d:List Int):aCY d 0:=⟨z!,T! _⟩
def aG9 {d:List Int}{k:Nat}(h:aCY d k)(hk:(k:Int)<d.length)(hw:kM (d.getD (Int.toNat (k:Int)) 0)=true)(hs:bJ (d.getD (Int.toNat (k:Int)) 0)=d.getD (Int.toNat (k:Int)) 0):aCY d (k+1):=by
 refine⟨λc hc=>?_,w!⟩;rw [ax d k 0 w!] at hc;rcases G!.1 hc with hc|hc
 . exact h.1 c hc
 grind[List.mem_singleton,Xz,decide_true,Bool.and_self]
def aIJ {s:B8}{k:Nat}(hk:(k:Int)<(decode s).length)(hw:kM ((decode s).getD (Int.toNat (k:Int)) 0)=false\/¬bJ ((decode s).getD (Int.toNat (k:Int)) 0)=(decode s).getD (Int.toNat (k:Int)) 0):false=XA s:=by
 have hm:=bA (decode s) k 0 w!
 have :(decode s).all Xz=false:=by
  grind[List.all_eq_false,Xz]
 simp [XA,this,Bool.false_and]
def aIK {s:B8}{k:Nat}(h:aCY (decode s) k)(hk:¬(k:Int)<(decode s).length):(bif decide (0<((decode s).length:Int)) then decide ((s.length:Int)<=64) else false)=XA s:=by
 have :(decode s).all Xz=true:=by
  have h1:=h.1;grind[List.take_length]
 simp_all[XA,Bool.true_and,decide,decode]
theorem Lx(b:B8):(bK b).length<=b.length:=by
 have h0:∀(l acc:List Int),(oB acc l).length<=l.length+acc.length:=by
  intro l;induction l with
  |nil=>intro acc;simp [oB];cases acc<;>simp
  |cons c l ih=>
   grind[oB]
 grind[decode,zG,bK,List.length_map]
end Go.S

end
section
namespace Go.S
theorem Pt(b:B8):∀k,(uY b k).1≠65533->enc (uY b k).1=b.take (uY b k).2.toNat
 |0,h=>absurd rfl h
 |k+1,h=>by
  simp [uY] at h |-;by_cases ht:rz b (k+1)=true
  . simp_all[R!,wc]
  simp_all[Q!,Pt]
def UT {b:B8}(hb:0<b.length)(h:(aL b).1≠65533):enc (aL b).1=b.take (aL b).2.toNat:=by
 rw [<-Ik b hb] at h |-;grind[Pt]
def RU:∀(n:Nat) (b:B8),b.length<=n->(∀c∈decode b,c≠65533)->(decode b).flatMap enc=b:=by
 intro n;induction n with
 |zero=>intro b h _;have :b=[]:=V! w!
        subst this;rfl
 |succ n ih=>
  intro b h hc;by_cases h0:b.length=0
  . grind
  . have hb:=sQ b w!;rw [xx b w!] at hc |-;rw [List.flatMap_cons,UT w! (hc _ z!),ih _ x! (λc h'=>hc c x!)];simp_all
theorem qz {c:Int}(h0:0<=c)(h1:c<256):((u8 c).toNat:Int)=c:=((Gy h0 h1).1 rfl).symm
theorem zH {c:Int}(hr:cq c=true)(r:B8):dZ (enc c++r) ((enc c).length:Nat)=c/\1<=(enc c).length/\(enc c).length<=4:=by
 have hb:=eC hr;unfold enc;split
 . grind[af8,u8,db,qz]
 . split
   . refine⟨?_,z!,z!⟩;show dZ (u8 (192+c/64)::more c::r) 2=c;have h1:=qz (c:=192+c/64) w! w!;have h2:((more c).toNat:Int)=128+c%64:=qz (c:=128+c%64) w! w!
     have e:dZ (u8 (192+c/64)::more c::r) 2=(((u8 (192+c/64)).toNat:Int)-192)*64+(more c).toNat-128:=by
      rfl
     omega
   . split
     . refine⟨?_,z!,z!⟩;show dZ (u8 (224+c/4096)::more (c/64)::more c::r) 3=c;have h1:=qz (c:=224+c/4096) w! w!;have h2:((more (c/64)).toNat:Int)=128+c/64%64:=qz (c:=128+c/64%64) w! w!;have h3:((more c).toNat:Int)=128+c%64:=qz (c:=128+c%64) w! w!
       have e:dZ (u8 (224+c/4096)::more (c/64)::more c::r) 3=((((u8 (224+c/4096)).toNat:Int)-224)*64+(more (c/64)).toNat-128)*64+(more c).toNat-128:=by
        rfl
       omega
     . refine⟨?_,z!,z!⟩;show dZ (u8 (240+c/262144)::more (c/4096)::more (c/64)::more c::r) 4=c;have h1:=qz (c:=240+c/262144) w! w!;have h2:((more (c/4096)).toNat:Int)=128+c/4096%64:=qz (c:=128+c/4096%64) w! w!;have h3:((more (c/64)).toNat:Int)=128+c/64%64:=qz (c:=128+c/64%64) w! w!;have h4:((more c).toNat:Int)=128+c%64:=qz (c:=128+c%64) w! w!
       have e:dZ (u8 (240+c/262144)::more (c/4096)::more (c/64)::more c::r) 4=(((((u8 (240+c/262144)).toNat:Int)-240)*64+(more (c/4096)).toNat-128)*64+(more (c/64)).toNat-128)*64+(more c).toNat-128:=by
        rfl
       omega
def XB {c:Int}(hr:cq c=true)(r:B8):aL (enc c++r)=(c,((enc c).length:Int)):=by
 obtain⟨hb,h1,h4⟩:=zH hr r;have hl:0<(enc c++r).length:=by grind
 have ht:rz (enc c++r) (enc c).length=true:=by
  grind[wc,List.take_left']
 have hg:=(sR _ _ hl h1 h4).1.1 ht;rw [<-Ik _ hl,CZ hl hg h1 4 (S! _) h4,hb]
theorem zI:∀(P:List Int),(∀c∈P,cq c=true)->decode (P.flatMap enc)=P
 |[],_=>rfl
 |c::P,h=>by
  have hr:=h c z!;have h1:=(zH hr []).2.1;rw [List.flatMap_cons,xx _ x!,XB hr];rw [Int.toNat_natCast,List.drop_left' rfl,zI P (λx hx=>h x (by simp [hx]))]
theorem Ly:∀(w:List Int) (t:B8),t.length+(w.flatMap λc=>gN (bJ c)).length<=64->kN t w=t++w.flatMap λc=>gN (bJ c)
 |[],t,_=>by simp [kN]
 |c::w,t,h=>by
  rw [List.flatMap_cons,List.length_append] at h;simp only [kN];rw [if_neg w!,Ly w _ x!,List.flatMap_cons,List.append_assoc]
def zJ:∀(w:List Int) (t:B8),∃p:List Int,(∀c∈p,c∈w)/\kN t w=t++p.flatMap λc=>gN (bJ c)
 |[],t=>⟨[],z!,by simp [kN]⟩
 |c::w,t=>by
  simp [kN];split
  . exact⟨[],z!,z!⟩
  . obtain⟨p,h1,h2⟩:=zJ w (t++gN (bJ c));refine⟨c::p,?_,x!⟩;grind
def A7:∀(w:List Int) (t:B8),t.length<=64->(kN t w).length<=64
 |[],t,h=>h
 |c::w,t,h=>by
  simp [kN];split
  . exact h
  . exact A7 w _ (by rw [K!];omega)
def E4:∀(l acc:List Int),(∀c∈acc,kM c=true)->∀W∈oB acc l,∀c∈W,kM c=true/\(c∈acc\/c∈l)
 |[],acc,ha,W,hW,c,hc=>by
   grind[oB,List.mem_singleton]
 |x::l,acc,ha,W,hW,c,hc=>by
  simp [oB] at hW;by_cases hx:kM x=true
  . rw [R! hx] at hW
    have:=E4 l (acc++[x]) (λy hy=>by
     grind) W hW c hc
    grind
  . have hn:∀W'∈oB [] l,∀c∈W',kM c=true/\(c∈acc\/c∈x::l):=λW' h' y hy=>by
     have:=E4 l [] z! W' h' y hy;grind
    grind
theorem alR {c a b:Int}(h:c<a\/b<c):fW c a b=false:=by
 grind[fW,Bool.and_eq_false_iff,decide_eq_false_iff_not]
theorem Lz {c a b:Int}:fW c a b=true↔a<=c/\c<=b:=by simp [fW]
theorem E5(c:Int):bJ (bJ c)=bJ c:=by
 have stay:∀x:Int,(97<=x/\x<192)\/(223<=x/\x<913)\/(938<=x/\x<1024)\/1072<=x->bJ x=x:=λx h=>by
  grind[E2,alR]
 cases h:fW c 1024 1039 with
 |true=>grind[Gz]
 |false=>
  by_cases h2:fW c 65 90=true\/fW c 192 214=true\/fW c 216 222=true\/fW c 913 929=true\/fW c 931 937=true\/fW c 1040 1071=true
  . grind[GA,Lz]
  . grind[E2]
theorem zK(c:Int):letter c=true↔(65<=c/\c<=90)\/(97<=c/\c<=122)\/(192<=c/\c<=214)\/(216<=c/\c<=246)\/(248<=c/\c<=255)\/(913<=c/\c<=929)\/(931<=c/\c<=937)\/(945<=c/\c<=969)\/(1024<=c/\c<=1119):=by
 simp_all[Xw,e?,Lz]
theorem GB(c:Int):kM c=true↔letter c=true\/(48<=c/\c<=57):=by simp [kM,digit]
theorem Io {c:Int}(h:kM c=true):kM (bJ c)=true:=by
 cases h1:fW c 1024 1039 with
 |true=>grind[Gz,GB,zK]
 |false=>
  by_cases h2:fW c 65 90=true\/fW c 192 214=true\/fW c 216 222=true\/fW c 913 929=true\/fW c 931 937=true\/fW c 1040 1071=true
  . grind[GA,Lz,GB,zK]
  . grind[E2]
theorem uh {α β:Type}{l:List α}{f g:α->List β}(h:∀x∈l,f x=g x):l.flatMap f=l.flatMap g:=by
 induction l with
 |nil=>rfl
 |cons a l ih=>grind
theorem E6 {c:Int}(h:cq c=true):gN c=enc c:=by simp_all[gN,R?]
def acE(s:B8):XA s=isTerm s:=by
 rw [Bool.eq_iff_iff];simp only [XA,isTerm,B!,J!,X!,Xz];constructor
 . rintro⟨hg,h0,hl⟩
   have hf:=RU s.length s (S! _) (λc hc e=>by
    grind[GB,zK])
   have hw:oB [] (decode s)=[decode s]:=by
    have:=UR (decode s) [] [] (λc hc=>(hg c hc).1);grind[oB]
   have he:(decode s).flatMap (λc=>gN (bJ c))=s:=by
    grind[uh,E6,qy]
   grind[bK,iT,Ly]
 . intro h
   have hlen:s.length<=64:=by
    have hm:s∈bK s:=by grind
    simp only [bK,b?] at hm;obtain⟨w,_,hw⟩:=hm;rw [<-hw];exact A7 w [] z!
   have hm:s∈bK s:=by grind
   simp only [bK,b?] at hm;obtain⟨W,hW,hs⟩:=hm;have au:=E4 (decode s) [] z! W hW;obtain⟨p,hp,hpf⟩:=zJ W []
   have hr:∀c∈p,cq (bJ c)=true:=λc hc=>E3 (qy s c (by
    grind))
   have QF:s=(p.map bJ).flatMap enc:=by
    rw [<-hs];show kN [] W=_
    grind[List.flatMap_map,uh,E6]
   have hd:decode s=p.map bJ:=by
    grind[zI]
   grind[Io,E5,decode,oB,List.length_pos_iff]
end Go.S

end
section
namespace Go.S
theorem cJ:∀a:B8,Op.bytesLess a a=false
 |[]=>rfl
 |a::x=>by simp [Op.bytesLess,cJ x]
theorem lx:∀a b c:B8,Op.bytesLess a b=true->Op.bytesLess b c=true->Op.bytesLess a c=true
 |_,[],_,h,_|_,_::_,[],_,h=>by grind[Op.bytesLess]
 |[],_::_,_::_,_,_=>rfl
 |a::x,b::y,c::z,h1,h2=>by
  simp [Op.bytesLess,e?,J!,B!,beq_iff_eq] at h1 h2 |-;rcases h1 with h1|⟨rfl,h1⟩
  . rcases h2 with h2|⟨rfl,h2⟩
    . rw [UInt8.lt_iff_toNat_lt] at *;omega
    . left;exact h1
  . rcases h2 with h2|⟨rfl,h2⟩
    . left;exact h2
    . right;exact⟨rfl,lx x y z h1 h2⟩
theorem jM:∀a b:B8,Op.bytesLess a b=true\/a=b\/Op.bytesLess b a=true
 |[],[]=>.inr (.inl rfl)
 |[],_::_=>.inl rfl
 |_::_,[]=>.inr (.inr rfl)
 |a::x,b::y=>by
  simp [Op.bytesLess,e?,J!,B!,beq_iff_eq,f?];by_cases h:a=b
  . subst h;rcases jM x y with h|h|h
    . exact .inl (.inr ⟨rfl,h⟩)
    . exact .inr (.inl ⟨rfl,h⟩)
    . exact .inr (.inr (.inr ⟨rfl,h⟩))
  . have :a.toNat≠b.toNat:=λe=>h (UInt8.toNat_inj.1 e);by_cases h2:a.toNat<b.toNat
    . exact .inl (.inl (UInt8.lt_iff_toNat_lt.2 h2))
    . exact .inr (.inr (.inl (UInt8.lt_iff_toNat_lt.2 w!)))
theorem ou {a b:B8}(h:Op.bytesLess a b=true):Op.bytesLess b a=false:=by
 grind[lx,cJ]
def sT(l:List B8):Prop:=l.Pairwise λa b=>Op.bytesLess a b=true
def xA:∀(l m:List B8),sT l->sT m->(∀x,x∈l↔x∈m)->l=m
 |[],[],_,_,_=>rfl
 |[],b::m,_,_,h=>by have:=(h b).2 z!;grind
 |a::l,[],_,_,h=>by have:=(h a).1 z!;grind
 |a::l,b::m,hl,hm,h=>by
  obtain⟨hl1,hl2⟩:=g?.1 hl;obtain⟨hm1,hm2⟩:=g?.1 hm
  have ku:a=b:=by
   rcases N!.1 ((h a).1 z!) with e|e
   . exact e
   . rcases N!.1 ((h b).2 z!) with e2|e2
     . exact e2.symm
     . have q1:=hm1 a e;have q2:=ou (hl1 b e2);rw [q1] at q2;cases q2
  subst ku
  have:=xA l m hl2 hm2 (λx=>by
   constructor
   . intro hx;rcases N!.1 ((h x).1 (by simp [hx])) with e|e
     . have:=hl1 x hx;rw [e,cJ] at this;cases this
     . exact e
   . intro hx;rcases N!.1 ((h x).2 (by simp [hx])) with e|e
     . have:=hm1 x hx;rw [e,cJ] at this;cases this
     . exact e)
  rw [this]
def LA(l:List B8):∀k,k<=l.length->∀i,i<k->Op.bytesLess (l.getD i []) (l.getD (nD l k) [])=false
 |0,_,i,hi=>by omega
 |k+1,hk,i,hi=>by
  have ih:=LA l k w!;rw [show nD l (k+1)=if Op.bytesLess (l.getD k []) (l.getD (nD l k) [])=true then k else nD l k from rfl];by_cases h:Op.bytesLess (l.getD k []) (l.getD (nD l k) [])=true
  . grind[cJ,lx]
  grind
def LB:∀(n:Nat) (l:List B8),l.length<=n->sT (sorted l)/\∀x,x∈sorted l↔x∈l:=by
 intro n;induction n with
 |zero=>
  intro l h;have :l=[]:=V! w!;subst this;exact⟨List.Pairwise.nil,λx=>Iff.rfl⟩
 |succ n ih=>
  intro l h;by_cases h0:l.length=0
  . grind
  . have hp:0<l.length:=by omega
    have hr:=xz hp;obtain⟨i1,i2⟩:=ih (l.filter (λx=>!decide (x=l.getD (mh l) []))) w!;have hm:l.getD (mh l) []∈l:=bA l _ [] (Im hp);rw [RT hp];refine⟨g?.2 ⟨λx hx=>?_,i1⟩,λx=>?_⟩
    . have Bq:=(i2 x).1 hx;simp at Bq;obtain⟨i,hi,e⟩:=List.mem_iff_getElem.1 Bq.1;have q:=LA l l.length (Nat.le_refl _) i hi;grind[jM,mh,absurd,Op.bytesLess]
    grind
theorem kO(l:List B8):sT (sorted l):=(LB _ l (S! _)).1
theorem ie(l:List B8)(x:B8):x∈sorted l↔x∈l:=(LB _ l (S! _)).2 x
def XC {l m:List B8}(h1:sT m)(h2:∀x,x∈m↔x∈l):m=sorted l:=
 xA _ _ h1 (kO l) (λx=>(h2 x).trans (ie l x).symm)
def bR:List B8->List B8
 |[]=>[]
 |a::l=>match bR l with
  |[]=>[a]
  |b::r=>if a=b then b::r else a::b::r
theorem rR:∀(l:List B8) (x:B8),x∈bR l↔x∈l
 |[],_=>Iff.rfl
 |a::l,x=>by
  have ih:=rR l x;simp only [bR];split
  . rename_i h;rw [h] at ih;rw [p?,N!];constructor
    . exact .inl
    . rintro(h|h)
      . exact h
      . have:=ih.2 h;cases this
  . rename_i b r h;rw [h] at ih;split
    . rename_i e;subst e;rw [ih,N!];constructor
      . exact .inr
      . rintro(h2|h2)
        . rw [<-ih,h2];simp
        . exact h2
    . rw [N!,ih,N!]
def B5:∀(l:List B8),(l.Pairwise λa b=>Op.bytesLess b a=false)->sT (bR l)
 |[],_=>List.Pairwise.nil
 |a::l,h=>by
  obtain⟨h1,h2⟩:=g?.1 h;have ih:=B5 l h2;simp [bR];split
  . exact List.pairwise_singleton _ _
  . rename_i b r hb;rw [hb] at ih;split
    . omega
    . refine g?.2 ⟨λx hx=>?_,ih⟩;have xi:b∈l:=by rw [<-rR l,hb];simp
      have ku:Op.bytesLess a b=true:=by
       grind[jM]
      rcases N!.1 hx with e|e
      . grind
      . exact lx _ _ _ ku ((g?.1 ih).1 x e)
def Jd {l m:List B8}(h1:m.Pairwise λa b=>Op.bytesLess b a=false)(h2:∀x,x∈m↔x∈l):bR m=sorted l:=
 XC (B5 m h1) (λx=>(rR m x).trans (h2 x))
end Go.S
namespace Go.S
def iF(a b:B8):Int:=if Op.bytesLess a b then -1 else if Op.bytesLess b a then 1 else 0
theorem alS(a b:B8):decide (iF a b=0)=decide (a=b):=by
 unfold iF;rcases jM a b with h|h|h
 . grind[cJ]
 . grind[cJ]
 . grind[cJ]
end Go.S
namespace Go.S
def mR(l:List B8)(k:Nat):Prop:=1<=k/\k<=l.length/\∀j,j+1<k->¬l.getD (j+1) []=l.getD j []
def iG(l:List B8)(x i k:Nat)(m:List B8):Prop:=1<=k/\x+k<=l.length/\1<=i/\i+1<=x+k/\m.length=l.length/\m.drop i=l.drop i/\m.take i=bR (l.take (x+k))
def UU {l:List B8}(h:l≠ []):∃b r,bR l=b::r:=by
 cases hc:bR l with
 |nil=>
  cases l with
  |nil=>grind
  |cons a l=>have:=(rR (a::l) a).2 z!;grind
 |cons b r=>grind
theorem B6(a b:B8):∀p:List B8,bR (p++[a,b])=if a=b then bR (p++[a]) else bR (p++[a])++[b]
 |[]=>by
   grind[bR]
 |c::p=>by
  have ih:=B6 a b p;obtain⟨h,r,e⟩:=UU (l:=p++[a]) z!;grind[bR]
theorem qA {l:List B8}{n:Nat}(h:n+1<l.length):bR (l.take (n+2))=if l.getD n []=l.getD (n+1) [] then bR (l.take (n+1)) else bR (l.take (n+1))++[l.getD (n+1) []]:=by
 grind[ax,List.append_assoc,List.singleton_append,B6]
def GC {l:List B8}:∀k,k<=l.length->(∀j,j+1<k->¬l.getD (j+1) []=l.getD j [])->bR (l.take k)=l.take k
 |0,_,_=>by rfl
 |1,h,_=>by
  cases l with
  |nil=>rfl
  |cons a l=>rfl
 |k+2,hk,h=>by
  rw [qA w!,Q! (λe=>h k w! e.symm),GC (k+1) w! (λj hj=>h j w!),<-ax l (k+1) [] w!]
def LC {l:List B8}(h:(l.length:Int)<2):l=bR l:=by
 match l,h with
 |[],_=>rfl
 |[a],_=>rfl
 |a::b::l,h=>grind
theorem agj {l:List B8}(h:¬(l.length:Int)<2):mR l 1:=⟨S! _,w!,λj hj=>by omega⟩
theorem Pu {l:List B8}{k:Nat}(h:mR l k)(hk:(k:Int)<l.length)(hn:¬l.getD k []=l.getD (Int.toNat ((k:Int)-1)) []):mR l (k+1):=by
 obtain⟨h1,h2,h3⟩:=h;rw [show Int.toNat ((k:Int)-1)=k-1 by omega] at hn;refine⟨w!,w!,λj hj=>?_⟩;grind
theorem UW {l:List B8}{k:Nat}(h:mR l k)(hk:¬(k:Int)<l.length):l=bR l:=by
 obtain⟨h1,h2,h3⟩:=h;have e:=GC k h2 h3;grind
theorem ó {l:List B8}{x:Nat}(h:mR l x)(hx:(x:Int)<l.length)(he:l.getD x []=l.getD (Int.toNat ((x:Int)-1)) []):iG l x x 1 l:=by
 obtain⟨h1,h2,h3⟩:=h;rw [show Int.toNat ((x:Int)-1)=x-1 by omega] at he;refine⟨S! _,w!,h1,S! _,rfl,rfl,?_⟩;obtain⟨y,rfl⟩:∃y,x=y+1:=⟨x-1,w!⟩;rw [Nat.add_sub_cancel] at he;rw [show y+1+1=y+2 by omega,qA w!,R! he.symm,GC (y+1) w! h3]
def Pv {l m:List B8}{x i k:Nat}(h:iG l x i k m)(hk:x+k<l.length):m.getD (x+k) []=l.getD (x+k) []/\m.getD (x+k-1) []=l.getD (x+k-1) []:=by
 obtain⟨h1,h2,h3,h4,h5,h6,h7⟩:=h
 have key:∀j,i<=j->m.getD j []=l.getD j []:=λj hj=>by
  have:=congrArg (λq=>q.getD (j-i) []) h6;grind
 grind
def LD {l m:List B8}{x i k:Nat}(h:iG l x i k m)(hk:x+k<l.length)(he:m.getD (x+k) []=m.getD (x+k-1) []):iG l x i (k+1) m:=by
 have hg:=Pv h hk;obtain⟨h1,h2,h3,h4,h5,h6,h7⟩:=h;refine⟨w!,w!,h3,w!,h5,h6,?_⟩;rw [h7];obtain⟨n,hn⟩:∃n,x+k=n+1:=⟨x+k-1,w!⟩;rw [show x+(k+1)=n+2 by omega,hn,qA w!,if_pos];grind
def Pw {l m:List B8}{x i k:Nat}(h:iG l x i k m)(hk:x+k<l.length)(he:¬m.getD (x+k) []=m.getD (x+k-1) []):iG l x (i+1) (k+1) (m.set i (m.getD (x+k) [])):=by
 have hg:=Pv h hk;obtain⟨h1,h2,h3,h4,h5,h6,h7⟩:=h;rw [hg.1];refine⟨w!,w!,w!,w!,x!,?_,?_⟩
 . rw [List.drop_set,if_pos w!];have:=congrArg (List.drop 1) h6;grind[List.drop_drop]
 . have hi:i<(m.set i (l.getD (x+k) [])).length:=by grind
   rw [ax _ _ [] hi,List.take_set,List.set_eq_of_length_le x!,h7];rw [List.getD_eq_getElem?_getD,List.getElem?_set_self w!,Option.getD_some];obtain⟨n,hn⟩:∃n,x+k=n+1:=⟨x+k-1,w!⟩;rw [show x+(k+1)=n+2 by omega,hn,qA w!,if_neg];grind
theorem Px {l m:List B8}{x i k:Nat}(h:iG l x i k m)(hk:¬x+k<l.length):m.take i=bR l:=by
 obtain⟨h1,h2,h3,h4,h5,h6,h7⟩:=h;grind
end Go.S

end
section
namespace Go.S
def up(l:List B8):Prop:=l.Pairwise λa b=>Op.bytesLess b a=false
def eD(l:List B8):List B8:=l.mergeSort λa b=>!Op.bytesLess b a
def acF(l:List B8):up (eD l):=by
 have:=List.pairwise_mergeSort (le:=λa b=>!Op.bytesLess b a) (λa b c h1 h2=>by
  grind[Bool.not_eq_true',jM,lx]) (λa b=>by
  grind[jM,ou,cJ]) l
 exact this.imp (λh=>by grind)
def zL(l:List B8):(eD l).Perm l:=List.mergeSort_perm l _
theorem XD(l:List B8):(eD l).length=l.length:=(zL l).length_eq
theorem LF(l:List B8):bR (eD l)=sorted l:=Jd (acF l) (λ_=>(zL l).mem_iff)
end Go.S

end
section
namespace Go.S
def sp(n:Nat):Nat:=2^Nat.log2 (n-1)
def split(n:Int):Int:=if n<2\/1099511627776<n then 0 else((sp n.toNat:Nat):Int)
def mS(n k:Int)(t:Nat):Prop:=k=((2^t:Nat):Int)/\k<n
def uZ:Nat->List B8->B8
 |0,_=>sum []
 |f+1,l=>if l.length=0 then sum [] else if l.length=1 then l.getD 0 [] else bc (uZ f (l.take (sp l.length))) (uZ f (l.drop (sp l.length)))
def root(l:List B8):B8:=uZ l.length l
def cY(l:List B8):Bool:=l.all λd=>decide ((d.length:Int)=32)
def iH(l:List B8)(k:Nat):Prop:=(∀d∈l.take k,(d.length:Int)=32)/\k<=l.length
def j9(l:List B8):Prop:=cY l=true/\l.length<=1099511627776
def sU(l:List B8):B8:=if cY l then root l else []
def ae2(l:List B8):Int:=if cY l then 0 else 1
def leaves(l:List B8):List B8:=l.map leaf
def iu(l:List B8)(k:Nat):List B8:=(l.take k).map leaf
def kQ(l:List B8):Prop:=l.length<=1099511627776/\∀b∈l,b.length<1099511627776
def comb(s:List B8):List B8:=s.take (s.length-2)++[bc (s.getD (s.length-2) []) (s.getD (s.length-1) [])]
def we(s:List B8):Prop:=2<=s.length/\s.length<=1099511627776
def rS(l:List B8)(t a:Nat):B8:=root ((l.drop (2^t*a)).take (2^t))
def q8(l:List B8)(t j:Nat):List B8:=
 if j=0 then [] else if j%2=1 then q8 l (t+1) (j/2)++[rS l t (j-1)] else q8 l (t+1) (j/2)
termination_by j
def o0(l:List B8)(i:Nat)(s:List B8):Prop:=s=q8 l 0 i/\i<=l.length
def nN(l:List B8)(i t j:Nat)(s:List B8):Prop:=
 s=q8 l t j++[rS l t j]/\q8 l 0 (i+1)=q8 l t (j+1)/\2^t*(j+1)=i+1/\i<l.length
def o8(l s:List B8):Prop:=∃t j,s=q8 l t j++[root (l.drop (2^t*j))]/\2^t*j<l.length/\l.length-2^t*j<=2^t
theorem agk {m t:Nat}(h1:2^t<=m)(h2:m<2^(t+1)):Nat.log2 m=t:=by
 grind[Nat.two_pow_pos,Nat.log2_eq_iff]
theorem XE {n t:Nat}(h1:2^t<n)(h2:n<=2^(t+1)):sp n=2^t:=by
 grind[sp,agk]
theorem ka {n:Nat}(h:2<=n):1<=sp n/\sp n<n:=by
 grind[sp,Nat.log2_self_le,Nat.two_pow_pos,Nat.log2]
def qB:∀(f g:Nat) (l:List B8),l.length<=f->l.length<=g->uZ f l=uZ g l
 |0,0,_,_,_=>rfl
 |0,g+1,l,h,_=>by
  simp_all[uZ,R!]
 |f+1,0,l,_,h=>by
  simp_all[uZ,R!]
 |f+1,g+1,l,h1,h2=>by
  simp only [uZ];by_cases h0:l.length=0
  . grind
  . by_cases h3:l.length=1
    . grind
    . have:=ka (n:=l.length) w!;rw [if_neg h0,if_neg h0,if_neg h3,if_neg h3,qB f g _ x! x!,qB f g _ x! x!]
theorem Py {l:List B8}(h:l.length=0):root l=sum []:=by
 unfold root;rw [h];rfl
theorem Pz {l:List B8}(h:l.length=1):root l=l.getD 0 []:=by
 simp_all[root,uZ,Q!,R!]
theorem GF {l:List B8}{k:Nat}(h:2<=l.length)(hk:sp l.length=k):root l=bc (root (l.take k)) (root (l.drop k)):=by
 have hb:=ka h;unfold root;obtain⟨n,hn⟩:∃n,l.length=n+1:=⟨l.length-1,w!⟩;have e1:=qB n (l.take (sp l.length)).length (l.take (sp l.length)) x! (Nat.le_refl _);have e2:=qB n (l.drop (sp l.length)).length (l.drop (sp l.length)) x! (Nat.le_refl _);grind[uZ]
theorem fN(l:List B8):cY l=true↔∀d∈l,d.length=32:=by
 simp [cY,List.all_eq_true,decide_eq_true_eq];grind
def acG:∀(n:Nat) (l:List B8),l.length<=n->cY l=true->(root l).length=32:=by
 intro n;induction n with
 |zero=>grind[Py,UH]
 |succ n ih=>
  intro l h hd;by_cases h0:l.length=0
  . grind
  . by_cases h1:l.length=1
    . grind[Pz,fN,bA]
    . have hb:=ka (n:=l.length) w!;rw [GF w! rfl];have e1:=ih (l.take (sp l.length)) x! ((fN _).2 λd qL=>(fN l).1 hd d (List.mem_of_mem_take qL));have e2:=ih (l.drop (sp l.length)) x! ((fN _).2 λd qL=>(fN l).1 hd d (List.mem_of_mem_drop qL));simp [bc,Pj,e1,e2,decide_true,Bool.and_self,if_true];rfl
theorem Jw {l:List B8}(h:cY l=true):(root l).length=32:=acG _ l (S! _) h
def avd {l:List B8}{a:Nat}(h:a<l.length):rS l 0 a=l.getD a []:=by
 grind[rS,Pz]
def two_pos(t:Nat):0<2^t:=Nat.two_pow_pos t
def acH {l:List B8}{t a:Nat}(h:2^(t+1)*(a+1)<=l.length):bc (rS l t (2*a)) (rS l t (2*a+1))=rS l (t+1) a:=by
 have hp:=two_pos t;have e0:2^(t+1)*a=2^t*(2*a):=by rw [Nat.pow_succ,Nat.mul_assoc]
 have e1:2^t*(2*a+1)=2^t*(2*a)+2^t:=by rw [Nat.mul_add,Nat.mul_one]
 have e2:2^(t+1)*(a+1)=2^t*(2*a)+(2^t+2^t):=by rw [Nat.mul_add,e0,Nat.mul_one,Nat.pow_succ];omega
 have hl:((l.drop (2^(t+1)*a)).take (2^(t+1))).length=2^t+2^t:=by rw [T?,D?];omega
 have Cy:sp ((l.drop (2^(t+1)*a)).take (2^(t+1))).length=2^t:=by exact XE w! w!
 unfold rS;rw [GF (l:=(l.drop (2^(t+1)*a)).take (2^(t+1))) w! Cy];congr 2
 . rw [List.take_take,e0,Nat.min_eq_left w!]
 . rw [List.drop_take,Y?,e0,e1];congr 1;omega
theorem zM(l:List B8){t j:Nat}(h:j%2=1):q8 l t j=q8 l (t+1) (j/2)++[rS l t (j-1)]:=by
 rw [q8,Q! w!,R! h]
def wg(l:List B8){t j:Nat}(h:j%2=0):q8 l t j=q8 l (t+1) (j/2):=by
 by_cases h0:j=0
 . subst h0;rw [q8,R! rfl,q8,R! rfl]
 . rw [q8,Q! h0,Q! w!]
theorem LG(l:List B8)(t:Nat):q8 l t 0=[]:=by rw [q8,R! rfl]
theorem E7(l:List B8):∀(n t j:Nat),j<=n->(q8 l t j).length<=j/\(0<j->0<(q8 l t j).length):=by
 intro n;induction n with
 |zero=>grind[LG]
 |succ n ih=>
  intro t j h;by_cases h0:j=0
  . subst h0;rw [LG];simp
  . by_cases h1:j%2=1
    . rw [zM l h1,K!];have:=ih (t+1) (j/2) w!;simp;omega
    . rw [wg l w!];have:=ih (t+1) (j/2) w!;omega
theorem PA(s:List B8)(a b:B8):comb (s++[a]++[b])=s++[bc a b]:=by
 unfold comb;have hl:(s++[a]++[b]).length=s.length+2:=by simp
 rw [hl,show s.length+2-2=s.length by omega,show s.length+2-1=s.length+1 by omega,Y!,List.take_left']
 . simp [F!]
 . rfl
theorem alT(l:List B8):o0 l 0 []:=⟨(LG l 0).symm,T! _⟩
def ave {l s:List B8}{i:Nat}(h:o0 l i s)(hi:(i:Int)<l.length):nN l i 0 i (s++[l.getD (Int.toNat (i:Int)) []]):=by
 rw [Z!];refine⟨?_,rfl,z!,w!⟩;rw [h.1,avd w!]
theorem and_1 {j:Nat}:Vg.aK (j:Int) 1=((j%2:Nat):Int):=by
 have :Vg.aK (j:Int) 1=((j&&&1:Nat):Int):=rfl;grind
def GG {l s:List B8}{i t j:Nat}(h:nN l i t j s)(hj:Vg.aK (j:Int) 1=1):nN l i (t+1) (j/2) (comb s)/\j/2<j/\2<=s.length:=by
 rw [and_1] at hj;obtain⟨h1,h2,h3,h4⟩:=h;have hs:s=q8 l (t+1) (j/2)++[rS l t (j-1)]++[rS l t j]:=by grind[zM]
 have e3:2^(t+1)*(j/2+1)=2^t*(j+1):=by
  grind
 refine⟨⟨?_,?_,w!,h4⟩,w!,x!⟩
 . have e:=acH (l:=l) (t:=t) (a:=j/2) w!;grind[PA]
 . rw [h2,wg l w!,show(j+1)/2=j/2+1 by omega]
def agl {l s:List B8}{i t j:Nat}(h:nN l i t j s)(hj:¬Vg.aK (j:Int) 1=1):o0 l (i+1) s:=by
 rw [and_1] at hj;obtain⟨h1,h2,h3,h4⟩:=h;refine⟨?_,w!⟩;rw [h2,zM l w!,show(j+1)/2=j/2 by omega,Nat.add_sub_cancel,<-wg l w!];omega
def agm {l s:List B8}{i t j:Nat}(h:nN l i t j s):s.length<=l.length:=by
 obtain⟨h1,h2,h3,h4⟩:=h;have:=(E7 l j t j (S! _)).1;have hp:=two_pos t;have :j+1<=i+1:=by rw [<-h3];exact Nat.le_mul_of_pos_left _ hp
 grind
def alU(l:List B8):∀(n t m:Nat),m<=n->0<m->2^t*m=l.length->o8 l (q8 l t m):=by
 intro n;induction n with
 |zero=>omega
 |succ n ih=>
  intro t m h h0 he;by_cases h1:m%2=1
  . refine⟨t+1,m/2,?_,?_,?_⟩
    . have e:2^(t+1)*(m/2)=2^t*(m-1):=by rw [Nat.pow_succ,Nat.mul_assoc];congr 1;omega
      rw [zM l h1,e];unfold rS;rw [List.take_of_length_le];rw [List.length_drop,<-he,Nat.mul_sub,Nat.mul_one];grind
    . have e:2^(t+1)*(m/2)=2^t*(m-1):=by rw [Nat.pow_succ,Nat.mul_assoc];congr 1;omega
      rw [e,<-he];exact Nat.mul_lt_mul_of_pos_left w! (two_pos t)
    . have e:2^(t+1)*(m/2)=2^t*(m-1):=by rw [Nat.pow_succ,Nat.mul_assoc];congr 1;omega
      rw [e,<-he,Nat.mul_sub,Nat.mul_one,Nat.pow_succ];omega
  . rw [wg l w!];exact ih (t+1) (m/2) w! w! (by rw [<-he,Nat.pow_succ,Nat.mul_assoc];congr 1;omega)
def avf {l s:List B8}{i:Nat}(h:o0 l i s)(hi:¬(i:Int)<l.length)(h0:¬(l.length:Int)=0):o8 l s:=by
 have :i=l.length:=by have:=h.2;omega
 rw [h.1,this];exact alU l l.length 0 l.length (S! _) w! z!
def agn(l:List B8):∀(n t j:Nat),j<=n->0<j->2^t*j<l.length->l.length-2^t*j<=2^t->o8 l (comb (q8 l t j++[root (l.drop (2^t*j))]))/\(comb (q8 l t j++[root (l.drop (2^t*j))])).length<(q8 l t j++[root (l.drop (2^t*j))]).length:=by
 intro n;induction n with
 |zero=>omega
 |succ n ih=>
  intro t j h h0 h1 h2;by_cases ho:j%2=1
  . have e:2^(t+1)*(j/2)=2^t*(j-1):=by rw [Nat.pow_succ,Nat.mul_assoc];congr 1;omega
    have em:2^t*j=2^t*(j-1)+2^t:=by
     have :j=(j-1)+1:=by omega
     conv=>lhs;rw [this,Nat.mul_add,Nat.mul_one]
    have hl:(l.drop (2^t*(j-1))).length=2^t+(l.length-2^t*j):=by rw [D?];omega
    have Cy:sp (l.drop (2^t*(j-1))).length=2^t:=by exact XE w! w!
    have er:bc (rS l t (j-1)) (root (l.drop (2^t*j)))=root (l.drop (2^t*(j-1))):=by
     rw [GF (l:=l.drop (2^t*(j-1))) w! Cy,Y?,<-em];rfl
    rw [zM l ho,PA,er];refine⟨⟨t+1,j/2,by rw [e],w!,?_⟩,z!⟩;omega
  . have e:2^(t+1)*(j/2)=2^t*j:=by rw [Nat.pow_succ,Nat.mul_assoc];congr 1;omega
    have:=ih (t+1) (j/2) w! w! (by rw [e];exact h1) w!;rw [e] at this;rw [wg l w!];exact this
def PB {l s:List B8}(h:o8 l s)(hs:(1:Int)<s.length):o8 l (comb s)/\(comb s).length<s.length:=by
 obtain⟨t,j,h1,h2,h3⟩:=h
 have hj:0<j:=by
  grind[LG]
 rw [h1];exact agn l j t j (S! _) hj h2 h3
theorem UX {l s:List B8}(h:o8 l s)(hs:¬(1:Int)<s.length):s.getD (Int.toNat 0) []=root l/\s.length=1:=by
 obtain⟨t,j,h1,h2,h3⟩:=h;have hl:s.length=(q8 l t j).length+1:=by grind
 have hj:j=0:=by
  have:=(E7 l j t j (S! _)).2;omega
 simp_all[LG]
def ago {l s:List B8}(h:o8 l s):s.length<=l.length:=by
 obtain⟨t,j,h1,h2,h3⟩:=h;have:=(E7 l j t j (Nat.le_refl _)).1;have hp:=two_pos t;have:=Nat.le_mul_of_pos_left j hp;grind
theorem alV {s:List B8}(h:we s):List.take (Int.toNat ((s.length:Int)-2+1)) (List.set s (Int.toNat ((s.length:Int)-2)) (bc (List.getD s (Int.toNat ((s.length:Int)-2)) []) (List.getD s (Int.toNat ((s.length:Int)-2+1)) [])))=comb s:=by
 have h1:=h.1;rw [show Int.toNat ((s.length:Int)-2+1)=s.length-2+1 by omega,show Int.toNat ((s.length:Int)-2)=s.length-2 by omega,show s.length-2+1=s.length-1 by omega];unfold comb;generalize bc (List.getD s (s.length-2) []) (List.getD s (s.length-1) [])=x;have hl:s.length-2<(s.set (s.length-2) x).length:=by grind
 rw [show s.length-1=s.length-2+1 by omega,ax _ _ [] hl,List.take_set,List.set_eq_of_length_le x!];grind
theorem agp {n:Int}(h:n<2\/1099511627776<n):0=split n:=by simp_all[split,R!]
theorem UY {n:Int}(h:¬n<2):mS n 1 0:=⟨rfl,w!⟩
theorem LH {n k:Int}{t:Nat}(h:mS n k t)(hk:2*k<n):mS n (2*k) (t+1)/\1<=k:=by
 have hp:=two_pos t;obtain⟨h1,h2⟩:=h;refine⟨⟨?_,hk⟩,w!⟩;omega
theorem C0 {n:Int}(h1:2<=n)(h2:n<=1099511627776):split n=((sp n.toNat:Nat):Int):=by simp_all[split,Q!]
theorem N8 {n k:Int}{t:Nat}(h:mS n k t)(h1:¬n<2)(h2:¬1099511627776<n)(hk:¬2*k<n):k=split n:=by
 have hp:=two_pos t;obtain⟨e1,e2⟩:=h;grind[C0,XE,Nat.pow_succ]
theorem o9 {n k:Int}{t:Nat}(h:mS n k t):1<=k/\k<n:=by
 have hp:=two_pos t;obtain⟨e1,e2⟩:=h;omega
theorem ô(l:List B8):iH l 0:=⟨z!,T! _⟩
def XF {l:List B8}{k:Nat}(h:iH l k)(hk:(k:Int)<l.length)(hd:((l.getD (Int.toNat (k:Int)) []).length:Int)=32):iH l (k+1):=by
 refine⟨λd qL=>?_,w!⟩;rw [ax l k [] w!] at qL;rcases G!.1 qL with qL|qL
 . exact h.1 d qL
 grind
def acI {l:List B8}{k:Nat}(hk:(k:Int)<l.length)(hd:¬((l.getD (Int.toNat (k:Int)) []).length:Int)=32):false=cY l:=by
 grind[Int.toNat_natCast,cY,List.all_eq_false,bA]
theorem acJ {l:List B8}{k:Nat}(h:iH l k)(hk:¬(k:Int)<l.length):true=cY l:=by
 simp [cY,List.all_eq_true,decide_eq_true_eq];have h1:=h.1;grind[List.take_length]
def RV {l:List B8}{k:Nat}(hk:(k:Int)<l.length):iu l k++[leaf (l.getD (Int.toNat (k:Int)) [])]=iu l (k+1):=by
 grind[Int.toNat_natCast,iu,ax]
theorem UZ {l:List B8}{k:Nat}(hk:¬(k:Int)<l.length):iu l k=leaves l:=by
 grind[iu,leaves,List.take_of_length_le]
def U0 {l:List B8}{k:Nat}(h:kQ l)(hk:(k:Int)<l.length):bQ (l.getD (Int.toNat (k:Int)) []):=by
 exact h.2 _ (bA l k [] w!)
theorem N9(l:List B8)(k:Nat):(iu l k).length<=l.length:=by grind[iu,List.length_map,List.length_take]
def Jx {l s:List B8}{i i' t j:Nat}(h:nN l i' t j s/\(i:Int)=(i':Int)):nN l i t j s:=by
 grind
def agq {l s:List B8}{i t j:Nat}(h:nN l i t j s)(hj:Vg.aK (j:Int) 1=1)(hp:j9 l):we s:=by
 have:=agm h;exact⟨(GG h hj).2.2,by have:=hp.2;omega⟩
def U1 {l s:List B8}{i:Nat}(h:o0 l i s):s.length<=l.length:=by
 rw [h.1];have:=(E7 l i 0 i (S! _)).1;have:=h.2;omega
def acK {l:List B8}(h:(l.length:Int)=0):sum (Vg.me UInt8)=root l:=(Py w!).symm
end Go.S

end
section
namespace Go.S
def fo(l:List Int)(i:Nat):Int:=if i=0 then -1 else l.getD (i-1) 0
def LI(l:List Int)(i:Nat):Bool:=decide (fo l i<l.getD i 0)&&decide (l.getD i 0<1000)
def bF(l:List Int):Bool:=(List.range l.length).all (LI l)
def lj(l:List Int)(k:Nat):Prop:=(∀i,i<k->LI l i=true)/\k<=l.length
def gY(l:List Int)(k:Nat):B8:=num l.length++(List.range k).flatMap (λi=>num (l.getD i 0-fo l i-1))
def zN(l:List Int):B8:=gY l l.length
def pa(l:List Int):B8:=if bF l then zN l else []
def aIr(l:List Int):Int:=if bF l then 0 else 1
def u9(l:List Int):B8:=if bF l then lB 2 (zN l) else []
def A8(l:List Int):B8:=lB 2 (zN l)
def vc(n a b:Int):Bool:=decide (a<=n)&&decide (n<b)
def qC:List Int:=[]
def tH(l:List Int):List Int:=if bF l then l else []
def LJ(l:List Int)(a b:Int):List Int:=(tH l).filter (λn=>vc n a b)
def mi(l:List Int)(a b:Int)(r out:List Int):Prop:=out++r.filter (λn=>vc n a b)=LJ l a b/\out.length+r.length<=1000
def ui(a b:List Int)(k:Nat):Prop:=a.length=b.length/\a.take k=b.take k/\k<=a.length
def q9(a b:List Int):Bool:=decide (a=b)
def pJ(l:List Int)(n:Int):Bool:=decide (n∈l)
theorem jA(l:List Int):bF l=true↔∀i,i<l.length->LI l i=true:=by
 grind[bF,List.all_eq_true]
theorem iI(l:List Int)(i:Nat):LI l i=true↔fo l i<l.getD i 0/\l.getD i 0<1000:=by
 simp_all[LI,B!,J!]
theorem kA(l:List Int)(k:Nat):fo l (k+1)=l.getD k 0:=by
 rfl
theorem wh(l:List Int):fo l 0= -1:=rfl
def RW {l:List Int}{k:Nat}(h:lj l k):∀i,i<k->(i:Int)<=l.getD i 0/\l.getD i 0<1000
 |0,hi=>by have:=(iI l 0).1 (h.1 0 hi);grind[wh]
 |i+1,hi=>by
  have:=(iI l (i+1)).1 (h.1 (i+1) hi);rw [kA] at this;have:=RW h i w!;omega
def PC {l:List Int}{k:Nat}(h:lj l k): -1<=fo l k/\fo l k<1000:=by
 cases k with
 |zero=>grind[wh]
 |succ k=>rw [kA];have:=RW h k w!;omega
def agr {l:List Int}(h:bF l=true):lj l l.length:=⟨(jA l).1 h,S! _⟩
def õ {l:List Int}{k:Nat}(h:bF l=true)(hk:k<=l.length):lj l k:=⟨λi hi=>(jA l).1 h i w!,hk⟩
theorem mT {l:List Int}(h:bF l=true):l.length<=1000:=by
 by_cases h0:l.length=0
 . omega
 . have:=RW (agr h) (l.length-1) w!;omega
theorem alW(l:List Int):lj l 0:=⟨λi hi=>by omega,T! _⟩
def XG {l:List Int}{k:Nat}(h:lj l k)(hk:(k:Int)<l.length)(hg:¬l.getD (Int.toNat (k:Int)) 0<=fo l k/\¬1000<=l.getD (Int.toNat (k:Int)) 0):lj l (k+1):=by
 refine⟨λi hi=>?_,w!⟩;by_cases he:i=k
 . grind[iI]
 . exact h.1 i w!
def acL {l:List Int}{k:Nat}(hk:(k:Int)<l.length)(hg:l.getD (Int.toNat (k:Int)) 0<=fo l k\/1000<=l.getD (Int.toNat (k:Int)) 0):false=bF l:=by
 grind[Int.toNat_natCast,iI,jA]
theorem acM {l:List Int}{k:Nat}(h:lj l k)(hk:¬(k:Int)<l.length):true=bF l:=by
 symm
 exact(jA l).2 λi hi=>h.1 i w!
theorem PD(l:List Int):gY l 0=num l.length:=by simp [gY]
theorem E8(l:List Int)(k:Nat):gY l k++num (l.getD k 0-fo l k-1)=gY l (k+1):=by
 grind[gY,List.range_succ,List.append_assoc]
theorem zO(l:List Int):∀k,(gY l k).length<=9+9*k
 |0=>by grind[PD,eN]
 |k+1=>by
  rw [<-E8,K!];have:=zO l k;have:=eN (l.getD k 0-fo l k-1);omega
theorem PE {v:Int}(h0:0<=v)(h:v<=4611686018427387904):lh (Vg.me UInt8) v=num v:=by
 grind[fD,Bool.or_eq_false_iff,decide_eq_false_iff_not,lh]
theorem PF {l:List Int}{k:Nat}(h:bF l=true)(hk:(k:Int)<l.length):0<=l.getD (Int.toNat (k:Int)) 0-fo l k-1/\l.getD (Int.toNat (k:Int)) 0-fo l k<=1001/\0<=l.getD (Int.toNat (k:Int)) 0:=by
 rw [Z!];have h1:=(iI l k).1 ((jA l).1 h k w!);have h2:=PC (õ (k:=k) h w!);omega
def LK {l:List Int}{k:Nat}(h:bF l=true)(hk:(k:Int)<l.length):gY l k++lh (Vg.me UInt8) (l.getD (Int.toNat (k:Int)) 0-fo l k-1)=gY l (k+1):=by
 grind[PF,PE,Int.toNat_natCast,E8]
def Oa {l:List Int}{k:Nat}(h:bF l=true)(hk:(k:Int)<l.length)(v:Int):(gY l k).length+(lh (Vg.me UInt8) v).length<=20000/\(gY l k).length+(num v).length<=20000:=by
 have h1:=zO l k;have h2:=mT h;have h3:=eN v
 have h4:(lh (Vg.me UInt8) v).length<=9:=by
  grind[lh]
 omega
def XH {l:List Int}(h:bF l=true):(zN l).length<=20000:=by
 grind[zO,mT,zN]
theorem acN {l:List Int}(h:bF l=true):gY l l.length=pa l:=by simp [pa,h,R?];rfl
def alX(a:List Int)(s1 s2:Int):mi a s1 s2 (tH a) []:=by
 refine⟨rfl,?_⟩;grind[tH,mT]
def acO {a:List Int}{s1 s2 n:Int}{r out:List Int}(h:mi a s1 s2 (n::r) out)(hn:vc n s1 s2=true):mi a s1 s2 r (out++[n]):=by
 obtain⟨h1,h2⟩:=h;refine⟨x!,x!⟩
def ags {a:List Int}{s1 s2 n:Int}{r out:List Int}(h:mi a s1 s2 (n::r) out)(hn:vc n s1 s2=false):mi a s1 s2 r out:=by
 obtain⟨h1,h2⟩:=h;rw [List.filter_cons,if_neg x!] at h1;exact⟨h1,x!⟩
theorem acP {a:List Int}{s1 s2:Int}{out:List Int}(h:mi a s1 s2 [] out):out=LJ a s1 s2:=by
 have:=h.1;grind
theorem alY {a b:List Int}(h:(a.length:Int)=b.length):ui a b 0:=⟨w!,z!,T! _⟩
def XI {a b:List Int}{k:Nat}(h:ui a b k)(hk:(k:Int)<a.length)(he:a.getD (Int.toNat (k:Int)) 0=b.getD (Int.toNat (k:Int)) 0):ui a b (k+1):=by
 rw [Int.toNat_natCast] at he;obtain⟨h1,h2,h3⟩:=h;exact⟨h1,by grind[ax],w!⟩
def acQ {a b:List Int}{k:Nat}(he:¬a.getD (Int.toNat (k:Int)) 0=b.getD (Int.toNat (k:Int)) 0):false=q9 a b:=by
 grind[q9,decide_eq_false_iff_not]
theorem acR {a b:List Int}(h:¬(a.length:Int)=b.length):false=q9 a b:=by
 grind[q9,decide_eq_false_iff_not]
theorem acS {a b:List Int}{k:Nat}(h:ui a b k)(hk:¬(k:Int)<a.length):true=q9 a b:=by
 obtain⟨h1,h2,h3⟩:=h;simp_all[q9,J!,l?]
end Go.S

end
section
namespace Go.S
abbrev cb:=B8×List Int
abbrev Lk:=B8×B8×B8
def Je(a b:B8):Bool:=Op.bytesLess a b || decide (a=b)
def fh(d:List cb)(i:Nat):B8:=(d.getD i ([],[])).1
def iZ(d:List cb)(i:Nat):List Int:=(d.getD i ([],[])).2
def bh(d:List cb):Prop:=d.length<=1048576/\∀e∈d,e.1.length<=1099511627776
def zP(d:List cb)(i:Nat):Bool:= !(decide (0<i)&&Je (fh d i) (fh d (i-1)))&&(!decide ((iZ d i).length=0)&&(bF (iZ d i)&&isTerm (fh d i)))
def aY(d:List cb):Bool:=(List.range d.length).all (zP d)
def Ip(d:List cb)(k:Nat):Prop:=(∀i,i<k->zP d i=true)/\k<=d.length
def fX(a b c:B8):Bool:=decide ((a.length:Int)<=64)&&(decide ((b.length:Int)<=64)&&decide ((c.length:Int)=32))
def ra(a b c:B8):B8:=text a++text b++c
def ke(a b c:B8):B8:=if fX a b c then ra a b c else []
def rb(a b c:B8):Int:=if fX a b c then 0 else 1
def XJ(b:B8):Rd×B8:=ai b 0 0 64
def RX(b:B8):Rd×B8:=ai (XJ b).1.1 (XJ b).1.2.1 (XJ b).1.2.2 64
def sV(b:B8):Rd×B8:=an (RX b).1.1 (RX b).1.2.1 (RX b).1.2.2
def bf(b:B8):Lk×Int:=
 if done (sV b).1.1 (sV b).1.2.1 (sV b).1.2.2=0 then(((XJ b).2,(RX b).2,(sV b).2),0) else(([],[],[]),done (sV b).1.1 (sV b).1.2.1 (sV b).1.2.2)
def C1(b:B8):Lk×Int:=
 if(aO b 64).2.2≠0 then(([],[],[]),(aO b 64).2.2)
 else if(aO (b.drop (aO b 64).2.1.toNat) 64).2.2≠0 then(([],[],[]),(aO (b.drop (aO b 64).2.1.toNat) 64).2.2)
 else if((b.drop ((aO b 64).2.1+(aO (b.drop (aO b 64).2.1.toNat) 64).2.1).toNat).length:Int)<32 then(([],[],[]),4)
 else if 32<((b.drop ((aO b 64).2.1+(aO (b.drop (aO b 64).2.1.toNat) 64).2.1).toNat).length:Int) then(([],[],[]),2)
 else(((aO b 64).1,(aO (b.drop (aO b 64).2.1.toNat) 64).1,b.drop ((aO b 64).2.1+(aO (b.drop (aO b 64).2.1.toNat) 64).2.1).toNat),0)
def kR(d:List cb)(i:Nat):B8:=
 ra (if i=0 then [] else fh d (i-1)) (if i<d.length then fh d i else []) (A8 (if i=0 then [] else iZ d (i-1)))
def gO(d:List cb)(k:Nat):List B8:=(List.range k).map (kR d)
def gh(d:List cb):List B8:=gO d (d.length+1)
def bP(d:List cb):List B8:=if aY d then gh d else []
def dE(d:List cb):Int:=if aY d then 0 else 1
def rT(d:List cb):B8:=root (leaves (gh d))
def zQ(d:List cb):B8:=if aY d then rT d else []
def dF(d:List cb)(t:B8):Nat->Int
 |0=> -1
 |k+1=>if Je (fh d k) t then(k:Int) else dF d t k
def bp(d:List cb)(t:B8):Int:=if aY d then dF d t d.length else -1
def jN(d:List cb)(t:B8):Bool:=decide (0<=bp d t)&&decide (fh d (bp d t).toNat=t)
def pc(d:List cb)(t:B8):List Int:=if jN d t then iZ d (bp d t).toNat else []
def re(a b:List cb):Bool:=decide (a=b)
def E9(a b:List cb)(k:Nat):Prop:=a.length=b.length/\a.take k=b.take k/\k<=a.length
def aCF(a b:List B8):Bool:=decide (a=b)
def aCZ(a b:List B8)(k:Nat):Prop:=a.length=b.length/\a.take k=b.take k/\k<=a.length
def eb(docs:List B8)(s1 s2:Int):Bool:=
 docs.all (λb=>decide ((b.length:Int)<=2000))&&(decide ((docs.length:Int)<=1000)&&(decide (0<=s1)&&(decide (s1<=s2)&&decide (s2<=(docs.length:Int)))))
def zR(docs:List B8)(k:Nat):Prop:=(∀b∈docs.take k,b.length<=2000)/\k<=docs.length
def zS(b t:B8):Bool:=decide (0<((places b t).length:Int))
theorem xB(d:List cb):aY d=true↔∀i,i<d.length->zP d i=true:=by
 grind[aY,List.all_eq_true]
theorem aA7(d:List cb):Ip d 0:=⟨λi hi=>by omega,T! _⟩
theorem ö {d:List cb}{k:Nat}(hk:(k:Int)<d.length)(h:zP d k=false):false=aY d:=by
 grind[xB]
def agt {d:List cb}{k:Nat}(h:Ip d k)(hk:(k:Int)<d.length)(he:zP d k=true):Ip d (k+1):=by
 refine⟨λi hi=>?_,w!⟩;by_cases e:i=k
 . grind
 . exact h.1 i w!
theorem alZ {d:List cb}{k:Nat}(h:Ip d k)(hk:¬(k:Int)<d.length):true=aY d:=by
 symm;exact(xB d).2 λi hi=>h.1 i w!
theorem acT {d:List cb}{k:Nat}(h:bh d):(d.getD k ([],[])).1.length<=1099511627776:=by
 by_cases hk:k<d.length
 . exact h.2 _ (bA d k _ hk)
 grind
theorem sW(d:List cb)(i:Nat):zP d i=true↔(i=0\/Je (fh d i) (fh d (i-1))=false)/\(iZ d i).length≠0/\bF (iZ d i)=true/\isTerm (fh d i)=true:=by
 simp_all[zP,B!,J?,Bool.and_eq_false_iff,j?,id]
theorem LL(d:List cb)(i:Nat):zP d i=false↔(0<i/\Je (fh d i) (fh d (i-1))=true)\/(iZ d i).length=0\/bF (iZ d i)=false\/isTerm (fh d i)=false:=by
 grind[sW]
def LM:∀(w:List Int) (t:B8),t.length<=64->(kN t w).length<=64
 |[],t,h=>h
 |c::w,t,h=>by
  simp [kN];split
  . exact h
  . exact LM w _ (by rw [K!];omega)
theorem zT {s:B8}(h:isTerm s=true):s.length<=64:=by
 simp [isTerm,decide_eq_true_eq] at h;have hm:s∈bK s:=by grind
 simp [bK,b?] at hm;obtain⟨w,_,hw⟩:=hm;rw [<-hw];exact LM w [] z!
theorem wi {d:List cb}(h:aY d=true){i:Nat}(hi:i<d.length):(fh d i).length<=64/\bF (iZ d i)=true:=by
 grind[sW,xB,zT]
theorem zU(b:B8)(a e m:Int):(ai b a e m).1.1=b:=by grind[ai]
def acU {l:List Int}(h:bF l=true):u9 l=A8 l/\(A8 l).length=32:=by
 refine⟨by simp [u9,h,R?];rfl,Pl _ _⟩
def Fa {d:List cb}(h:aY d=true){k:Nat}:fX (if k=0 then [] else fh d (k-1)) (if k<d.length then fh d k else []) (A8 (if k=0 then [] else iZ d (k-1)))=true\/d.length<k:=by
 by_cases hk:d.length<k
 . omega
 . refine .inl ?_;have e3:(A8 (if k=0 then [] else iZ d (k-1))).length=32:=Pl _ _;simp only [fX,e3,B!,J!];refine⟨?_,?_,rfl⟩
   . by_cases h0:k=0
     . grind
     . grind[wi]
   . by_cases h0:k<d.length
     . grind[wi]
     grind
def al0 {d:List cb}(h:aY d=true){k:Nat}(hk:k<=d.length):ke (if k=0 then [] else fh d (k-1)) (if k<d.length then fh d k else []) (u9 (if k=0 then [] else iZ d (k-1)))=kR d k:=by
 have hp:bF (if k=0 then [] else iZ d (k-1))=true:=by
  by_cases h0:k=0
  . rw [R! h0];rfl
  . rw [Q! h0];exact(wi h (i:=k-1) w!).2
 rw [(acU hp).1];rcases Fa h (k:=k) with hl|hl
 . simp [ke,hl,R?];rfl
 omega
def U2(d:List cb)(k:Nat):gO d k++[kR d k]=gO d (k+1):=by
 grind[gO,List.range_succ]
def LN(d:List cb)(k:Nat):(gO d k).length=k:=by simp [gO]
theorem C2 {a b c:B8}(h:fX a b c=true):(ra a b c).length<=200:=by
 simp [fX,Bool.and_eq_true,decide_eq_true_eq] at h;grind[eN,ra,text,List.length_append]
theorem n4 {d:List cb}(hp:bh d)(h:aY d=true):kQ (gh d)/\j9 (leaves (gh d)):=by
 have hl:(gh d).length=d.length+1:=LN d _;have hd:=hp.1;refine⟨⟨w!,λb hb=>?_⟩,⟨?_,?_⟩⟩
 . simp [gh,gO,b?,s?] at hb;obtain⟨i,hi,rfl⟩:=hb;rcases Fa h (k:=i) with hk|hk
   . grind[C2,kR]
   omega
 . rw [fN];intro x hx;simp [leaves,b?] at hx;obtain⟨b,_,rfl⟩:=hx;rfl
 grind[leaves,List.length_map]
def Fb {d:List cb}{t:B8}:∀k,-1<=dF d t k/\dF d t k<k
 |0=>by grind[dF]
 |k+1=>by
  have:=Fb (d:=d) (t:=t) k;grind[dF]
theorem XK {d:List cb}{t:B8}{k:Nat}(h:Je (fh d k) t=true):(k:Int)=dF d t (k+1):=by
 simp_all[dF,R!]
theorem XL {d:List cb}{t:B8}{k:Nat}(h:Je (fh d k) t=false):dF d t k=dF d t (k+1):=by
 simp_all[dF,Q!]
theorem aJG {a b:List B8}(h:(a.length:Int)=b.length):aCZ a b 0:=⟨w!,z!,T! _⟩
def aGC {a b:List B8}{k:Nat}(h:aCZ a b k)(hk:(k:Int)<a.length)(he:a.getD k []=b.getD k []):aCZ a b (k+1):=by
 obtain⟨h1,h2,h3⟩:=h;exact⟨h1,by grind[ax],w!⟩
def aHa {a b:List B8}{k:Nat}(he:¬a.getD k []=b.getD k []):false=aCF a b:=by
 grind[aCF,decide_eq_false_iff_not]
theorem aHb {a b:List B8}(h:¬(a.length:Int)=b.length):false=aCF a b:=by
 grind[aCF,decide_eq_false_iff_not]
theorem aHc {a b:List B8}{k:Nat}(h:aCZ a b k)(hk:¬(k:Int)<a.length):true=aCF a b:=by
 obtain⟨h1,h2,h3⟩:=h;simp_all[aCF,J!,l?]
def al1(docs:List B8):zR docs 0:=⟨z!,T! _⟩
def XM {docs:List B8}{k:Nat}(h:zR docs k)(hk:(k:Int)<docs.length)(hl:((docs.getD k []).length:Int)<=2000):zR docs (k+1):=by
 refine⟨λb hb=>?_,w!⟩;rw [ax docs k [] w!] at hb;rcases G!.1 hb with hb|hb
 . exact h.1 b hb
 grind
theorem acV {docs:List B8}{k:Nat}{s1 s2:Int}(hk:(k:Int)<docs.length)(hl:2000<((docs.getD k []).length:Int)):false=eb docs s1 s2:=by
 have :docs.all (λb=>decide ((b.length:Int)<=2000))=false:=by
  grind
 simp [eb,this,Bool.false_and]
def acW {docs:List B8}{k:Nat}(h:zR docs k)(hk:¬(k:Int)<docs.length):docs.all (λb=>decide ((b.length:Int)<=2000))=true:=by
 have h1:=h.1;grind[List.take_of_length_le]
theorem U3:∀(a b:B8),Je b a= !Op.bytesLess a b
 |[],[]=>rfl
 |[],b::y=>by rfl
 |a::x,[]=>by rfl
 |a::x,b::y=>by
  have ih:=U3 x y;simp [Je] at ih;simp [Je,Op.bytesLess];grind
def al2 {d:List cb}(h:aY d=true){k:Nat}(hk:k<=d.length):
  ke (bif decide ((k:Int)<(d.length:Int)) then bif decide (0<(k:Int)) then(List.getD d (Int.toNat ((k:Int)-1)) ([],[])).1 else [] else bif decide (0<(k:Int)) then(List.getD d (Int.toNat ((k:Int)-1)) ([],[])).1 else [])
   (bif decide ((k:Int)<(d.length:Int)) then(List.getD d (Int.toNat (k:Int)) ([],[])).1 else bif decide (0<(k:Int)) then [] else [])
   (u9 (bif decide (0<(k:Int)) then(List.getD d (Int.toNat ((k:Int)-1)) ([],[])).2 else []))=kR d k:=by
 rw [<-al0 h hk];have e1:Int.toNat ((k:Int)-1)=k-1:=by omega
 rw [e1,Z!];by_cases h0:k=0
 . grind[fh,iZ,List.eq_nil_of_length_eq_zero]
 . have h2:(0:Int)<(k:Int):=by omega
   by_cases h1:k<d.length
   . have h3:(k:Int)<(d.length:Int):=by omega
     simp only [H? h2,H? h3,Q! h0,R! h1,I!];rfl
   . have h3:¬(k:Int)<(d.length:Int):=by omega
     simp only [H? h2,L? h3,Q! h0,Q! h1,I!,L!];rfl
def agu {d:List cb}{t:B8}(h:aY d=true):dF d t d.length=bp d t:=by simp_all[bp,R?]
theorem sX {d:List cb}(h:dE d=0):aY d=true:=by
 grind[aY,dE,absurd]
theorem aA8 {d:List cb}(h:¬dE d=0):aY d=false:=by
 grind[aY,absurd,dE]
def Iq {l s:B8}(h1:l.length<=1000)(h2:s.length<=1000):nB l s:=⟨w!,w!⟩
theorem GH {s:B8}:(text s).length<=s.length+9:=by
 grind[eN,text,List.length_append]
theorem uj(a b c:B8):fX a b c=true↔a.length<=64/\b.length<=64/\c.length=32:=by
 simp [fX,B!,J!];omega
def XN {a b c:B8}(h:64<(a.length:Int)\/64<(b.length:Int)\/¬(c.length:Int)=32):fX a b c=false:=by
 grind[uj]
theorem zV {a b c:B8}(h:¬64<(a.length:Int)/\¬64<(b.length:Int)/\(c.length:Int)=32):fX a b c=true:=(uj a b c).2 w!
def PG {d:List cb}{t:B8}(h:aY d=false): -1=bp d t/\false=jN d t:=by
 grind[bp,jN]
def al3(d:List cb)(t:B8)(x:Nat):(bif Op.bytesLess (List.getD d (Int.toNat (x:Int)) ([],[])).1 t || decide ((List.getD d (Int.toNat (x:Int)) ([],[])).1=t) then(x:Int) else dF d t x)=dF d t (x+1):=by
 grind[Int.toNat_natCast,Je,fh,dF,XK,XL]
def agv {d:List cb}{t:B8}(h:aY d=true):(bif decide (0<=dF d t d.length) then decide ((List.getD d (Int.toNat (dF d t d.length)) ([],[])).1=t) else false)=jN d t:=by
 simp [jN,bp,h,R?];cases decide (0<=dF d t d.length)<;>rfl
def B7(b:B8)(m:Int)(h:(aO b m).2.2=0):0<=(aO b m).2.1/\(aO b m).2.1<=b.length:=by
 grind[first,aO]
theorem Jy {d:List cb}{t:B8}(h:jN d t=true):0<=bp d t/\bp d t<(d.length:Int)/\(List.getD d (Int.toNat (bp d t)) ([],[])).2=pc d t:=by
 have h1:=h;simp [jN,Bool.and_eq_true,decide_eq_true_eq] at h1;refine⟨h1.1,?_,by simp [pc,h,if_true];rfl⟩;unfold bp;split
 . simp_all[Fb]
 omega
end Go.S
namespace Go.S
def ve(docs:List B8)(a:Int)(k:Nat):List B8:=(List.range k).flatMap λ(i:Nat)=>sorted (bK (docs.getD (a+i).toNat []))
def dn(docs:List B8)(a:Int)(t:B8)(k:Nat):List Int:=((List.range k).filter λ(i:Nat)=>zS (docs.getD (a+i).toNat []) t).map λ(i:Nat)=>a+i
def cW(docs:List B8)(a b:Int):List B8:=sorted (ve docs a (b-a).toNat)
def A9(docs:List B8)(a b:Int)(k:Nat):List cb:=((cW docs a b).take k).map λt=>(t,dn docs a t (b-a).toNat)
def make(docs:List B8)(a b:Int):List cb:=(cW docs a b).map λt=>(t,dn docs a t (b-a).toNat)
def nE(docs:List B8)(a b:Int):Prop:=0<=a/\a<=b/\b<=docs.length/\docs.length<=1000/\∀d∈docs,d.length<=4000
end Go.S
namespace Go.S
def PH:∀(f:Nat) (l:List B8),(xy f l).length<=l.length
 |0,l=>by simp [xy]
 |f+1,l=>by
  simp only [xy];split
  . simp
  . rename_i h;have h0:0<l.length:=by cases l;simp at h;simp
    have:=PH f (l.filter (λx=>!decide (x=l.getD (mh l) [])));have:=xz h0;rw [G?];omega
theorem qd(l:List B8):(sorted l).length<=l.length:=PH _ l
theorem agw {docs:List B8}{a b:Int}(hp:nE docs a b)(i:Nat):(docs.getD i []).length<=4000:=by
 by_cases h:i<docs.length
 . exact hp.2.2.2.2 _ (bA docs i [] h)
 grind
def Ir(docs:List B8)(a:Int)(k:Nat):ve docs a k++sorted (bK (docs.getD (Int.toNat (a+(k:Int))) []))=ve docs a (k+1):=by
 grind[ve,List.range_succ]
theorem U4 {docs:List B8}{a b:Int}(hp:nE docs a b)(i:Nat):(sorted (bK (docs.getD i []))).length<=4000:=by
 grind[agw,Lx,qd]
def Is {docs:List B8}{a:Int}{t:B8}{k:Nat}(h:zS (docs.getD (Int.toNat (a+(k:Int))) []) t=true):dn docs a t k++[a+(k:Int)]=dn docs a t (k+1):=by
 simp only [dn,List.range_succ,List.filter_append,u?,List.filter_cons,h,R?,List.filter_nil,M?,List.map_nil]
theorem LO {docs:List B8}{a:Int}{t:B8}{k:Nat}(h:zS (docs.getD (Int.toNat (a+(k:Int))) []) t=false):dn docs a t k=dn docs a t (k+1):=by
 grind[dn,List.range_succ]
theorem U5(docs:List B8)(a:Int)(t:B8)(k:Nat):(dn docs a t k).length<=k:=by
 grind[dn,List.length_map,List.length_filter_le,zS,List.range,List.length_range]
theorem RY {docs:List B8}{a b:Int}{k j:Nat}{t:B8}(hk:k<(cW docs a b).length)(hj:j=(b-a).toNat)(ht:(cW docs a b).getD k []=t):A9 docs a b k++[(t,dn docs a t j)]=A9 docs a b (k+1):=by
 grind[A9,ax,cW]
def U6 {docs:List B8}{a b:Int}{k:Nat}(h:¬k<(cW docs a b).length):A9 docs a b k=make docs a b:=by
 grind[A9,make,List.take_of_length_le]
end Go.S

end
section
namespace Go.S
theorem LP {b:B8}{a:Int}(h0:0<=a)(h1:a<=b.length):inside b a=true:=by
 grind[inside]
def zW {b:B8}{a e:Int}(h:e≠0):bU b a e=e:=by
 grind[bU]
theorem C3 {b:B8}{a:Int}(h0:0<=a)(h1:a<=b.length):bU b a 0=0:=by
 grind[bU,LP]
def GI {b:B8}{a e:Int}(h:e≠0):done b a e=e:=by simp_all[done,R!]
theorem agx {b:B8}{a:Int}(h0:0<=a)(h1:a<=b.length):done b a 0=if a<b.length then 2 else 0:=by
 simp_all[done,Q!,LP]
def XO(b:B8):(first b).2.2=0->0<=(first b).1/\0<=(first b).2.1:=by
 grind[first]
theorem zX {b:B8}{p m:Int}(h0:0<=p)(h1:p<=b.length):
  cM b p m=((aO (b.drop p.toNat) m).1,(if(aO (b.drop p.toNat) m).2.2=0 then p+(aO (b.drop p.toNat) m).2.1 else 0),(aO (b.drop p.toNat) m).2.2):=by
 have hl:((b.drop p.toNat).length:Int)=b.length-p:=by grind
 have hb:=XO (b.drop p.toNat);have g1:(aD b p).1=(first (b.drop p.toNat)).1:=rfl;have g3:(aD b p).2.2=(first (b.drop p.toNat)).2.2:=rfl;by_cases he:(first (b.drop p.toNat)).2.2=0
 . have g2:(aD b p).2.1=p+(first (b.drop p.toNat)).2.1:=R! he;have ek:=hb he
   have F:aO (b.drop p.toNat) m=if m<(first (b.drop p.toNat)).1 then([],0,2) else if(b.length:Int)-(p+(first (b.drop p.toNat)).2.1)<(first (b.drop p.toNat)).1 then([],0,4) else(((b.drop p.toNat).drop (first (b.drop p.toNat)).2.1.toNat).take (first (b.drop p.toNat)).1.toNat,(first (b.drop p.toNat)).2.1+(first (b.drop p.toNat)).1,0):=by
    unfold aO;rw [if_neg (by simp [he]),hl];by_cases h2:m<(first (b.drop p.toNat)).1
    . rw [R! h2,R! h2]
    . rw [Q! h2,Q! h2];by_cases h3:(b.length:Int)-(p+(first (b.drop p.toNat)).2.1)<(first (b.drop p.toNat)).1
      . rw [R! h3,R! w!]
      . rw [Q! h3,Q! w!]
   rw [F];unfold cM;rw [g3,g1,g2,if_neg (by simp [he])];by_cases h2:m<(first (b.drop p.toNat)).1
   . simp only [R! h2];rfl
   . simp only [Q! h2];by_cases h3:(b.length:Int)-(p+(first (b.drop p.toNat)).2.1)<(first (b.drop p.toNat)).1
     . simp only [R! h3];rfl
     . simp only [Q! h3,R?];have a1:(p+(first (b.drop p.toNat)).2.1).toNat=p.toNat+(first (b.drop p.toNat)).2.1.toNat:=by omega
       have a2:(p+(first (b.drop p.toNat)).2.1+(first (b.drop p.toNat)).1).toNat-(p.toNat+(first (b.drop p.toNat)).2.1.toNat)=(first (b.drop p.toNat)).1.toNat:=by omega
       have a3:p+(first (b.drop p.toNat)).2.1+(first (b.drop p.toNat)).1=p+((first (b.drop p.toNat)).2.1+(first (b.drop p.toNat)).1):=by omega
       rw [Y?,a1,List.drop_take,a2,a3]
 simp_all[aO,first,R!,cM,Q!]
def acX(b:B8):bf b=C1 b:=by
 have hl:(0:Int)<=b.length:=by omega
 have s0:bU b 0 0=0:=C3 w! hl;have g0:=zX (b:=b) (p:=0) (m:=64) w! hl;rw [show(0:Int).toNat=0 by rfl,List.drop_zero] at g0
 have r1:XJ b=if(aO b 64).2.2≠0 then((b,0,(aO b 64).2.2),[]) else((b,(aO b 64).2.1,0),(aO b 64).1):=by
  simp_all[XJ,ai,Q!,aO]
 unfold bf C1;by_cases e1:(aO b 64).2.2=0
 . rw [Q! w!] at r1;have b1:=B7 b 64 e1;have s1:bU b (aO b 64).2.1 0=0:=C3 b1.1 b1.2;have g1:=zX (b:=b) (p:=(aO b 64).2.1) (m:=64) b1.1 b1.2;generalize hn:(aO b 64).2.1=n1 at *;generalize hf:aO (b.drop n1.toNat) 64=f2 at *
   have r2:RX b=if f2.2.2≠0 then((b,n1,f2.2.2),[]) else((b,n1+f2.2.1,0),f2.1):=by
    simp_all[RX,ai,Q!]
   by_cases e2:f2.2.2=0
   . rw [if_neg w!] at r2;have b2:=B7 (b.drop n1.toNat) 64 x!;rw [hf,List.length_drop] at b2;have s2:bU b (n1+f2.2.1) 0=0:=C3 w! w!;have hdl:((b.drop (n1+f2.2.1).toNat).length:Int)=b.length-(n1+f2.2.1):=by grind
     have r3:sV b=if(b.length:Int)-(n1+f2.2.1)<32 then((b,n1+f2.2.1,4),[]) else((b,n1+f2.2.1+32,0),(b.drop (n1+f2.2.1).toNat).take 32):=by
      simp_all[sV,an,Q!]
     by_cases h4:(b.length:Int)-(n1+f2.2.1)<32
     . simp_all[R!,GI,ne_eq,not_true_eq_false,w?,R?]
     . rw [if_neg h4] at r3;grind[agx]
   . rw [R! e2] at r2
     have r3:sV b=((b,n1,f2.2.2),[]):=by
      simp_all[sV,an,zW,R!]
     simp_all[GI,ne_eq,not_true_eq_false,not_false_eq_true,w?,R?]
 . rw [R! e1] at r1
   have r2:RX b=((b,0,(aO b 64).2.2),[]):=by
    simp_all[RX,ai,zW,R!]
   have r3:sV b=((b,0,(aO b 64).2.2),[]):=by
    simp_all[sV,an,zW,R!]
   simp_all[GI,ne_eq,not_false_eq_true,w?,R?]
end Go.S

end
section
namespace Go.S
theorem wj(b t:B8):zS b t=true↔t∈bK b:=by
 unfold zS;rw [decide_eq_true_iff];simp only [places,at5,List.length_map];constructor
 . intro h;have h1:0<((List.range (bK b).length).filter (λi=>decide ((bK b).getD i []=t))).length:=by omega
   obtain⟨i,hi⟩:=List.exists_mem_of_length_pos h1;grind
 . intro h;obtain⟨i,hi,he⟩:=k? h
   have :i∈(List.range (bK b).length).filter (λi=>decide ((bK b).getD i []=t)):=by
    grind
   grind
def fF(docs:List B8)(a:Int)(k:Nat):List B8:=sorted (bK (docs.getD (a+(k:Int)).toNat []))
def yw(docs:List B8)(a:Int)(k j:Nat)(s:B8):List Int:=dn docs a s k++if s∈(fF docs a k).take j then [a+(k:Int)] else []
def avg(docs:List B8)(a:Int)(s:B8):yw docs a 0 0 s=[]:=by rfl
def It {l:List B8}(h:sT l):l.Nodup:=h.imp λ{a b} ku dU=>by
 grind[cJ]
def zY {l:List B8}{j:Nat}(hj:j<l.length)(s:B8):s∈l.take (j+1)↔s∈l.take j\/s=l.getD j []:=by
 grind[List.take_add_one,List.getElem?_eq_getElem]
def U7 {l:List B8}(h:l.Nodup){j:Nat}(hj:j<l.length):l.getD j []∉l.take j:=by
 grind[List.getElem?_eq_getElem,List.getElem_of_mem,List.length_take,List.pairwise_iff_getElem]
theorem agy {docs:List B8}{a:Int}{k j:Nat}(hj:j<(fF docs a k).length):yw docs a k (j+1) ((fF docs a k).getD j [])=yw docs a k j ((fF docs a k).getD j [])++[a+(k:Int)]:=by
 have h1:(fF docs a k).getD j []∉(fF docs a k).take j:=U7 (It (kO (bK (docs.getD (a+(k:Int)).toNat [])))) hj;have h2:=(zY hj ((fF docs a k).getD j [])).2 (.inr rfl);simp_all[yw,R!,Q!,F?]
theorem acY {docs:List B8}{a:Int}{k j:Nat}(hj:j<(fF docs a k).length){s:B8}(hs:s≠(fF docs a k).getD j []):yw docs a k (j+1) s=yw docs a k j s:=by
 simp_all[yw,fF,R!,zY,Q!]
def acZ {docs:List B8}{a:Int}{k j:Nat}(hj:¬j<(fF docs a k).length)(s:B8):yw docs a k j s=yw docs a (k+1) 0 s:=by
 simp [yw,List.take_zero,List.not_mem_nil,w?,F?];rw [l? w!];by_cases h:s∈fF docs a k
 . rw [R! h];exact Is ((wj _ _).2 ((ie _ _).1 h))
 . rw [Q! h,F?];refine LO ?_;cases hh:zS (docs.getD (Int.toNat (a+(k:Int))) []) s with
   |false=>rfl
   |true=>exact absurd ((ie _ _).2 ((wj _ _).1 hh)) h
theorem agz(docs:List B8)(a:Int)(k j:Nat)(s:B8):(yw docs a k j s).length<=k+1:=by
 grind[U5,yw,List.length_append]
theorem C4(docs:List B8)(a:Int)(x:B8):∀k,x∈ve docs a k↔dn docs a x k≠ []
 |0=>by simp [ve,dn]
 |k+1=>by
  rw [<-Ir,G!,C4 docs a x k,ie,<-wj];cases h:zS (docs.getD (Int.toNat (a+(k:Int))) []) x with
  |true=>rw [<-Is h];simp
  |false=>grind[LO]
end Go.S
namespace Go.S
def kg(docs:List B8)(a b:Int):List cb×Int:=if eb docs a b then(make docs a b,0) else([],1)
end Go.S

end
section
namespace Go.S
abbrev Sg:=Int×Int×Int×B8
def kT(a b:Int):Bool:=decide (0<=a)&&(decide (a<b)&&decide (b<=1000))
def LQ(d:List cb)(a b:Int)(i:Nat):Bool:=decide (((LJ (iZ d i) a b).length:Int)=((iZ d i).length:Int))
def ec(a b:Int)(d:List cb):Bool:=(kT a b&&aY d)&&(List.range d.length).all (LQ d a b)
def uk(a b:Int)(d:List cb)(k:Nat):Prop:=kT a b=true/\aY d=true/\(∀i,i<k->LQ d a b i=true)/\k<=d.length
def rf(a b:Int)(d:List cb):(Int×Int×Int×B8)×Int:=if ec a b d then((a,b,(d.length:Int)+1,rT d),0) else((0,0,0,[]),1)
def rOf(a b:Int)(d:List cb):Int×Int×Int×B8:=(a,b,((gh d).length:Int),rT d)
def ng(a b n:Int)(r:B8):Bool:=kT a b&&(decide (1<=n)&&(decide (n<=1099511627776)&&decide ((r.length:Int)=32)))
def iJ(docs:List B8)(a b:Int):Bool:=eb docs a b&&decide (a<b)
def sg(l:List Sg)(i:Nat):Sg:=l.getD i (0,0,0,[])
def zZ(l:List Sg)(i:Nat):Bool:=ng (sg l i).1 (sg l i).2.1 (sg l i).2.2.1 (sg l i).2.2.2&& !(decide (0<i)&& !decide ((sg l i).1=(sg l (i-1)).2.1))
def pK(l:List Sg)(n:Int):Bool:=
 if l.length=0 then decide (n=0)
 else(List.range l.length).all (zZ l)&&(decide ((l.length:Int)<=64)&&(decide ((sg l 0).1=0)&&decide ((sg l (l.length-1)).2.1=n)))
theorem al4 {l:List Int}{a b:Int}(h:bF l=true)(h0:l.length≠0):(LJ l a b).length=l.length↔a<=l.getD 0 0/\l.getD (l.length-1) 0<b:=by
 have hs:∀n,n<l.length->∀i,i<=n->l.getD i 0<=l.getD n 0:=by
  intro n;induction n with
  |zero=>grind
  |succ n ih=>
   intro hn i hi;by_cases e:i=n+1
   . grind
   grind[iI,jA,kA]
 simp only [LJ,tH,h,R?];rw [List.length_filter_eq_length_iff];constructor
 . intro lP;have h1:=lP _ (bA l 0 0 w!);have h2:=lP _ (bA l (l.length-1) 0 w!);simp_all[vc,B!,J!]
 . rintro⟨h1,h2⟩ x hx;obtain⟨i,hi,rfl⟩:=List.mem_iff_getElem.1 hx;have e:l[i]=l.getD i 0:=by grind
   have q1:=hs i hi 0 (T! _);have q2:=hs (l.length-1) w! i w!;simp [vc,B!,J!];omega
theorem avi {a b:Int}{d:List cb}(h1:kT a b=true)(h2:aY d=true):uk a b d 0:=⟨h1,h2,λi hi=>by omega,T! _⟩
def ac0 {a b:Int}{d:List cb}{k:Nat}(h:uk a b d k)(hk:(k:Int)<d.length)(he:LQ d a b k=true):uk a b d (k+1):=by
 refine⟨h.1,h.2.1,λi hi=>?_,w!⟩;by_cases e:i=k
 . grind
 . exact h.2.2.1 i w!
def agA {a b:Int}{d:List cb}{k:Nat}(hk:(k:Int)<d.length)(he:LQ d a b k=false):false=ec a b d:=by
 grind[ec]
theorem agB {a b:Int}{d:List cb}{k:Nat}(h:uk a b d k)(hk:¬(k:Int)<d.length):true=ec a b d:=by
 simp [ec,h.1,h.2.1,Bool.true_and,X!,s?];intro i hi;exact h.2.2.1 i w!
def al5 {a b:Int}{d:List cb}(h:kT a b=false\/aY d=false):false=ec a b d:=by
 rcases h with h|h<;>simp [ec,h,Bool.false_and,Bool.and_false]
def ac1 {a b:Int}{d:List cb}(h:ec a b d=true):aY d=true:=by
 simp_all[ec,B!]
end Go.S
namespace Go.S
def ac2 {d:List cb}{k:Nat}(h:aY d=true)(hk:(k:Int)<d.length):0<(iZ d k).length/\(iZ d k).length<=1000:=by
 have hq:=(sW d k).1 ((xB d).1 h k w!);grind[mT]
theorem XP {a b:Int}{d:List cb}(h:ec a b d=false):rf a b d=((0,0,0,[]),1):=by grind[rf]
theorem Iu {a b:Int}{d:List cb}(h:ec a b d=true):rf a b d=((a,b,(d.length:Int)+1,rT d),0)/\dE d=0/\zQ d=rT d:=by
 have hd:=ac1 h;simp_all[rf,R?,dE,zQ]
end Go.S

end
section
namespace Go.S
def b8(docs:List B8)(a b:Int):(Int×Int×List cb)×Int:=if iJ docs a b then((a,b,make docs a b),0) else((0,0,[]),1)
def rowAt(l:List Sg)(k:Nat):Int:=if k=0 then 0 else(sg l (k-1)).2.1
def vW(l:List Sg)(k:Nat):Prop:=(∀i,i<k->zZ l i=true)/\k<=l.length/\l.length<=64/\(0<k->(sg l 0).1=0)
end Go.S
namespace Go.S
theorem Iv {m r d:List B8}{i:Nat}(h:i<=m.length):(m.take i++r++d).take i=m.take i:=by
 grind
theorem RZ {b:B8}(h:small b):small (bK b):=by
 grind[Lx,small]
theorem R0 {l:List B8}(h:small l):small (eD l):=by
 grind[small,eD,List.length_mergeSort]
end Go.S
namespace Go.S
def U8(a b:Bool):(Bool.rec false b a:Bool)=(a&&b):=by cases a<;>rfl
def agC {docs:List B8}{a b:Int}(h:¬(kg docs a b).2=0):b8 docs a b=((0,0,[]),1)/\(kg docs a b).2=1:=by
 unfold kg at *;by_cases hf:eb docs a b=true
 . grind
 . grind[b8,iJ,eb]
def agD {docs:List B8}{a b:Int}(h:(kg docs a b).2=0):eb docs a b=true/\kg docs a b=(make docs a b,0):=by
 grind[kg]
def agE {docs:List B8}{a b:Int}(h:a=b):b8 docs a b=((0,0,[]),1):=by
 grind[b8,iJ]
def agF {docs:List B8}{a b:Int}(h:(kg docs a b).2=0)(dU:¬a=b):b8 docs a b=((a,b,(kg docs a b).1),0):=by
 obtain⟨h1,h2⟩:=agD h;unfold b8 iJ
 have hp:a<=b:=by
  simp_all[eb,B!,J!]
 grind
def sY(l:List Sg)(k:Nat):Bool:=decide ((sg l k).1=rowAt l k)&&ng (sg l k).1 (sg l k).2.1 (sg l k).2.2.1 (sg l k).2.2.2
def agG {l:List Sg}{n:Int}(h:(64:Int)<l.length):false=pK l n:=by
 grind[pK]
theorem al6 {l:List Sg}(h:¬(64:Int)<l.length):vW l 0:=⟨λi hi=>by omega,T! _,w!,λh=>by omega⟩
theorem LS(l:List Sg):rowAt l 0=0:=rfl
def U9(l:List Sg)(k:Nat):rowAt l (k+1)=(sg l k).2.1:=by rfl
theorem PJ {l:List Sg}{k:Nat}(h:0<k):zZ l k=sY l k:=by
 grind[zZ,sY,rowAt]
theorem LU {l:List Sg}:zZ l 0=ng (sg l 0).1 (sg l 0).2.1 (sg l 0).2.2.1 (sg l 0).2.2.2:=by simp [zZ]
def ac3 {l:List Sg}{k:Nat}{n:Int}(hc:vW l k)(hk:(k:Int)<l.length)(h:sY l k=false):false=pK l n:=by
 unfold pK;by_cases h0:k=0
 . subst h0;unfold sY at h;rw [LS] at h;by_cases h1:(sg l 0).1=0
   . have :(List.range l.length).all (zZ l)=false:=by
      rw [List.all_eq_false];exact⟨0,x!,by grind[LU]⟩
     grind
   grind
 . have :(List.range l.length).all (zZ l)=false:=by
    rw [List.all_eq_false];exact⟨k,x!,by grind[PJ]⟩
   grind
def XQ {l:List Sg}{k:Nat}(hc:vW l k)(hk:(k:Int)<l.length)(h:sY l k=true):vW l (k+1):=by
 refine⟨λi hi=>?_,w!,hc.2.2.1,λ_=>?_⟩
 . by_cases e:i=k
   . by_cases h0:i=0
     . unfold sY at h;grind[LU]
     grind[PJ]
   . exact hc.1 i w!
 . by_cases h0:k=0
   . subst h0;unfold sY at h;rw [Bool.and_eq_true,decide_eq_true_eq] at h;exact h.1
   . exact hc.2.2.2 w!
theorem ac4 {l:List Sg}{k:Nat}{n:Int}(hc:vW l k)(hk:¬(k:Int)<l.length):decide (rowAt l k=n)=pK l n:=by
 obtain⟨h1,h2,h3,h4⟩:=hc;have GJ:k=l.length:=by omega
 subst GJ;unfold pK;by_cases h0:l.length=0
 . rw [R! h0,h0,LS,decide_eq_decide];omega
 . have e2:decide ((l.length:Int)<=64)=true:=H? w!;have e3:decide ((sg l 0).1=0)=true:=H? (h4 w!);simp_all[Bool.true_and,rowAt,Q!]
end Go.S
namespace Go.S
theorem al7 {d:List cb}{t:B8}(h:jN d t=false): []=pc d t:=by grind[pc]
theorem al8 {d:List cb}{t:B8}(h:jN d t=true):small (List.getD d (Int.toNat (bp d t)) ([],[])).2:=by
 obtain⟨h0,h1,_⟩:=Jy h
 have hr:aY d=true:=by
  grind[aY,bp]
 have:=ac2 (d:=d) (k:=Int.toNat (bp d t)) hr w!;grind[small,iZ]
end Go.S
namespace Go.S
def Va {l:List Sg}{k:Nat}(h:¬(sg l k).1=rowAt l k\/ng (sg l k).1 (sg l k).2.1 (sg l k).2.2.1 (sg l k).2.2.2=false):sY l k=false:=by
 grind[sY]
def XR {l:List Sg}{k:Nat}(h:(sg l k).1=rowAt l k/\ng (sg l k).1 (sg l k).2.1 (sg l k).2.2.1 (sg l k).2.2.2=true):sY l k=true:=by
 grind[sY,decide_eq_true]
end Go.S

end
section
namespace Go.S
end Go.S

end
section
namespace Go.S
theorem sZ {docs:List B8}{f t:Int}(h:iJ docs f t=true):nE docs f t:=by
 simp [iJ,eb,Bool.and_eq_true,List.all_eq_true,decide_eq_true_eq] at h;obtain⟨⟨h1,h2,h3,h4,h5⟩,h6⟩:=h;exact⟨h3,h4,h5,w!,λd hd=>by grind⟩
theorem al9 {a b:Int}{d:List cb}(h:ec a b d=true):rf a b d=((a,b,(d.length:Int)+1,rT d),0):=by grind[rf]
theorem Ba(a b:Int)(d:List cb):rOf a b d=(a,b,(d.length:Int)+1,rT d):=by simp [rOf,gh,gO]
end Go.S
namespace Go.S
theorem rU(l:List B8):cY (leaves l)=true:=by
 rw [fN];intro d hd;simp [leaves,b?] at hd;obtain⟨b,_,rfl⟩:=hd;rfl
theorem agH {a b:Int}{d:List cb}(h:ec a b d=true)(hp:bh d):ng a b ((d.length:Int)+1) (rT d)=true:=by
 have hw:kT a b=true:=by
  simp_all[ec,B!]
 have hr:(rT d).length=32:=Jw (rU (gh d));unfold ng;rw [hw,hr];have:=hp.1;grind
end Go.S

end
section
namespace Go.S
def Jz:∀(l acc:List Int),∀W∈oB acc l,W≠ []
 |[],acc,W,hW=>by
   grind[oB]
 |x::l,acc,W,hW=>by
  simp [oB] at hW;split at hW
  . exact Jz l _ W hW
  . split at hW
    . exact Jz l _ W hW
    . rename_i h;rcases N!.1 hW with e|hW
      . subst e;intro e;rw [e] at h;exact h rfl
      . exact Jz l _ W hW
theorem Vb {b t:B8}(h:t∈bK b):isTerm t=true:=by
 rw [<-acE];simp [bK,b?] at h;obtain⟨W,hW,hs⟩:=h;have au:=E4 (decode b) [] z! W hW;have dU:=Jz (decode b) [] W hW
 have hrW:∀c∈W,cq (bJ c)=true:=λc hc=>E3 (qy b c (by
  grind))
 have hlen:t.length<=64:=by rw [<-hs];exact A7 W [] z!
 obtain⟨p,hp,hpf,hpn⟩:∃p:List Int,(∀c∈p,c∈W)/\kN [] W=p.flatMap (λc=>gN (bJ c))/\p≠ []:=by
  cases W with
  |nil=>grind
  |cons c w=>
   obtain⟨p,h1,h2⟩:=zJ w ([]++gN (bJ c));have hl:(gN (bJ c)).length<=4:=by grind[E6,zH]
   refine⟨c::p,λx hx=>?_,?_,z!⟩
   . grind
   grind[kN,List.length_nil]
 have hr:∀c∈p,cq (bJ c)=true:=λc hc=>hrW c (hp c hc)
 have QF:t=(p.map bJ).flatMap enc:=by
  rw [<-hs];show kN [] W=_
  grind[List.flatMap_map,uh,E6]
 have hd:decode t=p.map bJ:=by
  rw [QF]
  exact zI _ (λc hc=>by
   obtain⟨c',h',rfl⟩:=b?.1 hc;exact hr c' h')
 simp only [XA,B!,J!,X!,Xz,hd];refine⟨λc hc=>?_,?_,w!⟩
 . obtain⟨c',h',rfl⟩:=b?.1 hc;exact⟨Io (au c' (hp c' h')).1,E5 c'⟩
 . have:=List.length_pos_iff.2 hpn;simp;omega
end Go.S
namespace Go.S
theorem um {docs:List B8}{a:Int}{t:B8}{k:Nat}{i:Int}:i∈dn docs a t k↔a<=i/\i<a+(k:Int)/\zS (docs.getD i.toNat []) t=true:=by
 simp [dn,b?,List.mem_filter,s?];constructor
 . grind
 . rintro⟨h1,h2,h3⟩;refine⟨(i-a).toNat,⟨w!,?_⟩,w!⟩;grind
theorem R1(docs:List B8)(a:Int)(t:B8)(k:Nat):(dn docs a t k).Pairwise (· < ·):=by
 refine List.pairwise_map.2 ?_;refine List.Pairwise.filter _ ?_;exact(List.pairwise_lt_range (n:=k)).imp λ{x y} h=>by omega
theorem ac5 {l:List Int}(h:l.Pairwise (· < ·))(hb:∀x∈l,0<=x/\x<1000):bF l=true:=by
 rw [jA];intro i hi;rw [iI];have hm:=hb _ (bA l i 0 hi);refine⟨?_,hm.2⟩;cases i with
 |zero=>simp only [fo,R!];omega
 |succ i=>
  rw [kA];have:=(List.pairwise_iff_getElem.1 h) i (i+1) w! hi w!;rw [F!,F!,D! hi,D! (show i<l.length by omega)];exact this
theorem Bb(docs:List B8)(a b:Int):(make docs a b).length=(cW docs a b).length:=by simp [make]
theorem R2 {docs:List B8}{a b:Int}{i:Nat}(h:i<(cW docs a b).length):fh (make docs a b) i=(cW docs a b).getD i []:=by
 unfold fh make;rw [List.getD_eq_getElem?_getD,List.getElem?_map,List.getElem?_eq_getElem h,List.getD_eq_getElem?_getD,List.getElem?_eq_getElem h];rfl
theorem R3 {docs:List B8}{a b:Int}{i:Nat}(h:i<(cW docs a b).length):iZ (make docs a b) i=dn docs a ((cW docs a b).getD i []) (b-a).toNat:=by
 unfold iZ make;rw [List.getD_eq_getElem?_getD,List.getElem?_map,List.getElem?_eq_getElem h,List.getD_eq_getElem?_getD,List.getElem?_eq_getElem h];rfl
theorem qT {docs:List B8}{a b:Int}{t:B8}:t∈cW docs a b↔dn docs a t (b-a).toNat≠ []:=by
 grind[cW,ie,C4]
theorem z6 {docs:List B8}{a b:Int}(hp:nE docs a b):aY (make docs a b)=true:=by
 rw [xB];intro i hi;rw [Bb] at hi;rw [sW,R2 hi,R3 hi];have hm:=bA (cW docs a b) i [] hi;have dU:=qT.1 hm;have h1:=hp.1;have h3:=hp.2.2.1;have h4:=hp.2.2.2.1;refine⟨?_,?_,?_,?_⟩
 . by_cases h0:i=0
   . omega
   right;rw [R2 w!];have hi2:sT (cW docs a b):=kO _;have:=(List.pairwise_iff_getElem.1 hi2) (i-1) i w! hi w!;rw [U3,F!,F!,D! hi,D! (show i-1<(cW docs a b).length by omega)];simpa using this
 . grind
 . grind[ac5,R1,um]
 . obtain⟨x,hx⟩:=List.exists_mem_of_ne_nil _ dU;grind[um,Vb,wj]
theorem XS {docs:List B8}{a b:Int}(hp:nE docs a b)(hn:(cW docs a b).length<=1048576):bh (make docs a b):=by
 refine⟨by grind[Bb],λe he=>?_⟩;simp [make,List.mem_map] at he;obtain⟨t,ht,rfl⟩:=he;obtain⟨x,hx⟩:=List.exists_mem_of_ne_nil _ (qT.1 ht);grind[Vb,wj,um,zT]
theorem aDU {d:List cb}{t:B8}:∀k,(dF d t k= -1/\∀i,i<k->Je (fh d i) t=false)\/(∃q:Nat,dF d t k=q/\q<k/\Je (fh d q) t=true/\∀i,q<i->i<k->Je (fh d i) t=false)
 |0=>.inl ⟨rfl,λi hi=>by omega⟩
 |k+1=>by
  simp [dF];split
  . rename_i h;exact .inr ⟨k,rfl,w!,h,λi h1 h2=>by omega⟩
  . rename_i h;rcases aDU (d:=d) (t:=t) k with h1|⟨q,h1,h2,h3,h4⟩
    . refine .inl ⟨h1.1,λi hi=>?_⟩;by_cases e:i=k
      . rw [e];simpa using h
      . exact h1.2 i w!
    . refine .inr ⟨q,h1,w!,h3,λi g1 g2=>?_⟩;by_cases e:i=k
      . rw [e];simpa using h
      . exact h4 i g1 w!
theorem aIL(a:B8):Je a a=true:=by simp [Je]
theorem aFO {docs:List B8}{a b:Int}(hp:nE docs a b)(t:B8):pc (make docs a b) t=dn docs a t (b-a).toNat:=by
 have hr:=z6 hp;unfold pc jN bp;rw [if_pos hr];have aOz:sT (cW docs a b):=kO _;by_cases hm:t∈cW docs a b
 . obtain⟨j,hj,he⟩:=k? hm
   have hT:∀i (h:i<(cW docs a b).length),fh (make docs a b) i=(cW docs a b)[i]:=λi h=>by
    rw [R2 h,F!,D! h];rfl
   have hq:dF (make docs a b) t (make docs a b).length=(j:Int):=by
    have Q6:∀i,j<i->i<(cW docs a b).length->Je (fh (make docs a b) i) t=false:=λi h1 h2=>by
     rw [hT i h2,U3,<-he,(List.pairwise_iff_getElem.1 aOz) j i hj h2 h1];rfl
    grind[aDU,Bb,aIL,Nat.lt_trichotomy]
   rw [hq]
   have hd:((cW docs a b)).getD j []=t:=by
    rw [F!,D! hj];exact he
   rw [show((j:Int)).toNat=j from rfl,R2 hj,R3 hj,hd];simp
 . have pX:dn docs a t (b-a).toNat=[]:=by
    simp_all[mt,qT]
   rw [pX];split
   . rename_i h;rw [Bool.and_eq_true,decide_eq_true_eq,decide_eq_true_eq] at h;grind[aDU,Bb,R2,bA]
   . rfl
end Go.S

end
section
namespace Go.S
end Go.S
namespace Go.S
end Go.S
namespace Go.S
def agI {docs:List B8}{a b:Int}(hp:nE docs a b)(ku:a<b):ec a b (make docs a b)=true:=by
 have h1:=hp.1;have h2:=hp.2.2.1;have h3:=hp.2.2.2.1;unfold ec;rw [z6 hp]
 have hw:kT a b=true:=by
  unfold kT;simp;omega
 rw [hw,Bool.true_and,Bool.true_and,List.all_eq_true];intro i hi;rw [List.mem_range] at hi;have hr:=(sW _ _).1 ((xB _).1 (z6 hp) i hi);unfold LQ;rw [decide_eq_true_eq];have h:=(al4 hr.2.2.1 hr.2.1 (a:=a) (b:=b)).2 ?_
 . omega
 . rw [Bb] at hi
   have hd:∀x∈iZ (make docs a b) i,a<=x/\x<b:=λx hx=>by
    rw [R3 hi] at hx;have:=um.1 hx;omega
   exact⟨(hd _ (bA _ 0 0 w!)).1,(hd _ (bA _ _ 0 w!)).2⟩
end Go.S

end
section
namespace Go.S
def R4 {n:Nat}(h:n<=64)(r:B8):first (num (n:Int)++r)=((n:Int),1,0):=by
 have e:num (n:Int)=[UInt8.ofNat n]:=Ju n w!;have hn:(UInt8.ofNat n).toNat=n:=by grind[UInt8.toNat_ofNat']
 have hl:lead (num (n:Int)++r)=0:=by
  grind[lead,List.singleton_append,List.takeWhile,decide,decide_eq_false]
 grind[first,dx,List.take,UInt8.ofNat]
def B9 {a:B8}(h:a.length<=64)(r:B8):aO (text a++r) 64=(a,1+(a.length:Int),0):=by
 have e:text a++r=num (a.length:Int)++(a++r):=by simp [text]
 have el:num (a.length:Int)=[UInt8.ofNat a.length]:=Ju _ w!;have hf:=R4 (n:=a.length) h (a++r);unfold aO;rw [e,hf,if_neg z!,if_neg w!,if_neg x!];simp [el]
def agJ {a:B8}(h:a.length<=64):(text a).length=1+a.length:=by
 grind[num,UInt8.ofNat,Ju,text]
def XT {b:B8}(h:(first b).2.2=0):num (first b).1=b.take (first b).2.1.toNat/\(first b).2.1<=b.length:=by
 unfold first at h |-
 split at h
 . cases h
 . rename_i h1;split at h
   . cases h
   . rename_i h2;split at h
     . cases h
     . rename_i h3;rw [Q! h1,Q! h2,Q! h3];have q:lead b<=b.length:=List.Sublist.length_le (List.takeWhile_sublist _);refine⟨?_,by simp;omega⟩;have :num (dx (b.take (lead b+1)))=b.take (lead b+1):=Q? λe=>h3 (.inr e);congr 1
theorem agK {a b c:B8}(h:fX a b c=true):bf (ra a b c)=((a,b,c),0):=by
 simp [fX,B!,J!] at h;rw [acX];have h1:=B9 (a:=a) w! (text b++c);have h2:=B9 (a:=b) w! c;have l1:=agJ (a:=a) w!;have l2:=agJ (a:=b) w!;have hB:ra a b c=text a++(text b++c):=by simp [ra]
 have d1:(text a++(text b++c)).drop (1+(a.length:Int)).toNat=text b++c:=by
  rw [show(1+(a.length:Int)).toNat=(text a).length by omega];simp
 have d2:(text a++(text b++c)).drop (1+(a.length:Int)+(1+(b.length:Int))).toNat=c:=by
  rw [show(1+(a.length:Int)+(1+(b.length:Int))).toNat=(text a).length+(text b).length by omega,<-Y?];simp
 unfold C1;rw [hB,h1,if_neg z!];simp only [d1,h2,d2];rw [if_neg z!,if_neg w!,if_neg w!]
end Go.S
namespace Go.S
def aJH {t:B8}(h:isTerm t=true):t≠ []:=by
 intro e;subst e;exact absurd h (by decide)
def aLb {s:B8}(h:s≠ []):Op.bytesLess [] s=true:=by
 cases s with
 |nil=>grind
 |cons a s=>rfl
theorem aFP {d:List cb}(h:aY d=true):∀j i,i<j->j<d.length->Op.bytesLess (fh d i) (fh d j)=true
 |0,i,hi,_=>by omega
 |j+1,i,hi,hj=>by
  have h1:=((sW d (j+1)).1 ((xB d).1 h (j+1) hj)).1
  have h2:Op.bytesLess (fh d j) (fh d (j+1))=true:=by
   rcases h1 with h1|h1
   . omega
   . rw [U3] at h1;simpa using h1
  by_cases e:i=j
  . rw [e];exact h2
  . exact lx _ _ _ (aFP h j i w! w!) h2
def aGD {d:List cb}(hr:aY d=true)(s:B8):(∃q,q<d.length/\fh d q=s/\jN d s=true)\/(jN d s=false/\∃i,i<=d.length/\(∀q,q<i->Op.bytesLess (fh d q) s=true)/\(∀q,i<=q->q<d.length->Op.bytesLess s (fh d q)=true)):=by
 have hn:∀q,Je (fh d q) s=false->Op.bytesLess s (fh d q)=true:=λq h=>by
  grind[U3]
 unfold jN bp;rw [if_pos hr];rcases aDU (d:=d) (t:=s) d.length with⟨h1,h2⟩|⟨q,h1,h2,h3,h4⟩
 . right;rw [h1];exact⟨rfl,0,T! _,λq hq=>by omega,λq _ hq=>hn q (h2 q hq)⟩
 . by_cases e:fh d q=s
   . grind
   . right;refine⟨?_,q+1,w!,λp hp=>?_,λp hp hd=>hn p (h4 p w! hd)⟩
     . grind
     . have hq:Op.bytesLess (fh d q) s=true:=by
        simp_all[Je,L?,Bool.or_false]
       grind[lx,aFP]
end Go.S
namespace Go.S
end Go.S
namespace Go.S
end Go.S

end
section
namespace Go.S
abbrev aT:=Int×Int×List cb
def aV(l:List aT)(i:Nat):aT:=l.getD i (0,0,[])
def dT(d:List cb):List B8:=d.map (·.1)
def asS(l:List aT):List B8:=l.flatMap λs=>dT s.2.2
def uT(l:List aT):List B8:=sorted (asS l)
def uo(t:B8)(d:List cb):List Int:=(d.filter λe=>decide (e.1=t)).flatMap (·.2)
def GK(l:List aT)(t:B8):List Int:=l.flatMap λs=>uo t s.2.2
def aca(l:List aT)(k:Nat):List cb:=((uT l).take k).map λt=>(t,GK l t)
def R5(l:List aT):List cb:=(uT l).map λt=>(t,GK l t)
def ab7(l:List aT)(k:Nat)(s:aT):Int:=(((dT s.2.2).filter λt=>decide (t∈(uT l).take k)).length:Nat)
def Pg(l:List aT)(k:Nat):List Int:=l.map (ab7 l k)
def abJ(l:List aT)(k i:Nat):List Int:=(Pg l (k+1)).take i++(Pg l k).drop i
def axt(l:List aT)(nx:List Int):Nat->Int
 |0=> -1
 |i+1=>if nx.getD i 0=((aV l i).2.2.length:Int) then axt l nx i
  else if axt l nx i<0\/Op.bytesLess (fh (aV l i).2.2 (nx.getD i 0).toNat) (fh (aV l (axt l nx i).toNat).2.2 (nx.getD (axt l nx i).toNat 0).toNat)=true then(i:Int)
  else axt l nx i
def aC0(l:List aT):Prop:=l.length<=1000/\∀s∈l,aY s.2.2=true/\s.2.2.length<=1048576
def ta(s:aT):Bool:=ec s.1 s.2.1 s.2.2
def agL(l:List aT)(i:Nat):Bool:=decide ((aV l (i+1)).1=(aV l i).2.1)
def R6(l:List aT):Bool:=(List.range (l.length-1)).all (agL l)
def agM(l:List aT):Prop:=l.length<=1000/\∀s∈l,bh s.2.2
def ø(l:List aT):(Int×Int×List cb)×Int:=
 if l.length=0 then((0,0,[]),1)
 else if l.all ta=false then((0,0,[]),1)
 else if R6 l=false then((0,0,[]),7)
 else(((aV l 0).1,(aV l (l.length-1)).2.1,R5 l),0)
def aFH {P:B8->Bool}:∀ {l:List B8},sT l->(∀x∈l,∀y∈l,Op.bytesLess x y=true->P y=true->P x=true)->
  l.take (l.filter P).length=l.filter P/\l.drop (l.filter P).length=l.filter λx=>!P x
 |[],_,_=>⟨rfl,rfl⟩
 |x::l,h,hP=>by
  have h1:=g?.1 h;have ih:=aFH (l:=l) h1.2 λa ha b hb=>hP a (E! _ ha) b (E! _ hb);cases hx:P x with
  |true=>
   grind
  |false=>
   grind[List.mem_cons_self,List.mem_cons_of_mem,List.filter_eq_nil_iff,List.filter_eq_self]
theorem aEB {T:List B8}(h:sT T)(k:Nat){x y:B8}(hx:x∈T)(hxy:Op.bytesLess x y=true)(hy:y∈T.take k):x∈T.take k:=by
 grind[List.take_append_drop,sT,ou]
theorem R7(d:List cb):(dT d).length=d.length:=by simp [dT]
theorem R8(d:List cb)(i:Nat):(dT d).getD i []=fh d i:=by
 grind[dT,fh]
theorem ac6 {a b:B8}(h:Je a b=false):Op.bytesLess b a=true:=by
 grind[Je,Bool.or_eq_false_iff,decide_eq_false_iff_not,jM,absurd]
theorem z7 {d:List cb}(h:aY d=true):sT (dT d):=by
 have hs:∀n i,i<n->n<d.length->Op.bytesLess (fh d i) (fh d n)=true:=by
  intro n;induction n with
  |zero=>omega
  |succ n ih=>
   grind[sW,xB,ac6,lx]
 unfold sT;grind[List.pairwise_iff_getElem,dT,fh,R8,List.getElem?_eq_getElem,R7]
theorem aFn {l:List aT}{s:aT}(hs:s∈l){t:B8}(ht:t∈dT s.2.2):t∈uT l:=by
 grind[uT,ie,asS]
theorem agN(l:List aT):sT (uT l):=kO _
theorem aGE {l:List aT}{s:aT}(hs:s∈l)(hd:aY s.2.2=true)(k:Nat):
  (dT s.2.2).take (ab7 l k s).toNat=(dT s.2.2).filter (λt=>decide (t∈(uT l).take k))/\(dT s.2.2).drop (ab7 l k s).toNat=(dT s.2.2).filter λt=>!decide (t∈(uT l).take k):=by
 have:=aFH (P:=λt=>decide (t∈(uT l).take k)) (z7 hd) λx hx y hy hxy hPy=>by
  grind[aEB,agN,aFn]
 grind[ab7,Int.toNat_natCast]
def aD6(l:List aT)(k:Nat)(s:aT):0<=ab7 l k s/\ab7 l k s<=s.2.2.length:=by
 grind[ab7,List.length_filter_le,decide,uT,dT,R7]
theorem aGt {l:List aT}{s:aT}(hs:s∈l)(hd:aY s.2.2=true){k:Nat}(h:ab7 l k s<s.2.2.length):
  fh s.2.2 (ab7 l k s).toNat∈dT s.2.2/\fh s.2.2 (ab7 l k s).toNat∈uT l/\fh s.2.2 (ab7 l k s).toNat∉(uT l).take k/\∀t∈dT s.2.2,t∉(uT l).take k->t=fh s.2.2 (ab7 l k s).toNat\/Op.bytesLess (fh s.2.2 (ab7 l k s).toNat) t=true:=by
 have h0:=aD6 l k s;have hc:=(aGE hs hd k).2;have hn:(ab7 l k s).toNat<(dT s.2.2).length:=by grind[R7]
 have aQh:(dT s.2.2).drop (ab7 l k s).toNat=fh s.2.2 (ab7 l k s).toNat::(dT s.2.2).drop ((ab7 l k s).toNat+1):=by
  rw [<-R8,F!,D! hn];simp_all
 have hm:fh s.2.2 (ab7 l k s).toNat∈(dT s.2.2).filter λt=>!decide (t∈(uT l).take k):=by
  grind
 simp at hm;refine⟨hm.1,aFn hs hm.1,hm.2,λt ht hk=>?_⟩;grind[sT,dT,ab7,z7,List.drop_sublist,List.pairwise_cons]
theorem aIM {l:List aT}{s:aT}(hs:s∈l){k:Nat}(h:∀t∈dT s.2.2,t∈(uT l).take k):ab7 l k s=s.2.2.length:=by
 grind[ab7,List.filter_eq_self,R7]
theorem aAN {T:List B8}{k:Nat}(hk:k<T.length)(t:B8):t∈T.take (k+1)↔t∈T.take k\/t=T.getD k []:=zY hk t
theorem aGu {l:List aT}{k:Nat}(hk:k<(uT l).length):(uT l).getD k []∉(uT l).take k:=U7 (It (agN l)) hk
def aHd {ts:List B8}(h:sT ts){T:List B8}{k:Nat}(hk:k<T.length)(hn:T.getD k []∉T.take k):
  (ts.filter λt=>decide (t∈T.take (k+1))).length=(ts.filter λt=>decide (t∈T.take k)).length+(if T.getD k []∈ts then 1 else 0):=by
 induction ts with
 |nil=>simp
 |cons x r ih=>
  have h1:=g?.1 h
  have hx:T.getD k []=x->T.getD k []∉r:=λe hr=>by
   grind[cJ]
  have ih:=ih h1.2;simp [List.filter_cons,aAN hk,decide_eq_true_eq,List.mem_cons] at ih |-;grind
def hit(l:List aT)(k:Nat)(s:aT):Prop:=ab7 l k s<s.2.2.length/\fh s.2.2 (ab7 l k s).toNat=(uT l).getD k []
def aFQ {l:List aT}{s:aT}(hs:s∈l)(hd:aY s.2.2=true){k:Nat}(hk:k<(uT l).length):hit l k s↔(uT l).getD k []∈dT s.2.2:=by
 constructor
 . rintro⟨h1,h2⟩;grind[aGt]
 . intro hm
   have iU:ab7 l k s<s.2.2.length:=by
    by_cases h:ab7 l k s<s.2.2.length
    . exact h
    . have hc:=(aGE hs hd k).2;rw [List.drop_eq_nil_of_le (by grind[R7])] at hc
      have :(uT l).getD k []∈(dT s.2.2).filter λt=>!decide (t∈(uT l).take k):=by
       grind[decide_eq_false,aGu]
      grind
   refine⟨iU,?_⟩;obtain⟨h1,h2,h3,h4⟩:=aGt hs hd iU;rcases h4 _ hm (aGu hk) with h5|h5
   . grind
   . exfalso;apply h3;refine(aAN hk _).1 (aEB (agN l) (k+1) h2 h5 ((aAN hk _).2 (.inr rfl))) |>.resolve_right λe=>?_;grind[cJ]
theorem aGh {l:List aT}{s:aT}(hs:s∈l)(hd:aY s.2.2=true){k:Nat}(hk:k<(uT l).length):
  (hit l k s->ab7 l (k+1) s=ab7 l k s+1)/\(¬hit l k s->ab7 l (k+1) s=ab7 l k s):=by
 have:=aHd (z7 hd) hk (aGu hk);simp_all[ab7,aFQ,R!,Q!]
theorem xC {t:B8}{d:List cb}(h:t∉dT d):uo t d=[]:=by
 have :d.filter (λe=>decide (e.1=t))=[]:=by
  rw [List.filter_eq_nil_iff];intro e he;simp;intro e2;exact h (by rw [<-e2];exact b?.2 ⟨e,he,rfl⟩)
 grind[uo]
theorem Bc:∀ {d:List cb},sT (dT d)->∀ {i:Nat},i<d.length->uo (fh d i) d=iZ d i
 |[],_,i,hi=>by rfl
 |e::d,h,0,_=>by
  have h1:=List.pairwise_cons.1 h;have hn:e.1∉dT d:=λhm=>by have:=h1.1 _ hm;grind[cJ]
  have:=xC hn;grind[uo,fh,iZ]
 |e::d,h,i+1,hi=>by
  have h1:=g?.1 h
  have hm:fh d i∈dT d:=by
   rw [<-R8,List.getD_eq_getElem?_getD,List.getElem?_eq_getElem (by grind[R7])];grind
  have dU:¬e.1=fh d i:=λhe=>by have h5:=h1.1 _ hm;grind[cJ]
  have ih:=Bc (d:=d) h1.2 (i:=i) x!;have e1:fh (e::d) (i+1)=fh d i:=rfl;have e2:iZ (e::d) (i+1)=iZ d i:=rfl;simp_all[uo,List.filter_cons,decide_eq_true_eq,if_neg]
end Go.S

end
section
namespace Go.S
theorem GL {l:List aT}{i:Nat}(h:i<l.length):aV l i∈l:=bA l i _ h
theorem aAv {l:List aT}{k i:Nat}(h:i<l.length):(Pg l k).getD i 0=ab7 l k (aV l i):=by
 grind[Pg,aV,List.getElem?_eq_getElem]
theorem aAr(l:List aT)(k:Nat):(Pg l k).length=l.length:=by simp [Pg]
theorem aFM {l:List aT}(k:Nat):∀i,i<=l.length->
  (axt l (Pg l k) i= -1/\∀j,j<i->ab7 l k (aV l j)=(aV l j).2.2.length)\/
  (∃q:Nat,axt l (Pg l k) i=q/\q<i/\ab7 l k (aV l q)<(aV l q).2.2.length/\∀j,j<i->ab7 l k (aV l j)<(aV l j).2.2.length->
    Op.bytesLess (fh (aV l j).2.2 (ab7 l k (aV l j)).toNat) (fh (aV l q).2.2 (ab7 l k (aV l q)).toNat)=false)
 |0,_=>.inl ⟨rfl,λj hj=>by omega⟩
 |i+1,hi=>by
  have ih:=aFM (l:=l) k i w!;have h0:=aD6 l k (aV l i);simp only [axt];rw [aAv (k:=k) (show i<l.length by omega)];by_cases he:ab7 l k (aV l i)=((aV l i).2.2.length:Int)
  . rw [R! he];rcases ih with⟨h1,h2⟩|⟨q,h1,h2,h3,h4⟩
    . refine .inl ⟨h1,λj hj=>?_⟩;by_cases e:j=i
      . rw [e];exact he
      . exact h2 j w!
    . refine .inr ⟨q,h1,w!,h3,λj hj K4=>?_⟩;by_cases e:j=i
      . rw [e] at K4;omega
      . exact h4 j w! K4
  . rw [Q! he];rcases ih with⟨h1,h2⟩|⟨q,h1,h2,h3,h4⟩
    . rw [R! (Or.inl (by rw [h1];decide))];refine .inr ⟨i,rfl,w!,w!,λj hj K4=>?_⟩;by_cases e:j=i
      . rw [e];exact cJ _
      . have:=h2 j w!;omega
    . rw [h1];have e1:((q:Int)).toNat=q:=Z! q;rw [e1,aAv (k:=k) (show q<l.length by omega)];cases hb:Op.bytesLess (fh (aV l i).2.2 (ab7 l k (aV l i)).toNat) (fh (aV l q).2.2 (ab7 l k (aV l q)).toNat) with
      |true=>
       refine .inr ⟨i,rfl,w!,w!,λj hj K4=>?_⟩;by_cases e:j=i
       . rw [e];exact cJ _
       . have h5:=h4 j w! K4;cases hc:Op.bytesLess (fh (aV l j).2.2 (ab7 l k (aV l j)).toNat) (fh (aV l i).2.2 (ab7 l k (aV l i)).toNat) with
         |false=>rfl
         |true=>rw [lx _ _ _ hc hb] at h5;cases h5
      |false=>
       refine .inr ⟨q,rfl,w!,h3,λj hj K4=>?_⟩;by_cases e:j=i
       . rw [e];exact hb
       . exact h4 j w! K4
def aNc {l:List aT}{t:B8}(h:t∈uT l):∃j,j<l.length/\t∈dT (aV l j).2.2:=by
 rw [uT,ie,asS,List.mem_flatMap] at h;obtain⟨s,hs,ht⟩:=h;obtain⟨j,hj,rfl⟩:=List.mem_iff_getElem.1 hs;refine⟨j,hj,?_⟩;grind[aV,List.getElem?_eq_getElem]
def aGv {T:List B8}{k:Nat}(hk:k<T.length):T.getD k []∈T:=bA T k [] hk
theorem aGi {l:List aT}(hp:aC0 l){k:Nat}(hk:k<(uT l).length):
  ∃q:Nat,axt l (Pg l k) l.length=q/\q<l.length/\ab7 l k (aV l q)<(aV l q).2.2.length/\fh (aV l q).2.2 (ab7 l k (aV l q)).toNat=(uT l).getD k []:=by
 obtain⟨j,hj,hjt⟩:=aNc (aGv hk);have hsj:=GL hj;obtain⟨h1,h2⟩:=(aFQ hsj (hp.2 _ hsj).1 hk).2 hjt;rcases aFM (l:=l) k l.length (S! _) with⟨_,h4⟩|⟨q,h3,h4,h5,h6⟩
 . have:=h4 j hj;omega
 . refine⟨q,h3,h4,h5,?_⟩;have h7:=h6 j hj h1;rw [h2] at h7;have hsq:=GL h4;obtain⟨g1,g2,g3,_⟩:=aGt hsq (hp.2 _ hsq).1 h5;rcases jM ((uT l).getD k []) (fh (aV l q).2.2 (ab7 l k (aV l q)).toNat) with h8|h8|h8
   . rw [h7] at h8;cases h8
   . exact h8.symm
   . exfalso;apply g3;refine(aAN hk _).1 (aEB (agN l) (k+1) g2 h8 ((aAN hk _).2 (.inr rfl))) |>.resolve_right λe=>?_;rw [e,cJ] at h8;cases h8
theorem aIN {l:List aT}{k:Nat}(hk:(uT l).length<=k):axt l (Pg l k) l.length= -1:=by
 rcases aFM (l:=l) k l.length (S! _) with⟨h,_⟩|⟨q,h3,h4,h5,h6⟩
 . exact h
 grind[GL,aIM,List.take_of_length_le,aFn]
theorem aGF {l:List aT}(hp:aC0 l)(k:Nat):axt l (Pg l k) l.length<0↔(uT l).length<=k:=by
 grind[aGi,aIN]
def afs(l:List aT)(t:B8)(i:Nat):List Int:=GK (l.take i) t
theorem aJI(l:List aT)(k i:Nat)(h:i<=l.length):(abJ l k i).length=l.length:=by
 grind[abJ,List.length_append,List.length_take,List.length_drop,aAr]
def aNd(l:List aT)(k:Nat):Pg l k=abJ l k 0:=by rfl
def aJJ {l:List aT}{k:Nat}:abJ l k l.length=Pg l (k+1):=by
 simp_all[abJ,l?,aAr,S!,x?,F?]
def aFR {l:List aT}{k i:Nat}(h:i<l.length):(abJ l k i).getD i 0=ab7 l k (aV l i):=by
 rw [<-aAv h];grind[Pg,List.length_take,aAr,abJ,List.getElem?_append_right]
def aIO {l:List aT}{k i:Nat}(h:i<l.length)(he:ab7 l (k+1) (aV l i)=ab7 l k (aV l i)):abJ l k i=abJ l k (i+1):=by
 have e1:(Pg l (k+1)).take (i+1)=(Pg l (k+1)).take i++[ab7 l (k+1) (aV l i)]:=by
  rw [ax _ i 0 (by grind[aAr]),aAv h]
 have hn:i<(Pg l k).length:=by grind[aAr]
 have e2:(Pg l k).drop i=ab7 l k (aV l i)::(Pg l k).drop (i+1):=by
  rw [List.drop_eq_getElem_cons hn];rw [<-aAv (k:=k) h,F!,D! hn];rfl
 grind[abJ,List.append_assoc]
theorem aJK {l:List aT}{k i:Nat}(h:i<l.length)(he:ab7 l (k+1) (aV l i)=ab7 l k (aV l i)+1):(abJ l k i).set i (ab7 l k (aV l i)+1)=abJ l k (i+1):=by
 have hn:i<(Pg l k).length:=by grind[aAr]
 have e1:(Pg l (k+1)).take (i+1)=(Pg l (k+1)).take i++[ab7 l (k+1) (aV l i)]:=by
  rw [ax _ i 0 (by grind[aAr]),aAv h]
 have e2:(Pg l k).drop i=ab7 l k (aV l i)::(Pg l k).drop (i+1):=by
  rw [List.drop_eq_getElem_cons hn];rw [<-aAv (k:=k) h,F!,D! hn];rfl
 have hl:((Pg l (k+1)).take i).length=i:=by rw [T?,aAr];omega
 simp_all[abJ,Y!,List.set_append_right,Nat.sub_self]
def aHe(l:List aT)(t:B8):afs l t l.length=GK l t:=by simp [afs]
theorem aDV {l:List aT}{t:B8}{i:Nat}(h:i<l.length):afs l t (i+1)=afs l t i++uo t (aV l i).2.2:=by
 have :l.take (i+1)=l.take i++[aV l i]:=ax l i _ h;grind[afs,GK]
def aHf {l:List aT}(hp:aC0 l){k i:Nat}(hk:k<(uT l).length)(hi:i<l.length)(h1:ab7 l k (aV l i)<(aV l i).2.2.length)(h2:fh (aV l i).2.2 (ab7 l k (aV l i)).toNat=(uT l).getD k []):
  afs l ((uT l).getD k []) i++iZ (aV l i).2.2 (ab7 l k (aV l i)).toNat=afs l ((uT l).getD k []) (i+1)/\(abJ l k i).set i (ab7 l k (aV l i)+1)=abJ l k (i+1):=by
 have hs:=GL hi;have hd:=(hp.2 _ hs).1;have h0:=aD6 l k (aV l i);refine⟨?_,aJK hi ((aGh hs hd hk).1 ⟨h1,h2⟩)⟩;grind[aDV,Bc,z7]
def aGG {l:List aT}(hp:aC0 l){k i:Nat}(hk:k<(uT l).length)(hi:i<l.length)(h:¬(ab7 l k (aV l i)<(aV l i).2.2.length/\fh (aV l i).2.2 (ab7 l k (aV l i)).toNat=(uT l).getD k [])):
  afs l ((uT l).getD k []) i=afs l ((uT l).getD k []) (i+1)/\abJ l k i=abJ l k (i+1):=by
 have hs:=GL hi;have hd:=(hp.2 _ hs).1;refine⟨?_,aIO hi ((aGh hs hd hk).2 h)⟩;rw [aDV hi,xC (λhm=>h ((aFQ hs hd hk).2 hm)),F?]
def aGH {l:List aT}{k:Nat}(hk:k<(uT l).length):aca l k++[((uT l).getD k [],GK l ((uT l).getD k []))]=aca l (k+1):=by
 grind[aca,ax,uT]
theorem aHg {l:List aT}{k:Nat}(hk:(uT l).length<=k):aca l k=R5 l:=by
 grind[aca,R5,List.take_of_length_le]
theorem aHh(l:List aT)(k:Nat):(aca l k).length<=k:=by grind[aca]
theorem aLc {l:List aT}(hp:aC0 l):(uT l).length<=1048576000:=by
 have h1:=qd (asS l)
 have h2:∀m:List aT,(∀s∈m,s.2.2.length<=1048576)->(asS m).length<=1048576*m.length:=by
  intro m;induction m with
  |nil=>grind[asS]
  |cons s m ih=>
   grind[List.mem_cons_of_mem,List.mem_cons_self,asS,List.length_append,R7,List.length_cons]
 have:=h2 l λs hs=>(hp.2 s hs).2;have h3:=hp.1;grind[uT]
theorem Vc {d:List cb}(h:aY d=true)(t:B8):(uo t d).length<=1000:=by
 by_cases hm:t∈dT d
 . obtain⟨i,hi,e⟩:=List.mem_iff_getElem.1 hm;have e2:fh d i=t:=by rw [<-R8,F!,D! hi];exact e
   grind[R7,Bc,z7,mT,wi]
 grind[xC]
def aFS {l:List aT}(hp:aC0 l)(t:B8):∀i,i<=l.length->(afs l t i).length<=1000*i
 |0,_=>by simp [afs,GK]
 |i+1,hi=>by
  rw [aDV w!,K!];have:=aFS hp t i w!;have:=Vc (hp.2 _ (GL (show i<l.length by omega))).1 t;omega
end Go.S

end
section
namespace Go.S
abbrev Sp:=Int×Int
def kU(l:List Sp)(i:Nat):Sp:=l.getD i (0,0)
def lg(n:Int):Int:=(Nat.log2 n.toNat:Nat)
def avj(a b:Int):Int:=if a<0\/b<0\/b<=a then -1 else lg (b-a)
def agO(l:List Sp)(i:Nat):Int:=avj (kU l i).1 (kU l i).2
def GM(l:List Sp):Nat->Int×Bool
 |0=>(0,false)
 |k+1=>if agO l k<=agO l (k+1) then((k:Int),true) else GM l k
def xD(l:List Sp):Int×Bool:=GM l (l.length-1)
def Fc(l:List Sp)(i:Nat):List Sp:=l.take i++[((kU l i).1,(kU l (i+1)).2)]++l.drop (i+2)
def wk:Nat->List Sp->List Sp
 |0,l=>l
 |n+1,l=>if(xD l).2 then wk n (Fc l (xD l).1.toNat) else l
def wo(l:List Sp):List Sp:=wk l.length l
def eY(l:List aT):List Sp:=l.map λs=>(s.1,s.2.1)
def aB3(a b:Int)(n:Nat):Prop:=0<=a/\a<b/\1<=n/\(n:Int)<=b-a
def aBJ(l:List Sp)(k:Nat):Prop:=(k+1<=l.length\/k=0)/\xD l=GM l (l.length-1-k)
def aOC {n:Int}(h:n<2):0=lg n:=by
 unfold lg;rw [Nat.log2_def,if_neg w!];rfl
theorem aMi {n:Int}(h:2<=n):1+lg (n/2)=lg n:=by
 unfold lg;rw [Nat.log2_def n.toNat,if_pos w!,show(n/2).toNat=n.toNat/2 by omega];omega
theorem aMj(n:Int):0<=lg n:=by grind[lg]
def aJL(n:Int)(h:0<=n):lg n<=n:=by
 unfold lg;by_cases h0:n.toNat=0
 . rw [h0];simp_all
 . have:=Nat.log2_lt (n:=n.toNat) (k:=n.toNat) h0;grind[Nat.lt_two_pow_self]
def ù(l:List Sp):∀k,0<=(GM l k).1/\((GM l k).2=true->(GM l k).1<k)
 |0=>⟨P? _,λh=>by cases h⟩
 |k+1=>by
  have:=ù l k;grind[GM]
def agP {l:List Sp}(h:(xD l).2=true):0<=(xD l).1/\(xD l).1+1<l.length:=by
 have:=ù l (l.length-1);grind[xD]
def ac7 {l:List Sp}{i:Nat}(h:i+1<l.length):(Fc l i).length+1=l.length:=by
 grind[Fc,List.length_append,List.length_take,List.length_drop,List.length_singleton]
theorem aHi {l:List Sp}(h:(xD l).2=false):wo l=l:=by
 unfold wo;cases hl:l.length with
 |zero=>rfl
 |succ n=>grind[wk]
theorem aGI {l:List Sp}(h:(xD l).2=true):wo (Fc l (xD l).1.toNat)=wo l:=by
 have hb:=agP h;have hj:=ac7 (l:=l) (i:=(xD l).1.toNat) w!;unfold wo;rw [<-hj];simp_all[wk,if_true]
end Go.S

end
section
namespace Go.S
def bC(docs:List B8)(l:List Sp):List aT:=l.map λs=>(s.1,s.2,make docs s.1 s.2)
def gi(l:List aT)(i:Nat):Int:=if i=0 then 0 else(aV l (i-1)).2.1
def mj(docs:List B8)(l:List aT)(i:Nat):Bool:=
 decide ((aV l i).1=gi l i)&&(iJ docs (aV l i).1 (aV l i).2.1&&decide ((aV l i).2.2=make docs (aV l i).1 (aV l i).2.1))
def bD(docs:List B8)(l:List aT):Bool:=eb docs 0 0&&(decide ((l.length:Int)<=64)&&(List.range l.length).all (mj docs l))
def ak(docs:List B8)(l:List aT):List B8×List aT:=if bD docs l then(docs,l) else([],[])
def cz(l:List aT):Int:=gi l l.length
def kW(docs:List B8)(l:List aT):Int:=cz (ak docs l).2
def cA(docs:List B8)(l:List aT)(doc:B8):(List B8×List aT)×Int:=
 if(2000:Int)<doc.length then(ak docs l,1)
 else if(1000:Int)<=(ak docs l).1.length then(ak docs l,3)
 else(((ak docs l).1++[doc],(ak docs l).2),0)
def bV(docs:List B8)(l:List aT):(List B8×List aT)×Int:=
 if kW docs l=(ak docs l).1.length then(ak docs l,5)
 else if(64:Int)<=(ak docs l).2.length then(ak docs l,3)
 else(((ak docs l).1,(ak docs l).2++[(kW docs l,((ak docs l).1.length:Int),make (ak docs l).1 (kW docs l) (ak docs l).1.length)]),0)
def LV(l:List aT)(i m:Nat)(s:aT):List aT:=l.take i++[s]++l.drop (i+m)
def Ca(docs:List B8)(l:List aT)(i m:Nat):aT:=((aV l i).1,(aV l (i+m-1)).2.1,make docs (aV l i).1 (aV l (i+m-1)).2.1)
def PK(l:List aT)(i m:Int):Bool:=decide (m<2) || (decide (i<0) || (decide ((l.length:Int)<m) || decide ((l.length:Int)-m<i)))
def Bd(docs:List B8)(l:List aT)(i m:Int):(List B8×List aT)×Int:=
 if PK (ak docs l).2 i m then(ak docs l,1)
 else(((ak docs l).1,LV (ak docs l).2 i.toNat m.toNat (Ca (ak docs l).1 (ak docs l).2 i.toNat m.toNat)),0)
def wu(docs:List B8)(l:List aT):List B8×List aT:=((ak docs l).1,bC (ak docs l).1 (wo (eY (ak docs l).2)))
def Fe(s:aT):Sg:=rOf s.1 s.2.1 s.2.2
def cL(docs:List B8)(l:List aT):List Sg:=(ak docs l).2.map Fe
def z8(docs:List B8)(l:List aT)(k:Nat):Prop:=eb docs 0 0=true/\l.length<=64/\(∀i,i<k->mj docs l i=true)/\k<=l.length
def eT(docs:List B8):Int->List Sp->Bool
 |_,[]=>true
 |a,s::r=>decide (s.1=a)&&(iJ docs s.1 s.2&&eT docs s.2 r)
def eh:Int->List Sp->Int
 |a,[]=>a
 |_,s::r=>eh s.2 r
def qe(docs:List B8):∀(a:Int) (l m:List Sp),eT docs a (l++m)=(eT docs a l&&eT docs (eh a l) m)
 |a,[],m=>by rfl
 |a,s::r,m=>by simp [o?,eT,eh];rw [qe docs s.2 r m,Bool.and_assoc,Bool.and_assoc]
def ml:∀(a:Int) (l m:List Sp),eh a (l++m)=eh (eh a l) m
 |_,[],_=>rfl
 |_,s::r,m=>by exact ml s.2 r m
theorem qf {docs:List B8}{a b:Int}(h:iJ docs a b=true):a<b/\0<=a/\b<=docs.length/\docs.length<=1000/\∀d∈docs,d.length<=2000:=by
 simp [iJ,eb,Bool.and_eq_true,List.all_eq_true,decide_eq_true_eq] at h;grind
theorem wv {docs:List B8}{a b:Int}(h:eb docs 0 0=true)(h1:0<=a)(h2:a<b)(h3:b<=docs.length):iJ docs a b=true:=by
 simp [iJ,eb,Bool.and_eq_true,List.all_eq_true,decide_eq_true_eq] at h |-;grind
theorem agQ {docs:List B8}{a b:Int}(h:iJ docs a b=true):eb docs 0 0=true:=by
 simp_all[iJ,eb,B!,X!,J!,P?]
def Ff {docs:List B8}:∀ {l:List Sp} {a:Int},eT docs a l=true->a<=eh a l/\(l≠ []->iJ docs a (eh a l)=true)/\(eh a l<=docs.length\/l=[])
 |[],a,_=>⟨P? _,λh=>absurd rfl h,.inr rfl⟩
 |s::r,a,h=>by
  simp [eT,Bool.and_eq_true,decide_eq_true_eq] at h;obtain⟨h1,h2,h3⟩:=h;have ih:=Ff h3;have h4:=qf h2;grind[eh,wv,agQ]
theorem sd {docs:List B8}:∀ {l:List Sp} {a:Int},eT docs a l=true->∀s∈l,iJ docs s.1 s.2=true
 |[],_,_,s,hs=>by grind
 |t::r,a,h,s,hs=>by
  simp [eT,B!,J!] at h;rcases N!.1 hs with rfl|hs
  . exact h.2.1
  . exact sd h.2.2 s hs
def LW:∀(l:List aT),eh 0 (eY l)=cz l:=by
 intro l;unfold cz gi;by_cases h:l.length=0
 . have :l=[]:=V! h;subst this;rfl
 . obtain⟨m,s,rfl⟩:∃m s,l=m++[s]:=⟨l.dropLast,l.getLast x!,(List.dropLast_concat_getLast _).symm⟩
   have e:aV (m++[s]) ((m++[s]).length-1)=s:=by
    grind[aV,List.length_append,List.length_singleton,Nat.add_sub_cancel]
   rw [e];simp [eY,u?,M?,List.map_nil];rw [ml];rfl
theorem vf(docs:List B8)(l:List Sp):eY (bC docs l)=l:=by
 simp [eY,bC,List.map_map];have :((λ(s:aT)=>(s.1,s.2.1))∘λ(s:Sp)=>((s.1,s.2,make docs s.1 s.2):aT))=id:=by rfl
 simp_all
theorem uq(docs:List B8)(l m:List Sp):bC docs (l++m)=bC docs l++bC docs m:=by simp [bC]
def LX(l m:List aT):eY (l++m)=eY l++eY m:=by simp [eY]
theorem tc(l:List aT):(eY l).length=l.length:=by simp [eY]
theorem kB(docs:List B8)(l:List Sp):(bC docs l).length=l.length:=by simp [bC]
theorem C5 {l m:List aT}{i:Nat}(h:i<l.length):aV (l++m) i=aV l i:=by
 grind[aV,List.getElem?_append_left]
theorem XU(l:List aT)(s:aT):aV (l++[s]) l.length=s:=by
 simp_all[aV,F!,List.getElem?_append_right,S!,Nat.sub_self]
def Vd {docs:List B8}:∀(n:Nat) (l:List aT),l.length=n->((∀i,i<l.length->mj docs l i=true)↔eT docs 0 (eY l)=true/\l=bC docs (eY l))
 |0,l,h=>by
  have :l=[]:=V! h;subst this;exact⟨λ_=>⟨rfl,rfl⟩,λ_ i hi=>by omega⟩
 |n+1,l,h=>by
  obtain⟨m,s,rfl⟩:∃m s,l=m++[s]:=⟨l.dropLast,l.getLast x!,(List.dropLast_concat_getLast _).symm⟩;have hm:m.length=n:=by grind
  have ih:=Vd (docs:=docs) n m hm
  have e1:∀i,i<m.length->mj docs (m++[s]) i=mj docs m i:=λi hi=>by
   have h2:gi (m++[s]) i=gi m i:=by
    unfold gi;by_cases h0:i=0
    . omega
    . rw [Q! h0,Q! h0,C5 w!]
   grind[mj,C5]
  have e2:gi (m++[s]) m.length=cz m:=by
   unfold cz gi;by_cases h0:m.length=0
   . omega
   . rw [Q! h0,Q! h0,C5 w!]
  have e3:mj docs (m++[s]) m.length=true↔s.1=cz m/\iJ docs s.1 s.2.1=true/\s.2.2=make docs s.1 s.2.1:=by
   grind[mj,XU]
  have e4:eT docs 0 (eY (m++[s]))=true↔eT docs 0 (eY m)=true/\s.1=cz m/\iJ docs s.1 s.2.1=true:=by
   rw [LX,qe,LW,B!];simp_all[eY,M?,List.map_nil,eT,Bool.and_true,B!,J!]
  have e5:m++[s]=bC docs (eY (m++[s]))↔m=bC docs (eY m)/\s.2.2=make docs s.1 s.2.1:=by
   rw [LX,uq];constructor
   . intro h;have h5:=List.append_inj h (by rw [kB,tc]);have h6:=h5.2;simp only [bC,eY,List.map_cons,List.map_nil,List.cons.injEq,and_true] at h6;grind
   . rintro⟨h5,h6⟩;congr 1
     simp only [bC,eY,List.map_cons,List.map_nil,List.cons.injEq,and_true];grind
  grind
theorem JA {docs:List B8}{l:List aT}:bD docs l=true↔eb docs 0 0=true/\l.length<=64/\eT docs 0 (eY l)=true/\l=bC docs (eY l):=by
 unfold bD;rw [Bool.and_eq_true,Bool.and_eq_true,decide_eq_true_eq,List.all_eq_true,<-Vd (docs:=docs) l.length l rfl];grind
def ú:bD [] []=true:=by decide
def ov(docs:List B8)(l:List aT):bD (ak docs l).1 (ak docs l).2=true:=by
 unfold ak;by_cases h:bD docs l=true
 . grind
 simp_all[Q!,ú]
theorem kY {docs:List B8}{l:List aT}(h:bD docs l=true):ak docs l=(docs,l):=by simp_all[ak,R!]
def avk {docs:List B8}{l:List Sp}(h1:eb docs 0 0=true)(h2:l.length<=64)(h3:eT docs 0 l=true):bD docs (bC docs l)=true:=
 JA.2 ⟨h1,by grind[kB],by grind[vf],by rw [vf]⟩
end Go.S

end
section
namespace Go.S
def GN:∀(l acc:List Int),2*(oB acc l).length<=l.length+1+(if acc.isEmpty then 0 else 1)
 |[],acc=>by grind[oB]
 |c::l,acc=>by
  simp [oB,G?];by_cases hc:kM c=true
  . have:=GN l (acc++[c]);grind
  . have:=GN l [];grind
def Ve(b:B8):2*(bK b).length<=b.length+1:=by
 have h:=GN (decode b) [];grind[zG,bK,List.length_map]
theorem PL {docs:List B8}(h:∀d∈docs,d.length<=2000)(a:Int):∀k,(ve docs a k).length<=1000*k
 |0=>by simp [ve]
 |k+1=>by
  rw [<-Ir,List.length_append];have:=PL h a k;have h2:=qd (bK (docs.getD (Int.toNat (a+(k:Int))) []));have h3:=Ve (docs.getD (Int.toNat (a+(k:Int))) []);grind
theorem Vf {docs:List B8}{a b:Int}(h:iJ docs a b=true):bh (make docs a b):=by
 have hg:=qf h;grind[XS,sZ,PL,qd,ve,cW]
def XV {docs:List B8}{t:B8}{a b c:Int}(h:a<=b)(h2:b<=c):dn docs a t (b-a).toNat++dn docs b t (c-b).toNat=dn docs a t (c-a).toNat:=by
 have e:List.range (c-a).toNat=List.range (b-a).toNat++(List.range (c-b).toNat).map ((b-a).toNat+ ·):=by
  rw [<-List.range_add];congr 1;omega
 simp only [dn];rw [e,List.filter_append,u?,List.filter_map,List.map_map]
 have hq:((λ(i:Nat)=>zS (docs.getD (a+(i:Int)).toNat []) t)∘λx=>(b-a).toNat+x)=λ(i:Nat)=>zS (docs.getD (b+(i:Int)).toNat []) t:=by
  funext i;simp only [Function.comp];rw [show(a+(((b-a).toNat+i:Nat):Int))=b+(i:Int) by omega]
 rw [hq];simp;omega
theorem Vh(docs:List B8)(a b:Int):dT (make docs a b)=cW docs a b:=by
 simp [dT,make,List.map_map];have :((λ(e:cb)=>e.1)∘λt=>((t,dn docs a t (b-a).toNat):cb))=id:=by rfl
 simp_all
theorem Fg {docs:List B8}{a b:Int}(hp:nE docs a b)(t:B8):uo t (make docs a b)=dn docs a t (b-a).toNat:=by
 by_cases hm:t∈cW docs a b
 . obtain⟨i,hi,e⟩:=List.mem_iff_getElem.1 hm;have e3:fh (make docs a b) i=t:=by grind[R2]
   grind[Bc,z7,z6,Bb,R3]
 grind[xC,Vh,qT]
theorem Aa {docs:List B8}{t:B8}:∀ {m:List Sp} {a:Int},eT docs a m=true->GK (bC docs m) t=dn docs a t (eh a m-a).toNat
 |[],a,_=>by grind[GK,bC,eh,dn]
 |s::r,a,h=>by
  simp [eT,B!,J!] at h;obtain⟨h1,h2,h3⟩:=h;have ih:=Aa (t:=t) h3;have h4:=qf h2;have h5:=Ff h3;simp [GK,bC,M?,List.flatMap_cons,eh] at ih |-;rw [ih,Fg (sZ h2),<-h1];exact XV w! h5.1
def ama {l:List aT}{t:B8}:t∈uT l↔∃s∈l,t∈dT s.2.2:=by
 rw [uT,ie,asS,List.mem_flatMap]
def XW {docs:List B8}{m:List Sp}{a:Int}(h:eT docs a m=true)(hm:m≠ []):R5 (bC docs m)=make docs a (eh a m):=by
 have hK:uT (bC docs m)=cW docs a (eh a m):=by
  refine xA _ _ (agN _) (kO _) λt=>?_;rw [qT,<-Aa h,ama];constructor
  . rintro⟨s,hs,ht⟩ he;simp only [GK,List.flatMap_eq_nil_iff] at he;have h1:=he s hs;simp only [bC,List.mem_map] at hs;obtain⟨p,hp,rfl⟩:=hs;grind[Vh,Fg,sZ,sd,qT]
  . intro dU;obtain⟨x,hx⟩:=List.exists_mem_of_ne_nil _ dU;grind[GK,dT,xC]
 grind[R5,make,List.map_congr_left,Aa]
def xE {docs:List B8}{m:List Sp}{a:Int}(h:eT docs a m=true)(hm:m≠ []):(kU m 0).1=a:=by
 cases m with
 |nil=>grind
 |cons s r=>
  simp [eT,B!,J!] at h;exact h.1
def Fh:∀(m:List Sp) (a:Int),m≠ []->eh a m=(kU m (m.length-1)).2
 |[],_,h=>absurd rfl h
 |[s],a,_=>rfl
 |s::t::r,a,_=>by
  have:=Fh (t::r) s.2 z!;simp only [eh,G?,kU] at this |-;rw [this];rfl
theorem xF(docs:List B8)(m:List Sp)(i:Nat)(h:i<m.length):aV (bC docs m) i=((kU m i).1,(kU m i).2,make docs (kU m i).1 (kU m i).2):=by
 simp [aV,bC,kU,F!,E?,D! h,Option.map_some,Option.getD_some]
theorem C6 {docs:List B8}:∀ {m:List Sp} {a:Int},eT docs a m=true->∀i,i+1<m.length->(kU m (i+1)).1=(kU m i).2
 |[],_,_,i,hi=>by rfl
 |s::r,a,h,0,hi=>by
  simp [eT,Bool.and_eq_true,decide_eq_true_eq] at h;have :r≠ []:=by grind
  exact xE h.2.2 this
 |s::r,a,h,i+1,hi=>by
  simp [eT,Bool.and_eq_true,decide_eq_true_eq] at h;exact C6 h.2.2 i x!
theorem agR {docs:List B8}{m:List Sp}{a:Int}(h:eT docs a m=true)(hl:m.length<=1000):agM (bC docs m):=by
 refine⟨by grind[kB],λs hs=>?_⟩;simp only [bC,List.mem_map] at hs;obtain⟨p,hp,rfl⟩:=hs;grind[Vf,sd]
theorem Iw {docs:List B8}{m:List Sp}{a:Int}(h:eT docs a m=true):∀s∈bC docs m,ta s=true:=by
 intro s hs;simp only [bC,b?] at hs;obtain⟨p,hp,rfl⟩:=hs;have h1:=sd h p hp;exact agI (sZ h1) (qf h1).1
theorem agS {docs:List B8}{m:List Sp}{a:Int}(h:eT docs a m=true)(hm:m≠ []):ø (bC docs m)=((a,eh a m,make docs a (eh a m)),0):=by
 have hl:0<m.length:=List.length_pos_iff.2 hm;unfold ø;rw [kB,if_neg w!];have h1:(bC docs m).all ta=true:=List.all_eq_true.2 (Iw h);rw [h1,if_neg (by decide)]
 have h2:R6 (bC docs m)=true:=by
  unfold R6;rw [List.all_eq_true];intro i hi;rw [List.mem_range,kB] at hi;simp [agL,decide_eq_true_eq];grind[xF,C6]
 rw [h2,Q! (by decide),xF _ _ _ hl,xF _ _ _ w!,xE h hm,<-Fh m a hm,XW h hm]
def Fi {docs:List B8}{S:List Sp}{i m:Nat}(h:eT docs 0 S=true)(hm:0<m)(hi:i+m<=S.length):
  eT docs (kU S i).1 ((S.drop i).take m)=true/\eh (kU S i).1 ((S.drop i).take m)=(kU S (i+m-1)).2/\(S.drop i).take m≠ []/\
  eT docs 0 (S.take i++[((kU S i).1,(kU S (i+m-1)).2)]++S.drop (i+m))=true/\eh 0 (S.take i++[((kU S i).1,(kU S (i+m-1)).2)]++S.drop (i+m))=eh 0 S:=by
 have e:S=S.take i++((S.drop i).take m++S.drop (i+m)):=by
  rw [<-Y?,Z?,Z?]
 have hl:((S.drop i).take m).length=m:=by rw [T?,D?];omega
 have dU:(S.drop i).take m≠ []:=by intro e;rw [e] at hl;simp at hl;omega
 have h1:=h;rw [e,qe,qe,B!,B!] at h1;obtain⟨h2,h3,h4⟩:=h1
 have ef:(kU ((S.drop i).take m) 0)=kU S i:=by
  simp [kU,F!];rw [List.getElem?_take_of_lt hm,List.getElem?_drop];rfl
 have el:(kU ((S.drop i).take m) (m-1))=kU S (i+m-1):=by
  simp [kU,F!];rw [List.getElem?_take_of_lt w!,List.getElem?_drop,show i+(m-1)=i+m-1 by omega]
 have h5:=xE h3 dU;rw [ef] at h5;have h6:=Fh _ (eh 0 (S.take i)) dU;rw [hl,el] at h6;rw [<-h5] at h3 h4 h6;have h7:=(Ff h3).2.1 dU;rw [h6] at h7 h4;refine⟨h3,h6,dU,?_,?_⟩
 . rw [qe,qe,h2];simp [eT,ml,eh,h4,<-h5,h7,Bool.and_true,decide_true]
 . conv=>rhs;rw [e,ml,ml]
   rw [ml,ml];simp [eh];rw [<-h5,h6]
theorem xG(docs:List B8)(l:List Sp)(i:Nat):(bC docs l).take i=bC docs (l.take i):=by simp [bC,List.map_take]
theorem xH(docs:List B8)(l:List Sp)(i:Nat):(bC docs l).drop i=bC docs (l.drop i):=by simp [bC,List.map_drop]
def XX(docs:List B8){S:List Sp}{i m:Nat}(hm:0<m)(hi:i+m<=S.length):
  LV (bC docs S) i m (Ca docs (bC docs S) i m)=bC docs (S.take i++[((kU S i).1,(kU S (i+m-1)).2)]++S.drop (i+m)):=by
 unfold LV Ca;rw [xG,xH,xF _ _ _ w!,xF _ _ _ w!,uq,uq];rfl
def agT {docs:List B8}{S:List Sp}{i m:Nat}(h:eT docs 0 S=true)(hm:0<m)(hi:i+m<=S.length):
  ø (((bC docs S).drop i).take m)=(Ca docs (bC docs S) i m,0):=by
 have hc:=Fi h hm hi;grind[xH,xG,agS,Ca,xF]
def agU {docs:List B8}{S:List Sp}{i m:Nat}(h:eT docs 0 S=true)(hm:0<m)(hi:i+m<=S.length)(hl:S.length<=1000):
  agM (((bC docs S).drop i).take m):=by
 have hc:=Fi h hm hi;grind[xH,xG,agR,List.length_take,List.length_drop]
def ac8 {docs:List B8}{S:List Sp}(h:eT docs 0 S=true){i:Nat}(hi:i+1<S.length):eT docs 0 (Fc S i)=true/\eh 0 (Fc S i)=eh 0 S:=by
 have hc:=Fi (m:=2) h w! (by omega :i+2<=S.length);exact⟨hc.2.2.2.1,hc.2.2.2.2⟩
def Ix {docs:List B8}:∀(n:Nat) {S:List Sp},eT docs 0 S=true->eT docs 0 (wk n S)=true/\eh 0 (wk n S)=eh 0 S/\(wk n S).length<=S.length
 |0,S,h=>⟨h,rfl,S! _⟩
 |n+1,S,h=>by
  simp [wk];by_cases hb:(xD S).2=true
  . rw [R! hb];have h1:=agP hb;have h2:=ac8 h (i:=(xD S).1.toNat) w!;have h3:=Ix n h2.1;have h4:=ac7 (l:=S) (i:=(xD S).1.toNat) w!;exact⟨h3.1,by rw [h3.2.1,h2.2],w!⟩
  grind
end Go.S

end
section
namespace Go.S
abbrev Vi:=List B8×List aT
abbrev rA:=Int×Int×Int×B8
def oa(docs:List B8)(l:List aT)(a b c:Int)(d:B8):Vi×Int:=
 if a=0 then cA docs l d else if a=1 then bV docs l else if a=2 then Bd docs l b c else(wu docs l,0)
def tf(l:List rA)(i:Nat):rA:=l.getD i (0,0,0,[])
def mU(x:Vi)(l:List rA):Nat->Vi
 |0=>x
 |k+1=>if(2500:Int)<(tf l k).2.2.2.length then mU x l k else(oa (mU x l k).1 (mU x l k).2 (tf l k).1 (tf l k).2.1 (tf l k).2.2.1 (tf l k).2.2.2).1
def eG(l:List rA):Vi:=mU ([],[]) l (min l.length 40)
def ur(l:List rA):Nat->Nat
 |0=>0
 |k+1=>if(tf l k).1=1 then ur l k+1 else ur l k
structure RI (docs:List B8) (l:List aT) (S:List Sp):Prop where
 fair:eb docs 0 0=true
 le:S.length<=64
 row:eT docs 0 S=true
 eq:l=bC docs S
def RI.right {docs:List B8}{l:List aT}{S:List Sp}(h:RI docs l S):bD docs l=true:=by
 rw [h.eq];exact avk h.fair h.le h.row
theorem RI.of {docs:List B8}{l:List aT}(h:bD docs l=true):RI docs l (eY l):=by
 have:=JA.1 h;exact⟨this.1,by grind[tc],this.2.2.1,this.2.2.2⟩
theorem qU(docs:List B8)(l:List aT):RI (ak docs l).1 (ak docs l).2 (eY (ak docs l).2):=RI.of (ov docs l)
theorem RI.Vj {docs:List B8}{l:List aT}{S:List Sp}(h:RI docs l S):cz l=eh 0 S:=by
 rw [<-LW,h.eq,vf]
theorem RI.bd {docs:List B8}{l:List aT}{S:List Sp}(h:RI docs l S):0<=cz l/\cz l<=docs.length/\docs.length<=1000/\l.length=S.length:=by
 have h1:=Ff h.row;rw [h.Vj]
 have h2:docs.length<=1000:=by
  have:=h.fair;simp [eb,B!,J!] at this;omega
 refine⟨h1.1,?_,h2,by rw [h.eq,kB]⟩;grind[eh]
theorem XY {docs:List B8}{a b:Int}(d:B8)(h0:0<=a)(hb:b<=docs.length):make (docs++[d]) a b=make docs a b:=by
 have e:∀i:Nat,i<(b-a).toNat->(docs++[d]).getD (a+(i:Int)).toNat []=docs.getD (a+(i:Int)).toNat []:=λi hi=>by
  grind
 have e1:∀t,dn (docs++[d]) a t (b-a).toNat=dn docs a t (b-a).toNat:=λt=>by
  simp_all[dn,List.filter_congr,s?]
 simp_all[ve,uh,s?,make,cW,W?]
def Vk {docs:List B8}{d:B8}(h:eb docs 0 0=true)(hd:(d.length:Int)<=2000)(hl:(docs.length:Int)<1000):eb (docs++[d]) 0 0=true:=by
 simp [eb,Bool.and_eq_true,List.all_eq_true,decide_eq_true_eq,List.length_append,List.length_singleton] at h |-;grind
def XZ {docs:List B8}{d:B8}(hf:eb (docs++[d]) 0 0=true){S:List Sp}{a:Int}(h:eT docs a S=true):eT (docs++[d]) a S=true/\bC (docs++[d]) S=bC docs S:=by
 induction S generalizing a with
 |nil=>exact⟨rfl,rfl⟩
 |cons s r ih=>
  simp [eT,Bool.and_eq_true,decide_eq_true_eq] at h;have h4:=qf h.2.1;grind[iJ,wv,eT,decide_eq_true,bC,XY]
def RI.snoc {docs:List B8}{l:List aT}{S:List Sp}(h:RI docs l S){d:B8}(hd:¬(2000:Int)<d.length)(hl:¬(1000:Int)<=docs.length):RI (docs++[d]) l S:=by
 have hf:=Vk h.fair (d:=d) w! w!;have hr:=XZ (d:=d) hf h.row;exact⟨hf,h.le,hr.1,by rw [hr.2];exact h.eq⟩
def RI.flush {docs:List B8}{l:List aT}{S:List Sp}(h:RI docs l S)(h1:¬cz l=docs.length)(h2:¬(64:Int)<=l.length):
  RI docs (l++[(cz l,(docs.length:Int),make docs (cz l) docs.length)]) (S++[(cz l,(docs.length:Int))])/\iJ docs (cz l) docs.length=true:=by
 have hb:=h.bd;have hf:=wv h.fair (a:=cz l) (b:=docs.length) hb.1 w! w!;refine⟨⟨h.fair,x!,?_,?_⟩,hf⟩
 . rw [qe,h.row,<-h.Vj];simp_all[eT,decide_true,Bool.and_true]
 . rw [uq,<-h.eq];rfl
def LY {l:List aT}{i m:Int}(h:PK l i m=false):2<=m/\0<=i/\i+m<=l.length/\i.toNat+m.toNat<=l.length/\0<m.toNat:=by
 grind[PK,Bool.or_eq_false_iff,decide_eq_false_iff_not]
theorem RI.cut {docs:List B8}{l:List aT}{S:List Sp}(h:RI docs l S){i m:Nat}(hm:0<m)(hi:i+m<=l.length):
  RI docs (LV l i m (Ca docs l i m)) (S.take i++[((kU S i).1,(kU S (i+m-1)).2)]++S.drop (i+m))/\ø ((l.drop i).take m)=(Ca docs l i m,0)/\agM ((l.drop i).take m)/\(LV l i m (Ca docs l i m)).length+m=l.length+1/\cz (LV l i m (Ca docs l i m))=cz l:=by
 have hb:=h.bd;have hc:=Fi h.row hm (by omega :i+m<=S.length)
 have hl:(S.take i++[((kU S i).1,(kU S (i+m-1)).2)]++S.drop (i+m)).length+m=S.length+1:=by
  grind
 have hle:=h.le;have e:=XX docs hm (by omega :i+m<=S.length)
 have R:RI docs (LV l i m (Ca docs l i m)) (S.take i++[((kU S i).1,(kU S (i+m-1)).2)]++S.drop (i+m)):=by
  rw [h.eq,e];exact⟨h.fair,w!,hc.2.2.2.1,rfl⟩
 refine⟨R,?_,?_,?_,?_⟩
 . rw [h.eq];exact agT h.row hm w!
 . rw [h.eq];exact agU h.row hm w! w!
 . have:=R.bd.2.2.2;omega
 . rw [R.Vj,h.Vj,hc.2.2.2.2]
theorem RI.aOD {docs:List B8}{S:List Sp}(h:RI docs (bC docs S) S){i:Nat}(hi:i+2<=S.length):
  RI docs (bC docs (Fc S i)) (Fc S i)/\LV (bC docs S) i 2 (Ca docs (bC docs S) i 2)=bC docs (Fc S i)/\ø (((bC docs S).drop i).take 2)=(Ca docs (bC docs S) i 2,0)/\agM (((bC docs S).drop i).take 2):=by
 have hc:=h.cut (i:=i) (m:=2) w! (by grind[kB]);have e:=XX docs (S:=S) (i:=i) (m:=2) w! w!;have e2:Fc S i=S.take i++[((kU S i).1,(kU S (i+2-1)).2)]++S.drop (i+2):=rfl;grind
theorem RI.settle {docs:List B8}{l:List aT}{S:List Sp}(h:RI docs l S):RI docs (bC docs (wo S)) (wo S)/\eh 0 (wo S)=eh 0 S/\(wo S).length<=S.length:=by
 have hs:=Ix S.length h.row;have hle:=h.le;exact⟨⟨h.fair,by grind[wo],hs.1,rfl⟩,hs.2.1,hs.2.2⟩
theorem append_right(docs:List B8)(l:List aT)(d:B8):bD (cA docs l d).1.1 (cA docs l d).1.2=true:=by
 unfold cA;by_cases h1:(2000:Int)<d.length
 . simp_all[R!,ov]
 . rw [Q! h1];by_cases h2:(1000:Int)<=(ak docs l).1.length
   . simp_all[R!,ov]
   . rw [Q! h2];exact((qU docs l).snoc h1 h2).right
theorem Fj(docs:List B8)(l:List aT):bD (bV docs l).1.1 (bV docs l).1.2=true:=by
 unfold bV;by_cases h1:kW docs l=(ak docs l).1.length
 . simp_all[R!,ov]
 . rw [Q! h1];by_cases h2:(64:Int)<=(ak docs l).2.length
   . simp_all[R!,ov]
   . rw [Q! h2];exact((qU docs l).flush h1 h2).1.right
theorem merge_right(docs:List B8)(l:List aT)(i m:Int):bD (Bd docs l i m).1.1 (Bd docs l i m).1.2=true:=by
 unfold Bd;by_cases h1:PK (ak docs l).2 i m=true
 . simp_all[R!,ov]
 . rw [Q! h1];have hb:=LY (by simpa using h1);exact((qU docs l).cut hb.2.2.2.2 hb.2.2.2.1).1.right
theorem Ob(docs:List B8)(l:List aT):bD (wu docs l).1 (wu docs l).2=true:=(qU docs l).settle.1.right
theorem X0(docs:List B8)(l:List aT)(a b c:Int)(d:B8):bD (oa docs l a b c d).1.1 (oa docs l a b c d).1.2=true:=by
 grind[oa,append_right,Fj,merge_right,Ob]
def Iy {x:Vi}(h:bD x.1 x.2=true)(l:List rA):∀k,bD (mU x l k).1 (mU x l k).2=true
 |0=>h
 |k+1=>by
  simp [mU];split
  . exact Iy h l k
  . exact X0 _ _ _ _ _ _
def R9(l:List rA)(k:Nat):bD (mU ([],[]) l k).1 (mU ([],[]) l k).2=true:=Iy ú l k
theorem Vl {docs:List B8}{l:List aT}(h:bD docs l=true)(a b c:Int)(d:B8):(oa docs l a b c d).1.2.length<=l.length+(if a=1 then 1 else 0):=by
 have hg:=kY h;unfold oa;by_cases h0:a=0
 . grind[cA]
 . rw [Q! h0];by_cases h1:a=1
   . grind[bV,List.length_append,List.length_singleton]
   . rw [Q! h1,Q! h1];by_cases h2:a=2
     . unfold Bd;by_cases hb:PK l b c=true
       . grind
       . have hb:=LY (by simpa using hb);have:=((RI.of h).cut hb.2.2.2.2 hb.2.2.2.1).2.2.2.1;grind
     . rw [if_neg h2];simp [wu,hg,kB];have:=(RI.of h).settle.2.2;grind[tc]
theorem PM(l:List rA):∀k,(mU ([],[]) l k).2.length<=ur l k
 |0=>S! _
 |k+1=>by
  have ih:=PM l k;have h:=Vl (R9 l k) (tf l k).1 (tf l k).2.1 (tf l k).2.2.1 (tf l k).2.2.2
  have e:ur l (k+1)=ur l k+(if(tf l k).1=1 then 1 else 0):=by
   rw [ur];grind
  rw [e,mU];grind
theorem LZ(l:List rA):∀k,ur l k<=k
 |0=>S! _
 |k+1=>by have:=LZ l k;simp [ur];split<;>omega
theorem keeps {docs:List B8}{l:List aT}(h:bD docs l=true){a:Int}(b c:Int)(d:B8)(h0:a≠0):
  (oa docs l a b c d).1.1=docs/\(a=1->cz l<=cz (oa docs l a b c d).1.2/\((64:Int)<=l.length\/cz (oa docs l a b c d).1.2=docs.length))/\
  (a≠1->cz (oa docs l a b c d).1.2=cz l/\(oa docs l a b c d).1.2.length<=l.length):=by
 have hg:=kY h;have R:=RI.of h;have Cq:=R.bd;unfold oa;rw [if_neg h0];by_cases h1:a=1
 . unfold bV kW;by_cases e1:cz l=(docs.length:Int)
   . grind
   . by_cases e2:(64:Int)<=l.length
     . grind
     . have:=(R.flush e1 e2).1.Vj
       have h3:cz (l++[(cz l,(docs.length:Int),make docs (cz l) docs.length)])=docs.length:=by
        rw [this,ml];rfl
       grind
 . rw [Q! h1];by_cases h2:a=2
   . unfold Bd;by_cases hb:PK l b c=true
     . grind
     . have hb:=LY (by simpa using hb);have hc:=R.cut hb.2.2.2.2 hb.2.2.2.1;grind
   . rw [if_neg h2];have hs:=R.settle;refine⟨by grind[wu],λh=>absurd h h1,λ_=>?_⟩;simp [wu,hg];refine⟨by rw [hs.1.Vj,hs.2.1,R.Vj],?_⟩;grind[kB,tc]
end Go.S

end
section
namespace Go.S
def aDb(l:List aT)(k:Nat):Prop:=k<=l.length/\l.length≠0/\agM l/\∀i,i<k->ta (aV l i)=true
def aDm(l:List aT)(k:Nat):Prop:=k+1<=l.length/\agM l/\l.all ta=true/\∀i,i<k->agL l i=true
def uL(l:List aT):Nat:=(uT l).length
def uAt(l:List aT)(k:Nat):B8:=(uT l).getD k []
def gL(docs:List B8)(l:List aT):Nat:=(ak docs l).2.length
def pL(l:List rA):Nat:=(eG l).2.length
def pD(l:List rA):Nat:=(eG l).1.length
def rB(l:List aT)(i:Nat):Nat:=(aV l i).2.2.length
def gP {α:Type}(l:List α)(k:Nat):Prop:=k<=l.length
def aAs(l:List aT)(k:Nat):List (Int×Int):=eY (l.take k)
def GO(a b:List Int):Bool:=decide (a=b)
def Fk(a b:List Int)(k:Nat):Prop:=a.length=b.length/\a.take k=b.take k/\k<=a.length
def Ab(x1:B8)(x2:List Int)(y1:B8)(y2:List Int):Bool:=decide (x1=y1)&&decide (x2=y2)
def L0(docs:List B8)(l:List aT)(k:Nat):Prop:=docs.length<=1000/\l.length<=64/\zR docs k
def uu(docs:List B8)(l:List aT):Prop:=docs.length<=1000000/\l.length<=1000000/\(∀b∈docs,small b)/\∀s∈l,small s.2.2/\∀e∈s.2.2,small e.2
def dG {α:Type}(z:α)(l:List α)(k:Nat):List α:=l.take k++List.replicate (l.length-k) z
def uv(x r:List aT)(i j:Nat):Prop:=i<x.length/\j<=(aV x i).2.2.length/\r.length=x.length/\∀d,r.set i ((aV r i).1,(aV r i).2.1,d)=(dG (0,0,[]) x i).set i ((aV x i).1,(aV x i).2.1,d)
def aDA(l:List aT)(i m:Int):Prop:=l.length<=1000000/\0<=i/\0<=m/\i+m<=l.length
def aCX(docs:List B8)(l:List aT)(L:List Sp):Prop:=RI (ak docs l).1 (bC (ak docs l).1 L) L/\wo L=wo (eY (ak docs l).2)
def agV(docs:List B8)(l:List Sp):Prop:=l.length<=1000000/\∀s∈l,nE docs s.1 s.2
def kh(docs:List B8)(l:List aT)(k:Nat):List Sg:=(cL docs l).take k
def aEC(l:List rA)(k:Nat):Prop:=k<=l.length/\k<=40
end Go.S
namespace Go.S
def aJM {a b:Int}(h:a<0\/b<0\/b<=a): -1=avj a b:=by simp_all[avj,R!]
theorem aGJ {n:Int}(h:0<=n):lg ((n.toNat:Nat):Int)=lg n:=by rfl
theorem aLd {a b:Int}(h:¬a<0/\¬b<0/\¬b<=a):aB3 a b (b-a).toNat:=⟨w!,w!,w!,w!⟩
def aLe {n:Int}(h:1<n):1<=lg n:=by have:=aMi (n:=n) w!;have:=aMj (n/2);omega
def aJN {a b:Int}{n:Nat}(h:aB3 a b n):1<=n/\(n:Int)<=b-a:=⟨h.2.2.1,h.2.2.2⟩
theorem aJO {t:Int}{n:Nat}(h:1<(n:Int)):t-lg n+1=t-lg (((n:Int)/2).toNat:Nat):=by
 grind[aGJ,aMi]
theorem aHj {a b:Int}{n:Nat}(h:aB3 a b n)(h1:1<(n:Int)):aB3 a b ((n:Int)/2).toNat:=by
 obtain⟨h2,h3,h4,h5⟩:=h;exact⟨h2,h3,w!,w!⟩
theorem aIP {a b:Int}{n:Nat}(h:¬a<0/\¬b<0/\¬b<=a)(hi:aB3 a b n)(h1:¬1<(n:Int)):lg (b-a)-lg n=avj a b:=by
 unfold avj;rw [if_neg w!,<-aOC (n:=(n:Int)) w!];omega
end Go.S
namespace Go.S
def aJP(l:List aT)(k i:Nat):0<=(Pg l k).getD i 0:=by
 by_cases h:i<l.length
 . rw [aAv h];simp_all[aD6]
 simp_all[F!,List.getElem?_eq_none,aAr,P?]
def aOE {l:List aT}{k i:Nat}(h:(i:Int)<l.length)(hn:¬(Pg l k).getD i 0=((aV l i).2.2.length:Int)):(Pg l k).getD i 0<((aV l i).2.2.length:Int):=by
 have h':i<l.length:=by omega
 rw [aAv h'] at hn |-;have:=aD6 l k (aV l i);omega
def aAl {l:List aT}{k i:Nat}(hi:i<=l.length)(h:¬axt l (Pg l k) i<0):
  axt l (Pg l k) i<l.length/\axt l (Pg l k) i<(Pg l k).length/\(axt l (Pg l k) i).toNat<(Pg l k).length/\(Pg l k).getD (axt l (Pg l k) i).toNat 0<((aV l (axt l (Pg l k) i).toNat).2.2.length:Int):=by
 grind[aAr,aFM,Int.toNat_natCast,aAv]
def aJQ {l:List aT}{nx:List Int}{i:Nat}(h:nx.getD i 0=((aV l i).2.2.length:Int)):axt l nx i=axt l nx (i+1):=by simp_all[axt,R!]
def aJR {l:List aT}{nx:List Int}{i:Nat}(h:¬nx.getD i 0=((aV l i).2.2.length:Int)):
  (bif bif decide (axt l nx i<0) then true else Op.bytesLess (fh (aV l i).2.2 (nx.getD i 0).toNat) (fh (aV l (axt l nx i).toNat).2.2 (nx.getD (axt l nx i).toNat 0).toNat) then(i:Int) else axt l nx i)=axt l nx (i+1):=by
 grind[axt]
def aNe {l:List aT}(hp:aC0 l){k i:Nat}(hi:i<=l.length)(hi2:¬(i:Int)<l.length)(h:axt l (Pg l k) i<0):aca l k=R5 l:=by
 grind[aHg,aGF]
def aHP {l:List aT}(hp:aC0 l){k i:Nat}(hi:i<=l.length)(hi2:¬(i:Int)<l.length)(h:¬axt l (Pg l k) i<0):
  k<uL l/\fh (aV l (axt l (Pg l k) i).toNat).2.2 ((Pg l k).getD (axt l (Pg l k) i).toNat 0).toNat=uAt l k:=by
 have :i=l.length:=by omega
 subst this
 have hk:k<(uT l).length:=by
  simp_all[Nat.lt_of_not_le,aGF]
 obtain⟨q,h1,h2,h3,h4⟩:=aGi hp hk;refine⟨hk,?_⟩;rw [h1,Z!,aAv h2];exact h4
def aGw {l:List aT}{a b:Nat}(h:aca l a=aca l b)(ha:a<=uL l)(hb:b<=uL l):a=b:=by
 simp_all[congrArg,List.length,aca,List.length_map,T?,uL]
def aJS {l:List aT}{k i:Nat}(h:(i:Int)<l.length):0<=(abJ l k i).getD i 0/\(abJ l k i).getD i 0<=((aV l i).2.2.length:Int):=by
 rw [aFR w!];exact aD6 l k _
def aDn {l:List aT}{k i:Nat}(h:(i:Int)<l.length):(i:Int)<(abJ l k i).length/\i<(abJ l k i).length:=by
 grind[aJI]
def aJT {l:List aT}(hp:aC0 l){k i:Nat}(hk:k<uL l)(h:(i:Int)<l.length)(h1:(abJ l k i).getD i 0<((aV l i).2.2.length:Int))(h2:fh (aV l i).2.2 ((abJ l k i).getD i 0).toNat=uAt l k):
  (abJ l k i).set i ((abJ l k i).getD i 0+1)=abJ l k (i+1)/\afs l (uAt l k) i++iZ (aV l i).2.2 ((abJ l k i).getD i 0).toNat=afs l (uAt l k) (i+1):=by
 have h':i<l.length:=by omega
 rw [aFR h'] at h1 h2 |-;have:=aHf hp hk h' h1 h2;exact⟨this.2,this.1⟩
def aHQ {l:List aT}(hp:aC0 l){k i:Nat}(hk:k<uL l)(h:(i:Int)<l.length)(hn:¬((abJ l k i).getD i 0<((aV l i).2.2.length:Int)/\fh (aV l i).2.2 ((abJ l k i).getD i 0).toNat=uAt l k)):
  abJ l k i=abJ l k (i+1)/\afs l (uAt l k) i=afs l (uAt l k) (i+1):=by
 have h':i<l.length:=by omega
 rw [aFR h'] at hn;have:=aGG hp hk h' hn;exact⟨this.2,this.1⟩
def aLf {l:List aT}(hp:aC0 l){k i:Nat}(h:(i:Int)<l.length):(afs l (uAt l k) i).length<=1000000/\(iZ (aV l i).2.2 ((abJ l k i).getD i 0).toNat).length<=1000:=by
 have h1:=aFS hp (uAt l k) i w!;have h2:=hp.1;have hd:=(hp.2 _ (GL (show i<l.length by omega))).1;generalize (abJ l k i).getD i 0=z;by_cases hz:z.toNat<(aV l i).2.2.length
 . rw [<-Bc (z7 hd) hz];grind[Vc]
 grind[iZ,List.getElem?_eq_none]
def aJU {l:List aT}{k i:Nat}(hi:i<=l.length)(hi2:¬(i:Int)<l.length)(hk:k<uL l):aca l k++[(uAt l k,afs l (uAt l k) i)]=aca l (k+1)/\abJ l k i=Pg l (k+1):=by
 have :i=l.length:=by omega
 subst this;refine⟨?_,aJJ⟩;rw [aHe];exact aGH hk
def aOF {l:List aT}(hp:aC0 l){k:Nat}(hk:k<=uL l):(aca l k).length<=1048576000:=by
 grind[aHh,aLc,uL]
end Go.S
namespace Go.S
def aLg(l:List aT):List.replicate (Int.toNat ((l.length:Nat):Int)) (0:Int)=l.map (ab7 l 0):=by
 rw [Z!];have :l.map (ab7 l 0)=l.map (λ_=>(0:Int)):=W? λs _=>by simp [ab7]
 grind[List.map_const']
end Go.S
namespace Go.S
def aMk {l:List aT}(hp:aC0 l){k i:Nat}(h:(i:Int)<l.length): -9223372036854775808<=(abJ l k i).getD i 0+1/\(abJ l k i).getD i 0+1<=9223372036854775807:=by
 have h1:=aJS (k:=k) h;have h2:=(hp.2 _ (GL (show i<l.length by omega))).2;omega
end Go.S
namespace Go.S
def aNf {l:List aT}(h:(l.length:Int)=0):ø l=((0,0,[]),1):=by simp_all[ø,R!]
def aJV {l:List aT}{k:Nat}(h:(k:Int)<l.length)(h2:ta (aV l k)=false):ø l=((0,0,[]),1):=by
 unfold ø;grind[GL]
theorem aLh {l:List aT}(hp:agM l)(h:¬(l.length:Int)=0):aDb l 0:=⟨T! _,w!,hp,λi hi=>by omega⟩
def aLi {l:List aT}{k:Nat}(h:aDb l k)(h1:(k:Int)<l.length)(h2:ta (aV l k)=true):aDb l (k+1):=
 ⟨w!,h.2.1,h.2.2.1,λi hi=>by
   by_cases e:i=k
   . grind
   . exact h.2.2.2 i w!⟩
def aNg {l:List aT}{k:Nat}(h:aDb l k)(h1:¬(k:Int)<l.length):l.all ta=true:=by
 rw [List.all_eq_true];intro s hs;obtain⟨j,hj,rfl⟩:=List.mem_iff_getElem.1 hs;have:=h.2.2.2 j w!;grind[aV,List.getElem?_eq_getElem]
def aLj {l:List aT}{k:Nat}(h:aDb l k)(h1:¬(k:Int)<l.length):aDm l 0:=⟨by have:=h.2.1;omega,h.2.2.1,aNg h h1,λi hi=>by omega⟩
def aLk {l:List aT}{k:Nat}(h:aDm l k)(h1:(k:Int)+1<l.length)(h2:(aV l ((k:Int)+1).toNat).1=(aV l ((k:Int)+1-1).toNat).2.1):aDm l (k+1):=
 ⟨w!,h.2.1,h.2.2.1,λi hi=>by
   by_cases e:i=k
   . simp_all[agL,J!]
   . exact h.2.2.2 i w!⟩
def aJW {l:List aT}{k:Nat}(h:aDm l k)(h1:(k:Int)+1<l.length)(h2:¬(aV l ((k:Int)+1).toNat).1=(aV l ((k:Int)+1-1).toNat).2.1):ø l=((0,0,[]),7):=by
 unfold ø;rw [if_neg w!,if_neg (by rw [h.2.2.1];simp),if_pos];rw [<-Bool.not_eq_true,R6,List.all_eq_true];intro hc;have:=hc k (List.mem_range.2 w!);simp_all[agL,decide_eq_true_eq]
theorem aHk {l:List aT}{k:Nat}(h:aDm l k)(h1:¬(k:Int)+1<l.length):ø l=(((aV l 0).1,(aV l ((l.length:Int)-1).toNat).2.1,R5 l),0):=by
 have h0:=h.1;unfold ø;rw [if_neg w!,if_neg (by rw [h.2.2.1];simp),if_neg,show((l.length:Int)-1).toNat=l.length-1 by omega];rw [Bool.not_eq_false,R6,List.all_eq_true];intro i hi;exact h.2.2.2 i x!
theorem agW {s:aT}(h:ta s=true):aY s.2.2=true:=by
 simp_all[ta,ec,B!]
def aNh {l:List aT}{k:Nat}(h:aDm l k):aC0 l:=by
 refine⟨h.2.1.1,λs hs=>⟨agW (X!.1 h.2.2.1 s hs),?_⟩⟩;exact(h.2.1.2 s hs).1
theorem n_0(l:List Sp):aBJ l 0:=⟨.inr rfl,by rfl⟩
def aMl {l:List Sp}{k:Nat}(h:aBJ l k)(h1:0<=((len l:Nat):Int)-2-k):(((len l:Nat):Int)-2-k).toNat=l.length-2-k/\(((len l:Nat):Int)-2-k+1).toNat=l.length-2-k+1/\k+2<=l.length:=by
 grind[len]
def aJX {l:List Sp}{k:Nat}(h:aBJ l k)(h1:0<=((len l:Nat):Int)-2-k)
  (h2:avj (kU l (((len l:Nat):Int)-2-k).toNat).1 (kU l (((len l:Nat):Int)-2-k).toNat).2<=avj (kU l (((len l:Nat):Int)-2-k+1).toNat).1 (kU l (((len l:Nat):Int)-2-k+1).toNat).2):
  xD l=(((len l:Nat):Int)-2-k,true):=by
 obtain⟨e1,e2,e3⟩:=aMl h h1;rw [e1,e2] at h2;rw [h.2,show l.length-1-k=(l.length-2-k)+1 by omega];simp [GM];rw [if_pos (show agO l (l.length-2-k)<=agO l (l.length-2-k+1) from h2)];grind
theorem aOG {l:List Sp}{k:Nat}(h:aBJ l k)(h1:0<=((len l:Nat):Int)-2-k)
  (h2:¬avj (kU l (((len l:Nat):Int)-2-k).toNat).1 (kU l (((len l:Nat):Int)-2-k).toNat).2<=avj (kU l (((len l:Nat):Int)-2-k+1).toNat).1 (kU l (((len l:Nat):Int)-2-k+1).toNat).2):
  aBJ l (k+1):=by
 obtain⟨e1,e2,e3⟩:=aMl h h1;rw [e1,e2] at h2;refine⟨.inl w!,?_⟩;rw [h.2,show l.length-1-k=(l.length-2-k)+1 by omega];simp [GM];rw [Q! (show ¬agO l (l.length-2-k)<=agO l (l.length-2-k+1) from h2),show l.length-1-(k+1)=l.length-2-k by omega]
theorem aNi {l:List Sp}{k:Nat}(h:aBJ l k)(h1:¬0<=((len l:Nat):Int)-2-k):xD l=(0,false):=by
 simp [len] at h1;rw [h.2,show l.length-1-k=0 by omega];rfl
def aGK {l:List aT}{k:Nat}(h:(k:Int)<l.length):aAs l k++[((aV l k).1,(aV l k).2.1)]=aAs l (k+1):=by
 simp only [aAs,eY];rw [ax l k (0,0,[]) w!,u?];rfl
theorem aHl {l:List aT}{k:Nat}(h:¬(k:Int)<l.length):aAs l k=eY l:=by
 grind[aAs,List.take_of_length_le]
theorem aGx(l:List aT)(k:Nat):(aAs l k).length<=l.length:=by grind[aAs,eY]
end Go.S

end
section
namespace Go.S
def agX {α:Type}{a b:List α}(h:(a.length:Int)=b.length):a.length=b.length/\a.take 0=b.take 0/\0<=a.length:=⟨w!,z!,T! _⟩
def PN {α:Type}{a b:List α}(z:α){k:Nat}(h:a.length=b.length/\a.take k=b.take k/\k<=a.length)(hk:(k:Int)<a.length)(he:a.getD k z=b.getD k z):a.length=b.length/\a.take (k+1)=b.take (k+1)/\k+1<=a.length:=by
 grind[ax]
def Vm {α:Type}{a b:List α}{k:Nat}(h:a.length=b.length/\a.take k=b.take k/\k<=a.length)(hk:¬(k:Int)<a.length):a=b:=by
 grind
def Vn {α:Type}{a b:List α}(h:¬(a.length:Int)=b.length):¬a=b:=λe=>h (by rw [e])
def Vo {α:Type}{a b:List α}(z:α){k:Nat}(h:¬a.getD k z=b.getD k z):¬a=b:=λe=>h (by rw [e])
def aA9 {docs:List B8}{l:List aT}(h:1000<(docs.length:Int)\/64<(l.length:Int)):false=bD docs l:=by
 symm
 rw [<-Bool.not_eq_true];intro hc;obtain⟨h1,h2,_⟩:=JA.1 hc;simp [eb,B!,J!] at h1;omega
def aBa {docs:List B8}{l:List aT}{k:Nat}(hk:(k:Int)<docs.length)(h:2000<((docs.getD k []).length:Int)):false=bD docs l:=by
 grind[JA,acV]
def agY {docs:List B8}{l:List aT}{k:Nat}(h:L0 docs l k)(hk:¬(k:Int)<docs.length):z8 docs l 0:=by
 refine⟨?_,h.2.1,λi hi=>by omega,T! _⟩;have h1:=h.1;simp only [eb,B!,J!];exact⟨acW h.2.2 hk,w!,w!,w!,w!⟩
def û {docs:List B8}{l:List aT}{k:Nat}(hk:(k:Int)<l.length)(h:mj docs l k=false):false=bD docs l:=by
 symm
 rw [<-Bool.not_eq_true];intro hc;simp_all[bD,B!,X!,s?]
def agZ {docs:List B8}{l:List aT}{k:Nat}(h:z8 docs l k)(hk:(k:Int)<l.length)(h1:mj docs l k=true):z8 docs l (k+1):=
 ⟨h.1,h.2.1,λi hi=>by
   by_cases e:i=k
   . grind
   . exact h.2.2.1 i w!,w!⟩
theorem amb {docs:List B8}{l:List aT}{k:Nat}(h:z8 docs l k)(hk:¬(k:Int)<l.length):true=bD docs l:=by
 have h2:=h.2.1;simp [bD,B!,X!,s?,J!];exact⟨h.1,w!,λi hi=>h.2.2.1 i w!⟩
def aBb {docs:List B8}{l:List aT}{k:Nat}(h:¬(aV l k).1=gi l k\/(aV l k).2.1<=gi l k\/(docs.length:Int)<(aV l k).2.1):mj docs l k=false:=by
 rw [<-Bool.not_eq_true];intro hc;simp [mj,B!,J!] at hc;obtain⟨h1,h2,_⟩:=hc;have:=qf h2;omega
def asT {docs:List B8}{l:List aT}{k:Nat}(hk:z8 docs l k)(h:(aV l k).1=gi l k/\¬(aV l k).2.1<=gi l k/\¬(docs.length:Int)<(aV l k).2.1):
  iJ docs (aV l k).1 (aV l k).2.1=true:=by
 refine wv hk.1 ?_ w! w!
 have :∀i,i<=k->0<=gi l i:=by
  intro i hi;unfold gi;split
  . omega
  . have:=hk.2.2.1 (i-1) w!;simp [mj,B!,J!] at this;have:=qf this.2.1;omega
 grind
def aBc {docs:List B8}{l:List aT}{k:Nat}(hk:z8 docs l k)(h:(aV l k).1=gi l k/\¬(aV l k).2.1<=gi l k/\¬(docs.length:Int)<(aV l k).2.1)
  (h2:¬(b8 docs (aV l k).1 (aV l k).2.1).2=0\/re (b8 docs (aV l k).1 (aV l k).2.1).1.2.2 (aV l k).2.2=false):mj docs l k=false:=by
 have hf:=asT hk h;have hb:b8 docs (aV l k).1 (aV l k).2.1=(((aV l k).1,(aV l k).2.1,make docs (aV l k).1 (aV l k).2.1),0):=by grind[b8]
 rw [hb] at h2;rcases h2 with h2|h2
 . omega
 . simp [re,j?] at h2;rw [<-Bool.not_eq_true];intro hc;simp_all[mj,B!,J!]
def aBd {docs:List B8}{l:List aT}{k:Nat}(hk:z8 docs l k)(h:(aV l k).1=gi l k/\¬(aV l k).2.1<=gi l k/\¬(docs.length:Int)<(aV l k).2.1)
  (h2:(b8 docs (aV l k).1 (aV l k).2.1).2=0/\re (b8 docs (aV l k).1 (aV l k).2.1).1.2.2 (aV l k).2.2=true):mj docs l k=true:=by
 have hf:=asT hk h;simp_all[b8,aV,make,re,J!,mj,B!]
def ac9(l:List aT)(k:Nat):(aV l k).2.1=gi l (k+1):=by rfl
theorem ag0 {docs:List B8}{l:List aT}(h:bD docs l=false):ak docs l=([],[]):=by grind[ak]
def avl {l:List aT}(h:(l.length:Int)=0):0=cz l:=by simp_all[cz,gi,R!]
def avn {l:List aT}(h:¬(l.length:Int)=0):(aV l ((l.length:Int)-1).toNat).2.1=cz l:=by
 simp_all[cz,gi,Q!]
theorem ü {α:Type}(z:α)(l:List α):List.replicate (Int.toNat ((l.length:Nat):Int)) z=dG z l 0:=by rfl
def Be {α:Type}(z:α){l:List α}{k:Nat}(h:(k:Int)<l.length):(k:Int)<(dG z l k).length/\k<(dG z l k).length:=by
 grind[dG,List.length_append,List.length_take,List.length_replicate]
def X1 {α:Type}(z:α){l:List α}{k:Nat}(h:k<=l.length):(dG z l k).length=l.length:=by
 grind[dG,List.length_append,List.length_take,List.length_replicate]
def Vp {α:Type}(z:α){l:List α}{k:Nat}(h:(k:Int)<l.length):(dG z l k).set k (l.getD k z)=dG z l (k+1):=by
 have e:l.length-k=(l.length-(k+1))+1:=by omega
 grind[dG,ax,List.set_append_right,List.length_take,min,List.append_assoc]
theorem ada {α:Type}(z:α){l:List α}{k:Nat}(h:¬(k:Int)<l.length):dG z l k=l:=by
 simp_all[dG,l?]
def avo {x:List aT}{k:Nat}(h:(k:Int)<x.length):uv x ((dG (0,0,[]) x k).set k ((aV x k).1,(aV x k).2.1,[])) k 0:=by
 have hl:=X1 ((0,0,[]):aT) (l:=x) (k:=k) w!;refine⟨w!,Nat.zero_le _,x!,λd=>?_⟩;grind[aV,dG,set,List.getElem?_set_self,List.set_set]
def ag1 {x r:List aT}{i j:Nat}(h:uv x r i j):r.set i ((aV r i).1,(aV r i).2.1,(aV x i).2.2)=dG (0,0,[]) x (i+1):=by
 rw [h.2.2.2];exact Vp ((0,0,[]):aT) (l:=x) (k:=i) (by have:=h.1;omega)
def Vq {docs:List B8}{l:List aT}(h:uu docs l)(k:Nat):small (docs.getD k []):=by
 by_cases hk:k<docs.length
 . exact h.2.2.1 _ (bA docs k [] hk)
 grind[List.getElem?_eq_none,small]
def C7 {docs:List B8}{l:List aT}(h:uu docs l)(k:Nat):small (aV l k).2.2/\∀j,small ((aV l k).2.2.getD j ([],[])).2:=by
 by_cases hk:k<l.length
 . have h1:=h.2.2.2 _ (GL hk);grind[aV,bA,List.getElem?_eq_none,small]
 simp_all[aV,F!,List.getElem?_eq_none,small]
def AM {α:Type}(z:α)(l:List α)(j:Nat):l.set j (l.getD j z)=l:=by
 apply List.ext_getElem?;grind
end Go.S
namespace Go.S
def amc {a b:cb}(h:Ab a.1 a.2 b.1 b.2=true):a=b:=by
 simp [Ab,Bool.and_eq_true,decide_eq_true_eq] at h;grind
def amd {a b:cb}(h:Ab a.1 a.2 b.1 b.2=false):¬a=b:=by
 grind[Ab]
theorem adb {α:Type}{l:List α}{k:Nat}(h:small l)(hk:(k:Int)<l.length):(k:Int)+1<=9223372036854775807:=by grind[small]
def ade {x r:List aT}{i j:Nat}(h:uv x r i j)(hj:(j:Int)<((aV x i).2.2.length:Int)):uv x r i (j+1):=⟨h.1,w!,h.2.2⟩
def adf {x:List aT}{i j:Nat}(hj:(j:Int)<((aV x i).2.2.length:Int)):al (rB x i) (j+1)<al (rB x i) j:=by
 grind[al,rB]
end Go.S
namespace Go.S
theorem adg {d:List cb}(h:aY d=true):∀e∈d,e.2.length<=1000:=by
 intro e he;obtain⟨j,hj,rfl⟩:=List.mem_iff_getElem.1 he;have h1:=Bc (z7 h) hj;grind[Vc,fh,iZ,List.getElem?_eq_getElem]
theorem RI.seg {docs:List B8}{l:List aT}{S:List Sp}(h:RI docs l S):∀s∈l,ta s=true/\bh s.2.2/\s=(s.1,s.2.1,make docs s.1 s.2.1)/\iJ docs s.1 s.2.1=true:=by
 intro s hs;rw [h.eq] at hs;have h1:=Iw h.row s hs;simp only [bC,List.mem_map] at hs;obtain⟨p,hp,rfl⟩:=hs;have hf:=sd h.row p hp;grind[Vf]
theorem RI.small {docs:List B8}{l:List aT}{S:List Sp}(h:RI docs l S):uu docs l:=by
 have hb:=h.bd;have hle:=h.le;refine⟨w!,w!,λb hb=>?_,λs hs=>?_⟩
 . have:=h.fair;simp [eb,Bool.and_eq_true,List.all_eq_true,decide_eq_true_eq] at this;grind[Go.S.small]
 . obtain⟨h1,h2,_⟩:=h.seg s hs;refine⟨by have:=h2.1;grind[Go.S.small],λe he=>?_⟩;grind[adg,agW,Go.S.small]
theorem Iz(docs:List B8)(l:List aT):uu (ak docs l).1 (ak docs l).2:=(qU docs l).small
theorem wx(docs:List B8)(l:List aT):(ak docs l).1.length<=1000/\(ak docs l).2.length<=64/\0<=cz (ak docs l).2/\cz (ak docs l).2<=(ak docs l).1.length:=by
 have h:=qU docs l;have hb:=h.bd;have hle:=h.le;omega
def PO(docs:List B8)(l:List aT){k:Nat}(hk:k<(ak docs l).2.length):ta (aV (ak docs l).2 k)=true/\bh (aV (ak docs l).2 k).2.2:=
 have h:=(qU docs l).seg _ (GL hk)
 ⟨h.1,h.2.1⟩
def aBe {docs:List B8}{l:List aT}{d:B8}(h:(2000:Int)<d.length):cA docs l d=(ak docs l,1):=by simp_all[cA,R!]
def aBf {docs:List B8}{l:List aT}{d:B8}(h:¬(2000:Int)<d.length)(h1:(1000:Int)<=(ak docs l).1.length):cA docs l d=(ak docs l,3):=by simp_all[cA,Q!,R!]
theorem asU {docs:List B8}{l:List aT}{d:B8}(h:¬(2000:Int)<d.length)(h1:¬(1000:Int)<=(ak docs l).1.length):cA docs l d=(((ak docs l).1++[d],(ak docs l).2),0):=by simp_all[cA,Q!]
def aBg {docs:List B8}{l:List aT}(h:cz (ak docs l).2=((ak docs l).1.length:Int)):bV docs l=(ak docs l,5):=by simp_all[bV,kW,R!]
def aBh {docs:List B8}{l:List aT}(h:¬cz (ak docs l).2=((ak docs l).1.length:Int))(h1:(64:Int)<=(ak docs l).2.length):bV docs l=(ak docs l,3):=by simp_all[bV,kW,Q!,R!]
theorem asV {docs:List B8}{l:List aT}(h:¬cz (ak docs l).2=((ak docs l).1.length:Int)):
  b8 (ak docs l).1 (cz (ak docs l).2) ((ak docs l).1.length:Nat)=((cz (ak docs l).2,((ak docs l).1.length:Int),make (ak docs l).1 (cz (ak docs l).2) ((ak docs l).1.length:Nat)),0):=by
 have hb:=wx docs l;have hf:=wv (qU docs l).fair hb.2.2.1 (by omega :cz (ak docs l).2<((ak docs l).1.length:Int)) (Int.le_refl _);grind[b8]
theorem aBi {docs:List B8}{l:List aT}(h:¬cz (ak docs l).2=((ak docs l).1.length:Int))(h1:¬(64:Int)<=(ak docs l).2.length):
  bV docs l=(((ak docs l).1,(ak docs l).2++[(b8 (ak docs l).1 (cz (ak docs l).2) ((ak docs l).1.length:Nat)).1]),0):=by
 simp_all[asV,bV,kW,Q!]
def aMm {l:List aT}{i m:Int}(h:¬m<2/\¬i<0/\¬(l.length:Int)<m/\¬(l.length:Int)-m<i):PK l i m=false/\(i+m).toNat-i.toNat=m.toNat/\i.toNat+m.toNat<=l.length/\0<m.toNat:=by
 grind[PK,Bool.or_eq_false_iff,decide_eq_false_iff_not]
theorem aOH {docs:List B8}{l:List aT}{i m:Int}(h:m<2\/i<0\/((ak docs l).2.length:Int)<m\/((ak docs l).2.length:Int)-m<i):Bd docs l i m=(ak docs l,1):=by
 have :PK (ak docs l).2 i m=true:=by
  simp_all[PK,e?,J!]
 simp_all[Bd,R!]
theorem aHR {docs:List B8}{l:List aT}{i m:Int}(h:¬m<2/\¬i<0/\¬((ak docs l).2.length:Int)<m/\¬((ak docs l).2.length:Int)-m<i):
  agM (((ak docs l).2.take (i+m).toNat).drop i.toNat)/\ø (((ak docs l).2.take (i+m).toNat).drop i.toNat)=(Ca (ak docs l).1 (ak docs l).2 i.toNat m.toNat,0)/\aDA (ak docs l).2 i m:=by
 obtain⟨h1,h2,h3,h4⟩:=aMm h;have hc:=(qU docs l).cut h4 h3;have hb:=wx docs l;rw [List.drop_take,h2];exact⟨hc.2.2.1,hc.2.1,w!,w!,w!,w!⟩
theorem aOI {docs:List B8}{l:List aT}{i m:Int}(h:¬m<2/\¬i<0/\¬((ak docs l).2.length:Int)<m/\¬((ak docs l).2.length:Int)-m<i):
  Bd docs l i m=(((ak docs l).1,LV (ak docs l).2 i.toNat m.toNat (ø (((ak docs l).2.take (i+m).toNat).drop i.toNat)).1),0):=by
 simp_all[aHR,Bd,Q!,aMm]
theorem aOJ(docs:List B8)(l:List aT):aCX docs l (eY (ak docs l).2):=by
 have h:=qU docs l;refine⟨?_,rfl⟩;rw [<-h.eq];exact h
def aOK {docs:List B8}{l:List aT}{L:List Sp}(h:aCX docs l L):small (bC (ak docs l).1 L):=by
 have:=h.1.le;grind[small,kB]
theorem aLl {docs:List B8}{l:List aT}{L:List Sp}(h:aCX docs l L)(h1:(xD (eY (bC (ak docs l).1 L))).2=false):bC (ak docs l).1 L=(wu docs l).2:=by
 rw [vf] at h1;unfold wu;rw [<-h.2,aHi h1]
def aHS {docs:List B8}{l:List aT}{L:List Sp}(h:aCX docs l L)(h1:(xD (eY (bC (ak docs l).1 L))).2=true):
  0<=(xD (eY (bC (ak docs l).1 L))).1/\(xD (eY (bC (ak docs l).1 L))).1+2<=((bC (ak docs l).1 L).length:Int)/\(bC (ak docs l).1 L).length<=64:=by
 have:=h.1.le;rw [kB,vf] at *;have:=agP h1;omega
theorem aJY {docs:List B8}{l:List aT}{L:List Sp}(h:aCX docs l L)(h1:(xD (eY (bC (ak docs l).1 L))).2=true){n:Int}(hn:(xD (eY (bC (ak docs l).1 L))).1=n):
  agM (((bC (ak docs l).1 L).drop n.toNat).take ((n+2).toNat-n.toNat))/\(ø (((bC (ak docs l).1 L).drop n.toNat).take ((n+2).toNat-n.toNat))).2=0/\aDA (bC (ak docs l).1 L) n 2/\
  LV (bC (ak docs l).1 L) n.toNat 2 (ø (((bC (ak docs l).1 L).drop n.toNat).take ((n+2).toNat-n.toNat))).1=bC (ak docs l).1 (Fc L n.toNat)/\aCX docs l (Fc L n.toNat)/\(Fc L n.toNat).length<L.length:=by
 have hb:=aHS h h1;rw [hn] at hb;rw [kB] at hb;have hn':=hn;rw [vf] at h1 hn';have hf:=h.1.aOD (i:=n.toNat) w!;rw [show(n+2).toNat-n.toNat=2 by omega];have hl:=ac7 (l:=L) (i:=n.toNat) w!;refine⟨hf.2.2.2,x!,⟨by grind[kB],hb.1,w!,by grind[kB]⟩,x!,⟨hf.1,?_⟩,w!⟩;rw [<-h.2,<-hn'];exact aGI h1
def ag2 {docs:List B8}{l:List aT}{k:Nat}(h:(k:Int)<(ak docs l).2.length):
  kh docs l k++[(rf (aV (ak docs l).2 k).1 (aV (ak docs l).2 k).2.1 (aV (ak docs l).2 k).2.2).1]=kh docs l (k+1):=by
 have hg:=PO docs l (k:=k) w!;have hr:ec (aV (ak docs l).2 k).1 (aV (ak docs l).2 k).2.1 (aV (ak docs l).2 k).2.2=true:=hg.1;have hk:k<(cL docs l).length:=by grind[cL,List.length_map]
 unfold kh;rw [ax (cL docs l) k (0,0,0,[]) hk];rw [List.getD_eq_getElem?_getD,List.getElem?_eq_getElem hk];simp [cL,List.getElem_map,Option.getD_some,Fe];grind[al9,ak,aV,List.getElem?_eq_getElem,Ba]
theorem amf {docs:List B8}{l:List aT}{k:Nat}(h:¬(k:Int)<(ak docs l).2.length):kh docs l k=cL docs l:=by
 grind[kh,List.take_of_length_le,cL,List.length_map]
def Sa(docs:List B8)(l:List aT)(k:Nat):(kh docs l k).length<=64:=by
 grind[wx,kh,cL,List.length_take,List.length_map]
end Go.S
namespace Go.S
theorem RI.with {docs:List B8}{l:List aT}{L:List Sp}(h:RI docs l L):agV docs L:=by
 have:=h.le;exact⟨w!,λs hs=>sZ (sd h.row s hs)⟩
end Go.S
namespace Go.S
end Go.S

end
section
namespace Go.S
def aOL(l:List rA):aEC l 0:=⟨T! _,T! _⟩
def aJZ {l:List rA}{k:Nat}(h:(k:Int)<l.length/\(k:Int)<40):aEC l (k+1):=⟨w!,w!⟩
theorem aJ0 {x:Vi}{l:List rA}{k:Nat}(h:(2500:Int)<(tf l k).2.2.2.length):mU x l k=mU x l (k+1):=by rw [mU,R! h]
theorem aNj {x:Vi}{l:List rA}{k:Nat}(h:¬(2500:Int)<(tf l k).2.2.2.length):(oa (mU x l k).1 (mU x l k).2 (tf l k).1 (tf l k).2.1 (tf l k).2.2.1 (tf l k).2.2.2).1=mU x l (k+1):=by rw [mU,Q! h]
def aJ1 {x:Vi}{l:List rA}{k:Nat}:
  (bif decide (((tf l k).2.2.2.length:Int)<=2500) then(oa (mU x l k).1 (mU x l k).2 (tf l k).1 (tf l k).2.1 (tf l k).2.2.1 (tf l k).2.2.2).1.1 else(mU x l k).1)=(mU x l (k+1)).1/\
  (bif decide (((tf l k).2.2.2.length:Int)<=2500) then(oa (mU x l k).1 (mU x l k).2 (tf l k).1 (tf l k).2.1 (tf l k).2.2.1 (tf l k).2.2.2).1.2 else(mU x l k).2)=(mU x l (k+1)).2:=by
 grind[decide_eq_false,aJ0,decide_eq_true,aNj]
def aHT {l:List rA}{k:Nat}(h:aEC l k)(h1:¬(k:Int)<l.length\/¬(k:Int)<40):mU ([],[]) l k=eG l/\ur l k=ur l (min l.length 40):=by
 obtain⟨h2,h3⟩:=h;have :k=min l.length 40:=by omega
 subst this;exact⟨rfl,rfl⟩
theorem amg(l:List rA):bD (eG l).1 (eG l).2=true:=R9 l _
def aJ2(l:List rA):RI (eG l).1 (eG l).2 (eY (eG l).2):=RI.of (amg l)
theorem IA {docs:List B8}{l:List aT}(h:bD docs l=true):kW docs l=cz l:=by grind[kW,kY]
def aGj {d:List cb}(h:aY d=true)(t:B8):pc d t=uo t d:=by
 rcases aGD h t with⟨q,hq,he,hb⟩|⟨hb,i,hi,h1,h2⟩
 . obtain⟨g1,g2,g3⟩:=Jy hb;rw [<-g3];have ek:=hb;simp [jN,B!,J!] at ek;have:=Bc (z7 h) (i:=(bp d t).toNat) w!;rw [ek.2] at this;rw [this];rfl
 . rw [<-al7 hb,xC];intro hm;simp only [dT,List.mem_map] at hm;obtain⟨e,he,rfl⟩:=hm;obtain⟨j,hj,rfl⟩:=List.mem_iff_getElem.1 he;grind[fh,List.getElem?_eq_getElem,cJ]
theorem X2 {docs:List B8}{l:List aT}(h:bD docs l=true):pK (cL docs l) (kW docs l)=true:=by
 have R:=RI.of h;have hg:=kY h;have hle:=R.le;have hlen:(cL docs l).length=l.length:=by grind[cL,List.length_map]
 have Cy:=tc l;rw [IA h]
 have hsg:∀i,i<l.length->sg (cL docs l) i=Fe (aV l i):=λi hi=>by
  simp [sg,cL,hg,aV,F!,E?,D! hi,Option.map_some,Option.getD_some]
 have hse:∀i,i<l.length->aV l i=((kU (eY l) i).1,(kU (eY l) i).2,make docs (kU (eY l) i).1 (kU (eY l) i).2):=λi hi=>by
  have:=xF docs (eY l) i w!;rw [<-R.eq] at this;omega
 unfold pK;rw [hlen];by_cases h0:l.length=0
 . have :l=[]:=V! h0;subst this;rfl
 . rw [if_neg h0];have dU:eY l≠ []:=λe=>by grind
   simp;refine⟨λi hi=>?_,w!,?_,?_⟩
   . have hr:=(R.seg _ (GL hi));have hr1:ec (aV l i).1 (aV l i).2.1 (aV l i).2.2=true:=hr.1;simp [zZ,B!,J?,Bool.and_eq_false_iff,j?,Bool.not_eq_false',J!];rw [hsg i hi];refine⟨?_,?_⟩
     . grind[Fe,Ba,agH]
     . by_cases Ro:0<i
       . rw [hsg (i-1) w!];simp [Fe];rw [Ba,Ba,hse i hi,hse (i-1) w!];have:=C6 R.row (i-1) w!;grind
       omega
   . rw [hsg 0 w!];simp [Fe];rw [Ba,hse 0 w!];exact xE R.row dU
   . rw [hsg (l.length-1) w!];simp [Fe];rw [Ba,hse (l.length-1) w!,R.Vj,Fh _ _ dU,Cy]
end Go.S
namespace Go.S
end Go.S
namespace Go.S
def aGL(l:List Int):q9 l l=true:=by simp [q9]
end Go.S

end
section
namespace Go.S
abbrev Hd:=Int×B8×List Sg
def dO(n:Int)(g:B8)(l:List Sg):Bool:=decide (0<=n)&&(decide (n<=1000)&&(decide ((g.length:Int)=32)&&pK l n))
def gC(docs:List B8)(l:List aT):Bool:=bD docs l&&decide (kW docs l=(docs.length:Int))
def iK(docs:List B8)(l:List aT):Hd×Int:=if gC docs l then(((docs.length:Int),root (leaves docs),cL docs l),0) else((0,[],[]),7)
def C8(s:Sg):B8:=num s.2.1++num s.2.2.1++s.2.2.2
def ig(l:List Sg):B8:=l.flatMap C8
def hB(n:Int)(g:B8)(l:List Sg):B8:=num n++g++num l.length++ig l
def hW(n:Int)(g:B8)(l:List Sg):B8×Int:=if dO n g l then(hB n g l,0) else([],1)
def rh(b:B8)(f:Int):Sg×Int×Int:=
 if(first b).2.2≠0 then((0,0,0,[]),0,(first b).2.2)
 else if(first (b.drop (first b).2.1.toNat)).2.2≠0 then((0,0,0,[]),0,(first (b.drop (first b).2.1.toNat)).2.2)
 else if(b.length:Int)<(first b).2.1+(first (b.drop (first b).2.1.toNat)).2.1+32 then((0,0,0,[]),0,4)
 else((f,(first b).1,(first (b.drop (first b).2.1.toNat)).1,(b.drop ((first b).2.1+(first (b.drop (first b).2.1.toNat)).2.1).toNat).take 32),(first b).2.1+(first (b.drop (first b).2.1.toNat)).2.1+32,0)
abbrev Hs:=List Sg×Int×Int×Int
def jG(b:B8)(p:Int):Nat->Hs
 |0=>([],0,p,0)
 |k+1=>if(jG b p k).2.2.2≠0 then jG b p k
  else if(rh (b.drop (jG b p k).2.2.1.toNat) (jG b p k).2.1).2.2≠0 then((jG b p k).1,(jG b p k).2.1,(jG b p k).2.2.1,(rh (b.drop (jG b p k).2.2.1.toNat) (jG b p k).2.1).2.2)
  else((jG b p k).1++[(rh (b.drop (jG b p k).2.2.1.toNat) (jG b p k).2.1).1],(rh (b.drop (jG b p k).2.2.1.toNat) (jG b p k).2.1).1.2.1,(jG b p k).2.2.1+(rh (b.drop (jG b p k).2.2.1.toNat) (jG b p k).2.1).2.1,0)
def C9(b:B8)(n:Int)(g:B8)(s:Hs):Hd×Int:=
 if s.2.2.2≠0 then((0,[],[]),s.2.2.2)
 else if s.2.2.1<b.length\/dO n g s.1=false then((0,[],[]),2)
 else((n,g,s.1),0)
def hR(b:B8):Hd×Int:=
 if(first b).2.2≠0 then((0,[],[]),(first b).2.2)
 else if(b.length:Int)<(first b).2.1+32 then((0,[],[]),4)
 else if(first (b.drop ((first b).2.1+32).toNat)).2.2≠0 then((0,[],[]),(first (b.drop ((first b).2.1+32).toNat)).2.2)
 else if 64<(first (b.drop ((first b).2.1+32).toNat)).1 then((0,[],[]),2)
 else C9 b (first b).1 ((b.drop (first b).2.1.toNat).take 32) (jG b ((first b).2.1+32+(first (b.drop ((first b).2.1+32).toNat)).2.1) (first (b.drop ((first b).2.1+32).toNat)).1.toNat)
def X3(a1:Int)(a2:B8)(a3:List Sg)(b1:Int)(b2:B8)(b3:List Sg):Bool:=decide (a1=b1)&&(decide (a2=b2)&&decide (a3=b3))
def PQ:∀(f v:Nat),v<128^f->1<=f->∃(m:B8) (x:UInt8),pH f v=m++[x]/\(∀y∈m,128<=y.toNat)/\x.toNat<128/\dx (m++[x])=v/\(1<=m.length->x.toNat≠0)
 |0,v,_,h=>by omega
 |f+1,v,h,_=>by
  by_cases hv:v<128
  . have e:(UInt8.ofNat v).toNat=v:=by grind[UInt8.toNat_ofNat']
    refine⟨[],UInt8.ofNat v,by simp_all[pH,if_pos],z!,w!,?_,z!⟩;grind[dx]
  . have hf:f≠0:=by grind
    obtain⟨m,x,h1,h2,h3,h4,h5⟩:=PQ f (v/128) w! w!;have e:(UInt8.ofNat (v%128+128)).toNat=v%128+128:=by grind[UInt8.toNat_ofNat']
    refine⟨UInt8.ofNat (v%128+128)::m,x,?_,?_,h3,?_,λ_=>?_⟩
    . simp_all[pH,Q!]
    . grind
    . grind[dx]
    grind[List.eq_nil_of_length_eq_zero,dx]
theorem Bf {v:Int}(h:0<=v)(h1:v<=4611686018427387904)(r:B8):first (num v++r)=(v,((num v).length:Int),0):=by
 obtain⟨m,x,e,h2,h3,h4,h5⟩:=PQ 9 v.toNat w! w!;have hl:m.length+1<=9:=by grind[Gu]
 have e':num v=m++[x]:=e;have g1:(m++[x]++r).take m.length=m:=by grind
 have g2:(m++[x]++r).getD m.length 0=x:=by
  grind
 have g3:(m++[x]++r).take (m.length+1)=m++[x]:=by grind
 have:=Pe (m++[x]++r) m.length x! z! w! x!;rw [g2,g3,h4] at this;rw [e',this,if_neg]
 . simp;omega
 . rintro(⟨q1,q2⟩|q)
   . exact h5 q1 q2
   . omega
def uw {b:B8}(h:(first b).2.2=0):b=num (first b).1++b.drop (first b).2.1.toNat/\(first b).2.1=((num (first b).1).length:Int):=by
 obtain⟨q1,q2⟩:=XT h;have h0:=mM b;grind[List.take_append_drop,List.length_take]
def GP {a b c:Int}{d:B8}(h:ng a b c d=true):0<=a/\a<b/\b<=1000/\1<=c/\c<=1099511627776/\d.length=32:=by
 simp [ng,kT,B!,J!] at h;omega
theorem qg {l:List Sg}{n:Int}(h:pK l n=true):l.length<=64/\(∀i,i<l.length->ng (sg l i).1 (sg l i).2.1 (sg l i).2.2.1 (sg l i).2.2.2=true)/\(0<l.length->(sg l 0).1=0)/\(∀i,i+1<l.length->(sg l (i+1)).1=(sg l i).2.1):=by
 unfold pK at h;split at h
 . grind
 . simp at h;obtain⟨h1,h2,h3,h4⟩:=h;refine⟨w!,λi hi=>?_,λ_=>h3,λi hi=>?_⟩
   . simp_all[zZ,B!]
   . have:=h1 (i+1) hi;simp_all[zZ,B!,J?,Bool.and_eq_false_iff,j?,Bool.not_eq_false',J!]
theorem ij {n:Int}{g:B8}{l:List Sg}:dO n g l=true↔0<=n/\n<=1000/\g.length=32/\pK l n=true:=by
 simp [dO,Bool.and_eq_true,decide_eq_true_eq];grind
def amj {s:Sg}(h:ng s.1 s.2.1 s.2.2.1 s.2.2.2=true)(r:B8):rh (C8 s++r) s.1=(s,((C8 s).length:Int),0):=by
 have hg:=GP h;have e1:C8 s++r=num s.2.1++(num s.2.2.1++(s.2.2.2++r)):=by simp [C8]
 have f1:=Bf (v:=s.2.1) w! w! (num s.2.2.1++(s.2.2.2++r));have f2:=Bf (v:=s.2.2.1) w! w! (s.2.2.2++r);have d1:(num s.2.1++(num s.2.2.1++(s.2.2.2++r))).drop (((num s.2.1).length:Int)).toNat=num s.2.2.1++(s.2.2.2++r):=by simp_all
 have d2:(num s.2.1++(num s.2.2.1++(s.2.2.2++r))).drop (((num s.2.1).length:Int)+((num s.2.2.1).length:Int)).toNat=s.2.2.2++r:=by
  rw [show(((num s.2.1).length:Int)+((num s.2.2.1).length:Int)).toNat=(num s.2.1).length+(num s.2.2.1).length by omega,<-Y?,List.drop_left,List.drop_left]
 unfold rh;rw [e1,f1];simp only [d1,f2,d2];rw [if_neg z!,if_neg z!,if_neg (by simp;omega),List.take_left' hg.2.2.2.2.2];simp [C8,List.length_append];omega
theorem PR {b:B8}{f:Int}(h:(rh b f).2.2=0):b=C8 (rh b f).1++b.drop (rh b f).2.1.toNat/\(rh b f).2.1=((C8 (rh b f).1).length:Int)/\(rh b f).1.1=f:=by
 unfold rh at h |-;split at h
 . grind
 . rename_i h1;split at h
   . grind
   . rename_i h2;split at h
     . cases h
     . rename_i h3;rw [Q! h1,Q! h2,Q! h3];obtain⟨p1,p2⟩:=uw (b:=b) (Q? h1);obtain⟨q1,q2⟩:=uw (b:=b.drop (first b).2.1.toNat) (Q? h2);generalize hm:(first b).2.1=m at *;generalize hk:(first (b.drop m.toNat)).2.1=k at *;have e1:b.drop (m+k).toNat=(b.drop m.toNat).drop k.toNat:=by rw [Y?];congr 1;omega
       have e2:b.drop (m+k+32).toNat=(b.drop (m+k).toNat).drop 32:=by rw [Y?];congr 1;omega
       have hl:((b.drop (m+k).toNat).take 32).length=32:=by rw [T?,D?];omega
       refine⟨?_,?_,rfl⟩
       . simp only [C8];rw [Y!,Y!,e2,Z?,e1,<-q1];exact p1
       . simp [C8,K!,hl];omega
def ý {l:List Sg}(hg:∀i,i<l.length->ng (sg l i).1 (sg l i).2.1 (sg l i).2.2.1 (sg l i).2.2.2=true)(h0:0<l.length->(sg l 0).1=0)(hc:∀i,i+1<l.length->(sg l (i+1)).1=(sg l i).2.1)(a r:B8):
  ∀k,k<=l.length->jG (a++(ig l++r)) (a.length:Int) k=(l.take k,(if k=0 then 0 else(sg l (k-1)).2.1),((a.length+(ig (l.take k)).length:Nat):Int),0)
 |0,_=>by rfl
 |k+1,hk=>by
  have ih:=ý hg h0 hc a r k w!;have GJ:k<l.length:=by omega
  have et:l.take (k+1)=l.take k++[sg l k]:=ax l k _ GJ
  have ed:l=l.take k++(sg l k::l.drop (k+1)):=by
   have :l.drop k=sg l k::l.drop (k+1):=by
    rw [List.drop_eq_getElem_cons GJ];congr 1;rw [sg,F!,D! GJ];rfl
   rw [<-this];exact(Z? k l).symm
  have es:ig l=ig (l.take k)++(C8 (sg l k)++ig (l.drop (k+1))):=by
   grind[ig,sg]
  have hdr:(a++(ig l++r)).drop ((a.length+(ig (l.take k)).length:Nat):Int).toNat=C8 (sg l k)++(ig (l.drop (k+1))++r):=by
   rw [Z!,es,<-Y?,List.drop_left,Y!,List.drop_left,Y!]
  have hf:(if k=0 then(0:Int) else(sg l (k-1)).2.1)=(sg l k).1:=by
   grind
  have hs:=amj (hg k GJ) (ig (l.drop (k+1))++r);simp only [jG,ih,hdr,hf,hs];rw [Q! z!,Q! z!,Q! w!,et];simp only [Nat.add_sub_cancel,ig,List.flatMap_append,List.flatMap_cons,List.flatMap_nil,F?,K!];congr 3
  omega
theorem X4 {n:Int}{g:B8}{l:List Sg}(h:dO n g l=true):hR (hB n g l)=((n,g,l),0):=by
 obtain⟨h1,h2,h3,h4⟩:=ij.1 h;obtain⟨r1,r2,r3,r4⟩:=qg h4;have e:hB n g l=num n++(g++(num l.length++ig l)):=by simp [hB]
 have f1:=Bf h1 w! (g++(num l.length++ig l));have f2:=Bf (v:=(l.length:Int)) w! w! (ig l);have d1:(num n++(g++(num l.length++ig l))).drop (((num n).length:Int)).toNat=g++(num l.length++ig l):=by rw [Z!,List.drop_left]
 have d2:(num n++(g++(num l.length++ig l))).drop (((num n).length:Int)+32).toNat=num l.length++ig l:=by
  rw [show(((num n).length:Int)+32).toNat=(num n).length+g.length by omega,<-Y?,List.drop_left,List.drop_left]
 have qX:=ý r2 r3 r4 (num n++(g++num l.length)) [] l.length (S! _);have ea:num n++(g++num l.length)++(ig l++[])=num n++(g++(num l.length++ig l)):=by simp
 have el:(((num n++(g++num (l.length:Int))).length:Nat):Int)=((num n).length:Int)+32+((num (l.length:Int)).length:Int):=by simp;omega
 rw [ea,el,List.take_length] at qX;unfold hR;rw [e,f1];simp only [d1,d2,f2];rw [if_neg z!,if_neg (by simp;omega),if_neg z!,if_neg w!,List.take_left' h3,Int.toNat_natCast,qX];unfold C9;rw [if_neg z!,if_neg];rw [h];rintro(q|q)
 . simp at q;omega
 . cases q
def þ {b:B8}{p:Int}(hp:0<=p):∀k,(jG b p k).2.2.2=0->p<=(jG b p k).2.2.1/\b.drop p.toNat=ig (jG b p k).1++b.drop (jG b p k).2.2.1.toNat/\(jG b p k).1.length=k
 |0,_=>by simp [jG,ig]
 |k+1,h=>by
  have ih:=þ (b:=b) hp k;rw [jG] at h |-;generalize jG b p k=s at *;by_cases h1:s.2.2.2=0
  . rw [Q! (λe=>e h1)] at h |-;by_cases h2:(rh (b.drop s.2.2.1.toNat) s.2.1).2.2=0
    . rw [Q! (λe=>e h2)];obtain⟨i1,i2,i3⟩:=ih h1;obtain⟨q1,q2,q3⟩:=PR h2;generalize rh (b.drop s.2.2.1.toNat) s.2.1=g at *;refine⟨by simp;omega,?_,by simp [i3]⟩;have e:b.drop (s.2.2.1+g.2.1).toNat=(b.drop s.2.2.1.toNat).drop g.2.1.toNat:=by rw [Y?];congr 1;omega
      have e2:ig (s.1++[g.1])=ig s.1++C8 g.1:=by simp [ig]
      rw [e,e2,Y!,<-q1];exact i2
    grind
  grind
theorem X5 {b:B8}(h:(hR b).2=0):dO (hR b).1.1 (hR b).1.2.1 (hR b).1.2.2=true/\hB (hR b).1.1 (hR b).1.2.1 (hR b).1.2.2=b:=by
 unfold hR at h |-;split at h
 . omega
 . rename_i h1;split at h
   . cases h
   . rename_i h2;split at h
     . omega
     . rename_i h3;split at h
       . cases h
       . rename_i h4;rw [if_neg h1,if_neg h2,if_neg h3,if_neg h4];unfold C9 at h |-;split at h
         . omega
         . rename_i h5;split at h
           . cases h
           . rename_i h6;rw [Q! h5,Q! h6];obtain⟨p1,p2⟩:=uw (b:=b) (Q? h1);obtain⟨q1,q2⟩:=uw (b:=b.drop ((first b).2.1+32).toNat) (Q? h3);have b1:=mM (b.drop ((first b).2.1+32).toNat);generalize hm:(first b).2.1=m at *;generalize hw:(first (b.drop (m+32).toNat)).1=w at *;generalize hk:(first (b.drop (m+32).toNat)).2.1=k at *;obtain⟨i1,i2,i3⟩:=þ (b:=b) (p:=m+32+k) w! w.toNat (Q? h5);refine⟨?_,?_⟩
             . grind
             . have e0:b.drop (jG b (m+32+k) w.toNat).2.2.1.toNat=[]:=x? w!;rw [e0,F?] at i2;have e1:b.drop (m+32).toNat=(b.drop m.toNat).drop 32:=by rw [Y?];congr 1;omega
               have e2:b.drop (m+32+k).toNat=(b.drop (m+32).toNat).drop k.toNat:=by rw [Y?];congr 1;omega
               simp only [hB];rw [i3,<-i2,show((w.toNat:Nat):Int)=w by omega,e2,Y!,Y!,<-q1,e1,Z?];exact p1.symm
def ag3 {b:B8}(h:(hR b).2≠0):(hR b).1=(0,[],[]):=by
 grind[hR,C9]
theorem X6 {a1:Int}{a2:B8}{a3:List Sg}{b1:Int}{b2:B8}{b3:List Sg}:X3 a1 a2 a3 b1 b2 b3=decide ((a1,a2,a3)=(b1,b2,b3)):=by
 grind[X3,Prod.mk.injEq,Bool.decide_and]
theorem Vr {a b:Hd}(ha:dO a.1 a.2.1 a.2.2=true)(hb:dO b.1 b.2.1 b.2.2=true):(hB a.1 a.2.1 a.2.2=hB b.1 b.2.1 b.2.2)↔a=b:=by
 grind[X4]
end Go.S

end
section
namespace Go.S
def Ac(n:Int)(g:B8)(l:List Sg)(k:Nat):B8:=num n++g++num l.length++ig (l.take k)
def PT(n:Int)(g:B8)(l:List Sg)(k:Nat):Prop:=dO n g l=true/\k<=l.length
def rV(b:B8)(a e f:Int):(Int×Int)×Sg:=
 (((an b (af b (af b a e).1.2.1 (af b a e).1.2.2).1.2.1 (af b (af b a e).1.2.1 (af b a e).1.2.2).1.2.2).1.2.1,
   (an b (af b (af b a e).1.2.1 (af b a e).1.2.2).1.2.1 (af b (af b a e).1.2.1 (af b a e).1.2.2).1.2.2).1.2.2),
  f,(af b a e).2,(af b (af b a e).1.2.1 (af b a e).1.2.2).2,
  (an b (af b (af b a e).1.2.1 (af b a e).1.2.2).1.2.1 (af b (af b a e).1.2.1 (af b a e).1.2.2).1.2.2).2)
abbrev Ps:=(Int×Int)×Int×List Sg
def pd(b:B8)(a e:Int):Nat->Ps
 |0=>((a,e),0,[])
 |k+1=>((rV b (pd b a e k).1.1 (pd b a e k).1.2 (pd b a e k).2.1).1,(rV b (pd b a e k).1.1 (pd b a e k).1.2 (pd b a e k).2.1).2.2.1,
   (pd b a e k).2.2++[(rV b (pd b a e k).1.1 (pd b a e k).1.2 (pd b a e k).2.1).2])
def gn(b:B8):(Int×B8×Int)×Int×Int:=
 (((af b 0 0).2,(an b (af b 0 0).1.2.1 (af b 0 0).1.2.2).2,
   (af b (an b (af b 0 0).1.2.1 (af b 0 0).1.2.2).1.2.1 (an b (af b 0 0).1.2.1 (af b 0 0).1.2.2).1.2.2).2),
  (af b (an b (af b 0 0).1.2.1 (af b 0 0).1.2.2).1.2.1 (an b (af b 0 0).1.2.1 (af b 0 0).1.2.2).1.2.2).1.2.1,
  (af b (an b (af b 0 0).1.2.1 (af b 0 0).1.2.2).1.2.1 (an b (af b 0 0).1.2.1 (af b 0 0).1.2.2).1.2.2).1.2.2)
def iL(b:B8)(k:Nat):Ps:=pd b (gn b).2.1 (gn b).2.2 k
def pN(b:B8):Nat:=(gn b).1.2.2.toNat
theorem JB(b:B8)(a e:Int):(af b a e).1.1=b/\(an b a e).1.1=b:=by
 grind[af,an]
def Vs {b:B8}{a e:Int}(h:e≠0):bU b a e=e:=by simp_all[bU,Q!]
theorem Fl {b:B8}{a:Int}(h:0<=a)(h1:a<=b.length):bU b a 0=0:=by
 simp_all[bU,Q!,inside,Bool.and_eq_false_iff,j?]
theorem ÿ {b:B8}{a e:Int}(h:e≠0):af b a e=((b,a,e),0):=by
 simp_all[af,Vs,R!]
theorem Ā {b:B8}{a e:Int}(h:e≠0):an b a e=((b,a,e),[]):=by
 simp_all[an,Vs,R!]
theorem GQ {b:B8}{a:Int}(h:0<=a)(h1:a<=b.length)(h2:(first (b.drop a.toNat)).2.2=0):af b a 0=((b,a+(first (b.drop a.toNat)).2.1,0),(first (b.drop a.toNat)).1):=by
 have e:(aD b a).2.2=0:=h2;unfold af;rw [Fl h h1,if_neg (λq=>q rfl),if_neg (λq=>q e)];simp_all[aD,Pc,if_true]
theorem Sb {b:B8}{a:Int}(h:0<=a)(h1:a<=b.length)(h2:(first (b.drop a.toNat)).2.2≠0):af b a 0=((b,a,(first (b.drop a.toNat)).2.2),0):=by
 have e:(aD b a).2.2≠0:=h2;unfold af;rw [Fl h h1,if_neg (λq=>q rfl),if_pos e];rfl
def ag4 {b:B8}{a:Int}(h:0<=a)(h1:a+32<=b.length):an b a 0=((b,a+32,0),(b.drop a.toNat).take 32):=by
 unfold an;rw [Fl h w!,if_neg (λq=>q rfl),if_neg w!]
theorem ag5 {b:B8}{a:Int}(h:0<=a)(h1:a<=b.length)(h2:(b.length:Int)<a+32):an b a 0=((b,a,4),[]):=by
 unfold an;rw [Fl h h1,if_neg (λq=>q rfl),if_pos w!]
def ag6 {b:B8}{a e f:Int}(h:e≠0):(rV b a e f).1=(a,e):=by
 grind[rV,ÿ,Ā]
def amk {b:B8}{a f:Int}(h:0<=a)(h1:a<=b.length)(h2:(rh (b.drop a.toNat) f).2.2=0):
  rV b a 0 f=((a+(rh (b.drop a.toNat) f).2.1,0),(rh (b.drop a.toNat) f).1)/\a+(rh (b.drop a.toNat) f).2.1<=b.length:=by
 unfold rh at h2 |-;split at h2
 . grind
 . rename_i q1;split at h2
   . grind
   . rename_i q2;split at h2
     . grind
     . rename_i q3;rw [Q! q1,Q! q2,Q! q3];have q1':=Q? q1;have q2':=Q? q2;have b0:=mM (b.drop a.toNat);have b1:=mM ((b.drop a.toNat).drop (first (b.drop a.toNat)).2.1.toNat);have r1:=GQ h h1 q1';rw [D?] at q3;generalize hn:(first (b.drop a.toNat)).2.1=n at *;have ed:(b.drop a.toNat).drop n.toNat=b.drop (a+n).toNat:=by rw [Y?];congr 1;omega
       rw [ed] at q2' b1 q3 |-;have r2:=GQ (b:=b) (a:=a+n) w! w! q2';generalize hm:(first (b.drop (a+n).toNat)).2.1=m at *;have ed2:(b.drop a.toNat).drop (n+m).toNat=b.drop (a+n+m).toNat:=by rw [Y?];congr 1;omega
       have r3:=ag4 (b:=b) (a:=a+n+m) w! w!;unfold rV;simp only [r1,r2,r3,ed2];refine⟨?_,w!⟩;congr 2
       omega
def aml {b:B8}{a f:Int}(h:0<=a)(h1:a<=b.length)(h2:(rh (b.drop a.toNat) f).2.2≠0):(rV b a 0 f).1.2=(rh (b.drop a.toNat) f).2.2:=by
 unfold rh at h2 |-;by_cases q1:(first (b.drop a.toNat)).2.2=0
 . have b0:=mM (b.drop a.toNat);have r1:=GQ h h1 q1;generalize hn:(first (b.drop a.toNat)).2.1=n at *;have ed:(b.drop a.toNat).drop n.toNat=b.drop (a+n).toNat:=by grind[List.drop_drop]
   rw [ed] at h2 |-;have hb:a+n<=b.length:=by grind
   by_cases q2:(first (b.drop (a+n).toNat)).2.2=0
   . have b1:=mM (b.drop (a+n).toNat);have r2:=GQ (b:=b) (a:=a+n) w! hb q2;generalize hm:(first (b.drop (a+n).toNat)).2.1=m at *;by_cases q3:((b.drop a.toNat).length:Int)<n+m+32
     . grind[List.length_drop,ag5,rV]
     grind
   . grind[Sb,Ā,rV]
 simp_all[R!,Sb,ÿ,Ā,rV]
def GR {b:B8}{p:Int}(hp:0<=p)(Q5:p<=b.length):∀k,((jG b p k).2.2.2=0->pd b p 0 k=(((jG b p k).2.2.1,0),(jG b p k).2.1,(jG b p k).1)/\0<=(jG b p k).2.2.1/\(jG b p k).2.2.1<=b.length)/\((jG b p k).2.2.2≠0->(pd b p 0 k).1.2=(jG b p k).2.2.2)
 |0=>⟨λ_=>⟨rfl,hp,Q5⟩,λh=>absurd rfl h⟩
 |k+1=>by
  obtain⟨i1,i2⟩:=GR (b:=b) hp Q5 k;rw [jG,pd];generalize jG b p k=s at *;generalize pd b p 0 k=t at *;by_cases h1:s.2.2.2=0
  . obtain⟨rfl,j1,j2⟩:=i1 h1;by_cases h2:(rh (b.drop s.2.2.1.toNat) s.2.1).2.2=0
    . obtain⟨g1,g2⟩:=amk j1 j2 h2;have g3:=(PR h2).2.1;grind
    simp_all[R!,absurd,aml]
  simp_all[R!,ag6]
def Vt(b:B8)(a e:Int):∀k,(pd b a e k).2.2.length=k
 |0=>rfl
 |k+1=>by simp [pd,K!,W!,Vt b a e k]
def L1 {b:B8}{a e:Int}(h:e≠0):∀k,(pd b a e k).1=(a,e)
 |0=>rfl
 |k+1=>by simp only [pd,L1 h k];exact ag6 h
theorem Da(b:B8):
  ((gn b).2.2≠0/\(gn b).1.2.2=0/\hR b=((0,[],[]),(gn b).2.2))\/
  ((gn b).2.2=0/\0<=(gn b).2.1/\(gn b).2.1<=b.length/\0<=(gn b).1.2.2/\hR b=if 64<(gn b).1.2.2 then((0,[],[]),2) else C9 b (gn b).1.1 (gn b).1.2.1 (jG b (gn b).2.1 (gn b).1.2.2.toNat)):=by
 have b0:=mM b;unfold hR;by_cases q1:(first b).2.2=0
 . have r1:=GQ (b:=b) (a:=0) (P? _) (Int.natCast_nonneg _) q1;generalize hn:(first b).2.1=n at *;by_cases q2:(b.length:Int)<n+32
   . simp_all[R!,ag5,ÿ,gn,trivial]
   . rw [Q! q2];have r2:=ag4 (b:=b) (a:=n) w! w!;have b1:=mM (b.drop (n+32).toNat);by_cases q3:(first (b.drop (n+32).toNat)).2.2=0
     . grind[GQ,gn]
     . have r3:=Sb (b:=b) (a:=n+32) w! w! q3;simp_all[gn,trivial]
 . simp_all[Sb,P?,Int.natCast_nonneg,Ā,ÿ,gn,trivial]
def Vu {b:B8}(h:64<(gn b).1.2.2):hR b=((0,[],[]),2):=by
 grind[Da]
theorem ag7 {b:B8}(h:¬64<(gn b).1.2.2)(h0:done b (iL b (pN b)).1.1 (iL b (pN b)).1.2≠0):hR b=((0,[],[]),done b (iL b (pN b)).1.1 (iL b (pN b)).1.2):=by
 unfold iL pN at *;rcases Da b with⟨h1,h2,h3⟩|⟨h1,h2,h3,h4,h5⟩
 . simp_all[L1,done,R!]
 . rw [h5,if_neg h];obtain⟨l1,l2⟩:=GR h2 h3 (gn b).1.2.2.toNat;generalize jG b (gn b).2.1 (gn b).1.2.2.toNat=s at *;unfold C9;by_cases h6:s.2.2.2=0
   . simp_all[Q!,inside,B!,J!,done]
   simp_all[R!,done]
def ā {b:B8}(h:¬64<(gn b).1.2.2)(h0:done b (iL b (pN b)).1.1 (iL b (pN b)).1.2=0):
  hR b=if dO (gn b).1.1 (gn b).1.2.1 (iL b (pN b)).2.2 then(((gn b).1.1,(gn b).1.2.1,(iL b (pN b)).2.2),0) else((0,[],[]),2):=by
 unfold iL pN at *;rcases Da b with⟨h1,h2,h3⟩|⟨h1,h2,h3,h4,h5⟩
 . simp_all[L1,done,R!,absurd]
 . rw [h5,if_neg h];obtain⟨l1,l2⟩:=GR h2 h3 (gn b).1.2.2.toNat;generalize jG b (gn b).2.1 (gn b).1.2.2.toNat=s at *;unfold C9;by_cases h6:s.2.2.2=0
   . grind[done]
   simp_all[done,R!,absurd]
end Go.S

end
section
namespace Go.S
def abH(l m:List rA):Nat->Vi
 |0=>([],[])
 |k+1=>if(k:Int)<m.length/\(tf m k).1≠0 then
   (oa (cA (abH l m k).1 (abH l m k).2 ((eG l).1.getD k [])).1.1 (cA (abH l m k).1 (abH l m k).2 ((eG l).1.getD k [])).1.2 (tf m k).1 (tf m k).2.1 (tf m k).2.2.1 (tf m k).2.2.2).1
  else(cA (abH l m k).1 (abH l m k).2 ((eG l).1.getD k [])).1
def aDN(l:List rA)(k:Nat):Prop:=k<=(eG l).1.length
end Go.S

end
section
namespace Go.S
theorem amm(n:Int)(g:B8)(l:List Sg):(bif decide (0<=n) then bif decide (n<=1000) then bif decide ((g.length:Int)=32) then pK l n else false else false else false)=dO n g l:=by
 grind[dO,decide]
def amn {docs:List B8}{l:List aT}(h:bD docs l=false\/¬kW docs l=(docs.length:Int)):iK docs l=((0,[],[]),7):=by
 grind[gC,iK]
theorem Vv {docs:List B8}{l:List aT}(h:bD docs l=true/\kW docs l=(docs.length:Int)):iK docs l=(((docs.length:Int),root (leaves docs),cL docs l),0):=by
 simp_all[gC,H?,iK,R!]
theorem L2 {docs:List B8}{l:List aT}(h:bD docs l=true):kQ docs/\small (leaves docs):=by
 have R:=RI.of h;have hb:=R.bd;refine⟨⟨w!,λb hb=>?_⟩,?_⟩
 . have:=R.fair;simp [eb,Bool.and_eq_true,List.all_eq_true,decide_eq_true_eq] at this;grind
 grind[small,leaves,List.length_map]
theorem Vw(docs:List B8):ae2 (leaves docs)=0/\sU (leaves docs)=root (leaves docs):=by
 grind[ae2,sU,rU]
theorem asW {v:Int}(h:fD v=false)(l:B8):v7 v=0/\lh l v=l++num v:=by grind[v7,lh]
theorem L3 {v:Int}(h:0<=v)(h1:v<=1099511627776):fD v=false:=by
 grind[fD,Bool.or_eq_false_iff,decide_eq_false_iff_not]
theorem X7 {n:Int}{g:B8}{l:List Sg}(h:dO n g l=false):hW n g l=([],1):=by grind[hW]
theorem JC {n:Int}{g:B8}{l:List Sg}(h:dO n g l=true):hW n g l=(hB n g l,0):=by grind[hW]
def X8 {n:Int}{g:B8}{l:List Sg}{k:Nat}(h:PT n g l k)(hk:(k:Int)<l.length):fD (sg l k).2.1=false/\fD (sg l k).2.2.1=false/\(sg l k).2.2.2.length=32:=by
 have hg:=GP ((qg (ij.1 h.1).2.2.2).2.1 k w!);grind[L3]
def JD {n:Int}{g:B8}{l:List Sg}{k:Nat}(h:PT n g l k):(Ac n g l k).length<=100000:=by
 have hr:=ij.1 h.1;have h1:=eN n;have h2:=eN (l.length:Int);have h3:=(qg hr.2.2.2).1
 have h4:∀j,j<=l.length->(ig (l.take j)).length<=50*j:=by
  intro j;induction j with
  |zero=>grind[ig]
  |succ j ih=>
   intro hj;have hg:=GP ((qg hr.2.2.2).2.1 j w!);have:=ih w!;rw [ax l j (0,0,0,[]) w!];simp [ig,List.flatMap_append,List.flatMap_cons,List.flatMap_nil,List.append_nil,List.length_append] at this |-;grind[eN,sg,C8,List.length_append]
 have h6:=h.2;grind[Ac,List.length_append]
theorem aBk(n:Int)(g:B8)(l:List Sg):num n++g++num (l.length:Int)=Ac n g l 0:=by simp [Ac,ig]
def ag8 {n:Int}{g:B8}{l:List Sg}{k:Nat}(hk:(k:Int)<l.length):Ac n g l k++num (sg l k).2.1++num (sg l k).2.2.1++(sg l k).2.2.2=Ac n g l (k+1):=by
 simp [Ac];rw [ax l k (0,0,0,[]) w!];simp [ig,List.flatMap_append,List.flatMap_cons,List.flatMap_nil,F?,C8,sg,Y!]
theorem Ă {n:Int}{g:B8}{l:List Sg}{k:Nat}(hk:¬(k:Int)<l.length):Ac n g l k=hB n g l:=by
 grind[Ac,hB,List.take_of_length_le]
theorem ag9 {b:B8}{k:Nat}(h:(k:Int)<(gn b).1.2.2):k+1<=pN b:=by grind[pN]
theorem X9 {b:B8}{k:Nat}(h:k<=pN b)(h1:¬(k:Int)<(gn b).1.2.2):k=pN b:=by grind[pN]
def avq(b:B8)(k:Nat):(iL b k).2.2.length=k:=Vt b _ _ k
def asX {b:B8}{k:Nat}(h:¬64<(gn b).1.2.2)(hk:k<=pN b)(h1:¬(k:Int)<(gn b).1.2.2)(h0:¬done b (iL b k).1.1 (iL b k).1.2=0):hR b=((0,[],[]),done b (iL b k).1.1 (iL b k).1.2):=by
 grind[X9,ag7]
def asY {b:B8}{k:Nat}(h:¬64<(gn b).1.2.2)(hk:k<=pN b)(h1:¬(k:Int)<(gn b).1.2.2)(h0:done b (iL b k).1.1 (iL b k).1.2=0)(h2:dO (gn b).1.1 (gn b).1.2.1 (iL b k).2.2=false):hR b=((0,[],[]),2):=by
 rw [X9 hk h1] at h0 h2;simp_all[ā,Q!]
def asZ {b:B8}{k:Nat}(h:¬64<(gn b).1.2.2)(hk:k<=pN b)(h1:¬(k:Int)<(gn b).1.2.2)(h0:done b (iL b k).1.1 (iL b k).1.2=0)(h2:dO (gn b).1.1 (gn b).1.2.1 (iL b k).2.2=true):hR b=(((gn b).1.1,(gn b).1.2.1,(iL b k).2.2),0):=by
 rw [X9 hk h1] at h0 h2 |-;simp_all[ā,R!]
end Go.S

end
