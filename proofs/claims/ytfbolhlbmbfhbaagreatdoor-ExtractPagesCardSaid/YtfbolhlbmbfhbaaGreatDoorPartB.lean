import Derived.Test.YtfbolhlbmbfhbaaGreatDoorPartA
import Derived.Orders
import Derived.Deep.LoopGhost
import Derived.Scope
set_option linter.unusedVariables false
set_option linter.unusedSimpArgs false
set_option linter.unusedSectionVars false
set_option linter.defProp false
namespace Go.Vg
open Go
variable [HP]
mutual
def an:AV->M Nat
 |.own k|.pre k _|.view k _ _ _|.ref k _|.elem k _ _ _=>[k]
 |.agg cs=>au cs
 |.bc vs=>au vs
 |.fn _ first aO=>au first++au aO
 |.iA _ cs=>au cs
 |_=>[]
def au:M AV->M Nat
 |[]=>[]
 |a::as_=>an a++au as_
end
def iC:AB->M Nat
 |.cells cs=>au cs
 |.views _ (some j) _ _ _|.iy _ (some j) _ _ _|.dq _ (some j) _|.ek _ (some j) _ _=>[j]
 |_=>[]
def BD:M (Nat×AB)->M Nat
 |[]=>[]
 |(_,b)::r=>iC b++BD r
mutual
def eP(f:Nat->Nat):AV->AV
 |.own k=>.own (f k)
 |.pre k n=>.pre (f k) n
 |.view k sz off n=>.view (f k) sz off n
 |.ref k off=>.ref (f k) off
 |.elem k sz i j=>.elem (f k) sz i j
 |.agg cs=>.agg (mP f cs)
 |.bc vs=>.bc (mP f vs)
 |.fn g first aO=>.fn g (mP f first) (mP f aO)
 |.iA ks cs=>.iA ks (mP f cs)
 |a=>a
def mP(f:Nat->Nat):M AV->M AV
 |[]=>[]
 |a::as_=>eP f a::mP f as_
end
def mE(f:Nat->Nat):AB->AB
 |.cells cs=>.cells (mP f cs)
 |.views e (some j) n m sz=>.views e (some (f j)) n m sz
 |.iy e (some j) row l i=>.iy e (some (f j)) row l i
 |.dq e (some j) l=>.dq e (some (f j)) l
 |.ek e (some j) xs i=>.ek e (some (f j)) xs i
 |b=>b
variable {A A' S:Nat->Prop}{az β:Nat->Value}{w w':World}{a:Act}{C:Ctx}{G:Nat->Option GD}{P:Program}{dst:Option Nat}{f:FuncId}{out:Out}{st r s bp s1 base m s':St}{E:Env}{K:Act->World->Prop}{Q:Exit->Act->World->Prop}{o:Oper}{v p vp vx:Value}{x res:AV}{e n d j i kb i0:Nat}{xs:List Value}{T:bX}{t type:TypeId}{after:Array Edge}{pos:String}{as_ vs:List AV}{l:List (Option TypeId)}{u:List (Nat×AB)}{ab:AB}{α:Type}{W W' L:List Nat}{b g dr:Bool}{ops:Array Oper}{cs:List Prop}{next:St->Option (List Prop×St)}{rest:List Oper}{ks:List Int}{h h':aJ}{listed:Array Bool}{es:Array MapEntry}{c:Operand}{bad:Nat->Bool}
mutual
theorem ze(f:Nat->Nat):∀(x:AV) (v:Value),(∀k∈an x,az (f k)=β k)->aa w A β v x->aa w A az v (eP f x)
 |.own k,v,hk,h=>by
   simp only[eP,aa] at h |-;rw[hk k (by simp[an])];exact h
 |.pre k n,v,hk,h=>by
   simp only[eP,aa] at h |-;rw[hk k (by simp[an])];exact h
 |.view k _ _ _,v,hk,h=>by
   simp only[eP,aa] at h |-;rw[hk k (by simp[an])];exact h
 |.ref k _,v,hk,h=>by
   simp only[eP,aa] at h |-;rw[hk k (by simp[an])];exact h
 |.elem k _ _ _,v,hk,h=>by
   simp only[eP,aa] at h |-;rw[hk k (by simp[an])];exact h
 |.agg cs,v,hk,h=>by
   simp only[eP,aa] at h |-;obtain⟨arr,h1,h2⟩:=h;exact⟨arr,h1,j4 f cs _ (λk fc=>hk k (by simpa[an] using fc)) h2⟩
 |.bc cs,v,hk,h=>by
   simp only[eP,aa] at h |-;obtain⟨arr,h1,h2⟩:=h;exact⟨arr,h1,j4 f cs _ (λk fc=>hk k (by simpa[an] using fc)) h2⟩
 |.fn g first aO,v,hk,h=>by
   simp only[eP,aa] at h |-;obtain⟨a1,a2,h1,h2,h3⟩:=h;exact⟨a1,a2,h1,j4 f first _ (λk fc=>hk k (by simp[an,fc])) h2,j4 f aO _ (λk fc=>hk k (by simp[an,fc])) h3⟩
 |.iA ks cs,v,hk,h=>by
   simp only[eP,aa] at h |-;obtain⟨b,es,ck,h1,h2,h3,h4,h5⟩:=h;exact⟨b,es,ck,h1,h2,h3,h4,j4 f cs _ (λk fc=>hk k (by simpa[an] using fc)) h5⟩
 |.cM,v,_,h=>by simp[eP,aa]
 |.undef,v,_,h|.int _ _,v,_,h|.bool _,v,_,h|.tt,v,_,h|.ff,v,_,h|.str _,v,_,h|.nil,v,_,h|.kY,v,_,h|.qV _ _,v,_,h|.mf,v,_,h|.sl _ _,v,_,h|.full _ _,v,_,h|.cz _ _ _,v,_,h|.qU _ _,v,_,h=>by simpa only[eP,aa] using h
theorem j4(f:Nat->Nat):∀(xs:M AV) (vs:M Value),(∀k∈au xs,az (f k)=β k)->ae w A β vs xs->ae w A az vs (mP f xs)
 |[],vs,_,h=>by simpa only[mP,ae] using h
 |x::xs,vs,hk,h=>by
  simp only[mP,ae] at h |-;obtain⟨v,bY,rfl,h1,h2⟩:=h;exact⟨v,bY,rfl,ze f x v (λk fc=>hk k (by simp[au,fc])) h1,j4 f xs bY (λk fc=>hk k (by simp[au,fc])) h2⟩
end
def UC(f:Nat->Nat){k k':Nat}{b:AB}(hk:az k'=β k)(hj:∀j∈iC b,az (f j)=β j)(h:BR w A β k b):BR w A az k' (mE f b):=by
 have hJ:=hj;cases b with
 |cells cs=>
  obtain⟨b,arr,e,h1,h2,h3,h4,h5⟩:=h;exact⟨b,arr,e,hk.trans h1,h2,h3,j4 f cs _ (λj gz=>hj j (by grind[iC])) h4,h5⟩
 |row e row l fr=>
  grind[mE,BR]
 |arr row l=>
  obtain⟨b,arr,e,h1,h2,h3,h4⟩:=h;exact⟨b,arr,e,hk.trans h1,h2,h3,h4⟩
 |ek e j xs i=>
  obtain⟨ys,h1,h2,h3,h4⟩:=h;cases j with
  |none=>exact⟨ys,hk▸h1,hk▸h2,h3,nofun⟩
  |some j=>
   refine⟨ys,hk▸h1,hk▸h2,h3,λj' gz=>?_⟩;cases gz;rw[hJ j (by simp[iC])];exact h4 j rfl
 |fvar row x=>
  obtain⟨b,arr,e,h1,h2,h3,h4⟩:=h;exact⟨b,arr,e,hk.trans h1,h2,h3,h4⟩
 |mp b es ck=>exact⟨hk.trans h.1,h.2⟩
 |bj e sz n cs=>
  obtain⟨xs,h1,h2,h3⟩:=h;exact⟨xs,hk▸h1,hk▸h2,h3⟩
 |dq e j l=>
  obtain⟨xs,h1,h2,h3⟩:=h;cases j with
  |none=>exact⟨xs,hk▸h1,hk▸h2,λq _=>h3 q (λ_ h=>by cases h)⟩
  |some j=>
   exact⟨xs,hk▸h1,hk▸h2,λq hq=>h3 q λj' hj=>(hq (f j) rfl).trans (by cases hj;exact hJ _ (by simp[iC]))⟩
 |iy e j row l i=>
  cases j with
  |none=>
   grind[mE,BR]
  |some j0=>
   grind[mE,BR,Option.some.injEq,iC]
 |views e j n m sz=>
  obtain⟨xs,h1,h2,h3⟩:=h;cases j with
  |none=>
   grind[mE,BR]
  |some j0=>
   simp only[mE,BR,hk];refine⟨xs,h1,h2,λj' gz i hi=>?_⟩;simp at gz;subst gz;obtain⟨v,e1,e2⟩:=h3 j0 rfl i hi
   exact⟨v,e1,ze f (.view j0 1 (i*sz) sz) v (λk fc=>by
    grind[an,List.mem_singleton,iC]) e2⟩
def kN:M Nat->Bool
 |[]=>true
 |k::r=>!(aq r k)&&kN r
def dedup(acc:M Nat):M Nat->M Nat
 |[]=>acc.reverse
 |k::r=>bif aq acc k then dedup acc r else dedup (k::acc) r
def behind(h:aJ):M Nat->M Nat
 |[]=>[]
 |k::r=>(match h k with
  |some b=>iC b
  |none=>[])++behind h r
def NG:M Nat->Nat->Nat
 |[],_=>0
 |j::r,k=>bif Nat.beq k j then 0 else NG r k+1
def ó(K:M Nat)(k:Nat):Nat:=50000+NG K k
def iP(K:M Nat)(base k:Nat):Nat:=bif Nat.blt k 60000 then K.getD (k-50000) 0 else base+(k-60000)
def dG(h:aJ):M Bool->M AV->M AV×M Nat
 |_,[]=>([],[])
 |m,a::as_=>bif m.headD false then(a::(dG h m.tail as_).1,(dG h m.tail as_).2) else((mY h a).1::(dG h m.tail as_).1,(mY h a).2++(dG h m.tail as_).2)
def contents(h:aJ):M Nat->Option (M AB)
 |[]=>some []
 |k::r=>match h k,contents h r with
  |some b,some l=>some (b::l)
  |_,_=>none
def kOk(r:bl)(k:Nat):Bool:=(Nat.ble 50000 k&&Nat.blt k 60000&&(match r.heap[k-50000]? with
 |some (some _)=>true
 |_=>false)) || (Nat.ble 60000 k&&Nat.blt k (60000+r.new.length))
def qm(g:Nat->Nat):M Nat->M (Option AB)->M (Nat×AB)
 |k::ks,some b::bs=>(k,mE g b)::qm g ks bs
 |_::ks,none::bs=>qm g ks bs
 |_,_=>[]
def xl:M Nat->M (Option AB)->M Nat
 |_::ks,some _::bs=>xl ks bs
 |k::ks,none::bs=>k::xl ks bs
 |_,_=>[]
def BE:M (Option AB)->M Nat
 |[]=>[]
 |some b::r=>iC b++BE r
 |none::r=>BE r
def zf:M AB->M Nat
 |[]=>[]
 |b::r=>iC b++zf r
def aBI(a K:M Nat):Bool:=a.all λk=>aq K k
def UD(s:eC)(h:aJ)(base:Nat)(K:M Nat)(ps:M AV)(fz:M Nat):Option Out:=match contents h K with
 |some hs=>bif kN K&&(aBI (au ps++zf hs) K&&(fz.all (λk=>!aq K k)&&Nat.ble hs.length 100)) then
  match s (mP (ó K) ps) (hs.map (mE (ó K))) with
  |some r=>bif Nat.beq r.heap.length hs.length&&(Nat.ble r.new.length 100&&((an r.res++(BE r.heap++zf r.new)).all (kOk r))) then
    some {cond:=[r.pre]
          res:=eP (iP K base) r.res
          gb:=qm (iP K base) K r.heap++b6 h fz
          del:=xl K r.heap
          new:=gO base (r.new.map (mE (iP K base)))
          raw:=K}
   else none
  |none=>none
  else none
 |none=>none
def qn(h:aJ)(ks:M Nat):M Nat:=behind h ks++behind h (behind h ks)
def nQ(E:Env)(h:aJ)(d f:Nat)(args:M AV):Option Out:=match E.qW f with
 |some (m,s)=>UD s h (pI d) (dedup [] (au (dG h m args).1++qn h (au (dG h m args).1))) (dG h m args).1 (dG h m args).2
 |none=>none
def nR:∀ {l:M Nat} {k:Nat},aq l k=true↔k∈l
 |[],k=>by simp[aq]
 |j::l,k=>by
  simp_all[aq,e?,O!,nR,D!,cU]
def KY:∀ {K:M Nat} {k:Nat},k∈K->NG K k<K.length/\K.getD (NG K k) 0=k
 |j::K,k,h=>by
  simp[NG];by_cases hk:k=j;simp_all
  simp[aL hk,N!];have:=KY (K:=K) ((O!.1 h).resolve_left hk);simpa using this
def BF {h:aJ}:∀ {K:M Nat} {hs:M AB},contents h K=some hs->hs.length=K.length/\∀(i:Nat) (ab:AB),hs[i]? =some ab->∃k:Nat,K[i]? =some k/\h k=some ab
 |[],hs,hh=>by
   grind[contents,Option.some.injEq]
 |k::K,hs,hh=>by
  simp[contents] at hh;split at hh
  . rename_i b l h1 h2;simp at hh;subst hh;obtain⟨g1,g2⟩:=BF h2;refine⟨by simp[g1],λi ab hi=>?_⟩;cases i with
    |zero=>simp at hi;subst hi;exact⟨k,rfl,h1⟩
    |succ i=>simpa using g2 i ab (by simpa using hi)
  cases hh
def KZ:∀ {K:M Nat},kN K=true->∀ {i j:Nat} {k:Nat},K[i]? =some k->K[j]? =some k->i=j
 |[],_,i,j,k,h,_=>by grind
 |x::K,hn,i,j,k,h1,h2=>by
  simp[kN,B!,Q?] at hn
  have hx:∀m:Nat,K[m]? =some x->False:=λm hm=>by
   have:=nR.2 (D? hm);rw[this] at hn;exact absurd hn.1 z!
  cases i with
  |zero=>
   cases j with
   |zero=>rfl
   |succ j=>
    simp at h1;subst h1;exact(hx j (by simpa using h2)).elim
  |succ i=>
   cases j with
   |zero=>
    simp at h2;subst h2;exact(hx i (by simpa using h1)).elim
   |succ j=>rw[KZ hn.2 (i:=i) (j:=j) (by simpa using h1) (by simpa using h2)]
def wz {g:Nat->Nat}:∀ {K:M Nat} {bs:M (Option AB)} {k:Nat} {ab:AB},ai (qm g K bs) k=some ab->∃(i:Nat) (b:AB),K[i]? =some k/\bs[i]? =some (some b)/\ab=mE g b
 |[],bs,k,ab,h=>by grind[qm,ai]
 |x::K,[],k,ab,h=>by grind[qm,ai]
 |x::K,some b::bs,k,ab,h=>by
  simp[qm,ai] at h;by_cases hk:k=x;subst hk;simp at h;exact⟨0,b,rfl,rfl,h.symm⟩;simp[aL hk,cond_false] at h;obtain⟨i,b',h1,h2,h3⟩:=wz h;exact⟨i+1,b',x!,x!,h3⟩
 |x::K,none::bs,k,ab,h=>by
  simp[qm] at h;obtain⟨i,b',h1,h2,h3⟩:=wz h;exact⟨i+1,b',by simpa using h1,by simpa using h2,h3⟩
def BG {g:Nat->Nat}:∀ {K:M Nat} {bs:M (Option AB)} {i k:Nat} {b:AB},K[i]? =some k->bs[i]? =some (some b)->(ai (qm g K bs) k).isSome
 |[],bs,i,k,b,h,_=>by grind
 |x::K,[],i,k,b,_,h=>by grind
 |x::K,some c::bs,i,k,b,h1,h2=>by
  simp[qm,ai];by_cases hk:k=x;simp_all
  . simp[aL hk,N!];cases i with
    |zero=>simp at h1;exact absurd h1.symm hk
    |succ i=>exact BG (by simpa using h1) (by simpa using h2)
 |x::K,none::bs,i,k,b,h1,h2=>by
  simp[qm];cases i with
  |zero=>simp at h2
  |succ i=>exact BG (by simpa using h1) (by simpa using h2)
def zg:∀ {K:M Nat} {bs:M (Option AB)} {k:Nat},k∈xl K bs↔∃i:Nat,K[i]? =some k/\bs[i]? =some none
 |[],bs,k=>by grind[xl]
 |x::K,[],k=>by simp[xl]
 |x::K,some b::bs,k=>by
  simp[xl,zg (K:=K)];constructor;rintro⟨i,h1,h2⟩;exact⟨i+1,by simpa using h1,by simpa using h2⟩
  . rintro⟨i,h1,h2⟩;cases i with
    |zero=>simp at h2
    |succ i=>exact⟨i,by simpa using h1,by simpa using h2⟩
 |x::K,none::bs,k=>by
  simp[xl,O!,zg (K:=K)];constructor;rintro(rfl|⟨i,h1,h2⟩);exact⟨0,rfl,rfl⟩;exact⟨i+1,by simpa using h1,by simpa using h2⟩
  . rintro⟨i,h1,h2⟩;cases i with
    |zero=>simp at h1;exact .inl h1.symm
    |succ i=>exact .inr ⟨i,by simpa using h1,by simpa using h2⟩
def Fo:∀ {bs:M (Option AB)} {i:Nat} {b:AB},bs[i]? =some (some b)->∀j∈iC b,j∈BE bs
 |[],i,b,h,_,_=>by grind
 |some c::bs,0,b,h,j,hj=>by
  grind[List.getElem?_cons_zero,Option.some.injEq,BE]
 |some c::bs,i+1,b,h,j,hj=>by
  simp[BE,I!];exact .inr (Fo (by simpa using h) j hj)
 |none::bs,0,b,h,j,hj=>by grind
 |none::bs,i+1,b,h,j,hj=>by
  simp[BE];exact Fo (i:=i) (by simpa using h) j hj
def Fp:∀ {bs:M AB} {i:Nat} {b:AB},bs[i]? =some b->∀j∈iC b,j∈zf bs
 |[],i,b,h,_,_=>by grind
 |c::bs,0,b,h,j,hj=>by
  grind[List.getElem?_cons_zero,Option.some.injEq,zf]
 |c::bs,i+1,b,h,j,hj=>by
  simp[zf,I!];exact .inr (Fp (by simpa using h) j hj)
def oM:∀(a b:M (Nat×AB)) (k:Nat),ai (a++b) k=match ai a k with
  |some x=>some x
  |none=>ai b k
 |[],b,k=>rfl
 |(j,x)::a,b,k=>by
  simp[U?,ai];cases Nat.beq k j with
  |true=>rfl
  |false=>exact oM a b k
def UE{s:eC}(hv:aI P G f s)(hB:al C A β st a w)(hG:C.G=G)(hd:∀t,dst=some t->t<st.n)
  {args:M Value} {ps:M AV} {fz K:M Nat} {base:Nat} (hps:ae w (bL A β fz) β args ps) (AU:∀j∈fz,∃e row l fr,st.h j=some (.row e row l fr))
  (h:UD s st.h base K ps fz=some out) (fD:jQ st.h out.new=true) (hc:∀p∈out.cond,p):
  Calls P f args.toArray w λe w'=>∃v,e= .returned v/\Rel C (st.put dst out) (a.put dst v) w':=by
 unfold UD at h;split at h;case h_2=>cases h
 rename_i hs adh;cases hq:(kN K&&(aBI (au ps++zf hs) K&&(fz.all (λk=>!aq K k)&&Nat.ble hs.length 100))) with
 |false=>grind
 |true=>
 rw[hq] at h;simp only[K!] at h;split at h;case h_2=>cases h
 rename_i r hr;cases hq2:(Nat.beq r.heap.length hs.length&&(Nat.ble r.new.length 100&&((an r.res++(BE r.heap++zf r.new)).all (kOk r)))) with
 |false=>grind
 |true=>
 rw[hq2] at h;simp only[K!,A!] at h;subst h;simp only[B!,B?] at hq hq2;obtain⟨q1,q2,q3,q4⟩:=hq;obtain⟨r1,r2,r3⟩:=hq2;have q4:=L! q4;have r1:=D! r1;have r2:=L! r2;obtain⟨hl,adh⟩:=BF adh;have Sf:∀k∈au ps++zf hs,k∈K:=λk hk=>nR.1 (B?.1 q2 k hk)
 have aBJ:∀k∈fz,k∉K:=λk hk hK=>by
  have:=q3 k hk;rw[nR.2 hK] at this;cases this
 let βc:Nat->Value:=λk=>if 50000<=k/\k<50000+K.length then β (K.getD (k-50000) 0) else .slice none 0 0
 have K1:∀(i k:Nat),K[i]? =some k->βc (50000+i)=β k:=by
  intro i k hi;have gf:=(G?.1 hi).1;simp only[βc];rw[Q! ⟨w!,w!⟩,p?,List.getD,hi];rfl
 have hto:∀k∈K,βc (ó K k)=β k:=by
  intro k hk;obtain⟨h1,h2⟩:=KY hk;refine K1 _ _ ?_;rw[C! h1];rw[List.getD,C! h1] at h2;simpa using h2
 have fH:∀(i k:Nat),K[i]? =some k->∃ab,hs[i]? =some ab/\st.h k=some ab:=by
  intro i k hi;have gf:=(G?.1 hi).1;obtain⟨k',h1,h2⟩:=adh i _ (C! w!);rw[hi] at h1;simp only[A!] at h1;subst h1;exact⟨_,C! w!,h2⟩
 have aJZ:∀b,bL A β fz b->b<w.heap.size:=by
  intro b hb;rcases hb with hb|⟨j,hj,Bs⟩;exact hB.bound b hb;obtain⟨e,row,l,fr,hr⟩:=AU j hj;exact mh hB (by simp[hr]) Bs
 have Ru:bG w w A (bL A β fz):=λb hb=>⟨.inl hb,rfl⟩
 have ql:=hv w (bL A β fz) βc args (mP (ó K) ps) (hs.map (mE (ó K))) r aJZ
  (λi d hi=>(hB.laid i d (by rw[hG];exact hi)).mono Ru)
  (j4 (ó K) ps args (λk hk=>hto k (Sf k (T! _ hk))) hps)
  (λi ab hi=>by
    rw[E?,Option.map_eq_some_iff] at hi;obtain⟨UA,hi,rfl⟩:=hi;obtain⟨k,hk,pX⟩:=adh i UA hi
    have fl:BR w (bL A β fz) β k UA:=by
     have:=xS (w':=w) (A':=bL A β fz) (az:=β) (new:=[]) (λ_ _=>rfl) rfl (λb hb=>⟨rfl,λhA=>?_⟩) Ru (hB.blocks k UA pX);exact this;rcases hA with hA|⟨j,hj,Bs⟩;exact hA;exfalso;obtain⟨e,row,l,fr,hr⟩:=AU j hj;have:=hB.apart j k b (by simp[hr]) (by simp[pX]) Bs hb;subst this;exact aBJ j hj (D? hk)
    exact UC (ó K) (K1 i k hk) (λj hj=>hto j (Sf j (X! _ (Fp hi j hj)))) fl)
  (λi j b hi hj h1 h2=>by
    rw[List.length_map] at hi hj;have e1:K[i]? =some K[i]:=C! w!;have e2:K[j]? =some K[j]:=C! w!;rw[K1 i _ e1] at h1;rw[K1 j _ e2] at h2;obtain⟨_,_,l1⟩:=fH i _ e1;obtain⟨_,_,l2⟩:=fH j _ e2;have:=hB.apart _ _ b (by simp[l1]) (by simp[l2]) h1 h2;exact KZ q1 e1 (by rw[this];exact e2))
  hr (hc _ z!) (by rw[List.length_map];exact r1) (by rw[List.length_map];exact q4)
 rw[List.length_map] at ql;refine ql.mono ?_;rintro e w' ⟨v,rfl,A2,fm,hp⟩;refine⟨v,rfl,?_⟩;let n:=K.length
 have al0:r.new.length<=100:=r2;let ups:=gO base (r.new.map (mE (iP K base)))
 have MB:∀k,ai ups k=(if base<=k then(r.new.map (mE (iP K base)))[k-base]? else none):=λk=>by simpa using wy base (r.new.map (mE (iP K base))) 0 k
 let UF:Nat->Value:=λk=>if base<=k/\k<base+r.new.length then fm (60000+(k-base)) else β k
 have NH:∀j,j<r.new.length->UF (base+j)=fm (60000+j):=by
  intro j hj;simp only[UF];rw[Q! ⟨w!,w!⟩,p?]
 have rv:∀k,ai ups k=none->UF k=β k:=by
  intro k h;rw[MB k] at h;simp only[UF];rw[W!];rintro⟨h1,h2⟩;rw[Q! h1,List.getElem?_eq_none_iff,List.length_map] at h;omega
 have sF:∀k ab,ai ups k=some ab->∃j b,k=base+j/\r.new[j]? =some b/\ab=mE (iP K base) b/\j<r.new.length:=by
  intro k ab h;rw[MB k] at h;split at h;rename_i hb;rw[E?,Option.map_eq_some_iff] at h;obtain⟨b,h1,h2⟩:=h;exact⟨k-base,b,w!,h1,h2.symm,(G?.1 h1).1⟩;cases h
 have RB:∀k,(st.h k).isSome->ai ups k=none:=by
  intro k hk;cases hh:ai ups k with
  |none=>rfl
  |some y=>have:=(lG _ k y fD hh).1;rw[this] at hk;cases hk
 have MC:∀(i k:Nat),K[i]? =some k->(st.h k).isSome:=λi k hi=>by obtain⟨_,_,h⟩:=fH i k hi;simp[h]
 have al1:∀(i k:Nat),K[i]? =some k->UF k=β k:=λi k hi=>rv k (RB k (MC i k hi))
 have hg:∀j,kOk r j=true->UF (iP K base j)=fm j:=by
  intro j hj;simp only[kOk,e?,B!] at hj;rcases hj with⟨⟨h1,h2⟩,h3⟩|⟨h1,h2⟩;have h1:=L! h1;obtain⟨i,rfl⟩:∃i,j=50000+i:=⟨j-50000,w!⟩;rw[p?] at h3;split at h3;rename_i ab k9;have gf:=(G?.1 k9).1;obtain⟨k,hKi⟩:∃k,K[i]? =some k:=⟨_,C! w!⟩;obtain⟨_,g2⟩:=hp.kept _ _ k9
  have e:iP K base (50000+i)=k:=by
   unfold iP;rw[h2,cond_true,Nat.add_sub_cancel_left,List.getD,hKi];rfl
  rw[e,al1 _ _ hKi,g2,K1 _ _ hKi];cases h3
  . have h1:=L! h1;have h2':j<60000+r.new.length:=L! h2;obtain⟨i,rfl⟩:∃i,j=60000+i:=⟨j-60000,w!⟩
    have hb:Nat.blt (60000+i) 60000=false:=by
     cases hb:Nat.blt (60000+i) 60000 with
     |false=>rfl
     |true=>have :60000+i<60000:=L! hb;omega
    have e:iP K base (60000+i)=base+i:=by
     unfold iP;rw[hb,cond_false,Nat.add_sub_cancel_left]
    rw[e,NH _ w!]
 have gm:∀(i k:Nat),K[i]? =some k->(r.heap[i]? =some none\/∃b,r.heap[i]? =some (some b)):=by
  intro i k hi;have gf:=(G?.1 hi).1;have :i<r.heap.length:=by omega
  cases hh:r.heap[i] with
  |none=>exact .inl (by rw[C! this,hh])
  |some b=>exact .inr ⟨b,by rw[C! this,hh]⟩
 generalize wk:({cond:=[r.pre],res:=eP (iP K base) r.res,gb:=qm (iP K base) K r.heap++b6 st.h fz,del:=xl K r.heap,new:=gO base (r.new.map (mE (iP K base))),raw:=K}:Out)=out;have o1:out.gb=qm (iP K base) K r.heap++b6 st.h fz:=by rw[<-wk]
 have o2:out.del=xl K r.heap:=by rw[<-wk]
 have o3:out.new=ups:=by rw[<-wk]
 have o4:out.raw=K:=by rw[<-wk]
 have o5:out.res=eP (iP K base) r.res:=by rw[<-wk]
 have htK:∀(i k:Nat),K[i]? =some k->oI st out k:=by
  intro i k hi;refine⟨MC i k hi,?_⟩;rcases gm i k hi with hh|⟨b,hh⟩;right;rw[o2];exact nR.2 (zg.2 ⟨i,hi,hh⟩)
  left;rw[o1,oM];have:=BG (g:=iP K base) hi hh;obtain⟨y,hy⟩:=S!.1 this;rw[hy];rfl
 have htF:∀j∈fz,oI st out j:=by
  intro j hj;refine⟨by obtain⟨_,_,_,_,hr⟩:=AU j hj;simp[hr],.inl ?_⟩;rw[o1,oM];cases ai (qm (iP K base) K r.heap) j with
  |some y=>rfl
  |none=>exact oK fz j hj (AU j hj)
 have hHM:∀b,HM βc K.length b->∃k,oI st out k/\ah (β k)=some b:=by
  rintro b ⟨i,hi,hb⟩;have e1:K[i]? =some K[i]:=C! hi;rw[K1 i _ e1] at hb;exact⟨_,htK i _ e1,hb⟩
 rw[hl] at hp;have Rl:bG w w' A A2:=λb hb=>hp.mono b (.inl hb);refine⟨A2,UF,hB.ß hd ?_ ?_ ?_ Rl hp.os hp.tape hp.output hp.size ?_ hp.bound ?_ ?_ ?_ ?_ ?_ ?_⟩;rw[o3];exact λk b h=>lG _ k b fD h;rw[o1];intro k b h;rw[oM] at h;split at h;rename_i y hy;obtain⟨i,_,h1,_⟩:=wz hy;exact MC i k h1;obtain⟨h1,e,row,l,fr,h2,_⟩:=gY fz k b h;simp[h2];rw[o3];exact rv;intro b hb ht;refine hp.same b hb λhm=>?_;obtain⟨k,h1,h2⟩:=hHM b hm;exact ht k h1 h2;intro b hb;rcases Nat.lt_or_ge b w.heap.size with gf|Mc;rcases hp.fk b gf hb with(h|⟨j,hj,Bs⟩)|hm;exact .inl h;exact .inr (.inr ⟨j,htF j hj,Bs⟩);exact .inr (.inr (hHM b hm));exact .inr (.inl Mc)
 . intro k ab h _;rw[o1,oM] at h;split at h;rename_i y hy;simp only[A!] at h;subst h;obtain⟨i,b,h1,h2,rfl⟩:=wz hy
   have :xQ out k (mE (iP K base) b)=mE (iP K base) b:=by
    simp only[xQ,o4,nR.2 (D? h1),K!]
   rw[this];obtain⟨g1,g2⟩:=hp.kept i b h2;refine UC (k:=50000+i) (iP K base) ((al1 i k h1).trans (g2.trans (K1 i k h1)).symm) (λj hj=>hg j (r3 j ?_)) g1;simp only[I!];exact .inr (.inl (Fo h2 j hj))
   . obtain⟨hk,e,row,l,fr,qe,rfl⟩:=gY fz k ab h
     have hkK:aq K k=false:=by
      cases hh:aq K k with
      |false=>rfl
      |true=>exact absurd (nR.1 hh) (aBJ k hk)
     simp only[xQ,o4,hkK,N!];rw[lR];obtain⟨xs,h1,h2,h3⟩:=hB.blocks k _ qe;simp only[BR,rv k (RB k (by simp[qe]))];refine⟨xs,dw h1 (λb hb=>(hp.mono b (.inr ⟨k,hk,hb⟩)).2),bx (λc x hx=>br Rl row c x hx) l xs h2,λb hb=>?_⟩;simp only[P?];exact(hp.mono b (.inr ⟨k,hk,hb⟩)).1
 rw[o3];intro k ab h;obtain⟨j,b,rfl,h1,rfl,hj⟩:=sF k ab h;refine UC (k:=60000+j) (iP K base) (NH j hj) (λi hi=>hg i (r3 i ?_)) (hp.rows j b h1).1;simp only[I!];exact .inr (.inr (Fp h1 i hi));rw[o3,o2];intro k b ab h hb;obtain⟨j,c,rfl,h1,rfl,hj⟩:=sF k ab h;rw[NH j hj] at hb;rcases(hp.rows j c h1).2 b hb with h|⟨i,hi,Md⟩;exact .inl h;have e1:K[i]? =some K[i]:=C! hi;have aBK:=Md;rw[K1 i _ e1] at aBK;rcases gm i _ e1 with hh|⟨c',hh⟩;exact .inr ⟨K[i],nR.2 (zg.2 ⟨i,e1,hh⟩),MC i _ e1,aBK⟩;exfalso;obtain⟨_,g2⟩:=hp.kept i c' hh;have:=hp.apart (50000+i) (60000+j) b (.inl ⟨i,c',rfl,w!,hh⟩) (.inr ⟨j,rfl,hj⟩) (by rw[g2];exact Md) hb;omega;rw[o3];intro k k' b h h' hb eO;obtain⟨x,hx⟩:=S!.1 h;obtain⟨y,hy⟩:=S!.1 h';obtain⟨j,c,rfl,h1,_,hj⟩:=sF k x hx;obtain⟨j',c',rfl,h1',_,gz⟩:=sF k' y hy;rw[NH j hj] at hb;rw[NH j' gz] at eO;have:=hp.apart (60000+j) (60000+j') b (.inr ⟨j,rfl,hj⟩) (.inr ⟨j',rfl,gz⟩) hb eO;omega;rw[o5];refine ze (iP K base) r.res v (λk hk=>hg k (r3 k ?_)) hp.res;simp only[I!];exact .inl hk
def xm(hB:al C A β st a w)(hA:∀b,A b->A' b):∀(m:M Bool) (bj:M AV) (args:M Value),ae w A β args bj->(∀k∈(dG st.h m bj).2,∀b,ah (β k)=some b->A' b)->
  ae w A' β args (dG st.h m bj).1/\∀k∈(dG st.h m bj).2,∃e row l fr,st.h k=some (.row e row l fr)
 |m,[],args,h,_=>by
  grind[dG,ae]
 |m,x::xs,args,h,hk=>by
  obtain⟨v,vs,rfl,h1,h2⟩:=h;cases hm:m.headD false with
  |true=>
   simp only[dG,hm,K!] at hk |-;obtain⟨g1,g2⟩:=xm hB hA m.tail xs vs h2 hk;refine⟨?_,g2⟩;exact⟨v,vs,rfl,jb (λb hb=>⟨hA b hb,rfl⟩) x v h1,g1⟩
  |false=>
   simp only[dG,hm,cond_false] at hk |-;obtain⟨p1,p2⟩:=xX hB hA x v h1 (λk fc=>hk k (List.mem_append_left _ fc));obtain⟨g1,g2⟩:=xm hB hA m.tail xs vs h2 (λk fc=>hk k (List.mem_append_right _ fc));refine⟨?_,λk fc=>?_⟩;simp[ae];grind;grind
def XH(E:Env)(st:St)(o:Oper):Option Out:=match o.op with
 |.call c=>match c.callee with
   |.value f=>match ev st f,o.dst with
     |.fn (.func f) first aO,some d=>nQ E st.h (st.kb+d) f (first++(c.args.toList.map (ev st))++aO)
     |.fn (.func f) first aO,none=>nQ E st.h st.kb f (first++(c.args.toList.map (ev st))++aO)
     |_,_=>none
   |_=>none
 |_=>none
def Sh(E:Env)(st:St)(o:Oper):Option Out:=match adg E st o with
 |some out=>some out
 |none=>XH E st o
theorem XI(hE:dx P C E)(hB:al C A β st a w)(h:Sh E st o=some out)(pK:fq st o=true)(fD:jQ st.h out.new=true)(hc:∀p∈out.cond,p)
  (hK:∀a' w',Rel C (st.put o.dst out) a' w'->K a' w'):o.wp P a w K Q:=by
 unfold Sh at h;split at h;grind[Option.some.injEq,XG];rename_i rv
 have hd:∀t,o.dst=some t->t<st.n:=by
  intro t ht;simp_all[fq,L!]
 obtain⟨dst,op,type,pos,after,guard⟩:=o;unfold XH at h;simp at h;split at h;rename_i c;obtain⟨callee,args,argTypes⟩:=c;split at h;rename_i f aPD;have hf:=aC hB f
 have key:∀(rq:FuncId) (first aO:M AV) (base:Nat),ev st f= .fn (.func rq) first aO->nQ E st.h base rq (first++(args.toList.map (ev st))++aO)=some out->
   Oper.wp P {dst,op:=.call {callee:=.value f,args,argTypes},type,pos,after,guard} a w K Q:=by
  intro rq first aO base Hb oL
  rw[Hb] at hf;obtain⟨a1,a2,Bq,r1,r2⟩:=hf;unfold nQ at oL;split at oL;rename_i m s hs;obtain⟨hv,Ux⟩:=hE.qW rq m s hs;have bm:=fp _ _ _ _ (fp _ _ _ _ r1 (nh hB args.toList)) r2;obtain⟨p1,p2⟩:=xm (A':=bL A β (dG st.h m (first++(args.toList.map (ev st))++aO)).2) hB (λb h=>.inl h) m _ _ bm (λk hk b hb=>.inr ⟨k,hk,hb⟩);have ql:=UE hv hB hE.g hd p1 p2 oL fD hc
  have gI:(execOp a.eval {dst,op:=.call {callee:=.value f,args,argTypes},type,pos,after,guard}).run P w= .ok (.enter rq (a1.toList++args.toList.map a.eval++a2.toList).toArray) w:=by
   have e:(a1++args.map a.eval)++a2=(a1.toList++args.toList.map a.eval++a2.toList).toArray:=by
    simp
   have:=Ux (a1++args.map a.eval++a2) w;rw[e] at this;simp only[execOp,resolve,Bq,Deferred.ofValue,Sem.run_bind,Sem.run_pure,Result.andThen_ok,invoke,e,this]
  unfold Oper.wp;rw[gI];refine ql.mono λe w' ⟨v,he,hrel⟩=>?_;subst he;exact hK _ _ hrel;grind
 grind;grind;grind
def NI(E:Env):AV->Option (Prop×AV)
 |.fn (.func f) bs aO=>match E.sig f with
   |some s=>match s (bs++aO) with
    |some (pre,res,ns)=>bif ns.isEmpty&&(an res).isEmpty then some (pre,res) else none
    |none=>none
   |none=>none
 |_=>none
def ô(E:Env):AV->Option (Option Nat×CF)
 |.fn (.func f) bs aO=>match bs,E.cg f with
   |[],some t=>t aO
   |_,_=>match NI E (.fn (.func f) bs aO) with
    |some (pre,res)=>some (none,λz=>(pre,res,z))
    |none=>none
 |_=>none
def UG:Option Nat->Option Nat->Option (Option Nat)
 |none,k=>some k
 |some j,none=>some (some j)
 |some j,some k=>bif Nat.beq j k then some (some j) else none
def MD(E:Env):M AV->Option (Option Nat×M CF)
 |[]=>some (none,[])
 |a::r=>match ô E a,MD E r with
  |some (k,F),some (k',l)=>match UG k k' with
   |some k=>some (k,F::l)
   |none=>none
  |_,_=>none
def Si:Option Nat->Nat->Bool
 |some j,d=>!Nat.beq j d
 |none,_=>true
abbrev aB.BH(xs:M Value):Nat:=xs.length
abbrev aB.cat(l m:M CF):M CF:=l++m
abbrev aB.len(l:M CF):Nat:=l.length
abbrev aB.put(l:M CF)(i:Nat)(pre:Prop)(res:AV):M CF:=l.set i λz=>(pre,res,z)
def Ez(E:Env)(st:St)(o:Oper):Option Out:=match o.op with
 |.buildSlice t len parts=>match o.dst,nI E.T t,lP E.T t with
   |some d,some e,some te=>bif fresh st.h (st.kb+d)&&(Nat.blt 0 te.size&&(Nat.beq (ofConst te.zero).cells.length te.size&&Nat.ble (len*te.size) 16777216)) then
    match yV (λi=>some (i*te.size,te.size)) ((List.replicate len (ofConst te.zero).cells).flatten) (parts.toList.map λp=>(p.1,ev st p.2)) with
    |some cs=>bif cs.all AV.one&&Nat.beq cs.length (len*te.size) then match bif Nat.beq te.size 1 then MD E cs else none with
     |some (k,l)=>bif Si k (st.kb+d) then some {cond:=[],res:=.own (st.kb+d),new:=[(st.kb+d,.dq e k l)]} else none
     |none=>bif (au cs).isEmpty then some {cond:=[],res:=.own (st.kb+d),new:=[(st.kb+d,.bj e te.size len cs)]} else none
     else none
    |none=>none
    else none
   |_,_,_=>none
 |.call c=>match c.callee with
   |.builtin b=>match b,c.args.toList,c.argTypes.toList with
     |.append,[x,y],[t,t']=>match o.dst,nI E.T t,lP E.T t,ev st x,ev st y with
       |some d,some e,some te,.own j,.own k=>match st.h j,st.h k with
        |some (.dq e1 q l),some (.dq _ q' m)=>
         bif fresh st.h (st.kb+d)&&(Nat.beq e e1&&(Nat.beq te.size 1&&(Nat.beq (ofConst te.zero).cells.length te.size&&cE E.T t' Dg))) then match UG q q' with
         |some r=>bif Si r (st.kb+d) then some {cond:=[aB.len l+m.length<=140737488355328/te.bytes],res:=.own (st.kb+d),del:=[j],new:=[(st.kb+d,.dq e r (aB.cat l m))]} else none
         |none=>none
         else none
        |_,_=>none
       |some d,_,_,s,y=>bif fresh st.h (st.kb+d) then ya E.T st.h (st.kb+d) t t' s y else none
       |_,_,_,_,_=>none
     |.len,[x],[t]=>match ev st x with
       |.own k=>match st.h k with
         |some (.bj _ _ n _)=>bif cE E.T t gN then some {cond:=[],res:=.int .i64 (n:Int)} else none
         |_=>none
       |_=>none
     |_,_,_=>none
   |_=>none
 |.store t x y=>match ev st x,ev st y with
   |.elem k sz i j,.own k5=>match st.h k,st.h k5 with
     |some (.ek e _ xs i0),some (.row _ _ _ _)=>bif Nat.beq sz 1&&(Nat.beq j 0&&(iL E.T t 1&& !Nat.beq k5 k)) then
       some {cond:=[i<aB.BH xs,i=i0],res:=.undef,gb:=[(k,.ek e (some k5) xs i0)]} else none
     |_,_=>none
   |.elem k sz i j,.fn f bs cs=>match st.h k,NI E (.fn f bs cs) with
     |some (.dq e q l),some (pre,res)=>bif Nat.beq sz 1&&(Nat.beq j 0&&iL E.T t 1) then
       some {cond:=[i<aB.len l],res:=.undef,gb:=[(k,.dq e q (aB.put l i pre res))]} else none
     |_,_=>none
   |_,_=>none
 |.indexAddr t x i=>match ev st x,ev st i with
   |.own k,.int _ i=>match st.h k with
     |some (.bj _ sz n _)=>bif aV E.T t sz&&Nat.blt E.IV n then some {cond:=[i=(E.IV:Int)],res:=.elem k sz E.IV 0} else none
     |some (.ek _ _ xs _)=>bif aV E.T t 1 then some {cond:=[0<=i/\i<(aB.BH xs:Int)],res:=.elem k 1 i.toNat 0} else none
     |some (.dq _ _ l)=>bif aV E.T t 1 then some {cond:=[0<=i/\i<(aB.len l:Int)],res:=.elem k 1 i.toNat 0} else none
     |_=>none
   |_,_=>none
 |.load t x=>match ev st x,E.T.find t with
   |.elem k sz i j,some te=>match st.h k with
     |some (.bj _ s2 _ cs)=>bif Nat.beq sz s2 then match pick te cs (i*sz+j) with
      |some a=>some {cond:=[],res:=a}
      |none=>none
      else none
     |some (.ek _ (some k5) xs i0)=>bif Nat.beq sz 1&&Nat.beq j 0 then match pick te [.own k5] 0 with
      |some a=>some {cond:=[i<aB.BH xs,i=i0],res:=a}
      |none=>none
      else none
     |_=>none
   |.ref k off,some te=>match st.h k with
     |some (.fvar r y)=>match pick te (ay r y) off with
      |some a=>some {cond:=[],res:=a}
      |none=>none
     |_=>none
   |_,_=>none
 |_=>none
def NJ(E:Env)(st:St)(o:Oper):Option Out:=match Sh E st o with
 |some out=>some out
 |none=>Ez E st o
mutual
theorem Sj:∀a:AV,eP (λk=>k) a=a
 |.agg cs|.bc cs=>by simp only[eP,pj cs]
 |.fn _ l m=>by simp only[eP,pj l,pj m]
 |.iA _ cs=>by simp only[eP,pj cs]
 |.own _|.pre _ _|.view _ _ _ _|.ref _ _|.elem _ _ _ _|.cM|.undef|.int _ _|.bool _|.tt|.ff|.str _|.nil|.kY|.qV _ _|.mf|.sl _ _|.full _ _|.cz _ _ _|.qU _ _=>rfl
theorem pj:∀l:M AV,mP (λk=>k) l=l
 |[]=>rfl
 |a::l=>by simp only[mP,Sj a,pj l]
end
def aim(h:an x=[])(hr:aa w A β v x):aa w A az v x:=by
 have:=ze (az:=az) (λk=>k) x v x! hr;grind[Sj]
def NK {x:M AV}{v:M Value}(h:au x=[])(hr:ae w A β v x):ae w A az v x:=by
 have:=j4 (az:=az) (λk=>k) x v x! hr;grind[pj]
def Hc {S:Nat->Prop}{e:Nat}(h:∀b,S b->w'.heap[b]? =w.heap[b]?):∀ {xs:M Value} {l:M U},oZ w S e xs l->oZ w' S e xs l
 |[],[],_=>trivial
 |_::_,_::_,⟨h1,h2,h3,h4⟩=>⟨dw h1 (λb hb=>h b (h3 b hb).1),h2,h3,Hc h h4⟩
theorem ZR.refl(h:∀b,S b->w'.heap[b]? =w.heap[b]?):∀ {z:Z},HB w S p z->ZR w p w' z z
 |.n,_|.s _,_=>trivial
 |.g _ _ _,⟨b,e0,v,xs,h1,h2,h3,_⟩=>⟨rfl,rfl,λu ⟨b',e',g1,g2⟩=>by
   rw[h1] at g1;simp at g1;subst g1;exact⟨b,e',h1,(h b h3).trans g2⟩⟩
def al3(h:∀b,S b->w'.heap[b]? =w.heap[b]?):∀ {z:Z},HB w S p z->HB w' S p z
 |.n,_=>trivial
 |.s _,⟨b,e,h1,h2,h3,h4⟩=>⟨b,e,h1,(h b h4).trans h2,h3,h4⟩
 |.g _ _ _,⟨b,e0,v,xs,h1,h2,h3,h4,h5,h6,h7,h8⟩=>⟨b,e0,v,xs,h1,(h b h3).trans h2,h3,h4,dw h5 (λg hg=>h g (h6 g hg).1),h6,h7,Hc h h8⟩
def XJ(hP:∀Q,HP.is Q->Q=P){s:Ub}(hv:Valid P G f s)(hf:du P f)(hG:∀i d,G i=some d->nb w A i d){a1 aO:Array Value}{bj:M AV}(hr:ae w A β (a1++aO).toList bj)
  {pre:Prop} {res:AV} (hs:s bj=some (pre,res,[])) (hk:an res=[]) (p:Value):A9 w A p (.func (.func f) a1 aO) λz=>(pre,res,z):=by
 refine⟨rfl,.inr ⟨f,a1,aO,rfl,λQ hQ=>?_⟩⟩;have:=hP Q hQ;subst this;refine⟨hf,λw' A' z S hK hb hS hH hp=>?_⟩;refine(hv w' A' β (a1++aO).toList bj pre res [] hb (λi d h=>(hG i d h).mono hK) (cF hK _ _ hr) hs hp).mono λe w2 ⟨v,he,A2,fm,q⟩=>?_
 exact⟨v,he,A2,S,ZR.refl (λb hb=>q.same b (hS b hb).2) hH,q.os,q.tape,q.output,q.size,λb hb _=>q.same b hb,q.mono,q.fk,q.bound,
  λb hb=>⟨.inl hb,λhA=>(hS b hb).1 (q.fk b (hS b hb).2 hA),C? (hS b hb).2 q.size⟩,λUF=>aim hk q.res,al3 (λb hb=>q.same b (hS b hb).2) hH⟩
theorem gp:∀(as_ bs:M AV) (us vs:M Value),ae w A β us as_->ae w A β vs bs->ae w A β (us++vs) (as_++bs)
 |[],bs,us,vs,h,g=>by
   grind[ae]
 |a::as_,bs,us,vs,h,g=>by
  obtain⟨v,IZ,rfl,h1,h2⟩:=h;exact⟨v,IZ++vs,rfl,h1,gp as_ bs IZ vs h2 g⟩
theorem He(hE:dx P C E)(hB:al C A β st a w){pre:Prop}{res:AV}(h:NI E x=some (pre,res))(hr:aa w A β v x)(p:Value):A9 w A p v λz=>(pre,res,z):=by
 have hG:∀i d,E.jY i=some d->nb w A i d:=λi d h=>hB.laid i d (by rw[hE.g];exact h);unfold NI at h;split at h
 . rename_i f bs aO;obtain⟨a1,a2,rfl,h1,h2⟩:=hr;split at h
   . rename_i s hs;split at h
     . rename_i aJ0 aBL ns hq;cases hb:(ns.isEmpty&&(an aBL).isEmpty) with
       |false=>grind
       |true=>
        rw[hb] at h;obtain⟨rfl,rfl⟩:=h;simp at hb;obtain⟨rfl,hk⟩:=hb;obtain⟨g1,g2⟩:=hE.sig f s hs;exact XJ (λQ h=>(hE.ok.hp Q).1 h) g1 g2 hG (by rw[Array.toList_append];exact gp _ _ _ _ h1 h2) hq hk p
     grind
   grind
 grind
theorem UH(hE:dx P C E)(hB:al C A β st a w){k:Option Nat}{F:CF}(h:ô E x=some (k,F))(hr:aa w A β v x)(p:Value)(hp:∀j,k=some j->p=β j):A9 w A p v F:=by
 have hG:∀i d,E.jY i=some d->nb w A i d:=λi d h=>hB.laid i d (by rw[hE.g];exact h);unfold ô at h;split at h;rename_i f bs aO;split at h;rename_i t ht;obtain⟨a1,a2,rfl,h1,h2⟩:=hr;have e1:a1= #[]:=by grind[Array.ext',ae]
 subst e1;exact hE.ok.cg f t ht w A β a2 aO k F hG h2 h p hp;split at h;rename_i pre res hq;obtain⟨rfl,rfl⟩:=h;exact He hE hB hq hr p;cases h;grind
def K2 {k k' r:Option Nat}(h:UG k k'=some r)(p:Value)(hp:∀j,r=some j->p=β j):(∀j,k=some j->p=β j)/\∀j,k'=some j->p=β j:=by
 unfold UG at h;split at h;grind;grind
 . rename_i j k;cases hb:Nat.beq j k with
   |false=>grind
   |true=>
    rw[hb] at h;simp at h;simp_all
def EA(hE:dx P C E)(hB:al C A β st a w):∀ {cs:M AV} {vs:M Value} {k:Option Nat} {l:M CF},MD E cs=some (k,l)->ae w A β vs cs->l.length=cs.length/\∀p,(∀j,k=some j->p=β j)->na w A p vs l
 |[],vs,k,l,h,hr=>by
   obtain⟨rfl,rfl⟩:=h;subst hr;exact⟨rfl,λ_ _=>trivial⟩
 |c::cs,vs,k,l,h,hr=>by
  obtain⟨v,bY,rfl,h1,h2⟩:=hr;simp[MD] at h;split at h;rename_i k1 F k2 l2 e1 e2;split at h;rename_i r hj;obtain⟨rfl,rfl⟩:=h;obtain⟨g1,g2⟩:=EA hE hB e2 h2;refine⟨x!,λp hp=>?_⟩;obtain⟨q1,q2⟩:=K2 (β:=β) hj p hp;exact⟨UH hE hB e1 h1 p q1,g2 p q2⟩;grind;grind
theorem al.õ(hB:al C A β st a w)(hd:∀t,dst=some t->t<st.n){d:Nat}{ab:AB}{cond:M Prop}{del:M Nat}{v':Value}{rw :Option Nat}
  (gm:st.h d=none/\qQ d=false) (hg:w.grownBy w' rw) (mO:∀b,rw=some b->∃k,aq del k=true/\(st.h k).isSome/\ah (β k)=some b) (kK:∀b,rw=some b->¬A b)
  (k9:BR w' A (bg β d v') d ab) (hv:v'.oneCell'=true) (hblk:∀b,ah v'=some b->rw=some b\/w.heap.size<=b):
  al C A (bg β d v') (st.put dst {cond:=cond,res:=.own d,del:=del,new:=[(d,ab)]}) (a.put dst v') w':=by
 have hK:bG w w' A A:=λb hb=>⟨hb,hg.block b (hB.bound b hb) (λh=>kK b h.symm hb)⟩
 have hf:∀k b,ai [(d,ab)] k=some b->k=d/\b=ab:=by
  grind[ai,aL]
 refine hB.step (out:={cond:=cond,res:=.own d,del:=del,new:=[(d,ab)]}) hd ?_ (by simp[ai]) ?_ hK hg.os hg.tape hg.output hg.size ?_ (λb hb=>Nat.lt_of_lt_of_le (hB.bound b hb) hg.size) (λb hb=>.inl hb) (by simp[ai]) ?_ ?_ ?_ ?_;grind;intro k h;have :k≠d:=by rintro rfl;simp[ai] at h
 grind[bg];intro b hb ht;refine hg.block b hb (λh=>?_);obtain⟨k,h1,h2,h3⟩:=mO b h.symm;exact ht k ⟨h2,.inr h1⟩ h3;grind;intro k b x h hb;simp[bg,if_true] at hb;grind;grind[Option.isSome_iff_exists];grind[aa,bg]
def Sk {p:Value}:∀ {xs:M Value} {l:M CF},na w A p xs l->xs.length=l.length/\∀u∈xs,u.oneCell'=true
 |[],[],_=>⟨rfl,z!⟩
 |x::xs,_::l,h=>by
  obtain⟨g1,g2⟩:=Sk h.2;exact⟨by simp[g1],λu hu=>(O!.1 hu).elim (λe=>e▸h.1.1) (g2 u)⟩
theorem Hf {p:Value}:∀ {xs ys:M Value} {l m:M CF},na w A p xs l->na w A p ys m->na w A p (xs++ys) (l++m)
 |[],_,[],_,_,h=>h
 |_::_,_,_::_,_,h,h'=>⟨h.1,Hf h.2 h'⟩
theorem je {sz:Nat}(h:w.ownsRow 0 e sz v n xs):(v= .slice none 0 0/\n=0)\/∃b cap,v= .slice (some ⟨b,0,none⟩) n cap/\n<=cap/\cap<=maxLen/\w.rangeAt b 0 xs:=by
 rcases h.2 with h|⟨g,cap,cur,rfl,_,hg,h4,h5,h6,h7⟩;grind;refine .inr ⟨g,cap,rfl,h4,h5,λj u hj=>?_⟩;grind[World.cell?]
def XK(h:w.ownsRow 0 e 1 v n xs):∀w':World,w'.heap=w.heap->(Builtin.firstCells 1 n v).run P w'= .ok xs.toArray w':=by
 intro w' hw;have hl:=h.1;rcases je h with⟨rfl,rfl⟩|⟨b,cap,rfl,_,_,hr⟩;simp_all[U!,Builtin.firstCells]
 have:=run_loadCells_list (P:=P) w' ⟨b,0,none⟩ xs (λj u hj=>by
  rw[Addr.add_mid,y9 hw];exact hr j u hj)
 grind[Builtin.firstCells]
def UI(hT:bz T P){e:TypeId}{te:TE}{len:Nat}(he:nI T t=some e)(iO:lP T t=some te)(q2:1<=te.size)(q3:(ofConst te.zero).cells.length=te.size)(q4:len*te.size<=16777216)
  {parts:M (Nat×AV)} {vparts:Array (Nat×Value)} (hk:vparts.toList.map (·.1)=parts.map (·.1)) (hv:ae w A β (vparts.toList.map (·.2)) (parts.map (·.2))) {cs:M AV}
  (hf:yV (λi=>some (i*te.size,te.size)) ((List.replicate len (ofConst te.zero).cells).flatten) parts=some cs):
  ∃jZ,(Instr.buildSlice t len vparts).run P w= .ok (.slice (some ⟨w.heap.size,0,none⟩) len len) (w.alloc (.cells jZ e))/\ae w A β jZ.toList cs:=by
 obtain⟨hu,Bq,i,hi,qX,Md,Fl⟩:=sD hT he iO;have Rq:te.zero.cells.size=te.size:=by grind[qi]
 have lT:(((Array.range (len*i.size)).map (te.zero.cells[· %te.zero.cells.size]!)).toList)=(List.replicate len te.zero.cells.toList).flatten:=by
  have:=nO te.zero.cells w! len;simp_all
 obtain⟨jZ,g1,g2⟩:=xY (w:=w) (A:=A) (β:=β) (λi=>some (i*te.size,te.size)) _ vparts.toList _ ((Array.range (len*i.size)).map (te.zero.cells[· %te.zero.cells.size]!)) cs
  (by grind[qj,lb]) hk hv hf
 refine⟨jZ,?_,g2⟩;have h24:¬(16777216<len*i.size):=by grind
 by_cases hz:len*i.size=0;simp[Instr.buildSlice,run_underlying hu,sizeOf,typeInfo,hi,qX,newRow];simp_all[Array.range,Array.eq_empty_of_size_eq_zero]
 rw[<-qX] at g1;simp[Instr.buildSlice,run_underlying hu,sizeOf,typeInfo,zeroValue,hi,Fl,h24,hz,g1,newRow]
def ain {arr:Array Value}{sz len:Nat}(hl:arr.size=len*sz)(h1:1<=sz)(h2:len*sz<=16777216):(w.alloc (.cells arr e)).ownsRow 0 e sz (.slice (some ⟨w.heap.size,0,none⟩) len len) len arr.toList:=by
 have h3:len<=len*sz:=Nat.le_mul_of_pos_right _ w!;exact⟨w!,.inr ⟨w.heap.size,len,arr,rfl,w!,heap_alloc_new w _,Nat.le_refl _,by grind[maxLen],hl,by rw[<-hl];exact List.take_length⟩⟩
def Di(hB:al C A β st a w){c b:Nat}(hb:ah (bg β d (.slice (some ⟨w.heap.size,0,none⟩) n c) d)=some b):¬A b:=by
 intro hA;have:=hB.bound b hA;simp_all[bg,P?,ah,A!]
def al4(hB:al C A β st a w){d t len:Nat}{parts:Array (Nat×Operand)}{guard:Option (Nat×Bool)}(hd:∀t,some d=some t->t<st.n){k e:Nat}(gm:st.h k=none/\qQ k=false){jZ:Array Value}
  (gI:(Instr.buildSlice t len (parts.map λ(i,x)=>(i,a.eval x))).run P w= .ok (.slice (some ⟨w.heap.size,0,none⟩) len len) (w.alloc (.cells jZ e))) {ab:AB}
  (k9:BR (w.alloc (.cells jZ e)) A (bg β k (.slice (some ⟨w.heap.size,0,none⟩) len len)) k ab)
  (hK:∀a' w',Rel C (st.put (some d) {cond:=[],res:=.own k,new:=[(k,ab)]}) a' w'->K a' w'):
  Oper.wp P ⟨some d,.buildSlice t len parts,type,pos,after,guard⟩ a w K Q:=by
 have hgr:w.grownBy (w.alloc (.cells jZ e)) none:=by
  refine⟨rfl,rfl,rfl,?_,?_⟩;simp;grind[ej]
 have hblk:∀b,ah (.slice (some ⟨w.heap.size,0,none⟩) len len)=some b->none=some b\/w.heap.size<=b:=λb hb=>by
  grind[ah,Option.some.injEq,Nat.le_of_eq]
 have hrel:Rel C (st.put (some d) {cond:=[],res:=.own k,new:=[(k,ab)]}) (a.put (some d) (.slice (some ⟨w.heap.size,0,none⟩) len len)) (w.alloc (.cells jZ e)):=
  Rel.jl (hB.õ (cond:=[]) (del:=[]) (rw:=none) hd gm hgr nofun nofun k9 rfl hblk)
 refine bn (v:=.slice (some ⟨w.heap.size,0,none⟩) len len) (w':=w.alloc (.cells jZ e)) ?_ (hK _ _ hrel);grind[execOp,Sem.run_bind,Result.andThen_ok,Sem.run_pure]
theorem XL {k:Option Nat}(h:Si k d=true)(hj:k=some j):bg β d v j=β j:=by
 grind[Si,Bool.not_eq_true',cU,bg]
def Sl {cur:M Value}{idx:Nat}(h:cur.take n=xs)(hi:idx<n)(hn:n<=cur.length):(cur.take idx++[v]++cur.drop (idx+1)).take n=xs.set idx v:=by
 have :cur.take idx++[v]++cur.drop (idx+1)=cur.set idx v:=by
  rw[m?,Q! w!];simp
 grind[List.take_set]
def RC(hT:bz T P)(hB:al C A β st a w)(hd:∀t,dst=some t->t<st.n){k i k5 e:Nat}{j:Option Nat}{xs:M Value}(hp:aa w A β vp (.elem k 1 i 0))(hx:aa w A β vx (.own k5))
  (hk:st.h k=some (.ek e j xs i)) (q3:iL T t 1=true) (hi:i<xs.length) {cond:M Prop}:
  ∃w',(Instr.storeAt t vp vx).run P w= .ok () w'/\Rel C (st.put dst {cond:=cond,res:=.undef,gb:=[(k,.ek e (some k5) xs i)]}) (a.put dst undef) w':=by
 obtain⟨ii,ju,qX⟩:=ph hT q3;obtain⟨b,m,cap,bI,rfl⟩:=hp;obtain⟨rfl,h1⟩:=hx;obtain⟨ys,o1,o2,o3,_⟩:=hB.blocks k _ hk;rcases o1.2 with⟨g,_⟩|⟨g,jM,cur,hv,_,hg,g4,g5,g6,g7⟩;omega;rw[bI] at hv;obtain⟨rfl,rfl,rfl⟩:=hv
 have lT:(β k5).cells= #[β k5]:=by
  cases hv:β k5<;>rw[hv] at h1<;>first|rfl|cases h1
 have hb:ah (β k)=some b:=by rw[bI];rfl
 have kK:=o2 b hb;have gf:i*1+0<xs.length*1:=by omega
 have NL:xs.length*1<=cur.toList.length:=by
  grind
 have pX:=lS (P:=P) (w:=w) ju (v:=β k5) x! x! hg (off:=i*1+0) x!;refine⟨_,pX,?_⟩;rw[lT];refine hB.write hd (k:=k) (fz:=[]) (ab:=.ek e (some k5) xs i) x! hb kK hg ⟨rfl,rfl,rfl⟩ z! ?_ (by rfl);intro A2 a1 a2 a3;have Up:∀b',A2 b'->A b':=λb' h=>(a2 b' h).elim id λ⟨j,hj,_⟩=>by grind
 have qY:=Sl (v:=β k5) g7 gf NL;refine⟨ys.set (i*1+0) (β k5),⟨x!,.inr ⟨b,cap,_,bI,w!,setRow_heap w b cur _ e _ hg,g4,g5,?_,?_⟩⟩,λb' eO hA=>o2 b' eO (Up b' hA),λm hm=>?_,λj' gz=>?_⟩;grind;omega;grind;grind
theorem Sm {p v:Value}{F:CF}(h:A9 w A p v F):∀ {xs:M Value} {l:M CF} (i:Nat),na w A p xs l->na w A p (xs.set i v) (l.set i F)
 |[],[],_,_=>trivial
 |_::_,_::_,0,g=>⟨h,g.2⟩
 |_::_,_::_,i+1,g=>⟨g.1,Sm h i g.2⟩
def ö(hE:dx P C E)(hB:al C A β st a w)(hd:∀t,dst=some t->t<st.n){k i e:Nat}{q:Option Nat}{l:M CF}{pre:Prop}{res:AV}(hp:aa w A β vp (.elem k 1 i 0))(hx:aa w A β vx x)(hf:NI E x=some (pre,res))
  (hk:st.h k=some (.dq e q l)) (q3:iL E.T t 1=true) (hi:i<l.length) {cond:M Prop}:
  ∃w',(Instr.storeAt t vp vx).run P w= .ok () w'/\Rel C (st.put dst {cond:=cond,res:=.undef,gb:=[(k,.dq e q (aB.put l i pre res))]}) (a.put dst undef) w':=by
 obtain⟨ii,ju,qX⟩:=ph hE.eY q3;obtain⟨b,m,cap,bI,rfl⟩:=hp;obtain⟨ys,o1,o2,o3⟩:=hB.blocks k _ hk;rcases o1.2 with⟨g,_⟩|⟨g,jM,cur,hv,_,hg,g4,g5,g6,g7⟩;omega;rw[bI] at hv;obtain⟨rfl,rfl,rfl⟩:=hv;have hC:=λp=>He hE hB hf hx p;have lT:vx.cells= #[vx]:=cells_one (hC undef).1;have h1c:=(hC undef).1;have hb:ah (β k)=some b:=by rw[bI];rfl
 have kK:=o2 b hb;have gf:i*1+0<l.length*1:=by omega
 have NL:l.length*1<=cur.toList.length:=by
  grind
 have pX:=lS (P:=P) (w:=w) ju (v:=vx) x! x! hg (off:=i*1+0) x!;refine⟨_,pX,?_⟩;rw[lT];refine hB.write hd (k:=k) (fz:=[]) (ab:=.dq e q (aB.put l i pre res)) x! hb kK hg ⟨rfl,rfl,rfl⟩ z! ?_ (by rfl);intro A2 a1 a2 a3;have Up:∀b',A2 b'->A b':=λb' h=>(a2 b' h).elim id λ⟨j,hj,_⟩=>by grind
 have hK:∀cs,bG w (w.setRow b cs) A A2:=λcs b' eO=>⟨a1 b' eO,setRow_other w b b' cs λh=>kK (h▸eO)⟩;have qY:=Sl (v:=vx) g7 gf NL;have hln:(aB.put l i pre res).length=l.length:=List.length_set ..;refine⟨ys.set (i*1+0) vx,⟨x!,.inr ⟨b,cap,_,by rw[hln];exact bI,w!,setRow_heap w b cur _ e _ hg,w!,g5,?_,?_⟩⟩,λb' eO hA=>o2 b' eO (Up b' hA),λp hp=>?_⟩;grind;rw[hln];grind;rw[show i*1+0=i by omega];exact Sm ((hC p).mono (hK _)) i ((o3 p hp).mono (hK _))
def EB(hE:dx P C E)(hB:al C A β st a w){dst:Option Nat}(hd:∀t,dst=some t->t<st.n){x i:Operand}{guard:Option (Nat×Bool)}(hs:aV E.T t 1=true)
  {k n:Nat} {ki:IntKind} {i0:Int} {ys:M Value} (hx:ev st x= .own k) (hi:ev st i= .int ki i0) (o1:w.ownsRow 0 e 1 (β k) n ys) (hc:0<=i0/\i0<(n:Int)) {cond:M Prop}
  (hK:∀a' w',Rel C (st.put dst {cond:=cond,res:=.elem k 1 i0.toNat 0}) a' w'->K a' w'):Oper.wp P ⟨dst,.indexAddr t x i,type,pos,after,guard⟩ a w K Q:=by
 obtain⟨h0,h1⟩:=hc;obtain⟨e',ii,hu,ju,dH,lF⟩:=fe hE.eY hs;have mi:=aC hB x;rw[hx] at mi;have XF:=aC hB i;rw[hi] at XF;rcases je o1 with⟨_,hn⟩|⟨b,cap,hv,_⟩;omega;refine bn (v:=.pointer (some ⟨b,0+i0.toNat*1,none⟩)) (w':=w) ?_ (hK _ _ (Rel.jl (hB.quiet hd ⟨rfl,rfl,rfl⟩ ?_)));have:=iM (P:=P) (w:=w) hu ju b 0 n cap ki i0 h0 h1;simp only[execOp,mi.1,hv,XF.1,Sem.run_bind,this,dH,Result.andThen_ok,Sem.run_pure];grind[aa]
theorem XM(hE:dx P C E)(hB:al C A β st a w)(h:Ez E st o=some out)(pK:fq st o=true)(fD:jQ st.h out.new=true)(hc:∀p∈out.cond,p)
  (hK:∀a' w',Rel C (st.put o.dst out) a' w'->K a' w'):o.wp P a w K Q:=by
 have hd:∀t,o.dst=some t->t<st.n:=by
  intro t ht;simp_all[fq,L!]
 obtain⟨dst,op,type,pos,after,guard⟩:=o;unfold Ez at h;simp at h;split at h
 . rename_i t len parts;split at h
   . rename_i d e te he iO;cases hq:(fresh st.h (st.kb+d)&&(Nat.blt 0 te.size&&(Nat.beq (ofConst te.zero).cells.length te.size&&Nat.ble (len*te.size) 16777216))) with
     |false=>grind
     |true=>
      rw[hq] at h;simp only[K!] at h;simp only[B!] at hq;obtain⟨q0,q2,q3,q4⟩:=hq;have q2:=L! q2;have q3:=D! q3;have q4:=L! q4;have gm:=pJ q0;split at h
      . rename_i cs hf;cases hq5:(cs.all AV.one&&Nat.beq cs.length (len*te.size)) with
        |false=>grind
        |true=>
        rw[hq5] at h;simp only[K!] at h;simp only[B!] at hq5
        have ar9:ae w A β ((parts.map λ(i,x)=>(i,a.eval x)).toList.map (·.2)) ((parts.toList.map λp=>(p.1,ev st p.2)).map (·.2)):=by
         have:=nh hB (parts.toList.map (·.2));simp_all[Function.comp_def]
        obtain⟨jZ,gI,g2⟩:=UI hE.eY (w:=w) (A:=A) (β:=β) he iO q2 q3 q4 (vparts:=parts.map λ(i,x)=>(i,a.eval x)) z! ar9 hf
        have hlen:jZ.size=len*te.size:=by
         have:=dM cs jZ.toList g2;simp_all
        have jv:∀u∈jZ.toList,u.oneCell'=true:=Nr cs _ hq5.1 g2;have gU:=ain (w:=w) (e:=e) hlen q2 q4;have Rl:bG w (w.alloc (.cells jZ e)) A A:=λb hb=>⟨hb,ej _ b (hB.bound b hb)⟩;split at h
        . rename_i k l mD;cases NM:Si k (st.kb+d) with
          |false=>grind
          |true=>
          rw[NM] at h;simp only[K!,A!] at h;cases L8:Nat.beq te.size 1 with
          |false=>grind
          |true=>
           rw[L8] at mD;simp only[K!] at mD;have L8:=D! L8;obtain⟨r1,r2⟩:=EA hE hB mD g2
           have aPE:cs.length=len:=by
            simp_all
           subst h;refine al4 (ab:=.dq e k l) hB hd gm gI ⟨jZ.toList,?_,λb hb=>Di hB hb,λp hp=>(r2 p λj hj=>(hp j hj).trans (XL NM hj)).mono Rl⟩ hK;simp_all[bg,P?]
        . cases hk:(au cs).isEmpty with
          |false=>grind
          |true=>
           rw[hk] at h;simp only[K!,A!] at h;subst h;exact al4 (ab:=.bj e te.size len cs) hB hd gm gI ⟨jZ.toList,by simp_all[bg,P?],λb hb=>Di hB hb,λfm=>cF Rl _ _ (NK (List.isEmpty_iff.1 hk) g2)⟩ hK
      grind
   grind
 . rename_i c;obtain⟨callee,args,argTypes⟩:=c;simp only at h;split at h
   . rename_i b;split at h
     . rename_i x y t t' bm Jd;split at h
       . rename_i d e te j k he iO hx hy;split at h
         . rename_i e1 q l e2 q' m hj hk;cases hq:(fresh st.h (st.kb+d)&&(Nat.beq e e1&&(Nat.beq te.size 1&&(Nat.beq (ofConst te.zero).cells.length te.size&&cE E.T t' Dg)))) with
           |false=>grind
           |true=>
           rw[hq] at h;simp only[K!] at h;simp only[B!] at hq;obtain⟨q0,q1,q2,q3,q4⟩:=hq;have q1:=D! q1;have q2:=D! q2;have q3:=D! q3;subst q1;split at h
           . rename_i r hr;cases NM:Si r (st.kb+d) with
             |false=>grind
             |true=>
             rw[NM] at h;simp only[cond_true,Option.some.injEq] at h;subst h;have pg:=eD hc;change l.length+m.length<=_ at pg;have ea:args= #[x,y]:=by grind
             have et:argTypes= #[t,t']:=by grind
             subst ea;subst et;obtain⟨hu,Bq,i,hi,qX,Md,Fl⟩:=sD hE.eY he iO;obtain⟨d',mV,qR⟩:=nd hE.eY q4;have hEl:GW P t t' e 1 te.bytes te.zero:=⟨hu,⟨d',mV,Nq qR⟩,⟨i,hi,w!,Md,Fl⟩,by grind[qi],w!⟩;obtain⟨xs,o1,o2,o3⟩:=hB.blocks j _ hj;obtain⟨ys,p1,p2,p3⟩:=hB.blocks k _ hk;have mi:=aC hB x;rw[hx] at mi;have hyr:=aC hB y;rw[hy] at hyr;have hxe:a.eval x=β j:=mi.1;have hye:a.eval y=β k:=hyr.1;obtain⟨ad,lk,ck,G9⟩:=ib p1
             have hlen:(Builtin.lenOf (β k)).run P w= .ok m.length w:=by
              rcases je p1 with⟨g1,g2⟩|⟨b,cap,g1,_⟩;rw[g1,g2];rfl;rw[g1];rfl
             have hm:l.length+m.length<=maxLen:=by have:=Nat.le_trans pg (Nat.div_le_self _ _);grind[maxLen]
             obtain⟨s1,s2⟩:=Sk (p3 (q'.elim (β 0) β) (λj hj=>by grind));obtain⟨v',w',g1,g2,g3,g4⟩:=nN (ty:=type) hEl o1 hlen (λw' hw=>XK p1 w' hw) w! s2 hm (uF pg);rw[tN (ib o1)] at g3;have Ru:bG w w' A A:=λb hb=>⟨hb,g3.block b (hB.bound b hb) (λh=>o2 b h.symm hb)⟩
             have fl:BR w' A (bg β (st.kb+d) v') (st.kb+d) (.dq e r (l++m)):=by
              refine⟨xs++ys,?_,λb hb hA=>?_,λp hp=>?_⟩;simp_all[bg,P?,H!]
              simp only[bg,if_true] at hb;rcases g4 b hb with h|h;grind;have:=hB.bound b hA;omega;obtain⟨u1,u2⟩:=K2 (β:=β) hr p (λj hj=>(hp j hj).trans (XL NM hj));exact Hf ((o3 p u1).mono Ru) ((p3 p u2).mono Ru)
             obtain⟨Me,l2,c2,Mf⟩:=ib g2;have hrel:Rel C (st.put (some d) _) (a.put (some d) v') w':=Rel.jl (hB.õ (cond:=[l.length+m.length<=140737488355328/te.bytes]) (del:=[j]) (rw:=ah (β j)) hd (pJ q0) g3 (λb hb=>⟨j,by simp[aq],x!,hb⟩) (λb hb=>o2 b hb) fl (by rw[Mf];rfl) g4);refine bn (v:=v') (w':=w') ?_ (hK _ _ hrel);simp_all[execOp,resolve,invoke,builtin]
           grind
         grind
       . rename_i d pZ;cases hq:fresh st.h (st.kb+d) with
         |false=>rw[hq] at h;cases h
         |true=>
          rw[hq] at h;simp only[cond_true] at h;have ea:args= #[x,y]:=by grind
          have et:argTypes= #[t,t']:=by grind
          subst ea;subst et;obtain⟨v',w',g1,hrel⟩:=Xz (ty:=type) hE.eY hB hd (pJ hq) (aC hB x) (aC hB y) h hc;refine bn (v:=v') (w':=w') ?_ (hK _ _ hrel);simp_all[execOp,resolve,invoke,builtin]
       grind
     . rename_i x t bm Jd;split at h
       . rename_i k hx;split at h
         . rename_i e sz n cs hk;cases hq:cE E.T t gN with
           |false=>grind
           |true=>
            rw[hq] at h;simp only[cond_true,Option.some.injEq] at h;subst h;have ea:args= #[x]:=by grind
            have et:argTypes= #[t]:=by grind
            subst ea;subst et;obtain⟨dd,hu,Fg⟩:=nd hE.eY hq;obtain⟨e',rfl⟩:∃e',dd= .slice e':=by cases dd<;>simp_all[gN]
            have mi:=aC hB x;rw[hx] at mi;obtain⟨xs,o1,o2,o3⟩:=hB.blocks k _ hk
            have Ey:∃ad cap,a.eval x= .slice ad n cap/\n<=maxLen:=by
             rcases je o1 with⟨h1,h2⟩|⟨b,cap,hv,h3,h4,_⟩;exact⟨none,0,by rw[mi.1,h1,h2],w!⟩;exact⟨_,cap,by rw[mi.1,hv],w!⟩
            obtain⟨ad,cap,Ey,hn⟩:=Ey;refine bn (v:=.int .i64 (n:Int)) (w':=w) ?_ (hK _ _ (Rel.jl (hB.quiet hd ⟨rfl,rfl,rfl⟩ (xZ n hn))));simp_all[execOp,resolve,invoke,builtin,Builtin.len_,run_underlying,goInt]
         grind
       grind
     grind
   grind
 . rename_i t x y;split at h
   . rename_i k sz i j k5 hx hy;split at h
     . rename_i e j0 xs i0 e5 uI l5 fr5 hk D4;cases hq:(Nat.beq sz 1&&(Nat.beq j 0&&(iL E.T t 1&& !Nat.beq k5 k))) with
       |false=>grind
       |true=>
       rw[hq] at h;simp only[cond_true,Option.some.injEq] at h;subst h;simp only[Bool.and_eq_true] at hq;obtain⟨q1,q2,q3,_⟩:=hq;have q1:=Nat.eq_of_beq_eq_true q1;have q2:=Nat.eq_of_beq_eq_true q2;subst q1;subst q2;have hi:i<xs.length:=hc _ (List.mem_cons_self ..);have he:i=i0:=hc _ (List.mem_cons_of_mem _ (List.mem_cons_self ..));subst he;obtain⟨w',g1,g2⟩:=RC hE.eY hB hd (hx▸aC hB x) (hy▸aC hB y) hk q3 hi;refine nK (w':=w') ?_ (hK _ _ g2);grind[execOp,Sem.run_bind,Result.andThen_ok,Sem.run_pure]
     grind
   . rename_i k sz i j f bs cs hx hy;split at h
     . rename_i e q l pre res hk hth;cases hq:(Nat.beq sz 1&&(Nat.beq j 0&&iL E.T t 1)) with
       |false=>grind
       |true=>
       rw[hq] at h;simp only[cond_true,Option.some.injEq] at h;subst h;simp only[Bool.and_eq_true] at hq;obtain⟨q1,q2,q3⟩:=hq;have q1:=Nat.eq_of_beq_eq_true q1;have q2:=Nat.eq_of_beq_eq_true q2;subst q1;subst q2;obtain⟨w',g1,g2⟩:=ö hE hB hd (hx▸aC hB x) (hy▸aC hB y) hth hk q3 (eD hc);refine nK (w':=w') ?_ (hK _ _ g2);grind[execOp,Sem.run_bind,Result.andThen_ok,Sem.run_pure]
     grind
   grind
 . rename_i t x i;split at h
   . rename_i k ki i0 hx hi;split at h
     . rename_i e sz n cs hk;cases hs:(aV E.T t sz&&Nat.blt E.IV n) with
       |false=>grind
       |true=>
        rw[hs] at h;simp only[K!,A!] at h;subst h;have hc1:=eD hc;simp only[B!] at hs;have hw:=L! hs.2;obtain⟨e',ii,hu,ju,dH,lF⟩:=fe hE.eY hs.1;have mi:=aC hB x;rw[hx] at mi;have XF:=aC hB i;rw[hi] at XF;obtain⟨xs,o1,o2,o3⟩:=hB.blocks k _ hk;rcases je o1 with⟨_,hn⟩|⟨b,cap,hv,_⟩;omega;have h0:0<=i0:=by omega
        have h1:i0<(n:Int):=by omega
        refine bn (v:=.pointer (some ⟨b,0+i0.toNat*sz,none⟩)) (w':=w) ?_ (hK _ _ (Rel.jl (hB.quiet hd ⟨rfl,rfl,rfl⟩ ?_)));have:=iM (P:=P) (w:=w) hu ju b 0 n cap ki i0 h0 h1;simp only[execOp,mi.1,hv,XF.1,Sem.run_bind,this,dH,Result.andThen_ok,Sem.run_pure];grind[aa]
     . rename_i e j xs j0 hk;cases hs:aV E.T t 1 with
       |false=>grind
       |true=>
        rw[hs] at h;simp only[K!,A!] at h;subst h;obtain⟨ys,o1,_⟩:=hB.blocks k _ hk;exact EB hE hB hd hs hx hi o1 (eD hc) hK
     . rename_i e j l hk;cases hs:aV E.T t 1 with
       |false=>grind
       |true=>
        rw[hs] at h;simp only[K!,A!] at h;subst h;obtain⟨ys,o1,_⟩:=hB.blocks k _ hk;exact EB hE hB hd hs hx hi o1 (eD hc) hK
     grind
   grind
 . rename_i t x;split at h
   . rename_i k sz i j te hx ht;split at h
     . rename_i e s2 n cs hk;cases hs:Nat.beq sz s2 with
       |false=>grind
       |true=>
        rw[hs] at h;have hs:=Nat.eq_of_beq_eq_true hs;subst hs;simp only[cond_true] at h;split at h;rename_i r hp;simp only[Option.some.injEq] at h;subst h;have mi:=aC hB x;rw[hx] at mi;obtain⟨b,m,cap,bI,hv⟩:=mi;obtain⟨xs,o1,o2,o3⟩:=hB.blocks k _ hk;rcases je o1 with⟨g1,_⟩|⟨b',jM,g1,_,_,hr⟩;grind;rw[g1] at bI;simp only[Value.slice.injEq,Option.some.injEq,Addr.mk.injEq,and_true] at bI;obtain⟨rfl,_,_⟩:=bI;obtain⟨v,e1,e2⟩:=kv (β:=β) (A:=A) hE.eY ht (o3 β) hp hr;rw[Nat.zero_add] at e1;refine bn (v:=v) (w':=w) ?_ (hK _ _ (Rel.jl (hB.quiet hd ⟨rfl,rfl,rfl⟩ e2)));grind[execOp,Sem.run_bind,Result.andThen_ok,Sem.run_pure];grind
     . rename_i e k5 xs i0 hk;cases hs:(Nat.beq sz 1&&Nat.beq j 0) with
       |false=>grind
       |true=>
        rw[hs] at h;simp only[B!] at hs;have q1:=D! hs.1;have q2:=D! hs.2;subst q1;subst q2;simp only[K!] at h;split at h
        . rename_i r hp;simp only[A!] at h;subst h;have hi:i<xs.length:=hc _ (G! ..);have he:i=i0:=hc _ (F! _ (G! ..));subst he;have mi:=aC hB x;rw[hx] at mi;obtain⟨b,m,cap,bI,hv⟩:=mi;obtain⟨ys,o1,o2,o3,o4⟩:=hB.blocks k _ hk;obtain⟨o5,o6⟩:=o4 k5 rfl;rcases je o1 with⟨g1,_⟩|⟨b',jM,g1,_,_,hr⟩;omega
          . rw[g1] at bI;simp only[Value.slice.injEq,A!,Addr.mk.injEq,and_true] at bI;obtain⟨rfl,_,_⟩:=bI
            have hr2:w.rangeAt b' (i*1) [β k5]:=λq u hq=>by
             match q,hq with
             |0,hq=>
              simp only[X?,A!] at hq;subst hq;have:=hr i _ o5;omega
             |_+1,hq=>grind
            obtain⟨v,e1,e2⟩:=kv (β:=β) (A:=A) hE.eY ht (cs:=[β k5]) (as_:=[.own k5]) ⟨_,[],rfl,⟨rfl,o6⟩,rfl⟩ hp hr2;refine bn (v:=v) (w':=w) ?_ (hK _ _ (Rel.jl (hB.quiet hd ⟨rfl,rfl,rfl⟩ e2)));grind[execOp,Sem.run_bind,Result.andThen_ok,Sem.run_pure]
        grind
     grind
   rename_i k off te hx ht;split at h;rename_i r y hk;split at h;rename_i q hp;simp only[Option.some.injEq] at h;subst h;have mi:=aC hB x;rw[hx] at mi;obtain⟨b',bI,hv⟩:=mi;obtain⟨b,arr,e,g1,g2,g3,g4⟩:=hB.blocks k _ hk;rw[g1] at bI;simp only[Value.pointer.injEq,Option.some.injEq,Addr.mk.injEq,and_true] at bI;subst bI;obtain⟨v,e1,e2⟩:=kv (β:=β) (A:=A) hE.eY ht (ia _ _ _ g4) hp (b:=b) (o:=0) (λj u hj=>by grind[World.cell?]);rw[Nat.zero_add] at e1;refine bn (v:=v) (w':=w) ?_ (hK _ _ (Rel.jl (hB.quiet hd ⟨rfl,rfl,rfl⟩ e2)));grind[execOp,Sem.run_bind,Result.andThen_ok,Sem.run_pure];grind;grind;grind
 grind
theorem K3(hE:dx P C E)(hB:al C A β st a w)(h:NJ E st o=some out)(pK:fq st o=true)(fD:jQ st.h out.new=true)(hc:∀p∈out.cond,p)
  (hK:∀a' w',Rel C (st.put o.dst out) a' w'->K a' w'):o.wp P a w K Q:=by
 grind[NJ,Option.some.injEq,XI,XM]
def qZ(T:bX)(h:aJ):M AV->M (Option TypeId)->Option (M (Nat×AB))
 |_,[]=>some []
 |_::as_,none::r=>qZ T h as_ r
 |.ref k _::as_,some ty::r=>match h k,rowOf T r6 ty,qZ T h as_ r with
   |some (.cells cs),some ts,some u=>match kZ ts cs with
    |some x=>some ((k,.fvar ts x)::u)
    |none=>none
   |_,_,_=>none
 |_,_=>none
def Az(u:M (Nat×AB))(h:aJ):aJ:=λk=>match ai u k with
 |some b=>some b
 |none=>h k
def zh(h:aJ):AV->AV
 |.ref k off=>match h k with
   |some (.fvar r x)=>.cz r x off
   |_=>.ref k off
 |a=>a
abbrev aB.K4(n:Nat):M AV:=List.replicate n .nil
abbrev aB.Jh(n:Nat):M CF:=List.replicate n λz=>(False,.undef,z)
def NN(te:TE)(e n:Nat):Option AB:=bif Nat.beq te.size 1 then(match te.zero with
 |.slice none 0 0=>some (.bj e 1 n (aB.K4 n))
 |.nilFunc=>some (.dq e none (aB.Jh n))
 |_=>none) else none
def EC(E:Env)(st:St)(o:Oper):Option Out:=match o.dst with
 |some d=>match E.L7 d with
  |some l=>match o.op with
   |.makeFunc f first aO=>match qZ E.T st.h (aO.toList.map (ev st)) l with
     |some u=>some {cond:=[],res:=.fn f (first.toList.map (ev st)) ((aO.toList.map (ev st)).map (zh (Az u st.h))),gb:=u}
     |none=>none
   |.load t x=>match p9 E.T st.h t (ev st x),qZ E.T st.h [ev st x] l with
     |some out,some u=>some {cond:=out.cond,res:=out.res,gb:=u}
     |_,_=>none
   |.makeSlice t x y=>match nI E.T t,lP E.T t,ev st x,ev st y with
     |some e,some te,.int _ n,.int _ c=>match NN te e n.toNat with
      |some ab=>bif fresh st.h (st.kb+d) then some {cond:=[0<=n/\n<=c/\c<=140737488355328/te.bytes],res:=.own (st.kb+d),new:=[(st.kb+d,ab)]} else none
      |none=>none
     |_,_,_,_=>none
   |_=>none
  |none=>none
 |none=>none
theorem uJ:∀ {as_:M AV} {l:M (Option TypeId)} {u:M (Nat×AB)} {k:Nat} {ab:AB},qZ T st.h as_ l=some u->ai u k=some ab->∃ts x cs,ab= .fvar ts x/\st.h k=some (.cells cs)/\kZ ts cs=some x
 |as_,[],u,k,ab,h,hf=>by
  simp[qZ,A!] at h;subst h;cases hf
 |[],o::r,u,k,ab,h,hf=>by grind[qZ]
 |x::as_,none::r,u,k,ab,h,hf=>uJ (as_:=as_) (l:=r) (by grind[qZ]) hf
 |x::as_,some ty::r,u,k,ab,h,hf=>by
  unfold qZ at h;split at h;grind;grind
  . rename_i j off as' ty' r' e1 e2;obtain⟨rfl,rfl⟩:=e2;split at h
    . rename_i cs ts u' h1 h2 h3;split at h
      . simp at h;subst h;simp[ai] at hf;cases hb:Nat.beq k j with
        |true=>
         have:=Nat.eq_of_beq_eq_true hb;grind
        |false=>
         rw[hb] at hf;exact uJ h3 hf
      grind
    grind
  grind
def XN(A:Nat->Prop)(β:Nat->Value)(u:M (Nat×AB))(b:Nat):Prop:=A b\/∃k,(ai u k).isSome/\ah (β k)=some b
theorem aip {k off:Nat}{r:M Ty}{x:Row r}(hb:BR w A β k (.fvar r x))(h:aa w A β v (.ref k off)):aa w A β v (.cz r x off):=by
 obtain⟨b,arr,e,h1,h2,h3,h4⟩:=hb;obtain⟨b',g1,g2⟩:=h;rw[h1] at g1;refine⟨b,0,arr.toList,x!,h3,λj u hj=>?_,h4⟩;grind[World.cell?]
theorem adi(hB:al C A β st a w)(hu:qZ T st.h as_ l=some u){k:Nat}{r:M Ty}{x:Row r}(h:Az u st.h k=some (.fvar r x)):BR w (XN A β u) β k (.fvar r x):=by
 have hK:bG w w A (XN A β u):=λb hb=>⟨.inl hb,rfl⟩;unfold Az at h;split at h;rename_i b hf;simp at h;subst h;obtain⟨ts,y,cs,e,h1,h2⟩:=uJ hu hf;cases e;obtain⟨b,arr,e,g1,g2,g3,g4,g5⟩:=hB.blocks k _ h1;exact⟨b,arr,e,g1,g2,.inr ⟨k,x!,by rw[g1];rfl⟩,br hK _ _ _ (ng _ _ _ _ g4 h2)⟩;obtain⟨b,arr,e,h1,h2,h3,h4⟩:=hB.blocks k _ h;exact⟨b,arr,e,h1,h2,.inl h3,br hK _ _ _ h4⟩
def al6(h:aJ)(hb:∀k r (x:Row r),h k=some (.fvar r x)->BR w A β k (.fvar r x)){x:AV}(hr:aa w A β v x):aa w A β v (zh h x):=by
 unfold zh;grind[aip]
def Sn(h:aJ)(hb:∀k r (x:Row r),h k=some (.fvar r x)->BR w A β k (.fvar r x)):∀ {xs:M AV} {vs:M Value},ae w A β vs xs->ae w A β vs (xs.map (zh h))
 |[],vs,hr=>hr
 |x::xs,vs,hr=>by
  obtain⟨v,bY,rfl,h1,h2⟩:=hr;exact⟨v,bY,rfl,al6 h hb h1,Sn h hb h2⟩
theorem al.L7(hB:al C A β st a w)(hd:∀t,dst=some t->t<st.n)(hu:qZ T st.h as_ l=some u){cond:M Prop}
  (hr:aa w (XN A β u) β v res):al C (XN A β u) β (st.put dst {cond:=cond,res:=res,gb:=u}) (a.put dst v) w:=by
 have hl:∀k,(ai u k).isSome->(st.h k).isSome:=λk hk=>by
  grind[Option.isSome_iff_exists,uJ]
 refine hB.step (out:={cond:=cond,res:=res,gb:=u}) hd nofun (λk b h=>hl k x!) (λ_ _=>rfl) (λb hb=>⟨.inl hb,rfl⟩) rfl rfl rfl (Nat.le_refl _) (λ_ _ _=>rfl) (λb hb=>?_) (λb hb=>?_) (λk ab h _=>?_) nofun nofun (λk _ _ h=>by cases h) hr
 rcases hb with hb|⟨k,hk,hb⟩;exact hB.bound b hb;exact mh hB (hl k hk) hb;rcases hb with hb|⟨k,hk,hb⟩;grind;exact .inr (.inr ⟨k,⟨hl k hk,.inl hk⟩,hb⟩);obtain⟨ts,x,cs,rfl,_,_⟩:=uJ hu h;exact adi hB hu (by grind[Az])
def Sq:∀n,ae w A β (List.replicate n (.slice none 0 0)) (List.replicate n .nil)
 |0=>rfl
 |n+1=>⟨_,_,rfl,rfl,Sq n⟩
def NO {p:Value}:∀n,na w A p (List.replicate n .nilFunc) (aB.Jh n)
 |0=>trivial
 |n+1=>⟨⟨rfl,.inl λ_ h=>h⟩,NO n⟩
def NP(hT:bz T P)(hB:al C A β st a w)(hd:∀t,dst=some t->t<st.n)(gm:st.h d=none/\qQ d=false){e:TypeId}{te:TE}(he:nI T t=some e)(iO:lP T t=some te){n c:Int}(hz:NN te e n.toNat=some ab)
  {k k':IntKind} {vy:Value} (hx:aa w A β vx (.int k n)) (hy:aa w A β vy (.int k' c)) (hc:0<=n/\n<=c/\c<=140737488355328/te.bytes) {cond:M Prop}:
  ∃v' w',(Instr.makeSlice t vx vy).run P w= .ok v' w'/\Rel C (st.put dst {cond:=cond,res:=.own d,new:=[(d,ab)]}) (a.put dst v') w':=by
 obtain⟨c0,c1,c2⟩:=hc;obtain⟨hu,Bq,i,hi,qX,Md,Fl⟩:=sD hT he iO
 have q:te.size=1/\((te.zero= .slice none 0 0/\ab= .bj e 1 n.toNat (aB.K4 n.toNat))\/(te.zero= .nilFunc/\ab= .dq e none (aB.Jh n.toNat))):=by
  unfold NN at hz;cases hq:Nat.beq te.size 1 with
  |false=>rw[hq] at hz;cases hz
  |true=>
   rw[hq] at hz;refine⟨D! hq,?_⟩;simp only[K!] at hz;split at hz;rename_i h;cases hz;exact .inl ⟨h,rfl⟩;rename_i h;cases hz;exact .inr ⟨h,rfl⟩;cases hz
 obtain⟨q1,q2⟩:=q;have mD:te.zero.cells= #[te.zero]:=by rcases q2 with⟨h,_⟩|⟨h,_⟩<;>rw[h]<;>rfl
 obtain⟨rfl,_⟩:=hx;obtain⟨rfl,Rx⟩:=hy
 have aJN:(te.bytes:Int)*c<=281474976710656:=by
  grind[Nat.eq_zero_or_pos,Int.le_ediv_iff_mul_le,Int.mul_comm]
 have za:c<=9223372036854775807:=by
  have:=Int.ediv_le_self (te.bytes:Int) (show(0:Int)<=140737488355328 by omega);omega
 have hr:=run_make (P:=P) w t e i te.zero hu hi Fl k k' n c c0 c1 x! za
 have lT:(madeCells te.zero.cells (c.toNat*i.size)).toList=List.replicate c.toNat te.zero:=by
  rw[mD,show i.size=1 by omega,List.eq_replicate_iff];grind[madeCells]
 have dH:(madeCells te.zero.cells (c.toNat*i.size)).size=c.toNat:=by
  grind[Array.length_toList,List.length_replicate]
 have gU:(w.alloc (.cells (madeCells te.zero.cells (c.toNat*i.size)) e)).ownsRow 0 e 1 (.slice (some ⟨w.heap.size,0,none⟩) n.toNat c.toNat) n.toNat (List.replicate n.toNat te.zero):=by
  refine⟨z!,.inr ⟨w.heap.size,c.toNat,_,rfl,w!,heap_alloc_new w _,w!,by grind[maxLen],w!,?_⟩⟩;grind
 refine⟨_,_,hr,Rel.jl (hB.õ (del:=[]) (rw:=none) hd gm ⟨rfl,rfl,rfl,z!,λk hk _=>ej _ k hk⟩ nofun nofun ?_ rfl (λb hb=>?_))⟩;rcases q2 with⟨h,rfl⟩|⟨h,rfl⟩;refine⟨List.replicate n.toNat (.slice none 0 0),?_,λb hb=>Di hB hb,λfm=>Sq _⟩;simpa[bg,h] using gU;refine⟨List.replicate n.toNat .nilFunc,?_,λb hb=>Di hB hb,λp _=>NO _⟩;simpa[bg,aB.Jh,h] using gU;grind[ah,Option.some.injEq,Nat.le_of_eq]
theorem XO(hE:dx P C E)(hB:al C A β st a w)(h:EC E st o=some out)(pK:fq st o=true)(hc:∀p∈out.cond,p)
  (hK:∀a' w',Rel C (st.put o.dst out) a' w'->K a' w'):o.wp P a w K Q:=by
 have hd:∀t,o.dst=some t->t<st.n:=by
  intro t ht;simp_all[fq,L!]
 have AW:∀u:M (Nat×AB),bG w w A (XN A β u):=λu b hb=>⟨.inl hb,rfl⟩;obtain⟨dst,op,type,pos,after,guard⟩:=o;unfold EC at h;simp only at h;split at h
 . rename_i d;split at h
   . split at h;rename_i f first aO
     split at h;rename_i u hu;simp at h;subst h;refine bn (v:=.func f (first.map a.eval) (aO.map a.eval)) (by rfl) (hK _ _ (Rel.jl (hB.L7 hd hu ?_)));have h1:=cF (AW u) _ _ (nh hB first.toList);have h2:=Sn (Az u st.h) (λk r x h=>adi hB hu h) (cF (AW u) _ _ (nh hB aO.toList));exact⟨_,_,rfl,by simp_all,by simp_all⟩;grind;rename_i t x;split at h;rename_i o2 u ho hu;simp at h;subst h;obtain⟨_,v,h1,h2⟩:=Bi hE.eY hB (aC hB x) ho hc;refine bn (v:=v) (w':=w) ?_ (hK _ _ (Rel.jl (hB.L7 hd hu (jb (AW u) _ _ h2))));grind[execOp,Sem.run_bind,Result.andThen_ok,Sem.run_pure];grind
     . rename_i t x y;split at h
       . rename_i e te k n k' c he iO hx hy;split at h
         . rename_i ab k9;cases hq:fresh st.h (st.kb+d) with
           |false=>grind
           |true=>
           rw[hq] at h;simp at h;subst h;obtain⟨v',w',g1,g2⟩:=NP hE.eY hB hd (pJ hq) he iO k9 (hx▸aC hB x) (hy▸aC hB y) (eD hc);refine bn (v:=v') (w':=w') ?_ (hK _ _ g2);grind[execOp,Sem.run_bind,Result.andThen_ok,Sem.run_pure]
         cases h
       grind
     grind
   grind
 grind
def Sr(st:St)(o:Oper):Option Out:=match o.op,o.dst with
 |.call ⟨.value f,args,_⟩,some d=>match args.toList,ev st f with
   |[x],.fn (.func f) [] [.ref k 0]=>match HP.mkf f,ev st x with
     |some g,.fn (.func y) [] []=>bif fresh st.h (st.kb+d)&& !(Nat.beq k (st.kb+d)) then
       some {cond:=[],res:=.fn (.func g) [] [.ref k 0,.ref (st.kb+d) 0],new:=[(st.kb+d,.cells [.fn (.func y) [] []])]} else none
     |_,_=>none
   |_,_=>none
 |_,_=>none
variable {d:Option Nat}
theorem al7{u:Value}:(a.put d u).put d v=a.put d v:=by
 cases d with
 |none=>rfl
 |some d=>simp[Act.put]
theorem al.aBM(hB:al C A β s a w)(h1:s.t=r.t)(h2:s.h=r.h)(h3:s.n=r.n)(h4:s.g=r.g):al C A β r a w:=by
 obtain⟨t,h,_,_,_,n,_,g⟩:=s;subst h1 h2 h3 h4;exact⟨hB.defers,hB.size,hB.tmps,hB.blocks,hB.apart,hB.bound,hB.frame,hB.fk,hB.base,hB.ot,hB.qc,hB.laid,hB.held⟩
theorem XP(hE:dx P C E)(hB:al C A β st a w)(h:Sr st o=some out)(pK:fq st o=true)
  (hK:∀a' w',Rel C (st.put o.dst out) a' w'->K a' w'):o.wp P a w K Q:=by
 have hd:∀t,o.dst=some t->t<st.n:=by
  intro t ht;simp_all[fq,L!]
 obtain⟨dst,op,type,pos,after,guard⟩:=o;unfold Sr at h;simp only at h;split at h
 . rename_i f args at_ d;split at h
   . rename_i x f' k hxs hf;split at h
     . rename_i g y hg hx;cases hq:(fresh st.h (st.kb+d)&& !(Nat.beq k (st.kb+d))) with
       |false=>grind
       |true=>
       rw[hq] at h;simp at h;subst h;simp at hq;have hkd:k≠st.kb+d:=λe=>by simp_all
       obtain⟨Ux,hmk⟩:=HP.Uc P ((hE.ok.hp P).2 rfl) f' g hg;have ì:=aC hB f;rw[hf] at ì;obtain⟨a1,a2,Bq,r1,r2⟩:=ì;obtain⟨p,ps,tP,⟨b,ø,hp3⟩,hp4⟩:=r2;simp only[ae] at r1 hp4;subst hp4;have ha1:a1= #[]:=by grind
       have ha2:a2= #[p]:=by grind
       subst ha1;subst ha2;have mi:=aC hB x;rw[hx] at mi;obtain⟨b1,b2,hxe,q1,q2⟩:=mi;simp only[ae] at q1 q2;have Fq:b1= #[]:=by grind
       have Mg:b2= #[]:=by grind
       subst Fq;subst Mg;have bm:args= #[x]:=by grind
       subst bm
       have gI:(execOp a.eval {dst:=some d,op:=.call {callee:=.value f,args:= #[x],argTypes:=at_},type,pos,after,guard}).run P w= .ok (.enter f' #[a.eval x,p]) w:=by
        have:=Ux (#[a.eval x,p]) w;simp_all[execOp,resolve,Deferred.ofValue,Sem.run_bind,Sem.run_pure,Result.andThen_ok,invoke]
       unfold Oper.wp;rw[gI];rw[hxe];refine(hmk w y p).mono λe w' ⟨ty,he,hw⟩=>?_;subst he;subst hw;have h1:=hB.Ja (dst:=some d) (e:=ty) (cs:=[.fn (.func y) [] []]) (arr:= #[.func (.func y) #[] #[]]) (cond:=[]) hd (pJ hq.1) ⟨_,[],rfl,⟨#[], #[],rfl,rfl,rfl⟩,rfl⟩ (by simp[Value.oneCell'])
       have h2:=h1.pure (d:=some d) (c:=[]) (r:=.fn (.func g) [] [.ref k 0,.ref (st.kb+d) 0]) (v:=.func (.func g) #[] #[p,.pointer (some ⟨w.heap.size,0,none⟩)]) hd
        ⟨#[],_,rfl,rfl,_,_,rfl,⟨b,by simp_all[bg,W!],hp3⟩,_,[],rfl,⟨w.heap.size,by simp[bg],rfl⟩,rfl⟩
       rw[al7] at h2;refine hK _ _ (Rel.jl (h2.aBM ?_ ?_ rfl rfl));simp only[St.put,nJ];grind;funext j;simp only[St.put,xR,ai,aq,bF,cond_false,gH,eA];grind
     grind
   grind
 grind
def al9(T:bX)(h:aJ)(t ty:TypeId):AV->AV->Option Out
 |.ref k off,v=>match iB T h t (.ref k off) v with
   |some out=>match out.gb,rowOf T r6 ty with
    |[(_,.cells cs)],some ts=>match kZ ts cs with
      |some x=>some {cond:=[],res:=.undef,gb:=[(k,.fvar ts x)]}
      |none=>none
    |_,_=>none
   |none=>none
 |_,_=>none
def Ss(E:Env)(st:St)(o:Oper):Option Out:=match o.op,o.dst with
 |.store t (.tmp s) v,none=>match E.L7 (100000+s) with
   |some [some ty]=>al9 E.T st.h t ty (ev st (.tmp s)) (ev st v)
   |_=>none
 |.assign x,some d=>match E.L7 (200000+d) with
   |some _=>some {cond:=[],res:=(mY st.h (ev st x)).1,gb:=b6 st.h (mY st.h (ev st x)).2}
   |none=>none
 |_,_=>none
theorem al.asb(hB:al C A β st a w)(hd:∀t,dst=some t->t<st.n){fz:M Nat}(AU:∀j∈fz,∃e row l fr,st.h j=some (.row e row l fr))(uD:aa w (bL A β fz) β v res):
  al C (bL A β fz) β (st.put dst {cond:=[],res:=res,gb:=b6 st.h fz}) (a.put dst v) w:=by
 have Ry:∀b,bL A β fz b->b<w.heap.size:=by
  intro b h;rcases h with h|⟨j,hj,hb⟩;exact hB.bound b h;exact mh hB x! hb
 have hK:bG w w A (bL A β fz):=λb hb=>⟨.inl hb,rfl⟩;refine hB.step (out:={cond:=[],res:=res,gb:=b6 st.h fz}) hd (by simp[ai]) ?_ (λk _=>rfl) hK rfl rfl rfl (Nat.le_refl _) (λb hb _=>rfl) (λb hb=>Ry b hb) ?_ ?_ (by simp[ai]) (by simp[ai]) (by simp[ai]) uD;intro k b h;obtain⟨_,_,_,_,_,h,_⟩:=gY fz k b h;grind;intro b h;rcases h with h|⟨j,hj,hb⟩;exact .inl h;have hr:=AU j hj;exact .inr (.inr ⟨j,⟨x!,.inl (oK fz j hj hr)⟩,hb⟩);intro k ab h _;obtain⟨hk,e',mg,l',GK,hr,rfl⟩:=gY fz k ab h;rw[lR];obtain⟨Uq,h1,h2,h3⟩:=hB.blocks k _ hr;simp only[BR];refine⟨Uq,h1,bx (λc x hx=>br hK mg c x hx) l' Uq h2,λb hb=>?_⟩;simp only[if_true];exact .inr ⟨k,hk,hb⟩
theorem XQ(hE:dx P C E)(hB:al C A β st a w)(h:Ss E st o=some out)(pK:fq st o=true)
  (hK:∀a' w',Rel C (st.put o.dst out) a' w'->K a' w'):o.wp P a w K Q:=by
 obtain⟨dst,op,type,pos,after,guard⟩:=o;unfold Ss at h;simp at h;split at h;rename_i t s v;split at h;rename_i ty hty;have hp:=aC hB (.tmp s);have hv:=aC hB v;generalize ev st (.tmp s)=p at h hp;unfold al9 at h;split at h;rename_i k off;split at h;rename_i aJ3 h1;split at h;rename_i k' cs ts hu Jd;split at h;rename_i y hy;simp at h;subst h;obtain⟨w',g1,A',az,uK⟩:=xW hE.eY hB (dst:=none) nofun hp hv h1
 have ho:aJ3= {cond:=[],res:=.undef,gb:=[(k,.cells cs)]}/\(st.h k).isSome:=by
  grind[iB]
 obtain⟨rfl,oJ⟩:=ho
 have hh:(st.put none {cond:=[],res:=.undef,gb:=[(k,.cells cs)]}).h k=some (.cells cs):=by
  simp_all[St.put,xR,ai,aq,xQ,bF,cU]
 have AU:qZ E.T (st.put none {cond:=[],res:=.undef,gb:=[(k,.cells cs)]}).h [.ref k 0] [some ty]=some [(k,.fvar ts y)]:=by
  grind[qZ]
 have h2:=uK.L7 (dst:=none) nofun AU (cond:=[]) (res:=.undef) (v:=undef) rfl
 refine nK (w':=w') ?_ (hK _ _ (Rel.jl (h2.aBM ?_ ?_ rfl rfl)));grind[execOp,Sem.run_bind,Result.andThen_ok,Sem.run_pure];rfl;funext j;simp[St.put,xR,ai,aq,xQ,bF,cond_false];grind;grind;grind;grind;grind;grind;rename_i x d;split at h;simp only[Option.some.injEq] at h;subst h;have hx:=aC hB x;obtain⟨p1,p2⟩:=xX (A':=bL A β (mY st.h (ev st x)).2) hB (λb h=>.inl h) (ev st x) _ hx (λk hk b hb=>.inr ⟨k,hk,hb⟩)
 have hd:∀t,some d=some t->t<st.n:=by
  intro t ht;simp_all[fq,L!]
 have h2:=hB.asb hd p2 p1;refine bn (v:=a.eval x) (w':=w) ?_ (hK _ _ (Rel.jl h2));simp[execOp];cases h;grind
def uL:M AV->Option (M AV×Nat)
 |[]=>none
 |a::r=>match r with
  |[]=>match a with
    |.own k=>some ([],k)
    |_=>none
  |_::_=>match uL r with
   |some (x,k)=>some (a::x,k)
   |none=>none
def Dj(E:Env)(h:aJ)(t:TypeId):AV->AV->Option Out
 |.elem k sz i j,.agg cs=>match h k,uL cs with
   |some (.row e row l false),some (xs,k5)=>match h k5 with
    |some (.row _ _ _ false)=>bif E.iy t&&Nat.beq j 0&&Nat.beq sz row.length&&iL E.T t row.length&&Nat.blt 0 row.length&& !(Nat.beq k5 k) then
      match kZ row (xs++[.nil]) with
       |some x=>some {cond:=[i<l.length],res:=.undef,gb:=[(k,.iy e (some k5) row (l.set i x) i)]}
       |none=>none
     else none
    |_=>none
   |_,_=>none
 |_,_=>none
def uu(E:Env)(h:aJ)(t:TypeId):AV->Option Out
 |.elem k sz i j=>match E.T.find t,h k with
   |some te,some (.iy _ (some k5) row l i0)=>match h k5 with
    |some (.row _ _ _ _)=>bif Nat.beq sz row.length&&Nat.beq j (row.length-1)&&Nat.blt 0 row.length then
      match pick te [.own k5] 0 with
       |some a=>some {cond:=[i<l.length,i=i0],res:=a}
       |none=>none
     else none
    |_=>none
   |_,_=>none
 |_=>none
def yb(E:Env)(h:aJ)(t:TypeId):AV->AV->Option Out
 |.own k,.int _ i=>match h k with
   |some (.iy _ _ row l _)=>bif aV E.T t row.length then some {cond:=[0<=i/\i<(l.length:Int)],res:=.elem k row.length i.toNat 0} else none
   |_=>none
 |_,_=>none
def closing(h:aJ)(k:Nat):Option (Prop×M (Nat×AB)):=match h k with
 |some (.iy e (some k5) row l i)=>match h k5 with
  |some (.row e5 uI l5 false)=>bif Nat.blt 0 row.length&& !(Nat.beq k5 k) then match sx row (l.getD i (Row.zero row)) (row.length-1) [.sl uI l5] with
    |some y=>some (i<l.length,[(k,.row e row (l.set i y) false),(k5,.row e5 uI l5 true)])
    |none=>none
   else none
  |_=>none
 |_=>none
def isNil:M α->Bool
 |[]=>true
 |_::_=>false
def yc(E:Env)(h:aJ)(o:Oper):Option (Prop×M (Nat×AB)):=match o.dst with
 |some d=>match E.cls d with
  |some k=>closing h k
  |none=>none
 |none=>none
def XR(E:Env)(st:St)(o:Oper):Option Out:=match yc E st.h o with
 |some (c,u)=>match NJ E st o with
  |some out=>bif isNil out.gb&&isNil out.del&&isNil out.new&&isNil out.raw then some {out with cond:=c::out.cond,gb:=u} else none
  |none=>none
 |none=>match o.op with
  |.store t p v=>Dj E st.h t (ev st p) (ev st v)
  |.load t p=>uu E st.h t (ev st p)
  |.indexAddr t x i=>yb E st.h t (ev st x) (ev st i)
  |_=>none
def Su(E:Env)(st:St)(o:Oper):Option Out:=match XR E st o with
 |some out=>some out
 |none=>NJ E st o
def act(E:Env)(st:St)(o:Oper):Option Out:=match EC E st o with
 |some out=>some out
 |none=>match Sr st o with
  |some out=>some out
  |none=>match Ss E st o with
   |some out=>some out
   |none=>Su E st o
def Hg:∀(cs:M AV) (vs:M Value) (xs:M AV) (k:Nat),uL cs=some (xs,k)->ae w A β vs cs->∃us,vs=us++[β k]/\ae w A β us xs/\(β k).oneCell'=true
 |[],vs,xs,k,h,_=>by cases h
 |a::r,vs,xs,k,h,hr=>by
  obtain⟨v,bY,rfl,h1,h2⟩:=hr;unfold uL at h;cases r with
  |nil=>
   subst h2;cases a with
   |own k'=>
    obtain⟨rfl,rfl⟩:=h;exact⟨[],by rw[h1.1];rfl,by simp[ae],by rw[<-h1.1];exact h1.2⟩
   |_=>cases h
  |cons b r=>
   simp at h;split at h;rename_i x k' hl;simp at h;obtain⟨rfl,rfl⟩:=h;obtain⟨us,e1,e2,e3⟩:=Hg (b::r) bY x k' hl h2;refine⟨v::us,by rw[e1];rfl,?_,e3⟩;exact⟨v,us,rfl,h1,e2⟩;cases h
theorem ama(p s:M α)(x y:α):(p++x::s).set p.length y=p++y::s:=by
 grind
theorem Dk {α:Type}:∀(l:M α) (i:Nat) (x:α),l[i]? =some x->l.set i x=l
 |[],_,_,h=>by rfl
 |a::l,0,x,h=>by grind
 |a::l,i+1,x,h=>by
  rw[List.set_cons_succ,Dk l i x (by simpa using h)]
theorem Fu(hB:al C A β st a w){k:Nat}{j:Option Nat}{row:M Ty}{l:M (Row row)}(h:st.h k=some (.iy e j row l i)):
  (β k= .slice none 0 0/\l=[])\/∃b cap cur v0,β k= .slice (some ⟨b,0,none⟩) l.length cap/\w.heap[b]? =some (.cells cur e (0,0))/\l.length<=cap/\cap<=maxLen/\cur.size=cap*row.length/\¬A b/\
    dn (bw w A row) ((cur.toList.take (l.length*row.length)).set (i*row.length+(row.length-1)) v0) l/\
    ∀j',j=some j'->(cur.toList.take (l.length*row.length))[i*row.length+(row.length-1)]? =some (β j'):=by
 obtain⟨xs,v0,h1,h2,h3,h4⟩:=hB.blocks k _ h;rcases h1.2 with⟨hv,hn⟩|⟨g,cap,cur,hv,_,hg,g4,g5,g6,g7⟩;grind;exact .inr ⟨g,cap,cur,v0,hv,hg,g4,g5,g6,h2 g (by rw[hv];rfl),x!,x!⟩
def XS(hB:al C A β st a w){k:Nat}{row:M Ty}{l:M (Row row)}{fr:Bool}(h:st.h k=some (.row e row l fr)):(β k).oneCell'=true:=by
 rcases iE hB h with⟨h1,_⟩|⟨b,cap,cur,h1,_⟩<;>rw[h1]<;>rfl
def Mh(hT:bz E.T P)(hB:al C A β st a w)(hx:aa w A β vx x)(h:uu E st.h t x=some out)(hc:∀p∈out.cond,p):
  Reads P A β w (Instr.loadAt t vx) out:=by
 unfold uu at h;split at h
 . rename_i k sz i j;split at h
   . rename_i te e k5 row l i0 ht hk;split at h
     . rename_i e5 uI l5 fr5 D4;cases hq:(Nat.beq sz row.length&&Nat.beq j (row.length-1)&&Nat.blt 0 row.length) with
       |false=>grind
       |true=>
        simp[hq,K!] at h;simp only[B!] at hq;obtain⟨⟨q1,q2⟩,q3⟩:=hq;have q1:=D! q1;have q2:=D! q2;subst q1;subst q2;split at h
        . rename_i av ò;simp at h;subst h;have ju:i=i0:=hc _ z!;subst ju;obtain⟨b,m,cap,bI,rfl⟩:=hx;rcases Fu hB hk with⟨_,hl⟩|⟨b',jM,cur,v0,hv,hg,hle,DZ,ep,kK,hL,yd⟩;grind
          . rw[bI] at hv;obtain⟨rfl,rfl,rfl⟩:=hv;have oz:=yd k5 rfl;rw[List.getElem?_take] at oz;split at oz
            . have hr:w.rangeAt b (i*row.length+(row.length-1)) [β k5]:=by
               intro jj u hj;cases jj with
               |zero=>
                simp at hj;subst hj;simp[World.cell?,hg];simpa using oz
               |succ jj=>simp at hj
              have UB:ae w A β [β k5] [.own k5]:=by
               exact⟨_,[],rfl,⟨rfl,XS hB D4⟩,rfl⟩
              obtain⟨v',g1,g2⟩:=kv (β:=β) hT ht UB ò hr;exact⟨⟨rfl,rfl,rfl⟩,v',g1,g2⟩
            grind
        grind
     grind
   grind
 grind
def NQ(hT:bz E.T P)(hB:al C A β st a w){i:AV}{vi:Value}(hx:aa w A β vx x)(hi:aa w A β vi i)
  (h:yb E st.h t x i=some out) (hc:∀p∈out.cond,p):Reads P A β w (Instr.indexAt t vx vi) out:=by
 unfold yb at h;split at h
 . rename_i k kk n;split at h
   . rename_i e' j row l i0 hk;cases hs:aV E.T t row.length with
     |false=>grind
     |true=>
      simp[hs,cond_true,Option.some.injEq] at h;subst h;obtain⟨h0,h1⟩:=eD hc;obtain⟨e,ii,hu,ju,dH,lF⟩:=fe hT hs;simp[aa] at hx hi;rcases Fu hB hk with⟨_,hl⟩|⟨b,cap,cur,v0,hv,_⟩;grind;refine⟨⟨rfl,rfl,rfl⟩,.pointer (some ⟨b,0+n.toNat*row.length,none⟩),?_,?_⟩;simp_all[hi,iM]
      grind[aa]
   grind
 grind
def RD(hT:bz E.T P)(hB:al C A β st a w)(hd:∀t,dst=some t->t<st.n){p:AV}(hp:aa w A β vp p)(hx:aa w A β vx x)
  (h:Dj E st.h t p x=some out) (hc:∀p∈out.cond,p):∃w',(Instr.storeAt t vp vx).run P w= .ok () w'/\Rel C (st.put dst out) (a.put dst undef) w':=by
 unfold Dj at h;split at h
 . rename_i k sz i j cs;split at h
   . rename_i e row l xs k5 hk amb;split at h
     . rename_i e5 uI l5 D4;cases hq:(E.iy t&&Nat.beq j 0&&Nat.beq sz row.length&&iL E.T t row.length&&Nat.blt 0 row.length&& !(Nat.beq k5 k)) with
       |false=>grind
       |true=>
        simp only[hq,cond_true] at h;simp only[Bool.and_eq_true] at hq;obtain⟨⟨⟨⟨⟨_,q0⟩,q1⟩,q2⟩,q3⟩,q4⟩:=hq;have q0:=Nat.eq_of_beq_eq_true q0;have q1:=Nat.eq_of_beq_eq_true q1;subst q0;subst q1;have q3:=Nat.le_of_ble_eq_true q3;split at h;rename_i y hy;simp only[Option.some.injEq] at h;subst h;have hi:i<l.length:=eD hc;simp only[aa] at hp hx;obtain⟨b,m,cap,bI,rfl⟩:=hp;obtain⟨arr,rfl,hx⟩:=hx;obtain⟨us,e1,e2,e3⟩:=Hg cs arr.toList xs k5 amb hx;rcases iE hB hk with⟨_,hl⟩|⟨b',jM,cur,hv,hg,hle,DZ,ep,hL,kK⟩;grind;rw[bI] at hv;simp only[Value.slice.injEq,Option.some.injEq,Addr.mk.injEq,and_true] at hv;obtain⟨rfl,rfl,rfl⟩:=hv;simp only[Bool.false_eq_true,if_false] at kK;have hb:ah (β k)=some b:=by rw[bI];rfl
        obtain⟨ii,ju,qX⟩:=ph hT q2
        have hyr:bw w A row (us++[Value.slice none 0 0]) y:=by
         refine ng (β:=β) row (xs++[.nil]) _ y ?_ hy;grind[Bh,ae,aa]
        have hlen:us.length+1=row.length:=by
         have:=hZ row _ y hyr;grind
        have qd:arr.size=ii.size:=by
         have :arr.toList.length=arr.size:=by simp
         grind
        have jv:∀u∈arr.toList,u.oneCell'=true:=by
         grind[Bp,List.mem_append_left,List.mem_singleton]
        have G5:l.length*row.length<=cur.size:=by simp_all[H?]
        have hyy:∀c,bw w A row c l[i]->bw w A row (c.take 0++(us++[Value.slice none 0 0])++c.drop (0+(us++[Value.slice none 0 0]).length)) y/\((us++[Value.slice none 0 0])≠ []->0+(us++[Value.slice none 0 0]).length<=c.length):=λc sX=>by
         have mD:=hZ row c _ sX;simp_all[o?,a?,List.take_zero,d?,F?]
        rcases Nu hi hL hyy G5 with⟨g1,g2,g3⟩|D3;have hul:(us++[Value.slice none 0 0]).length=row.length:=by grind
        have hal:arr.toList.length=row.length:=by grind
        rw[hul] at g3
        have KT:i*row.length+0+arr.size<=cur.size:=by
         omega
        have lT:(Value.agg arr).cells=arr:=rfl;refine⟨_,lS ju (v:=.agg arr) x! x! hg x!,?_⟩;rw[lT];refine hB.write hd (k:=k) (fz:=[]) (ab:=.iy e (some k5) row (l.set i y) i) x! hb kK hg ⟨rfl,rfl,rfl⟩ z! ?_ (by rfl);intro A2 h1 h2 h3
        have Up:∀b',A2 b'->A b':=λb' h=>by
         grind
        have AW:bG w (w.setRow b (cur.toList.take (i*row.length+0)++arr.toList++cur.toList.drop (i*row.length+0+arr.toList.length)).toArray) A A2:=λb' h=>⟨h1 b' h,setRow_other w b b' _ (λh'=>kK (h'▸h))⟩
        have hP:cur.toList.take (i*row.length+0)++arr.toList++cur.toList.drop (i*row.length+0+arr.toList.length)=(cur.toList.take (i*row.length)++us)++β k5::cur.toList.drop (i*row.length+row.length):=by
         grind
        have hPl:(cur.toList.take (i*row.length)++us).length=i*row.length+(row.length-1):=by
         grind
        have gf:i*row.length+row.length<=l.length*row.length:=by
         have :(i+1)*row.length<=l.length*row.length:=Nat.mul_le_mul_right _ hi;grind
        refine⟨_,.slice none 0 0,⟨?_,.inr ⟨b,cap,_,x!,w!,setRow_heap w b cur _ e _ hg,x!,DZ,?_,rfl⟩⟩,λb' eO=>?_,?_,λj' gz=>?_⟩;grind;grind;grind;simp only[List.length_set]
        have D5:(cur.toList.take (i*row.length+0)++(us++[Value.slice none 0 0])++cur.toList.drop (i*row.length+0+(us++[Value.slice none 0 0]).length))=(cur.toList.take (i*row.length)++us)++Value.slice none 0 0::cur.toList.drop (i*row.length+row.length):=by
         simp only[Nat.add_zero,hul,V!,List.singleton_append]
        have ù:=g2;simp only[D5] at ù;simp only[hP] at AW |-;rw[<-List.take_set,<-hPl,ama];exact bx (λc x hx=>br AW row c x hx) _ _ ù;simp only[Option.some.injEq] at gz;subst gz;simp only[List.length_set,hP];rw[List.getElem?_take,if_pos w!,<-hPl,List.getElem?_append_right (Nat.le_refl _),Nat.sub_self];rfl;grind;grind
     grind
   grind
 grind
def al.close(hB:al C A β st a w){k e k5 e5 i:Nat}{row uI:M Ty}{l:M (Row row)}{l5:M (Row uI)}{y:Row row}
  (hk:st.h k=some (.iy e (some k5) row l i)) (D4:st.h k5=some (.row e5 uI l5 false)) (di:k5≠k) (lF:0<row.length) (hi:i<l.length)
  (hy:sx row (l.getD i (Row.zero row)) (row.length-1) [.sl uI l5]=some y) (hn:bp.n=st.n) (ht:bp.t=st.t) (hg:bp.g=st.g)
  (hh:∀q,bp.h q=if q=k then some (.row e row (l.set i y) false) else if q=k5 then some (.row e5 uI l5 true) else st.h q):Rel C bp a w:=by
 let A1:Nat->Prop:=λb=>A b\/ah (β k5)=some b
 have hK:bG w w A A1:=λb h=>⟨.inl h,rfl⟩
 have amc:∀q,(bp.h q).isSome↔(st.h q).isSome:=by
  grind
 have aPF:(mY st.h (.own k5))=(.sl uI l5,[k5]):=by grind[mY,ja]
 have G9:aa w A1 β (β k5) (.sl uI l5):=by
  have:=(xX (A':=A1) hB (λb h=>.inl h) (.own k5) (β k5) (by simp only[aa];exact⟨trivial,XS hB D4⟩) (λq hq b hb=>by
   grind)).1
  grind
 refine⟨A1,β,?_⟩;refine⟨hB.defers,by rw[hn];exact hB.size,λq=>by rw[ht];exact jb hK _ _ (hB.tmps q),λq ab hq=>?_,λq q' b h1 h2=>hB.apart q q' b ((amc q).1 h1) ((amc q').1 h2),λb hb=>?_,hB.frame,λb hb hA=>?_,λb hb=>.inl (hB.base b hb),λq b hq hb=>hB.ot q b ((amc q).1 hq) hb,λq d hq=>hB.qc q d x!,λq d hd=>(hB.laid q d hd).mono hK,hB.held⟩;rw[hh] at hq;by_cases h1:q=k;subst h1;rw[if_pos rfl] at hq;simp only[Option.some.injEq] at hq;subst hq;rcases Fu hB hk with⟨_,hl⟩|⟨b,cap,cur,v0,hv,hgc,hle,DZ,ep,kK,hL,yd⟩;grind
 have hN:(cur.toList.take (l.length*row.length)).length=l.length*row.length:=by
  simp_all
 have oz:=yd k5 rfl;have hL1:=bx (λc x hx=>br hK row c x hx) l _ hL;rw[getD_eq l _ _ hi] at hy
 have qY:=Nu (A:=A1) (w:=w) (i:=i) (j:=row.length-1) (cur:=((cur.toList.take (l.length*row.length)).set (i*row.length+(row.length-1)) v0).toArray) (us:=[β k5]) (y:=y) hi (by
  grind[List.take_of_length_le,List.length_set]) (λc hc=>by
  have:=zc (β:=β) row [.sl uI l5] l[i] (row.length-1) c [β k5] y hc (by grind[ae]) hy;omega) x!
 rcases qY with⟨g1,g2,g3⟩|D3;refine⟨cur.toList.take (l.length*row.length),⟨x!,.inr ⟨b,cap,cur,x!,w!,hgc,x!,DZ,ep,x!⟩⟩,?_,λb' eO=>?_⟩
 have hp:i*row.length+(row.length-1)<l.length*row.length:=by
  have :(i+1)*row.length<=l.length*row.length:=H? _ hi;rw[n?,Nat.one_mul] at this;omega
 have fD:((cur.toList.take (l.length*row.length)).set (i*row.length+(row.length-1)) v0).take (i*row.length+(row.length-1))++[β k5]++((cur.toList.take (l.length*row.length)).set (i*row.length+(row.length-1)) v0).drop (i*row.length+(row.length-1)+[β k5].length)=cur.toList.take (l.length*row.length):=by
  have h2:((cur.toList.take (l.length*row.length)).set (i*row.length+(row.length-1)) v0).set (i*row.length+(row.length-1)) (β k5)=cur.toList.take (l.length*row.length):=by
   rw[List.set_set];exact Dk _ _ _ oz
  rw[m?,Q! (by rw[List.length_set,hN];exact hp)] at h2;simpa using h2
 simp only[fD] at g2;rw[List.take_of_length_le w!] at g2;exact g2;rw[hv] at eO;simp only[ah,Option.some.injEq] at eO;subst eO;simp only[Bool.false_eq_true,if_false];rintro(h|h);exact kK h;exact di (hB.apart k5 q b (by simp[D4]) (by simp[hk]) h (by rw[hv];rfl));grind;rw[if_neg h1] at hq;by_cases h2:q=k5;subst h2;rw[if_pos rfl] at hq;simp only[Option.some.injEq] at hq;subst hq;obtain⟨xs,g1,g2,g3⟩:=hB.blocks q _ D4;refine⟨xs,g1,bx (λc x hx=>br hK uI c x hx) _ _ g2,λb hb=>?_⟩;simp only[if_true];exact .inr hb;rw[if_neg h2] at hq
 have:=xS (w':=w) (A':=A1) (az:=β) (new:=[]) (k:=q) (λ_ _=>rfl) rfl (λb hb=>⟨rfl,λh=>by
  rcases h with h|h;exact h;exact absurd (hB.apart q k5 b (by simp[hq]) (by simp[D4]) hb h) h2⟩) hK (hB.blocks q ab hq)
 simpa[bF] using this;rcases hb with hb|hb;exact hB.bound b hb;exact mh hB (by simp[D4]) hb;rcases hA with hA|hA;exact hB.fk b hb hA;rcases hB.ot k5 b (by simp[D4]) hA with h|h;omega;exact .inr h
def Dl:∀ {l:M α},isNil l=true->l=[]
 |[],_=>rfl
 |_::_,h=>by cases h
theorem XT(hE:dx P C E)(hB:al C A β st a w)(h:Su E st o=some out)(pK:fq st o=true)(fD:jQ st.h out.new=true)(hc:∀p∈out.cond,p)
  (hK:∀a' w',Rel C (st.put o.dst out) a' w'->K a' w'):o.wp P a w K Q:=by
 unfold Su at h;split at h
 . rename_i amd h0;simp only[A!] at h;subst h
   have hd:∀t,o.dst=some t->t<st.n:=by
    intro t ht;simp_all[fq,L!]
   unfold XR at h0;split at h0
   . rename_i c u mD;split at h0
     . rename_i XU h1;cases hq:(isNil XU.gb&&isNil XU.del&&isNil XU.new&&isNil XU.raw) with
       |false=>grind
       |true=>
        simp only[hq,cond_true,Option.some.injEq] at h0;subst h0;simp only[Bool.and_eq_true] at hq;obtain⟨⟨⟨q1,q2⟩,q3⟩,q4⟩:=hq;have q1:=Dl q1;have q2:=Dl q2;have q3:=Dl q3;have q4:=Dl q4;have hcc:c:=hc c z!;refine K3 hE hB h1 pK w! (λp hp=>hc p x!) (λa' w' hr=>hK a' w' ?_);obtain⟨A',az,uK⟩:=hr
        have XV:∀q,(st.put o.dst XU).h q=st.h q:=by
         intro q;simp only[St.put,xR,q1,q2,q3,ai,aq];grind[bF]
        have :∃k,closing st.h k=some (c,u):=by
         grind[yc]
        obtain⟨k,mD⟩:=this;unfold closing at mD;split at mD
        . rename_i e k5 row l i hk;split at mD
          . rename_i e5 uI l5 D4;cases hqq:(Nat.blt 0 row.length&& !(Nat.beq k5 k)) with
            |false=>grind
            |true=>
             simp only[hqq,K!] at mD;simp only[B!,Q?] at hqq;split at mD
             . rename_i y hy;obtain⟨rfl,rfl⟩:=mD;have di:k5≠k:=λh=>by grind
               refine al.close uK (k:=k) (k5:=k5) (by rw[XV];exact hk) (by rw[XV];exact D4) di (L! hqq.1) hcc hy rfl ?_ rfl (λq=>?_);rfl
               . rw[XV];simp only[St.put,xR,q2,q3,ai,aq,xQ,q4];by_cases e1:q=k;subst e1;simp[bF]
                 . by_cases e2:q=k5;subst e2;simp[e1,aL e1,bF]
                   . simp only[aL e1,aL e2,N!,W! e1,W! e2];cases st.h q with
                     |none=>rfl
                     |some ab=>simp[bF]
             grind
          grind
        grind
     grind
   rename_i rv;clear rv;obtain⟨dst,op,type,pos,after,guard⟩:=o;simp only at hd hK h0;split at h0;rename_i t p v;obtain⟨w',g1,g2⟩:=RD hE.eY hB hd (aC hB p) (aC hB v) h0 hc;refine nK (w':=w') ?_ (hK _ _ g2);simp only[execOp,Sem.run_bind,g1,Result.andThen_ok,Sem.run_pure];rename_i t p;exact cT (s:=Instr.loadAt t (a.eval p)) (λw=>by simp[execOp]) (Reads.uG hB hd (Mh hE.eY hB (aC hB p) h0 hc)) hK;rename_i t x i;exact cT (s:=Instr.indexAt t (a.eval x) (a.eval i)) (λw=>by simp[execOp]) (Reads.uG hB hd (NQ hE.eY hB (aC hB x) (aC hB i) h0 hc)) hK;cases h0
 grind[K3]
def ú(hE:dx P C E)(hB:al C A β st a w)(h:act E st o=some out)(pK:fq st o=true)(fD:jQ st.h out.new=true)(hc:∀p∈out.cond,p)
  (hK:∀a' w',Rel C (st.put o.dst out) a' w'->K a' w'):o.wp P a w K Q:=by
 unfold act at h;split at h;rename_i amd ho;simp only[Option.some.injEq] at h;subst h;exact XO hE hB ho pK hc hK;split at h;rename_i amd ho;simp only[Option.some.injEq] at h;subst h;exact XP hE hB ho pK hK;split at h;rename_i amd ho;simp only[Option.some.injEq] at h;subst h;exact XQ hE hB ho pK hK;exact XT hE hB h pK fD hc hK
mutual
def aE(p:Nat->Bool):AV->AV
 |.own k=>bif p k then .cM else .own k
 |.pre k n=>bif p k then .cM else .pre k n
 |.view k sz off n=>bif p k then .cM else .view k sz off n
 |.ref k off=>bif p k then .cM else .ref k off
 |.elem k sz i j=>bif p k then .cM else .elem k sz i j
 |.agg cs=>.agg (fO p cs)
 |.bc vs=>.bc (fO p vs)
 |.fn f first aO=>.fn f (fO p first) (fO p aO)
 |.iA ks cs=>.iA ks (fO p cs)
 |a=>a
def fO(p:Nat->Bool):M AV->M AV
 |[]=>[]
 |a::as_=>aE p a::fO p as_
end
def dF(p:Nat->Bool):Option Nat->Option Nat
 |some k=>bif p k then none else some k
 |none=>none
def cq(p:Nat->Bool):AB->AB
 |.cells cs=>.cells (fO p cs)
 |.views e j n m sz=>.views e (dF p j) n m sz
 |.iy e j row l i=>.iy e (dF p j) row l i
 |.dq e (some k) l=>yT (p k) e k l
 |.ek e j xs i=>.ek e (dF p j) xs i
 |b=>b
def b7(p:Nat->Bool):Option AB->Option AB
 |some b=>some (cq p b)
 |none=>none
def KS.has(kb:Nat):KS->Nat->Bool
 |.one j,k=>Nat.beq k j
 |.dst d,k=>Nat.beq k (kb+d) || (Nat.ble (pI (kb+d)) k&&Nat.blt k (pI (kb+d)+100))
def cN(kb:Nat):M KS->Nat->Bool
 |[],_=>false
 |x::r,k=>x.has kb k || cN kb r k
def Fv(ops:M Oper)(j:Nat):Option Nat:=match ops[j]? with
 |some o=>o.dst
 |none=>none
def mj(ops:M Oper)(i:Nat):Bool:=ops.any λo=>match o.guard with
 |some (j,_)=>Nat.beq j i
 |none=>false
def NR(ops:M Oper)(t:Nat->AV)(o:Oper):Option Bool:=match o.guard with
 |none=>some true
 |some (j,want)=>match Fv ops j with
  |none=>none
  |some g=>match t g with
   |.tt=>some want
   |.ff=>some (!want)
   |.undef=>some false
   |_=>none
def dZ:M Oper->M Nat
 |[]=>[]
 |o::r=>match o.dst with
  |some d=>d::dZ r
  |none=>dZ r
def Out.wr(o:Out):M Nat:=o.gb.map (·.1)++(o.del++o.new.map (·.1))
def Out.wc(o:Out):M Nat:=an o.res++(BD o.gb++BD o.new)
def Out.skip:Out:={cond:=[],res:=.undef}
def ni(a b:M Nat):Bool:=a.all λk=>!aq b k
structure Ev where
 i:Nat
 o:Oper
 out:Option Out
 kr:List Nat
 pre:List Nat
def Ev.cg(e:Ev):Out:=match e.out with
 |some out=>out
 |none=>.skip
def sG(st:St)(o:Oper):M Nat:=match o.op with
 |.call _=>qn st.h (au (o.op.operands.toList.map (ev st)))
 |_=>[]
def ic(h:aJ):M Nat->M Nat
 |[]=>[]
 |k::r=>match h k with
  |some (.iy _ (some j) _ _ _)=>j::ic h r
  |_=>ic h r
def uM(E:Env)(h:aJ)(o:Oper):M Nat:=match o.dst with
 |some d=>match E.cls d with
  |some k=>k::ic h [k]
  |none=>[]
 |none=>[]
def lH(E:Env)(st:St)(o:Oper):M Nat:=(match o.dst with
 |some d=>st.kb+d
 |none=>st.kb)::(au (o.op.operands.toList.map (ev st))++(sG st o++(ic st.h (au (o.op.operands.toList.map (ev st)))++uM E st.h o)))
def slotsOf:M Operand->M Nat
 |[]=>[]
 |.tmp i::r=>i::slotsOf r
 |_::r=>slotsOf r
def looks(ops:M Oper)(o:Oper):M Nat:=(match o.guard with
 |some (j,_)=>match Fv ops j with
  |some g=>[g]
  |none=>[]
 |none=>[])++slotsOf o.op.operands.toList
def waits(f e:Ev):Bool:=aq f.pre e.i
def Hh:M Nat->M Nat->M Nat
 |[],b=>b
 |k::r,b=>bif aq b k then Hh r b else Hh r (k::b)
def UJ(k:Nat):M Ev->M Nat
 |[]=>[]
 |e::r=>bif Nat.beq e.i k then e.pre else UJ k r
def pn(tr:M Ev):M Edge->M Nat
 |[]=>[]
 |x::r=>bif Region.binds .any x then Hh (x.on::UJ x.on tr) (pn tr r) else pn tr r
def NS(l:M Nat):Option Nat->Bool
 |some d=>!aq l d
 |none=>true
def tQ(ops:M Oper)(e f:Ev):Bool:=
 NS (looks ops f.o) e.o.dst&&NS (looks ops e.o) f.o.dst&&
 (match e.o.dst,f.o.dst with
   |some d,some d'=>!Nat.beq d d'
   |_,_=>true)&&
 ni e.cg.wr f.kr&&ni f.cg.wr e.kr&&ni e.cg.wr f.cg.wr&&ni e.cg.wc (f.cg.new.map (·.1))&&ni f.cg.wc (e.cg.new.map (·.1))
def eb:Nat:=49999
def NT:Op:=.move (.const (.map none))
def Ji(f:Ev):Bool:=match f.o.op with
 |.move (.const (.map none))=>(match f.cg.res with
   |.cM=>true
   |_=>false)&&(f.cg.wr.isEmpty&&f.cg.raw.isEmpty)
 |_=>true
def ou(kb:Nat)(dr:Bool)(ops:M Oper)(tr:M Ev)(f:Ev):Bool:=
 bif dr then(tr.all λe=>ni e.cg.wc (f.cg.new.map (·.1))&&(waits f e || tQ ops e f))&&(f.o.after.toList.all λx=>!Region.binds .any x || Nat.blt x.on f.i)&&
  (f.cg.new.all λx=>cN kb ((dZ ops).map .dst) x.1)&&(ni (f.kr++(f.cg.wr++f.cg.wc)) [eb]&&Ji f) else true
def NU:AV->AV
 |.bool b=>bif b then .tt else .ff
 |a=>a
def St.lit(st:St)(d:Nat)(a:AV):St:={st with t:=λi=>bif Nat.beq i d then a else st.t i,cd:=[],news:=[],KM:=[]}
def St.clear(st:St):St:={st with cd:=[],news:=[],KM:=[]}
def ye(b:Bool)(W:M Nat)(base s1 s2:St):Option St:=
 match s1.KM,s2.KM with
 |[],[]=>some {base with
     t:=λi=>bif aq W i then GI b (s1.t i) (s2.t i) else aE (cN base.kb (s1.news++s2.news)) (base.t i)
     h:=λk=>bif aq (s1.cd++s2.cd) k then GJ b (s1.h k) (s2.h k) else b7 (cN base.kb (s1.news++s2.news)) (base.h k)
     cd:=(s1.cd++s2.cd)++base.cd
     news:=base.news++(s1.news++s2.news)}
 |_,_=>none
def ME(b:Bool)(c1 c2:M Prop):M Prop:=match c1,c2 with
 |[],[]=>[]
 |_,_=>[(b=true->KO c1)/\(b=false->KO c2)]
def both(b:Bool)(W:M Nat)(base:St)(r1 r2:Option (M Prop×St)):Option (M Prop×St):=match r1,r2 with
 |some (c1,s1),some (c2,s2)=>match ye b W base s1 s2 with
  |some s=>some (ME b c1 c2,s)
  |none=>none
 |_,_=>none
def Dm(c:M Prop):Option (M Prop×St)->Option (M Prop×St)
 |some (c',s)=>some (c++c',s)
 |none=>none
def fork(g:Bool)(W:M Nat)(d:Option Nat)(st:St)(next :St->Option (M Prop×St)):Option (M Prop×St):=match d with
 |some d=>bif g then(match st.t d with
  |.bool b=>both b (d::W) st (next (st.lit d .tt)) (next (st.lit d .ff))
  |_=>next st) else next st
 |none=>next st
def wA(E:Env)(dr:Bool)(ops:M Oper):Nat->M Ev->M Oper->St->Option (M Prop×St)
 |_,_,[],st=>some ([],st)
 |i,tr,o::rest,st=>match NR ops st.t o with
  |none=>none
  |some false=>bif fq st o&&ou st.kb dr ops tr ⟨i,o,none,lH E st o,pn tr o.after.toList⟩ then
    wA E dr ops (i+1) (⟨i,o,none,lH E st o,pn tr o.after.toList⟩::tr) rest (st.put o.dst .skip) else none
  |some true=>match act E st o with
   |none=>none
   |some out=>bif fq st o&&(jQ st.h out.new&&ou st.kb dr ops tr ⟨i,o,some out,lH E st o,pn tr o.after.toList⟩) then
     Dm out.cond (fork (mj ops i) (dZ rest) o.dst (st.put o.dst out) (wA E dr ops (i+1) (⟨i,o,some out,lH E st o,pn tr o.after.toList⟩::tr) rest)) else none
def St.ahead(st:St)(W:M Nat):St:={st with
 t:=λi=>aE (cN st.kb (W.map .dst)) (st.t i)
 h:=λk=>b7 (cN st.kb (W.map .dst)) (st.h k)
 news:=st.news++W.map .dst}
def UK(d:Nat)(o:Oper):Option (TypeId×Int×Operand):=match o.op,o.dst,o.guard with
 |.insert t (.tmp d') (.const (.int .i64 k)) x,none,none=>bif Nat.beq d' d then some (t,k,x) else none
 |_,_,_=>none
def Dn(d:Nat):Operand->Bool
 |.tmp i=>!Nat.beq i d
 |_=>true
def dW(st:St)(t:TypeId)(d:Nat):M Oper->U×M AV×M Oper
 |[]=>([],[],[])
 |o::r=>match UK d o with
  |some (t',k,x)=>bif Nat.beq t' t&&Dn d x&&decide (lo .i64<=k/\k<=hi .i64) then(k::(dW st t d r).1,ev st x::(dW st t d r).2.1,(dW st t d r).2.2) else([],[],o::r)
  |none=>([],[],o::r)
def zi(T:bX)(st:St):M Oper->Option (Nat×U×M AV×M Oper)
 |[]=>none
 |o::r=>match o.op,o.dst,o.guard with
  |.makeMap t none,some d,none=>match T.find t with
    |some te=>match te.desc with
     |.map kt _=>bif cE T kt xh&&gX (dW st t d r).1&&Nat.blt d st.n then some (d,dW st t d r) else none
     |_=>none
    |none=>none
  |_,_,_=>none
inductive MR where
 |no
 |mk
 |ins (t:TypeId) (k:Int) (x:Nat)
 |cp (s:Nat)
def role(L:M Nat)(o:Oper):MR:=match o.op with
 |.makeMap _ _=>.mk
 |.insert t (.tmp s) (.const (.int .i64 k)) (.tmp x)=>bif aq L s then .ins t k x else .no
 |.move (.tmp s)|.assign (.tmp s)=>bif aq L s then .cp s else .no
 |_=>.no
def RE(L:M Nat)(o:Oper):Bool:=match role L o with
 |.mk=>true
 |.cp _=>true
 |_=>false
def fK(L:M Nat)(o:Oper):Oper:=match role L o with
 |.no=>o
 |_=>{o with op:=NT}
def adj:Nat->M Oper->Option (Nat×Nat×TypeId)
 |_,[]=>none
 |i,o::r=>match o.op,o.dst with
  |.makeMap t none,some d=>some (i,d,t)
  |_,_=>adj (i+1) r
def Hi:M Nat->M Oper->M Nat
 |L,[]=>L
 |L,o::r=>match role L o,o.dst with
  |.cp _,some e=>Hi (e::L) r
  |_,_=>Hi L r
def dN(L:M Nat):Nat->M Oper->M (Nat×Int×Nat)
 |_,[]=>[]
 |i,o::r=>match role L o with
  |.ins _ k x=>(i,k,x)::dN L (i+1) r
  |_=>dN L (i+1) r
def Hj(o:Oper)(j:Nat):Bool:=o.after.toList.any λx=>Region.binds .any x&&Nat.beq x.on j
def ame(ops:M Oper)(o:Oper)(x:Nat):Bool:=(List.range ops.length).all λj=>match ops[j]? with
 |some q=>(match q.dst with
  |some e=>!(Nat.beq e x) || Hj o j
  |none=>true)
 |none=>true
def XW(L:M Nat)(ops:M Oper)(o:Oper)(s:Nat):Bool:=(List.range ops.length).any λj=>match ops[j]? with
 |some q=>Hj o j&&(RE L q&&(match q.dst with
  |some e=>Nat.beq e s
  |none=>false))
 |none=>false
def Jj(L:M Nat)(o:Oper):Bool:=match o.dst with
 |some e=>aq L e
 |none=>false
def adk(L:M Nat)(ops:M Oper)(i0:Nat)(t:TypeId)(i:Nat)(o:Oper):Bool:=o.guard.isNone&&match role L o with
 |.no=>!(Jj L o)
 |.mk=>Nat.beq i i0&&Jj L o
 |.ins t' k x=>Nat.beq t' t&&decide (lo .i64<=k/\k<=hi .i64)&&(o.dst.isNone&&(Hj o i0&&(ame ops o x&&(match o.op with
   |.insert _ (.tmp s) _ _=>XW L ops o s
   |_=>false))))
 |.cp s=>Jj L o&&(Hj o i0&&XW L ops o s)
def UL(T:bX)(ops:M Oper):Option (Nat×TypeId×M Nat):=match adj 0 ops with
 |some (i0,d,t)=>match T.find t with
  |some te=>match te.desc with
   |.map kt _=>bif cE T kt xh&&(gX ((dN (Hi [d] ops) 0 ops).map (·.2.1))&&
       (List.range ops.length).all λi=>match ops[i]? with
         |some o=>adk (Hi [d] ops) ops i0 t i o
         |none=>true) then some (i0,t,Hi [d] ops) else none
   |_=>none
  |none=>none
 |none=>none
def St.cut(st:St):St:={st with
 t:=λi=>aE (λk=>Nat.beq k eb) (st.t i)
 h:=λk=>b7 (λk=>Nat.beq k eb) (st.h k)
 news:=st.news++[.one eb]}
def St.mapped(st:St)(L:M Nat)(ops:M Oper):St:={st with
 t:=λi=>bif aq (dZ (ops.filter (RE L))) i then .iA ((dN L 0 ops).map (·.2.1)) ((dN L 0 ops).map λq=>st.t q.2.2) else st.t i}
def amf(E:Env)(ops:M Oper)(st:St):Option (M Prop×St):=match UL E.T ops with
 |some (_,_,L)=>bif (st.h eb).isNone then(match wA E true (ops.map (fK L)) 0 [] (ops.map (fK L)) (st.ahead (dZ ops)).cut with
  |some (c,m)=>some (c,m.mapped L ops)
  |none=>none) else none
 |none=>wA E true ops 0 [] ops (st.ahead (dZ ops))
def Hk(E:Env)(dr:Bool)(ops:M Oper)(st:St):Option (M Prop×St):=
 bif dr then amf E ops st else match zi E.T st ops with
  |some (d,ks,cs,rest)=>wA E false ops (cs.length+1) [] rest (st.put (some d) {cond:=[],res:=.iA ks cs})
  |none=>wA E false ops 0 [] ops st
inductive Ex where
 |norm
 |exit (i:Nat)
 |ret
def AX:Code->M Nat
 |.region _ ops _=>dZ ops.toList
 |.seq x y=>AX x++AX y
 |.cond _ x y=>AX x++AX y
 |.block _ b=>AX b
 |.loop b|.scope b=>AX b
 |_=>[]
def nS:Code->Bool
 |.skip=>true
 |.region _ _ _=>true
 |.seq x y=>nS x&&nS y
 |.cond _ x y=>nS x&&nS y
 |.block _ b=>nS b
 |_=>false
def iI(E:Env):Code->St->Option (M Prop×St)
 |.skip,st=>some ([],st)
 |.region _ ops d,st=>Hk E d ops.toList st
 |.seq x y,st=>match iI E x st with
   |some (c,bp)=>Dm c (iI E y bp)
   |none=>none
 |.cond c x y,st=>match ev st c with
   |.tt=>iI E x st
   |.ff=>iI E y st
   |.bool b=>both b (AX x++AX y) st (iI E x st.clear) (iI E y st.clear)
   |_=>none
 |.block _ b,st=>iI E b st
 |_,_=>none
def UM:M Prop->Prop->Prop
 |[],k=>k
 |p::ps,k=>p/\UM ps k
inductive Loc where
 |slot (i:Nat)
 |cell (k off:Nat)
structure bM where
 τ:Type
 xn:List (Nat×(τ->AV))
 keys:List (Nat×(τ->AB)):=[]
 AY:List (Loc×Nat):=[]
 drop:List Nat:=[]
 aBN:List (Nat×(τ->AV)):=[]
 inv:τ->Prop
 ag:τ->Nat
def ie {α β:Type}(l:M (Nat×(α->β)))(k:Nat):Option (α->β):=match l with
 |[]=>none
 |(j,a)::r=>bif Nat.beq k j then some a else ie r k
def aDx(st:St):Loc->AV
 |.slot i=>st.t i
 |.cell k off=>match st.h k with
   |some (.cells cs)=>cs.getD off .cM
   |_=>.cM
def sources(st:St):M (Loc×Nat)->Option (M (Nat×Option Nat))
 |[]=>some []
 |(l,K)::r=>match aDx st l,sources st r with
  |.own k,some s=>some ((K,some k)::s)
  |.ref k _,some s=>some ((K,some k)::s)
  |.nil,some s=>some ((K,none)::s)
  |_,_=>none
def eG:M (Nat×Option Nat)->M Nat
 |[]=>[]
 |(_,some k)::r=>k::eG r
 |(_,none)::r=>eG r
def ct(s:M (Nat×Option Nat))(k:Nat):Option (Option Nat):=match s with
 |[]=>none
 |(j,a)::r=>bif Nat.beq k j then some a else ct r k
def cZ(L:bM)(W:M Nat):M KS:=W.map .dst++(L.AY.map (λx=>.one x.2)++L.drop.map .one)
def mQ(L:bM)(W:M Nat)(base:St)(x:L.τ):St:=
 {base with
  t:=λi=>match ie L.xn i with
   |some f=>f x
   |none=>bif aq W i then .cM else aE (cN base.kb (cZ L W)) (base.t i)
  h:=λk=>match ie L.keys k with
   |some f=>some (f x)
   |none=>bif cN base.kb (cZ L W) k then none else b7 (cN base.kb (cZ L W)) (base.h k)
  cd:=[],news:=[],KM:=[]}
def uO(s:M (Nat×Option Nat))(bad:Nat->Bool)(k K:Nat):Bool:=match ct s K with
 |some (some j)=>Nat.beq k j
 |some none=>false
 |none=>Nat.beq k K&& !bad K
mutual
def NV(s:M (Nat×Option Nat))(bad:Nat->Bool):AV->AV->M Prop
 |_,.cM=>[]
 |.undef,.undef=>[]
 |.int k n,.int k' m=>if k=k' then [n=m] else [False]
 |.tt,.tt|.ff,.ff=>[]
 |.tt,.bool b=>[true=b]
 |.ff,.bool b=>[false=b]
 |.bool b,.bool c=>[b=c]
 |.str a,.str b=>[a=b]
 |.nil,.nil|.kY,.kY|.mf,.mf=>[]
 |.nil,.sl r l=>[([]:M (Row r))=l]
 |.sl r l,.sl r' l'=>match fG r r' l with
   |some m=>[m=l']
   |none=>[False]
 |.full r l,.sl r' l'=>match fG r r' l with
   |some m=>[m=l']
   |none=>[False]
 |.own k,.own K=>match ct s K with
   |some (some j)=>bif Nat.beq k j then [] else [False]
   |some none=>[False]
   |none=>bif Nat.beq k K&& !(bad K) then [] else [False]
 |.nil,.own K=>match ct s K with
   |some none=>[]
   |_=>[False]
 |.ref k o,.ref k' o'=>bif uO s bad k k' then [o=o'] else [False]
 |.agg xs,.agg ys|.bc xs,.bc ys=>AA s bad xs ys
 |.fn f xs us,.fn f' ys vs=>if f=f' then AA s bad xs ys++AA s bad us vs else [False]
 |.iA ks xs,.iA ks' ys=>if ks=ks' then AA s bad xs ys else [False]
 |.cz r x j,.cz r' y j'=>match fG r r' [x] with
   |some m=>[m=[y],j=j']
   |none=>[False]
 |_,_=>[False]
def AA(s:M (Nat×Option Nat))(bad:Nat->Bool):M AV->M AV->M Prop
 |[],[]=>[]
 |x::xs,y::ys=>NV s bad x y++AA s bad xs ys
 |_,_=>[False]
end
def aBO(s:M (Nat×Option Nat))(bad:Nat->Bool):Option Nat->Option Nat->Bool
 |none,_=>true
 |some j,some j'=>uO s bad j j'
 |_,_=>false
def RF(s:M (Nat×Option Nat))(bad:Nat->Bool):Option AB->AB->M Prop
 |some (.cells xs),.cells ys=>AA s bad xs ys
 |some (.row e r l fr),.row e' r' l' GK=>match fG r r' l with
  |some m=>bif Nat.beq e e'&&(fr==GK) then [m=l'] else [False]
  |none=>[False]
 |some (.arr r l),.arr r' l'=>match fG r r' l with
  |some m=>[m=l']
  |none=>[False]
 |some (.iy e (some j) r l i),.iy e' (some j') r' l' i'=>match fG r r' l with
  |some m=>bif Nat.beq e e'&&uO s bad j j' then [m=l',i=i'] else [False]
  |none=>[False]
 |some (.row e r l false),.views e' _ n m _=>bif Nat.beq e e'&&Nat.beq r.length 1 then [l.length=n,m=0] else [False]
 |some (.views e (some j) n m sz),.views e' (some j') n' m' û=>bif Nat.beq e e'&&uO s bad j j' then [n=n',m=m',sz=û] else [False]
 |some (.dq e j l),.dq e' j' l'=>bif Nat.beq e e'&&aBO s bad j j' then [l=l'] else [False]
 |some (.ek e (some j) xs i),.ek e' (some j') Uq i'=>bif Nat.beq e e'&&uO s bad j j' then [xs=Uq,i=i'] else [False]
 |some (.bj e sz n cs),.bj e' û n' gk=>bif Nat.beq e e'&&(Nat.beq sz û&&Nat.beq n n') then AA [] (λ_=>true) cs gk else [False]
 |_,_=>[False]
def MF {τ:Type}(s:M (Nat×Option Nat))(bad:Nat->Bool)(st:St)(x:τ):M (Nat×(τ->AV))->M Prop
 |[]=>[]
 |(i,f)::r=>NV s bad (st.t i) (f x)++MF s bad st x r
def UN {τ:Type}(s:M (Nat×Option Nat))(bad:Nat->Bool)(st:St)(x:τ):M (Nat×(τ->AB))->M Prop
 |[]=>[]
 |(K,f)::r=>(match ct s K with
  |some (some k)=>RF s bad (st.h k) (f x)
  |some none=>match f x with
   |.row _ _ l false=>[[]=l]
   |_=>[False]
  |none=>bif bad K then [False] else RF s bad (st.h K) (f x))++UN s bad st x r
def Dp(L:bM)(W:M Nat)(base st:St)(s:M (Nat×Option Nat)):Bool:=
 kN (L.AY.map (·.2))&&kN (eG s)&&
 (L.AY.all λx=>!(qQ x.2))&&
 (L.xn.all λx=>aq W x.1)&&
 (L.AY.all λx=>(ie L.keys x.2).isSome)&&
 (L.keys.all λx=>(ct s x.1).isSome || !(cN base.kb (cZ L W) x.1))&&
 ((eG s).all λk=>cN base.kb (cZ L W) k)&&
 (st.cd.all λk=>(ie L.keys k).isSome || cN base.kb (cZ L W) k)
def MG(L:bM)(W:M Nat)(base:St)(news:M KS):Bool:=
 news.all λx=>match x with
  |.one k=>cN base.kb (cZ L W) k
  |.dst d=>aq W d
def aDy(st:St):AV->AV
 |.own k=>match st.h k with
   |some (.row _ r l _)=>.sl r l
   |_=>.undef
 |v=>v
def amg {τ:Type}(st:St)(x:τ):M (Nat×(τ->AV))->M Prop
 |[]=>[]
 |(i,f)::r=>NV [] (λ_=>true) (aDy st (st.t i)) (f x)++amg st x r
def bM.tied(L:bM)(st:St):bM:=match L.aBN with
 |[]=>L
 |t::ts=>{L with inv:=λx=>L.inv x/\KO (amg st x (t::ts)),aBN:=[]}
def XX(id:Nat)(K:Ex->St->Prop)(e:Ex)(st:St):Prop:=match e with
 |.exit j=>bif Nat.beq j id then K .norm st else K (.exit j) st
 |e=>K e st
def Dq(L:bM)(W:M Nat)(base st:St)(s:M (Nat×Option Nat))(x:L.τ):M Prop:=
 MF s (cN base.kb (cZ L W)) st x L.xn++UN s (cN base.kb (cZ L W)) st x L.keys
def Hl(L:bM)(W:M Nat)(base st:St)(P:L.τ->Prop):Prop:=match sources st L.AY with
 |none=>False
 |some s=>bif Dp L W base st s then ∃x,KO (Dq L W base st s x)/\P x else False
def St.back(L:bM)(W:M Nat)(base st:St):St:=
 {st with cd:=st.cd++(L.keys.map (·.1)++base.cd),news:=base.news++(cZ L W++st.news)}
def XY(L:bM)(W:M Nat)(base:St)(x:L.τ)(K:Ex->St->Prop)(e:Ex)(st:St):Prop:=match e with
 |.norm=>bif MG L W base st.news then Hl L W base st λx'=>L.inv x'/\L.ag x'<L.ag x else False
 |e=>K e (St.back L W base st)
def adl(L:bM)(W:M Nat)(K:Ex->St->Prop)(body:(Ex->St->Prop)->St->Prop)(st:St):Prop:=
 Hl L W st st.clear L.inv/\∀x,L.inv x->body (XY L W st x K) (mQ L W st x)
def aDz(E:Ex->St->Prop)(next :St->Prop)(e:Ex)(st:St):Prop:=match e with
 |.norm=>next st
 |e=>E e st
def adm(E:Env):Operand->Bool
 |.tmp i=>E.L6 i
 |_=>false
def aBP(E:Env)(c:Operand)(x y:Code)(st:St):Option (M Prop×St):=
 bif !adm E c&&(nS x&&nS y) then iI E (.cond c x y) st else none
def asd:Op->Bool
 |.lookup _ _ _ _=>true
 |_=>false
def adn(E:Env)(o:Oper):Bool:=match o.op,o.dst with
 |.indexAddr _ _ _,some d=>E.L6 d
 |_,_=>false
def upto:Nat->Nat->U
 |_,0=>[]
 |i,n+1=>(i:Int)::upto (i+1) n
def ixO(st:St):Op->Option (Int×U)
 |.indexAddr _ x i=>match ev st x,ev st i with
   |.own k,.int _ n=>match st.h k with
     |some (.bj _ _ m _)=>some (n,upto 0 m)
     |_=>none
   |_,_=>none
 |_=>none
def amh(E:Env):M Oper->St->Option (Int×U)
 |[],_=>none
 |o::r,st=>match o.op with
  |.lookup _ m x _=>match ev st m,ev st x with
    |.iA ks _,.int .i64 n=>some (n,ks)
    |_,_=>none
  |_=>match bif adn E o then ixO st o.op else none with
  |some r=>some r
  |none=>match act E st o with
   |some out=>amh E r (st.put o.dst out)
   |none=>none
def ase(E:Env)(st:St)(ops:M Oper):Option (Int×U):=
 bif ops.any λo=>asd o.op || adn E o then amh E ops st else none
def UO(E:Env)(K:Ex->St->Prop)(st:St)(ops:M Oper)(d:Bool):Prop:=match Hk E d ops st with
 |some (c,bp)=>UM c (K .norm bp)
 |none=>False
def MH(n:Int)(ks:U)(f:Nat->Prop):Nat->U->Prop
 |i,[]=>yX n ks->f i
 |i,k::r=>(n=k->f i)/\MH n ks f (i+1) r
def sY(E:Env)(L:Nat->Option bM):Code->(Ex->St->Prop)->St->Prop
 |.skip,K,st=>K .norm st
 |.region _ ops d,K,st=>match ase E st ops.toList with
   |some (n,ks)=>MH n ks (λi=>UO {E with IV:=i} K st ops.toList d) 0 ks
   |none=>UO E K st ops.toList d
 |.seq x y,K,st=>sY E L x (aDz K (sY E L y K)) st
 |.cond c x y,K,st=>match aBP E c x y st with
   |some (cs,bp)=>UM cs (K .norm bp)
   |none=>match ev st c with
    |.tt=>sY E L x K st
    |.ff=>sY E L y K st
    |.bool b=>(b=true->sY E L x K st)/\(b=false->sY E L y K st)
    |.qV _ l=>(l=[]->sY E L x K st)/\sY E L y K st
    |_=>False
 |.block id (.loop b),K,st=>match L id with
   |some A=>adl (A.tied st) (AX b) (XX id K) (sY E L b) st
   |none=>False
 |.block id b,K,st=>sY E L b (XX id K) st
 |.exit i,K,st=>K (.exit i) st
 |.ret,K,st=>K .ret st
 |.scope c,K,st=>sY E L c K st
 |.label _,K,st=>K .norm st
 |_,_,_=>False
def St.init(G:Nat->Option GD)(n:Nat)(bj:M AV):St:={t:=λi=>bj.getD i .undef,h:=λ_=>none,cd:=[],news:=[],KM:=[],n:=n,kb:=0,g:=G}
def nT(T:bX)(st:St):M ResultVar->Option (M AV)
 |[]=>some []
 |.tmp t::r=>match nT T st r with
   |some l=>some (st.t t::l)
   |none=>none
 |.cell a ty::r=>match st.t a with
   |.ref k off=>match p9 T st.h ty (.ref k off),nT T st r with
     |some out,some l=>some (out.res::l)
     |_,_=>none
   |_=>none
def ig:M AV->AV
 |[a]=>a
 |as_=>.bc as_
def wB(sz n:Nat)(l:M α):M (M α):=(List.range n).map λi=>(l.drop (i*sz)).take sz
def Fw(h:aJ)(r:M Ty)(l:M (Row r))(k:Nat):M Prop×M Nat:=match h k with
 |some (.views _ (some j) n m sz)=>match h j with
  |some (.row _ ado bytes _)=>bif Nat.beq ado.length 1 then(match fG [.slice ado] r (wB sz n bytes) with
   |some g=>([m=n,g=l],[k,j])
   |none=>([False],[])) else([False],[])
  |_=>([False],[])
 |_=>(NV [] (λ_=>true) (ja h (.own k)).1 (.sl r l),(ja h (.own k)).2)
mutual
def MJ:AV->AV->M (Nat×Option Nat)
 |.own i,.own k=>[(i,some k)]
 |.own i,.nil=>[(i,none)]
 |.ref i _,.ref k _=>[(i,some k)]
 |.fn _ xs us,.fn _ ys vs=>uP xs ys++uP us vs
 |.agg xs,.agg ys|.bc xs,.bc ys=>uP xs ys
 |_,_=>[]
def uP:M AV->M AV->M (Nat×Option Nat)
 |x::xs,y::ys=>MJ x y++uP xs ys
 |_,_=>[]
end
mutual
def BI(h:aJ)(s:M (Nat×Option Nat)):AV->AV->M Prop×M Nat
 |.own i,.own k=>(match ct s i with
   |some (some j)=>bif Nat.beq k j then [] else [False]
   |_=>[False],[])
 |.own i,.nil=>(match ct s i with
   |some none=>[]
   |_=>[False],[])
 |.sl r l,.own k=>Fw h r l k
 |.agg xs,.agg ys|.bc xs,.bc ys=>uQ h s xs ys
 |x,y=>(NV [] (λ_=>true) (ja h y).1 x,(ja h y).2)
def uQ(h:aJ)(s:M (Nat×Option Nat)):M AV->M AV->M Prop×M Nat
 |[],[]=>([],[])
 |x::xs,y::ys=>((BI h s x y).1++(uQ h s xs ys).1,(BI h s x y).2++(uQ h s xs ys).2)
 |_,_=>([False],[])
end
def NW(h:aJ)(s:M (Nat×Option Nat)):Nat->M AB->M Prop
 |_,[]=>[]
 |i,b::bs=>(match ct s i with
  |some (some k)=>RF s (λ_=>true) (h k) b
  |some none=>match b with
   |.row _ _ l false=>[[]=l]
   |_=>[False]
  |none=>[False])++NW h s (i+1) bs
def NX(h:aJ)(s:M (Nat×Option Nat)):Nat->M AB->M (Nat×Option Nat)
 |_,[]=>[]
 |i,.views _ (some j) _ _ _::bs=>(match ct s i with
  |some (some k)=>match h k with
   |some (.views _ (some j') _ _ _)=>[(j,some j')]
   |_=>[]
  |_=>[])++NX h s (i+1) bs
 |i,_::bs=>NX h s (i+1) bs
def tR(h:aJ)(want r:AV)(bs:M AB):M (Nat×Option Nat):=MJ want r++NX h (MJ want r) 0 bs
def XZ(T:bX)(st:St)(rs:M ResultVar)(want:AV)(bs:M AB):Prop:=match nT T st rs with
 |none=>False
 |some as_=>bif kN (eG (tR st.h want (ig as_) bs))&&((BI st.h (tR st.h want (ig as_) bs) want (ig as_)).2.all λk=>!aq (eG (tR st.h want (ig as_) bs)) k)&&iH bs.length bs then
   KO ((BI st.h (tR st.h want (ig as_) bs) want (ig as_)).1++NW st.h (tR st.h want (ig as_) bs) 0 bs) else False
def aDA(T:bX)(rs:M ResultVar)(want:AV)(bs:M AB)(e:Ex)(st:St):Prop:=match e with
 |.norm|.ret=>XZ T st rs want bs
 |_=>False
def K5(E:Env)(L:Nat->Option bM)(c:Code)(n:Nat)(rs:M ResultVar)(bj:M AV)(want:AV)(bs:M AB):Prop:=
 bif Nat.ble bj.length n then sY E L c (aDA E.T rs want bs) (St.init E.jY n bj) else False
mutual
theorem oN(p:Nat->Bool){az:Nat->Value}(bI:∀k,p k=false->az k=β k):∀(a:AV) (v:Value),aa w A β v a->aa w A az v (aE p a)
 |.cM,_,hr=>by simp[aE,aa]
 |.undef,_,hr|.int _ _,_,hr|.bool _,_,hr|.tt,_,hr|.ff,_,hr|.str _,_,hr|.nil,_,hr|.kY,_,hr|.qV _ _,_,hr|.mf,_,hr|.sl _ _,_,hr|.full _ _,_,hr|.cz _ _ _,_,hr|.qU _ _,_,hr=>by simpa only[aE,aa] using hr
 |.own k,v,hr=>by
   simp only[aE];cases hk:p k with
   |true=>simp[aa]
   |false=>simp only[N!];simpa only[aa,bI k hk] using hr
 |.pre k n,v,hr=>by
   simp only[aE];cases hk:p k with
   |true=>simp[aa]
   |false=>simp only[N!];simpa only[aa,bI k hk] using hr
 |.view k sz off n,v,hr=>by
   simp only[aE];cases hk:p k with
   |true=>simp[aa]
   |false=>simp only[N!];simpa only[aa,bI k hk] using hr
 |.ref k off,v,hr=>by
   simp only[aE];cases hk:p k with
   |true=>simp[aa]
   |false=>simp only[N!];simpa only[aa,bI k hk] using hr
 |.elem k sz i j,v,hr=>by
   simp only[aE];cases hk:p k with
   |true=>simp[aa]
   |false=>simp only[N!];simpa only[aa,bI k hk] using hr
 |.agg cs,v,hr=>by
   simp only[aE,aa] at hr |-;obtain⟨arr,h1,h2⟩:=hr;exact⟨arr,h1,ij p bI cs _ h2⟩
 |.iA ks cs,v,hr=>by
   simp only[aE,aa] at hr |-;obtain⟨b,es,ck,h1,h2,h3,h4,h5⟩:=hr;exact⟨b,es,ck,h1,h2,h3,h4,ij p bI cs _ h5⟩
 |.bc cs,v,hr=>by
   simp only[aE,aa] at hr |-;obtain⟨arr,h1,h2⟩:=hr;exact⟨arr,h1,ij p bI cs _ h2⟩
 |.fn f first aO,v,hr=>by
   simp only[aE,aa] at hr |-;obtain⟨a1,a2,h1,h2,h3⟩:=hr;exact⟨a1,a2,h1,ij p bI first _ h2,ij p bI aO _ h3⟩
theorem ij(p:Nat->Bool){az:Nat->Value}(bI:∀k,p k=false->az k=β k):∀(as_:M AV) (vs:M Value),ae w A β vs as_->ae w A az vs (fO p as_)
 |[],_,hr=>by simpa only[fO,ae] using hr
 |a::as_,vs,hr=>by
  simp only[fO,ae] at hr |-;obtain⟨v,bY,h1,h2,h3⟩:=hr;exact⟨v,bY,h1,oN p bI a v h2,ij p bI as_ bY h3⟩
end
def zj(p:Nat->Bool){k:Nat}(h:BR w A β k ab):BR w A β k (cq p ab):=by
 cases ab with
 |cells cs=>
  obtain⟨b,arr,e,h1,h2,h3,h4,h5⟩:=h;exact⟨b,arr,e,h1,h2,h3,ij p (λ_ _=>rfl) _ _ h4,h5⟩
 |row e row l fr=>exact h
 |arr row l=>exact h
 |bj _ _ _ _=>exact h
 |mp _ _ _=>exact h
 |fvar _ _=>exact h
 |ek e j xs i=>
  obtain⟨ys,h1,h2,h3,h4⟩:=h;refine⟨ys,h1,h2,h3,λj' gz=>h4 j' ?_⟩;cases j with
  |none=>cases gz
  |some j0=>
   simp only[dF] at gz;cases hp:p j0 with
   |true=>rw[hp] at gz;cases gz
   |false=>rw[hp] at gz;exact gz
 |dq e j l=>cases j with
  |none=>exact h
  |some j=>
   simp only[cq];cases hp:p j with
   |true=>
    obtain⟨xs,h1,h2,h3⟩:=h;exact⟨xs,h1,h2,λ_ h=>by cases h⟩
   |false=>exact h
 |iy e j row l i=>
  obtain⟨xs,v0,h1,h2,h3,h4⟩:=h;refine⟨xs,v0,h1,h2,h3,λj' gz=>?_⟩;cases j with
  |none=>simp[dF] at gz
  |some j0=>
   simp only[dF] at gz;cases hp:p j0 with
   |true=>rw[hp] at gz;simp at gz
   |false=>
    rw[hp] at gz;exact h4 j' gz
 |views e j n m sz=>
  obtain⟨xs,h1,h2,h3⟩:=h;refine⟨xs,h1,h2,λj' gz i hi=>?_⟩;cases j with
  |none=>simp[dF] at gz
  |some j0=>
   simp only[dF] at gz;cases hp:p j0 with
   |true=>rw[hp] at gz;simp at gz
   |false=>
    rw[hp] at gz;exact h3 j' gz i hi
mutual
theorem dm(p q:Nat->Bool):∀a,aE q (aE p a)=aE (λk=>p k || q k) a
 |.own k=>by cases hk:p k<;>simp[aE,hk]
 |.pre k _|.view k _ _ _|.ref k _|.elem k _ _ _=>by cases hk:p k<;>simp[aE,hk]
 |.agg cs|.bc cs=>by simp[aE,fP p q cs]
 |.iA _ cs=>by simp[aE,fP p q cs]
 |.fn f first aO=>by simp[aE,fP p q first,fP p q aO]
 |.cM|.undef|.int _ _|.bool _|.tt|.ff|.str _|.nil|.kY|.qV _ _|.mf|.sl _ _|.full _ _|.cz _ _ _|.qU _ _=>by simp[aE]
theorem fP(p q:Nat->Bool):∀as_,fO q (fO p as_)=fO (λk=>p k || q k) as_
 |[]=>rfl
 |a::as_=>by simp[fO,dm p q a,fP p q as_]
end
def nU(p q:Nat->Bool)(j:Option Nat):dF q (dF p j)=dF (λk=>p k || q k) j:=by
 cases j with
 |none=>rfl
 |some k=>cases hp:p k<;>simp[dF,hp]
theorem jn(p q:Nat->Bool)(b:AB):cq q (cq p b)=cq (λk=>p k || q k) b:=by
 cases b with
 |dq e j l=>cases j with
  |none=>rfl
  |some j=>cases h:p j<;>simp[cq,yT,h,dF]
 |_=>simp[cq,fP,nU]
theorem fQ(p q:Nat->Bool)(b:Option AB):b7 q (b7 p b)=b7 (λk=>p k || q k) b:=by
 cases b<;>simp[b7,jn]
mutual
theorem Sv(d:Nat):∀a,eA d a=aE (λk=>Nat.beq k d) a
 |.own k=>rfl
 |.pre k _|.view k _ _ _|.ref k _|.elem k _ _ _=>rfl
 |.agg cs|.bc cs=>by simp[eA,aE,po d cs]
 |.iA _ cs=>by simp[eA,aE,po d cs]
 |.fn f first aO=>by simp[eA,aE,po d first,po d aO]
 |.cM|.undef|.int _ _|.bool _|.tt|.ff|.str _|.nil|.kY|.qV _ _|.mf|.sl _ _|.full _ _|.cz _ _ _|.qU _ _=>by simp[eA,aE]
theorem po(d:Nat):∀as_,gH d as_=fO (λk=>Nat.beq k d) as_
 |[]=>rfl
 |a::as_=>by simp[gH,fO,Sv d a,po d as_]
end
mutual
theorem tS:∀a,aE (λ_=>false) a=a
 |.own k=>rfl
 |.pre k _|.view k _ _ _|.ref k _|.elem k _ _ _=>rfl
 |.agg cs|.bc cs=>by simp[aE,kA cs]
 |.iA _ cs=>by simp[aE,kA cs]
 |.fn f first aO=>by simp[aE,kA first,kA aO]
 |.cM|.undef|.int _ _|.bool _|.tt|.ff|.str _|.nil|.kY|.qV _ _|.mf|.sl _ _|.full _ _|.cz _ _ _|.qU _ _=>by simp[aE]
theorem kA:∀as_,fO (λ_=>false) as_=as_
 |[]=>rfl
 |a::as_=>by simp[fO,tS a,kA as_]
end
def RG(j:Option Nat):dF (λ_=>false) j=j:=by cases j<;>rfl
def ED(b:AB):cq (λ_=>false) b=b:=by
 cases b with
 |dq e j l=>cases j<;>rfl
 |_=>simp[cq,kA,RG]
def EE(b:Option AB):b7 (λ_=>false) b=b:=by cases b<;>simp[b7,ED]
def gP:M (Nat×AB)->Nat->Bool
 |[],_=>false
 |(j,_)::r,k=>Nat.beq k j || gP r k
def ry:∀(new:M (Nat×AB)) (a:AV),nJ new a=aE (gP new) a
 |[],a=>by
   have :gP []=λ_=>false:=rfl;rw[this,tS];rfl
 |(j,b)::r,a=>by
  simp only[nJ];rw[ry r,Sv,dm];rfl
theorem wD(new:M (Nat×AB))(b:AB):bF new b=cq (gP new) b:=by
 induction new generalizing b with
 |nil=>
  have :gP []=λ_=>false:=rfl;rw[this,ED];rfl
 |cons x r ih=>
  obtain⟨k0,y⟩:=x;simp only[bF];rw[ih];cases b with
  |cells cs=>simp only[mN,po,cq,fP];rfl
  |row _ _ _ _|arr _ _|bj _ _ _ _|fvar _ _|mp _ _ _=>rfl
  |dq e j l=>cases j with
   |none=>rfl
   |some j=>cases h:Nat.beq j k0<;>simp[mN,yT,h,cq,dF,gP]
  |ek e j xs i=>
   have :rZ k0 j=dF (λk=>Nat.beq k k0) j:=by cases j<;>rfl
   simp only[mN,this,cq,nU];rfl
  |views e j n m sz=>
   have :rZ k0 j=dF (λk=>Nat.beq k k0) j:=by cases j<;>rfl
   simp only[mN,this,cq,nU];rfl
  |iy e j row l i=>
   have :rZ k0 j=dF (λk=>Nat.beq k k0) j:=by cases j<;>rfl
   simp only[mN,this,cq,nU];rfl
theorem zk:∀(new:M (Nat×AB)) (k:Nat),gP new k=(ai new k).isSome
 |[],_=>rfl
 |(j,b)::r,k=>by
  simp only[gP,ai,zk r k];cases Nat.beq k j<;>simp
structure eZ (W:List Nat) (base s:St):Prop where
 ra:∃p,(∀k,p k=true->cN base.kb s.news k=true)/\(∀i,aq W i=false->s.t i=aE p (base.t i))/\
  ∀k,aq s.cd k=false->s.h k=b7 p (base.h k)
 n:s.n=base.n
 kb:s.kb=base.kb
 cd:∀k,aq base.cd k=true->aq s.cd k=true
 news:∀k,cN base.kb base.news k=true->cN base.kb s.news k=true
 g:s.g=base.g
theorem dj:∀(a b:M Nat) (k:Nat),aq (a++b) k=(aq a k || aq b k)
 |[],_,_=>rfl
 |j::a,b,k=>by simp only[U?,aq,dj a b k,Bool.or_assoc]
theorem dg(kb:Nat):∀(a b:M KS) (k:Nat),cN kb (a++b) k=(cN kb a k || cN kb b k)
 |[],_,_=>rfl
 |j::a,b,k=>by simp only[U?,cN,dg kb a b k,Bool.or_assoc]
theorem eZ.refl(W:M Nat)(s:St):eZ W s s:=
 ⟨⟨λ_=>false,z!,λi _=>(tS _).symm,λk _=>(EE _).symm⟩,rfl,rfl,λ_ h=>h,λ_ h=>h,rfl⟩
theorem eZ.trans {W W':M Nat}{s0 s1 s2:St}(h1:eZ W s0 s1)(h2:eZ W' s1 s2):eZ (W++W') s0 s2:=by
 obtain⟨p,a1,a2,a3⟩:=h1.ra;obtain⟨q,b1,b2,b3⟩:=h2.ra;refine⟨⟨λk=>p k || q k,λk hk=>?_,λi hi=>?_,λk hk=>?_⟩,h2.n.trans h1.n,h2.kb.trans h1.kb,λk h=>h2.cd k (h1.cd k h),λk h=>?_,h2.g.trans h1.g⟩;rcases e? _ _ |>.mp hk with h|h;have:=h2.news k (by rw[h1.kb];exact a1 k h);rwa [h1.kb] at this
 have:=b1 k h;rwa [h1.kb] at this
 rw[dj,Y?] at hi;rw[b2 i hi.2,a2 i hi.1,dm]
 . have Ma:aq s1.cd k=false:=by
    cases h:aq s1.cd k with
    |false=>rfl
    |true=>rw[h2.cd k h] at hk;cases hk
   rw[b3 k hk,a3 k Ma,fQ]
 have:=h2.news k (by rw[h1.kb];exact h1.news k h);rwa [h1.kb] at this
theorem eZ.mono{s0:St}(h:eZ W s0 s1)(hw:∀i,aq W' i=false->aq W i=false):eZ W' s0 s1:=by
 obtain⟨p,a1,a2,a3⟩:=h.ra;exact⟨⟨p,a1,λi hi=>a2 i (hw i hi),a3⟩,h.n,h.kb,h.cd,h.news,h.g⟩
def Sw(kb:Nat):∀(new:M (Nat×AB)) (k:Nat),cN kb (new.map λx=>KS.one x.1) k=gP new k
 |[],_=>rfl
 |(j,b)::r,k=>by simp only[K?,cN,gP,KS.has,Sw kb r k]
theorem jy:∀(l:M (Nat×AB)) (k:Nat),aq (l.map (·.1)) k=false->ai l k=none
 |[],_,_=>rfl
 |(j,b)::r,k,h=>by
  simp only[K?,aq,Y?] at h;simp only[ai,h.1,N!];exact jy r k h.2
theorem eZ.put(st:St)(d:Option Nat)(out:Out)(W:M Nat)(hd:∀t,d=some t->aq W t=true):eZ W st (st.put d out):=by
 refine⟨⟨gP out.new,λk hk=>?_,λi hi=>?_,λk hk=>?_⟩,rfl,rfl,λk hk=>?_,λk hk=>?_,rfl⟩;show cN st.kb (st.news++_) k=true;rw[dg,Sw,hk];simp
 . cases d with
   |none=>exact ry _ _
   |some t=>
    show(bif Nat.beq i t then out.res else nJ out.new (st.t i))=_;have :Nat.beq i t=false:=aL (λh=>by subst h;rw[hd i rfl] at hi;cases hi);rw[this];exact ry _ _
 . have fc:aq (out.gb.map (·.1)) k=false/\aq out.del k=false/\aq (out.new.map (·.1)) k=false:=by
    simp only[St.put,dj,Y?] at hk;exact⟨hk.1,hk.2.1,hk.2.2.1⟩
   show xR st.h out k=_;simp only[xR,jy _ _ fc.2.2,fc.2.1,N!,jy _ _ fc.1];cases st.h k with
   |none=>rfl
   |some b=>simp only[b7,wD]
 simp only[St.put,dj,hk,Bool.or_true];show cN st.kb (st.news++_) k=true;rw[dg,hk];rfl
def X0(b:Bool){k:Nat}{x y:Option AB}(h:GJ b x y=some ab):(if b then x else y).isSome/\
  ∀c,(if b then x else y)=some c->BR w A β k c->BR w A β k ab:=by
 unfold GJ at h;split at h
 . rename_i xs ys;cases hl:Nat.beq xs.length ys.length with
   |false=>simp[hl] at h
   |true=>
    simp only[hl,K!,A!] at h;subst h;refine⟨by cases b<;>rfl,λc hc hr=>?_⟩;have sX:c= .cells (if b then xs else ys):=by cases b<;>simp_all
    subst sX;obtain⟨g,arr,e,h1,h2,h3,h4,h5⟩:=hr;refine⟨g,arr,e,h1,h2,h3,kq b xs ys _ (D! hl) ?_,h5⟩;cases b<;>simpa using h4
 . rename_i e r l fr e' r' m GK;split at h
   . rename_i m' hm;cases hq:(Nat.beq e e'&&(fr==GK)) with
     |false=>simp[hq] at h
     |true=>
      simp only[hq,cond_true,Option.some.injEq] at h;subst h;simp only[Bool.and_eq_true,beq_iff_eq] at hq;have he:=Nat.eq_of_beq_eq_true hq.1;have hf:=hq.2;subst he;subst hf;unfold fG at hm;split at hm;rename_i hr;have hrr:=Ty.mX _ _ hr;subst hrr;simp only[Option.some.injEq] at hm;subst hm;refine⟨by cases b<;>rfl,λc hc hr=>?_⟩;cases b<;>(simp at hc;subst hc;exact hr);cases hm
   cases h
 cases h
theorem al.merge {b:Bool}{b1 b2 s1 s2:St}{a:Act}(hm:ye b W base s1 s2=some m)
  (f1:eZ W b1 s1) (e1:∀i,aq W i=false->b1.t i=base.t i) (g1:b1.h=base.h) (n1:b1.n=base.n) (k1:b1.kb=base.kb)
  (f2:eZ W b2 s2) (e2:∀i,aq W i=false->b2.t i=base.t i) (g2:b2.h=base.h) (n2:b2.n=base.n) (k2:b2.kb=base.kb) (hB:al C A β (if b then s1 else s2) a w) (y1:b1.g=base.g:=by rfl) (y2:b2.g=base.g:=by rfl):al C A β m a w:=by
 unfold ye at hm;split at hm
 . simp only[A!] at hm;subst hm
   have ht:∀i,aq W i=false->∀v,aa w A β v ((if b then s1 else s2).t i)->aa w A β v (aE (cN base.kb (s1.news++s2.news)) (base.t i)):=by
    intro i hi v h;have h':=oN (az:=β) (cN base.kb (s1.news++s2.news)) (λ_ _=>rfl) _ _ h;obtain⟨p1,a1,a2,_⟩:=f1.ra;obtain⟨p2,c1,c2,_⟩:=f2.ra;cases b with
    |true=>
     simp only[P?,a2 i hi,e1 i hi,dm] at h'
     have :(λk=>p1 k || cN base.kb (s1.news++s2.news) k)=cN base.kb (s1.news++s2.news):=by
      funext k;cases hp:p1 k with
      |false=>rfl
      |true=>rw[dg,<-k1,a1 k hp];rfl
     rwa [this] at h'
    |false=>
     simp only[b?,s?,c2 i hi,e2 i hi,dm] at h'
     have :(λk=>p2 k || cN base.kb (s1.news++s2.news) k)=cN base.kb (s1.news++s2.news):=by
      funext k;cases hp:p2 k with
      |false=>rfl
      |true=>rw[dg,<-k2,c1 k hp];simp
     rwa [this] at h'
   have hh:∀k,aq (s1.cd++s2.cd) k=false->∀ab,b7 (cN base.kb (s1.news++s2.news)) (base.h k)=some ab->∃c,(if b then s1 else s2).h k=some c/\(BR w A β k c->BR w A β k ab):=by
    intro k hk ab h;rw[dj,Y?] at hk;obtain⟨p1,a1,_,a3⟩:=f1.ra;obtain⟨p2,c1,_,c3⟩:=f2.ra;cases hb:base.h k with
    |none=>rw[hb] at h;simp[b7] at h
    |some x=>
     rw[hb] at h;simp only[b7,A!] at h;subst h;cases b with
     |true=>
      refine⟨cq p1 x,by simp only[P?,a3 k hk.1,g1,hb,b7],λhr=>?_⟩;have h':=zj (cN base.kb (s1.news++s2.news)) hr;rw[jn] at h'
      have :(λk=>p1 k || cN base.kb (s1.news++s2.news) k)=cN base.kb (s1.news++s2.news):=by
       funext k;cases hp:p1 k with
       |false=>rfl
       |true=>rw[dg,<-k1,a1 k hp];rfl
      rwa [this] at h'
     |false=>
      refine⟨cq p2 x,by simp only[b?,s?,c3 k hk.2,g2,hb,b7],λhr=>?_⟩;have h':=zj (cN base.kb (s1.news++s2.news)) hr;rw[jn] at h'
      have :(λk=>p2 k || cN base.kb (s1.news++s2.news) k)=cN base.kb (s1.news++s2.news):=by
       funext k;cases hp:p2 k with
       |false=>rfl
       |true=>rw[dg,<-k2,c1 k hp];simp
      rwa [this] at h'
   have hl:∀k ab,(bif aq (s1.cd++s2.cd) k then GJ b (s1.h k) (s2.h k) else b7 (cN base.kb (s1.news++s2.news)) (base.h k))=some ab->
     ∃c,(if b then s1 else s2).h k=some c/\(BR w A β k c->BR w A β k ab):=by
    intro k ab h;cases hd:aq (s1.cd++s2.cd) k with
    |false=>rw[hd] at h;exact hh k hd ab h
    |true=>
     rw[hd] at h;simp only[K!] at h;obtain⟨x1,x2⟩:=X0 (w:=w) (A:=A) (β:=β) (k:=k) b h;obtain⟨c,hc⟩:=S!.1 x1;refine⟨c,by cases b<;>simpa using hc,x2 c hc⟩
   have fH:∀k,(bif aq (s1.cd++s2.cd) k then GJ b (s1.h k) (s2.h k) else b7 (cN base.kb (s1.news++s2.news)) (base.h k)).isSome->((if b then s1 else s2).h k).isSome:=by
    intro k hk;obtain⟨ab,k9⟩:=S!.1 hk;obtain⟨c,hc,_⟩:=hl k ab k9;simp[hc]
   refine⟨hB.defers,?_,?_,?_,λk k' b' h1 h2=>hB.apart k k' b' (fH k h1) (fH k' h2),hB.bound,hB.frame,hB.fk,hB.base,λk b' h1=>hB.ot k b' (fH k h1),λi d hd=>hB.qc i d (by
    cases b;exact(congrFun (f2.g.trans y2) i).trans hd;exact(congrFun (f1.g.trans y1) i).trans hd),hB.laid,hB.held⟩
   rw[hB.size];cases b;exact f2.n.trans n2;exact f1.n.trans n1
   . intro i;have hi:=hB.tmps i;show aa w A β _ (bif aq W i then GI b (s1.t i) (s2.t i) else _);cases hW:aq W i with
     |false=>exact ht i hW _ hi
     |true=>
      refine En b _ _ ?_;cases b<;>simpa using hi
   intro k ab k9;obtain⟨c,hc,hr⟩:=hl k ab k9;exact hr (hB.blocks k c hc)
 cases hm
theorem eZ.merge{s2:St}(hm:ye b W base s1 s2=some m):eZ W base m:=by
 unfold ye at hm;split at hm;simp only[Option.some.injEq] at hm;subst hm;refine⟨⟨cN base.kb (s1.news++s2.news),λk hk=>?_,λi hi=>?_,λk hk=>?_⟩,rfl,rfl,λk hk=>?_,λk hk=>?_,rfl⟩;simp only[dg] at hk |-;simp[hk];simp only[hi,cond_false];simp only[dj,Bool.or_eq_false_iff] at hk;simp only[dj,hk.1.1,hk.1.2,Bool.or_self,cond_false];simp only[dj,hk,Bool.or_true];simp only[dg,hk,Bool.true_or];cases hm
def iQ(s r:St):Prop:=s.t=r.t/\s.h=r.h/\s.n=r.n/\s.kb=r.kb/\s.g=r.g
theorem iQ.refl(s:St):iQ s s:=⟨rfl,rfl,rfl,rfl,rfl⟩
theorem iQ.symm {s r:St}(h:iQ s r):iQ r s:=⟨h.1.symm,h.2.1.symm,h.2.2.1.symm,h.2.2.2.1.symm,h.2.2.2.2.symm⟩
theorem iQ.trans {s r q:St}(h:iQ s r)(g:iQ r q):iQ s q:=⟨h.1.trans g.1,h.2.1.trans g.2.1,h.2.2.1.trans g.2.2.1,h.2.2.2.1.trans g.2.2.2.1,h.2.2.2.2.trans g.2.2.2.2⟩
def jR(g:Bool)(d:Option Nat)(st:St):St:=match d with
 |some d=>bif g then {st with t:=λi=>bif Nat.beq i d then NU (st.t i) else st.t i} else st
 |none=>st
structure kB (E:Env) (ops:List Oper) (e:Ev) (s s':St):Prop where
 op:ops[e.i]? =some e.o
 dst:fq s e.o=true
 kr:e.kr=lH E s e.o
 step:match e.out with
  |none=>NR ops s.t e.o=some false
  |some out=>NR ops s.t e.o=some true/\act E s e.o=some out/\jQ s.h out.new=true/\∀p∈out.cond,p
 next :iQ s' (jR (mj ops e.i) e.o.dst (s.put e.o.dst e.cg))
def yf(E:Env)(ops:M Oper):M Ev->St->St->Prop
 |[],s,s'=>iQ s' s
 |e::es,s,s'=>∃s1,kB E ops e s s1/\yf E ops es s1 s'
def UP(kb:Nat)(ops:M Oper):M Ev->M Ev->Prop
 |_,[]=>True
 |tr,f::es=>ou kb true ops tr f=true/\f.pre=pn tr f.o.after.toList/\UP kb ops (f::tr) es
theorem al.seq(hB:al C A β s a w)(h:iQ r s):al C A β r a w:=by
 obtain⟨h1,h2,h3,h4,h5⟩:=h;refine⟨hB.defers,by rw[h3];exact hB.size,by rw[h1];exact hB.tmps,by rw[h2];exact hB.blocks,by rw[h2];exact hB.apart,hB.bound,hB.frame,hB.fk,hB.base,by rw[h2];exact hB.ot,by rw[h5];exact hB.qc,hB.laid,hB.held⟩
def aiq(h:aa w A β v x):aa w A β v (NU x):=by
 cases x with
 |bool b=>grind[NU,aa]
 |_=>exact h
theorem al.lit(g:Bool)(d:Option Nat)(hB:al C A β st a w):al C A β (jR g d st) a w:=by
 cases d with
 |none=>exact hB
 |some d=>
  cases g with
  |false=>exact hB
  |true=>
   refine⟨hB.defers,hB.size,λi=>?_,hB.blocks,hB.apart,hB.bound,hB.frame,hB.fk,hB.base,hB.ot,hB.qc,hB.laid,hB.held⟩;show aa w A β _ (bif Nat.beq i d then NU (st.t i) else st.t i);cases Nat.beq i d with
   |false=>exact hB.tmps i
   |true=>exact aiq (hB.tmps i)
def iQ.jR {s r:St}(h:iQ s r)(g:Bool)(d:Option Nat):iQ (jR g d s) (jR g d r):=by
 obtain⟨h1,h2,h3,h4⟩:=h;cases d with
 |none=>exact⟨h1,h2,h3,h4⟩
 |some d=>
  cases g with
  |false=>exact⟨h1,h2,h3,h4⟩
  |true=>exact⟨by simp_all[Vg.jR,K!],h2,h3,h4⟩
theorem getD_some {a:Array Value}(h:a.getD i undef=v)(hv:v≠undef):a[i]? =some v:=by
 rw[Array.getD_eq_getD_getElem?] at h;grind
def Sx(hB:al C A β st a w){x:Bool}(h:NR ops.toList st.t o=some x):Region.wanted o (yielded ops a.tmps)=x:=by
 unfold NR at h;unfold Region.wanted;cases hg:o.guard with
 |none=>grind
 |some jw=>
  obtain⟨j,want⟩:=jw;rw[hg] at h;simp only at h |-;unfold Fv at h;cases ho:ops[j]? with
  |none=>grind
  |some oj=>
   simp only[k?,ho] at h;cases hd:oj.dst with
   |none=>grind
   |some g=>
    have ht:=hB.tmps g;cases hv:st.t g with
    |tt=>
     rw[hv] at ht;have:=getD_some ht (by simp[undef])
     simp_all[yielded,Option.bind_some]
    |ff=>
     rw[hv] at ht;have:=getD_some ht (by simp[undef])
     simp_all[yielded,Option.bind_some]
    |undef=>
     rw[hv] at ht;have :yielded ops a.tmps j=none:=by
      simp only[yielded,ho,hd,Option.bind_some];cases hx:a.tmps[g]? with
      |none=>rfl
      |some v=>
       rw[A?,hx] at ht;subst ht;rfl
     grind
    |_=>grind
def al.ami(hB:al C A β st a w)(hd:∀t,d=some t->t<st.n):al C A β (st.put d .skip) (a.put d undef) w:=
 hB.pure hd (c:=[]) (r:=.undef) (by rfl)
def air(h:fq st o=true):∀t,o.dst=some t->t<st.n:=by
 intro t ht;simp_all[fq,L!]
variable {e f:Ev}{x:Operand}
theorem tT(hE:dx P C E)(hf:kB E ops.toList e s s')(hR:Rel C s a w)
  (hK:∀a' w',Rel C s' a' w'->K a' w'):wpOp P ops Q e.i K a w:=by
 obtain⟨A,β,hB⟩:=hR;have ho:ops[e.i]? =some e.o:=by have:=hf.op;grind
 unfold wpOp;simp[ho];have pX:=hf.step;have NY:=hf.next;unfold Ev.cg at NY;cases wk:e.out with
 |none=>
  rw[wk] at pX NY;rw[Sx hB pX];exact hK _ _ ⟨A,β,((hB.ami (air hf.dst)).lit _ _).seq NY⟩
 |some out=>
  rw[wk] at pX NY;obtain⟨h1,h2,h3,h4⟩:=pX;rw[Sx hB h1];refine .inl (ú hE hB h2 hf.dst h3 h4 λa' w' qo=>?_);obtain⟨A',az,uK⟩:=qo;exact hK _ _ ⟨A',az,(uK.lit _ _).seq NY⟩
def BJ(hE:dx P C E){ops:Array Oper}{Q:Exit->Act->World->Prop}:∀(es:M Ev) (s s':St) (a:Act) (w:World),yf E ops.toList es s s'->Rel C s a w->
  (∀a' w',Rel C s' a' w'->Q .normal a' w')->wpOps P ops Q (es.map (·.i)) a w
 |[],s,s',a,w,hx,hR,hQ=>by
   obtain⟨A,β,hB⟩:=hR;exact hQ _ _ ⟨A,β,hB.seq hx⟩
 |e::es,s,s',a,w,hx,hR,hQ=>by
  obtain⟨s1,h1,h2⟩:=hx;exact tT hE h1 hR λa' w' qo=>BJ hE es s1 s' a' w' h2 qo hQ
theorem yg:∀(ps:M Prop),KO ps->∀p∈ps,p
 |[],_,p,hp=>by grind
 |[q],h,p,hp=>by
   rcases List.mem_cons.1 hp with rfl|hp;exact h;grind
 |q::r::rs,h,p,hp=>by
  rcases O!.1 hp with rfl|hp;exact h.1;exact yg (r::rs) h.2 p hp
def Dr{r1 r2:Option (M Prop×St)}(h:both b W base r1 r2=some (cs,m)):
  ∃c1 s1 c2 s2,r1=some (c1,s1)/\r2=some (c2,s2)/\ye b W base s1 s2=some m/\cs=ME b c1 c2:=by
 unfold both at h;grind
def K6{c1 c2:M Prop}(h:∀p∈ME b c1 c2,p):(b=true->∀p∈c1,p)/\(b=false->∀p∈c2,p):=by
 unfold ME at h;grind[List.mem_cons_self,yg]
def sf {c:M Prop}{r:Option (M Prop×St)}(h:Dm c r=some (cs,m)):∃c',r=some (c',m)/\cs=c++c':=by
 unfold Dm at h;grind
def X1 {d:Nat}(hv:st.t d= .bool b):iQ (st.lit d (bif b then .tt else .ff)) (jR true (some d) st):=by
 refine⟨?_,rfl,rfl,rfl,rfl⟩;funext i;simp[St.lit,jR,K!];by_cases hi:i=d;simp_all[hi,cU,K!,NU]
 simp_all[aL,hi,N!]
theorem X2 {d:Nat}(hv:∀b,st.t d≠ .bool b):iQ st (jR true (some d) st):=by
 refine⟨?_,rfl,rfl,rfl,rfl⟩;funext i;simp[jR,K!];by_cases hi:i=d
 . subst hi;simp;cases hx:st.t i with
   |bool b=>grind
   |_=>rfl
 simp_all[aL,hi,N!]
def ü{W:M Nat}{cs:M Prop}{m:St}(h:fork g W d st next=some (cs,m))
  (hF:∀s0 c s,next s0=some (c,s)->eZ W s0 s) (hW:∀i,aq W' i=false->aq W i=false) (ht:∀t,d=some t->aq W' t=true):eZ W' st m:=by
 unfold fork at h;cases d with
 |none=>exact(hF _ _ _ h).mono hW
 |some d=>
  simp at h;cases g with
  |false=>exact(hF _ _ _ h).mono hW
  |true=>
   split at h;obtain⟨c1,s1,c2,s2,r1,r2,hm,rfl⟩:=Dr h;refine(eZ.merge hm).mono λi hi=>?_;grind[aq,Bool.or_eq_false_iff,aL];exact(hF _ _ _ h).mono hW
def ais{cs:M Prop}{m:St}(h:fork g W d st next=some (cs,m))(ep:∀p∈cs,p)
  (hF:∀s0 c s,next s0=some (c,s)->eZ W s0 s):
  ∃s0 c s,iQ s0 (jR g d st)/\next s0=some (c,s)/\(∀p∈c,p)/\(∀(C:Ctx) A β a w,al C A β s a w->al C A β m a w):=by
 unfold fork at h;cases d with
 |none=>exact⟨st,cs,m,iQ.refl _,h,ep,λ_ _ _ _ _ hB=>hB⟩
 |some d=>
  simp at h;cases g with
  |false=>exact⟨st,cs,m,iQ.refl _,h,ep,λ_ _ _ _ _ hB=>hB⟩
  |true=>
   split at h;rename_i b hv;obtain⟨c1,s1,c2,s2,r1,r2,hm,rfl⟩:=Dr h;have hc:=K6 ep
   have e:∀x,∀i,aq (d::W) i=false->(st.lit d x).t i=st.t i:=by
    intro x i hi;simp[aq,Y?] at hi;simp[St.lit,hi.1,N!]
   refine⟨st.lit d (bif b then .tt else .ff),if b then c1 else c2,if b then s1 else s2,X1 hv,?_,?_,λC A β a w hB=>?_⟩;cases b;exact r2;exact r1;cases b;exact hc.2 rfl;exact hc.1 rfl;have f1:=hF _ _ _ r1;have f2:=hF _ _ _ r2
   exact hB.merge hm (f1.mono λi hi=>by simp[aq,Y?] at hi;exact hi.2) (e _) rfl rfl rfl
    (f2.mono λi hi=>by simp[aq,Y?] at hi;exact hi.2) (e _) rfl rfl rfl
   grind[X2]
def Jk:∀t,o.dst=some t->aq (dZ (o::rest)) t=true:=by
 simp_all[dZ,aq,cU,Bool.true_or]
theorem Fx:∀i,aq (dZ (o::rest)) i=false->aq (dZ rest) i=false:=by
 grind[hi,dZ,aq,Bool.or_eq_false_iff]
theorem pq {dr:Bool}{ops:M Oper}:∀(rest:M Oper) (i:Nat) (tr:M Ev) (st:St) (cs:M Prop) (m:St),wA E dr ops i tr rest st=some (cs,m)->eZ (dZ rest) st m
 |[],i,tr,st,cs,m,h=>by
   grind[wA,Option.some.injEq,Prod.mk.injEq,eZ.refl]
 |o::rest,i,tr,st,cs,m,h=>by
  have amj:∀W i,aq W i=false->aq (W++W) i=false:=λW i hi=>by grind[dj]
  simp[wA] at h;split at h;cases h
  . cases hq:(fq st o&&ou st.kb dr ops tr ⟨i,o,none,lH E st o,pn tr o.after.toList⟩) with
    |false=>grind
    |true=>
     simp[hq,K!] at h;have:=pq rest _ _ _ _ _ h;exact((eZ.put st o.dst .skip _ Jk).trans (this.mono Fx)).mono (amj _)
  . split at h;cases h
    . rename_i out oL;cases hq:(fq st o&&(jQ st.h out.new&&ou st.kb dr ops tr ⟨i,o,some out,lH E st o,pn tr o.after.toList⟩)) with
      |false=>grind
      |true=>
       simp[hq,K!] at h;obtain⟨c',h',_⟩:=sf h;have:=ü h' (λs0 c s hn=>pq rest _ _ _ _ _ hn) Fx Jk;exact((eZ.put st o.dst out _ Jk).trans this).mono (amj _)
theorem UQ:iQ (jR g d (st.put d .skip)) (st.put d .skip):=by
 cases d with
 |none=>exact iQ.refl _
 |some d=>
  cases g with
  |false=>exact iQ.refl _
  |true=>
   refine⟨?_,rfl,rfl,rfl,rfl⟩;funext i;simp[jR,K!,St.put,Out.skip];by_cases hi:i=d;simp_all[hi,cU,K!,NU]
   simp_all[aL,hi,N!]
theorem NZ{ops:M Oper}{tr:M Ev}(h:ou kb dr ops tr f=true)(hd:dr=true):ou kb true ops tr f=true:=by grind
def uR {dr:Bool}{ops:M Oper}:∀(rest:M Oper) (i:Nat) (tr:M Ev) (st:St) (cs:M Prop) (m:St),wA E dr ops i tr rest st=some (cs,m)->(∀p∈cs,p)->
  (∀k,rest[k]? =ops[i+k]?)->
  ∃es sl,yf E ops es st sl/\es.map (·.i)=List.range' i rest.length/\(dr=true->UP st.kb ops tr es)/\∀(C:Ctx) A β a w,al C A β sl a w->al C A β m a w
 |[],i,tr,st,cs,m,h,ep,hl=>by
   simp[wA,Option.some.injEq,Prod.mk.injEq] at h;exact⟨[],st,iQ.refl _,rfl,λ_=>trivial,λ_ _ _ _ _ hB=>by grind⟩
 |o::rest,i,tr,st,cs,m,h,ep,hl=>by
  have h0:ops[i]? =some o:=by simpa using(hl 0).symm
  have la:∀k,rest[k]? =ops[i+1+k]? :=λk=>by have:=hl (k+1);grind
  simp[wA] at h;split at h;cases h
  . rename_i hg;cases hq:(fq st o&&ou st.kb dr ops tr ⟨i,o,none,lH E st o,pn tr o.after.toList⟩) with
    |false=>grind
    |true=>
     simp[hq,cond_true] at h;rw[Bool.and_eq_true] at hq;obtain⟨es,sl,h1,h2,h3,h4⟩:=uR rest _ _ _ _ _ h ep la;refine⟨⟨i,o,none,lH E st o,pn tr o.after.toList⟩::es,sl,⟨st.put o.dst .skip,⟨h0,hq.1,rfl,hg,UQ.symm⟩,h1⟩,?_,λhd=>⟨NZ hq.2 hd,rfl,h3 hd⟩,h4⟩;grind[List.length_cons,List.range'_succ]
  . rename_i hg;split at h;cases h
    . rename_i out oL;cases hq:(fq st o&&(jQ st.h out.new&&ou st.kb dr ops tr ⟨i,o,some out,lH E st o,pn tr o.after.toList⟩)) with
      |false=>grind
      |true=>
       simp[hq,K!] at h;rw[B!,B!] at hq;obtain⟨c',h',rfl⟩:=sf h;obtain⟨s0,c,s,e1,e2,e3,e4⟩:=ais h' (λp hp=>ep p (X! _ hp)) (λs0 c s hn=>pq rest _ _ _ _ _ hn);obtain⟨es,sl,h1,h2,h3,h4⟩:=uR rest _ _ _ _ _ e2 e3 la;refine⟨⟨i,o,some out,lH E st o,pn tr o.after.toList⟩::es,sl,⟨s0,⟨h0,hq.1,rfl,⟨hg,oL,hq.2.1,λp hp=>ep p (T! _ hp)⟩,e1⟩,h1⟩,?_,λhd=>⟨NZ hq.2.2 hd,rfl,by have:=h3 hd;rw[show s0.kb=st.kb from e1.2.2.2.1.trans (by cases o.dst<;>cases mj ops i<;>rfl)] at this;exact this⟩,λC A β a w hB=>e4 _ _ _ _ _ (h4 _ _ _ _ _ hB)⟩;rw[K?,h2,N?,List.range'_succ]
theorem K7{i:Nat}{rest:M Nat}{o:Oper}(h:ops[i]? =some o)(hg:o.guard=none)(hw:o.wp P a w (wpOps P ops Q rest) Q):wpOps P ops Q (i::rest) a w:=by
 simp_all[wpOps,Q!,Region.wanted]
structure adp (w w':World) (es:Array MapEntry) (ck:Nat):Prop where
 os:w'.os=w.os
 tape:w'.tape=w.tape
 output:w'.output=w.output
 size:w'.heap.size=w.heap.size+1
 same:∀b,b<w.heap.size->w'.heap[b]? =w.heap[b]?
 there:w'.heap[w.heap.size]? =some (.map es ck)
variable {d:Nat}
def ý{k:Int}(h:UK d o=some (t,k,x)):o.op= .insert t (.tmp d) (.const (.int .i64 k)) x/\o.dst=none/\o.guard=none:=by
 unfold UK at h;split at h
 . rename_i t' d' k' x' h1 h2 h3;cases hb:Nat.beq d' d with
   |false=>grind
   |true=>
    simp_all
 grind
theorem Hm(st:St)(t d:Nat):∀r,(dW st t d r).2.2=r.drop (dW st t d r).1.length/\(dW st t d r).1.length<=r.length
 |[]=>⟨rfl,P! _⟩
 |o::r=>by
  simp[dW];split
  . rename_i t' k x hx;cases hb:(Nat.beq t' t&&Dn d x&&decide (lo .i64<=k/\k<=hi .i64)) with
    |false=>grind
    |true=>
     simp_all[Hm,K!,N?,List.drop_succ_cons]
  grind
theorem K8(st:St)(t d:Nat):∀r,(dW st t d r).2.1.length=(dW st t d r).1.length
 |[]=>rfl
 |o::r=>by
  simp only[dW];split
  . rename_i t' k x hx;cases hb:(Nat.beq t' t&&Dn d x&&decide (lo .i64<=k/\k<=hi .i64)) with
    |false=>rfl
    |true=>simp_all[K!,N?,K8]
  rfl
theorem wE{ops:M Oper}(h:zi T st ops=some (d,ks,vs,rest)):
  ∃o r t te kt et,ops=o::r/\o.op= .makeMap t none/\o.dst=some d/\o.guard=none/\T.find t=some te/\te.desc= .map kt et/\cE T kt xh=true/\gX ks=true/\d<st.n/\dW st t d r=(ks,vs,rest):=by
 cases ops with
 |nil=>grind[zi]
 |cons o r=>
  simp[zi] at h;split at h
  . rename_i t d' h1 h2 h3;split at h
    . rename_i te iO;split at h
      . rename_i kt et hd;cases hb:(cE T kt xh&&gX (dW st t d' r).1&&Nat.blt d' st.n) with
        |false=>grind
        |true=>
         rw[hb] at h;simp at h;obtain⟨rfl,h⟩:=h;simp only[Bool.and_eq_true] at hb;exact⟨o,r,t,te,kt,et,rfl,h1,h2,h3,iO,hd,hb.1.1,x!,Nat.le_of_ble_eq_true hb.2,h⟩
      grind
    grind
  grind
def Hn{ops:M Oper}(h:zi T st ops=some (d,ks,vs,rest)):rest=ops.drop (ks.length+1):=by
 grind[wE,Hm]
def X3{ops:M Oper}(h:zi T st ops=some (d,ks,vs,rest)):vs.length=ks.length:=by
 grind[wE,K8]
def K9 {k:Int}:∀ {l:U},gX (l++[k])=true->k∉l
 |[],_=>by simp
 |j::l,h=>by
  simp[U?,gX,B!,Q?] at h;have h1:=K9 h.2;rintro(_|q);have :Nd k (l++[k])=true:=(uq _ _).2 z!;rw[this] at h;cases h.1;exact h1 (by assumption)
def N0:∀ {l m:U},gX (l++m)=true->gX l=true
 |[],_,_=>rfl
 |j::l,m,h=>by
  simp[U?,gX,B!,Q?] at h |-;refine⟨?_,N0 h.2⟩;cases q:Nd j l with
  |false=>rfl
  |true=>rw[(uq _ _).2 (T! _ ((uq _ _).1 q))] at h;cases h.1
theorem Ho:∀(as_:M AV) (vs:M Value) (x:AV) (v:Value),ae w A β vs as_->aa w A β v x->ae w A β (vs++[v]) (as_++[x])
 |[],vs,x,v,h,hx=>by
   grind[ae]
 |a::as_,vs,x,v,h,hx=>by
  obtain⟨u,bY,rfl,h1,h2⟩:=h;exact⟨u,bY++[v],rfl,h1,Ho as_ bY x v h2 hx⟩
def ait(h:Dn d x=true):(a.put (some d) v).eval x=a.eval x:=by
 cases x with
 |tmp i=>
  simp[Dn,Bool.not_eq_true'] at h;have :i≠d:=by grind[cU]
  simp only[Act.eval,Act.put];rw[Array.getD_eq_getD_getElem?,Array.getD_eq_getD_getElem?,Array.getElem?_setIfInBounds];grind
 |_=>rfl
theorem X4 {T:bX}(hT:bz T P)(hB:al C A β st a w){ops:Array Oper}{Q:Exit->Act->World->Prop}{d t kt et:Nat}(hd:d<st.n)(ht:P.underlying t=some (.map kt et))(xU:P.underlying kt=some (.int .i64)):
  ∀(r:M Oper) (i:Nat) (es:Array MapEntry) (ck:Nat) (w':World) (k0:U) (c0:M AV),(∀k,r[k]? =ops[i+k]?)->adp w w' es ck->es.toList.map (·.key)=k0.map (Value.int .i64)->ae w A β (es.toList.map (·.val)) c0->
   gX (k0++(dW st t d r).1)=true->
   (∀Ud þ ck',adp w Ud þ ck'->þ.toList.map (·.key)=(k0++(dW st t d r).1).map (Value.int .i64)->ae w A β (þ.toList.map (·.val)) (c0++(dW st t d r).2.1)->
     wpOps P ops Q (List.range' (i+(dW st t d r).1.length) (dW st t d r).2.2.length) (a.put (some d) (.map (some w.heap.size))) Ud)->
   wpOps P ops Q (List.range' i r.length) (a.put (some d) (.map (some w.heap.size))) w'
 |[],i,es,ck,w',k0,c0,_,hm,hk,hv,_,hK=>by
   grind[dW]
 |o::r,i,es,ck,w',k0,c0,hl,hm,hk,hv,hn,hK=>by
  have stop:dW st t d (o::r)=([],[],o::r)->wpOps P ops Q (List.range' i (o::r).length) (a.put (some d) (.map (some w.heap.size))) w':=by
   grind
  cases ho:UK d o with
  |none=>grind[dW]
  |some p=>
   obtain⟨t',k,x⟩:=p;cases hb:(Nat.beq t' t&&Dn d x&&decide (lo .i64<=k/\k<=hi .i64)) with
   |false=>exact stop (by simp only[dW,ho,hb,N!])
   |true=>
    have e:dW st t d (o::r)=(k::(dW st t d r).1,ev st x::(dW st t d r).2.1,(dW st t d r).2.2):=by simp_all[dW,K!]
    obtain⟨o1,o2,o3⟩:=ý ho;simp only[B!] at hb;have htt:=D! hb.1.1;subst htt;rw[e] at hn hK;simp only at hn hK;have h0:ops[i]? =some o:=by simpa using(hl 0).symm
    have la:∀k,r[k]? =ops[i+1+k]? :=λk=>by have:=hl (k+1);grind
    have NM:k∉k0:=K9 (N0 (m:=(dW st t' d r).1) x!);have hx:=aC hB x;have dH:d<a.tmps.size:=by rw[hB.size];omega
    have hem:(a.put (some d) (.map (some w.heap.size))).eval (.tmp d)= .map (some w.heap.size):=by
     simp_all[Act.eval,Act.put]
    have gI:(Instr.mapUpdate t' (.map (some w.heap.size)) (.int .i64 k) (a.eval x)).run P w'= .ok () {w' with heap:=w'.heap.setIfInBounds w.heap.size (.map (es.push {key:=.int .i64 k,val:=a.eval x,born:=ck}) (ck+1))}:=by
     have hc:(Instr.checkKey false 10000 kt (.int .i64 k)).run P w'= .ok () w':=MapKept.run_checkKey xU (by rfl) false 9999;simp[Instr.mapUpdate,run_underlying ht,MapKept.run_getObj_map hm.there,hc,MapKept.run_findKey xU (sb k es.toList k0 0 hk NM),MapKept.run_setObj_map _ hm.there,Result.andThen]
    have XV:∀(v:Value) (b:Act),b.put none v=b:=λ_ _=>rfl;refine(K7 h0 o3 ?_);refine nK (w':={w' with heap:=w'.heap.setIfInBounds w.heap.size (.map (es.push {key:=.int .i64 k,val:=a.eval x,born:=ck}) (ck+1))}) ?_ ?_;simp only[execOp,o1,hem,ait hb.1.2];have :(a.put (some d) (.map (some w.heap.size))).eval (.const (.int .i64 k))= .int .i64 k:=rfl;simp_all
    rw[o2,XV];refine X4 hT hB hd ht xU r (i+1) (es.push {key:=.int .i64 k,val:=a.eval x,born:=ck}) (ck+1) _ (k0++[k]) (c0++[ev st x]) la ⟨hm.os,hm.tape,hm.output,?_,?_,?_⟩ ?_ ?_ x! ?_;simp[hm.size];intro b eO;rw[(MapKept.heap_set hm.there).2 b w!];exact hm.same b eO;exact(MapKept.heap_set hm.there).1;grind;grind[Array.toList_push,Ho];grind
def X5(hT:bz T P){rest:M Oper}{d:Nat}{ks:U}{vs:M AV}(h:zi T st ops.toList=some (d,ks,vs,rest))(hR:Rel C st a w)
  (hK:∀a' w',Rel C (st.put (some d) {cond:=[],res:=.iA ks vs}) a' w'->wpOps P ops Q (List.range' (ks.length+1) rest.length) a' w'):wpOps P ops Q (List.range' 0 ops.toList.length) a w:=by
 obtain⟨A,β,hB⟩:=hR;obtain⟨o,r,t,te,kt,et,ho,o1,o2,o3,iO,hd,Ma,UR,hdn,hi⟩:=wE h;obtain⟨hu,_⟩:=hT.ok t te iO;rw[hd] at hu
 have xU:P.underlying kt=some (.int .i64):=by
  unfold cE at Ma;split at Ma;rename_i tk Bo;obtain⟨hku,_⟩:=hT.ok kt tk Bo;grind[xh];grind
 have h0:ops[0]? =some o:=by rw[<-k?,ho];rfl
 have la:∀k,r[k]? =ops[0+1+k]? :=λk=>by
  rw[<-k?,ho,show 0+1+k=k+1 by omega];rfl
 rw[ho,List.length_cons,List.range'_succ];refine K7 h0 o3 ?_;refine bn (v:=.map (some w.heap.size)) (w':=w.alloc (.map #[] 0)) ?_ ?_;simp[execOp,o1,Instr.makeMap];rw[o2];have hn:gX ([]++(dW st t d r).1)=true:=by grind
 refine X4 hT hB hdn hu xU r (0+1) #[] 0 _ [] [] la ⟨rfl,rfl,rfl,z!,λb hb=>ej _ b hb,heap_alloc_new w _⟩ rfl (by rfl) hn ?_;intro Ud es ck m1 m2 m3;rw[hi] at m2 m3 |-;have e:0+1+ks.length=ks.length+1:=by omega
 simp only[e];refine hK _ _ ⟨λb=>A b\/b=w.heap.size,β,?_⟩;have AW:bG w Ud A (λb=>A b\/b=w.heap.size):=λb hb=>⟨.inl hb,m1.same b (hB.bound b hb)⟩
 refine hB.step (out:={cond:=[],res:=.iA ks vs}) (λt ht=>by grind) (λk b hk=>by grind[ai]) (λk b hk=>by grind[ai]) (λ_ _=>rfl) AW m1.os m1.tape m1.output (by rw[m1.size];omega)
  (λb hb _=>m1.same b hb) (λb hb=>?_) (λb hb=>?_) (λk ab hk=>by grind[ai]) (λk ab hk=>by grind[ai]) (λk b ab hk=>by grind[ai]) (λk k' b hk=>by grind[ai]) ?_
 rw[m1.size];rcases hb with hb|hb;have:=hB.bound b hb;omega;omega;grind;exact⟨w.heap.size,es,ck,rfl,.inr rfl,⟨es,m1.there,.refl _⟩,m2,cF AW _ _ m3⟩
theorem US(hE:dx P C E){id:Nat}{cs:M Prop}{m:St}(h:Hk E false ops.toList st=some (cs,m))(ep:∀p∈cs,p)
  (hR:Rel C st a w) (hQ:∀a' w',Rel C m a' w'->Q .normal a' w'):(Code.region id ops false).wp P Q a w:=by
 simp[Hk,N!] at h;split at h;rename_i d ks vs rest hp;refine wp_region ?_;have hl:=Hn hp;rw[X3 hp] at h
 have:=X5 (Q:=Q) hE.eY hp hR λa' w' qo=>by
  obtain⟨es,sl,h1,h2,_,h4⟩:=uR rest (ks.length+1) [] _ cs m h ep (λk=>by grind);have:=BJ (Q:=Q) hE es _ sl a' w' h1 qo (λa'' Ud ⟨A,β,hB⟩=>hQ _ _ ⟨A,β,h4 _ _ _ _ _ hB⟩);grind
 grind[Array.length_toList,List.range_eq_range'];obtain⟨es,sl,h1,h2,_,h4⟩:=uR ops.toList 0 [] st cs m h ep (λk=>by simp);refine wp_region ?_;have:=BJ (Q:=Q) hE es st sl a w h1 hR (λa' w' ⟨A,β,hB⟩=>hQ _ _ ⟨A,β,h4 _ _ _ _ _ hB⟩);grind[Array.length_toList,List.range_eq_range']
theorem eZ.ahead(st:St)(W:M Nat):eZ W st (st.ahead W):=by
 refine⟨⟨cN st.kb (W.map .dst),λk hk=>?_,λi _=>rfl,λk _=>rfl⟩,rfl,rfl,λk h=>h,λk h=>?_,rfl⟩;simp_all[St.ahead,dg,Bool.or_true]
 simp_all[St.ahead,dg,Bool.true_or]
theorem Ds {L:M Nat}:∀(ops:M Oper),dZ (ops.map (fK L))=dZ ops
 |[]=>rfl
 |o::r=>by
  have :(fK L o).dst=o.dst:=by unfold fK;split<;>rfl
  simp only[K?,dZ,this,Ds r]
def Sy {p:Oper->Bool}{i:Nat}:∀(ops:M Oper),aq (dZ ops) i=false->aq (dZ (ops.filter p)) i=false
 |[],h=>h
 |o::r,h=>by
  have h2:=Sy (p:=p) r (Fx i h);rw[List.filter_cons];split;unfold dZ at h |-;split<;>grind[aq]
  exact h2
theorem eZ.cut(st:St)(W:M Nat):eZ W st st.cut:=
 ⟨⟨λk=>Nat.beq k eb,λk hk=>by simp only[St.cut,dg,cN,KS.has,hk,Bool.or_true,Bool.true_or],λ_ _=>rfl,λ_ _=>rfl⟩,rfl,rfl,λ_ h=>h,λk h=>by simp only[St.cut,dg,h,Bool.true_or],rfl⟩
theorem eZ.mapped {st m:St}{L:M Nat}{ops:M Oper}(h:eZ (dZ ops) st m):eZ (dZ ops) st (m.mapped L ops):=by
 obtain⟨p,h1,h2,h3⟩:=h.ra;refine⟨⟨p,h1,λi hi=>?_,h3⟩,h.n,h.kb,h.cd,h.news,h.g⟩;simp only[St.mapped,Sy ops hi,N!];exact h2 i hi
variable {ops:List Oper}{ks:List Nat}{d:Option Nat}
theorem N1(h:Hk E dr ops st=some (cs,m)):eZ (dZ ops) st m:=by
 unfold Hk at h;cases dr with
 |false=>
  split at h
  . rename_i d ks vs rest hp;obtain⟨o,r,t,te,kt,et,rfl,_,h2,_,_,_,_,_,_,hi⟩:=wE hp;have hdr:=Hn hp;have h1:eZ [d] st (st.put (some d) {cond:=[],res:=.iA ks vs}):=eZ.put st (some d) _ [d] (λt ht=>by grind[aq,cU]);refine(h1.trans (pq _ _ _ _ _ _ h)).mono λi fN=>?_
    have Sf:∀(l:M Oper) (n:Nat),aq (dZ l) i=false->aq (dZ (l.drop n)) i=false:=by
     intro l;induction l with
     |nil=>grind
     |cons q l ih=>
      intro n hh;cases n with
      |zero=>grind
      |succ n=>
       grind[dZ,aq,Bool.or_eq_false_iff]
    grind[dZ,aq,Bool.or_eq_false_iff,List.singleton_append]
  grind[pq]
 |true=>
  simp only[K!,amf] at h;split at h
  . rename_i i0 t L hp;cases hn:(st.h eb).isNone with
    |false=>rw[hn] at h;cases h
    |true=>
    rw[hn] at h;simp only[cond_true] at h;split at h;rename_i c q hq;simp only[Option.some.injEq,Prod.mk.injEq] at h;obtain⟨_,rfl⟩:=h;have h1:=((eZ.ahead st (dZ ops)).trans (eZ.cut _ (dZ ops))).trans (pq _ _ _ _ _ _ hq);rw[Ds] at h1;exact(h1.mono λi hi=>by grind[dj]).mapped;cases h
  exact((eZ.ahead st _).trans (pq _ _ _ _ _ _ h)).mono (λi hi=>by grind[dj])
theorem al.ahead(hB:al C A β st a w)(W:M Nat):al C A β (st.ahead W) a w:=by
 have hl:∀k ab,(st.ahead W).h k=some ab->∃c,st.h k=some c/\ab=cq (cN st.kb (W.map .dst)) c:=by
  intro k ab h;simp[St.ahead] at h;cases hk:st.h k with
  |none=>rw[hk] at h;cases h
  |some c=>grind[b7,Option.some.injEq]
 have hs:∀k,((st.ahead W).h k).isSome->(st.h k).isSome:=by
  grind[Option.isSome_iff_exists]
 refine⟨hB.defers,hB.size,λi=>oN _ (λ_ _=>rfl) _ _ (hB.tmps i),λk ab h=>?_,λk k' b h1 h2=>hB.apart k k' b (hs k h1) (hs k' h2),hB.bound,hB.frame,hB.fk,hB.base,λk b h=>hB.ot k b (hs k h),hB.qc,hB.laid,hB.held⟩;obtain⟨c,hc,rfl⟩:=hl k ab h;exact zj _ (hB.blocks k c hc)
theorem BK:∀(x:AV),(∀k∈an x,h' k=h k)->ja h' x=ja h x:=by
 intro x hx;cases x<;>simp_all[ja,an]
theorem La {h h':aJ}:∀(xs:M AV),(∀k∈au xs,h' k=h k)->p0 h' xs=p0 h xs
 |[],_=>rfl
 |x::xs,hx=>by
  simp[au,I!] at hx;simp[p0,BK x (λk hk=>hx k (.inl hk)),La xs (λk hk=>hx k (.inr hk))]
theorem uS(x:AV)(hx:∀k∈an x,h' k=h k):mY h' x=mY h x:=by
 unfold mY;grind[La,an,BK]
theorem BL {h h':aJ}:∀(xs:M AV),(∀k∈au xs,h' k=h k)->mZ h' xs=mZ h xs
 |[],_=>rfl
 |x::xs,hx=>by
  simp[au,I!] at hx;simp[mZ,uS x (λk hk=>hx k (.inl hk)),BL xs (λk hk=>hx k (.inr hk))]
theorem Lb {h h':aJ}:∀(ps:M (Nat×AV)),(∀k∈au (ps.map (·.2)),h' k=h k)->qa h' ps=qa h ps
 |[],_=>rfl
 |(i,x)::ps,hx=>by
  simp[K?,au,I!] at hx;simp[qa,uS x (λk hk=>hx k (.inl hk)),Lb ps (λk hk=>hx k (.inr hk))]
theorem Fy(x:AV):∀k∈(ja h x).2,k∈an x:=by
 intro k hk;cases x<;>simp[ja] at hk;case own j=>grind[an]
 case pre j n=>grind[an]
 case view j sz off n=>
  grind[Nat.beq,an]
theorem N2 {h:aJ}:∀(xs:M AV),∀k∈(p0 h xs).2,k∈au xs
 |[],k,hk=>by grind[p0]
 |x::xs,k,hk=>by
  simp[p0,I!] at hk;simp[au,I!];exact hk.imp (Fy x k) (N2 xs k)
theorem yh(x:AV):∀k∈(mY h x).2,k∈an x:=by
 intro k hk;unfold mY at hk;grind[an,N2,Fy]
theorem Fz {h:aJ}:∀(xs:M AV),∀k∈(mZ h xs).2,k∈au xs
 |[],k,hk=>by grind[mZ]
 |x::xs,k,hk=>by
  simp[mZ,I!] at hk;simp[au,I!];exact hk.imp (yh x k) (Fz xs k)
theorem N3 {h:aJ}:∀(ps:M (Nat×AV)),∀k∈(qa h ps).2,k∈au (ps.map (·.2))
 |[],k,hk=>by grind[qa]
 |(i,x)::ps,k,hk=>by
  simp[qa,I!] at hk;simp[K?,au,I!];exact hk.imp (yh x k) (N3 ps k)
theorem jz {h h':aJ}:∀(ks:M Nat),(∀k∈ks,h' k=h k)->b6 h' ks=b6 h ks
 |[],_=>rfl
 |k::ks,hx=>by
  simp[b6,hx k (G! ..),jz ks (λj hj=>hx j (F! _ hj))]
def UT(x:AV)(hx:∀k∈an x,h' k=h k):IT h' x=IT h x:=by
 cases x<;>simp_all[IT,an]
def D6(T:bX)(t:TypeId)(x i:AV)(hx:∀k∈an x,h' k=h k):gW T h' t x i=gW T h t x i:=by
 cases x<;>cases i<;>simp_all[gW,an]
def BM(T:bX)(t:TypeId)(x:AV)(hx:∀k∈an x,h' k=h k):p9 T h' t x=p9 T h t x:=by
 cases x<;>simp_all[p9,an]
def AD(T:bX)(t:TypeId)(x v:AV)(hx:∀k∈an x,h' k=h k)(hv:∀k∈an v,h' k=h k):iB T h' t x v=iB T h t x v:=by
 cases x;case ref k off=>grind[iB,an]
 case elem k sz i j=>
  grind[iB,an,uS,jz,mY,yh]
 all_goals rfl
def zl(row:M Ty)(x:AV)(hx:∀k∈an x,h' k=h k):ow h' row x=ow h row x:=by
 have:=BK x hx;cases x<;>simp_all[ow]
theorem Jl(T:bX)(d:Nat)(t t':TypeId)(s x:AV)(hs:∀k∈an s,h' k=h k)(hx:∀k∈an x,h' k=h k):rm T h' d t t' s x=rm T h d t t' s x:=by
 unfold rm;split
 . split
   . rename_i row mO;rw[zl row x hx];cases s;case own k=>simp[hs k (by simp[an])]
     case pre k n=>simp[hs k (by simp[an])]
     all_goals rfl
   rfl
 rfl
theorem N4(T:bX)(t t':TypeId)(s x:AV)(hs:∀k∈an s,h' k=h k)(hx:∀k∈an x,h' k=h k):uA T h' t t' s x=uA T h t t' s x:=by
 have iG:∀row,ow h' row x=ow h row x:=λrow=>zl row x hx;cases s;case own k=>grind[uA,an]
 case view k sz off n=>grind[uA,an]
 all_goals rfl
def Mi(T:bX)(t:TypeId)(x:AV)(hx:∀k∈an x,h' k=h k):uk T h' t x=uk T h t x:=by
 cases x;case view k sz off n=>grind[uk,an]
 all_goals rfl
theorem Mj(T:bX)(t:TypeId)(x:AV)(lo hi mx:Option AV)(hx:∀k∈an x,h' k=h k):uj T h' t x lo hi mx=uj T h t x lo hi mx:=by
 unfold uj;grind[wj,lo,hi,an]
theorem RH(T:bX)(s d:TypeId)(k:Nat)(hx:h' k=h k):Dh T h' s d k=Dh T h s d k:=by grind[Dh]
theorem Hp(T:bX)(s d:TypeId)(x:AV)(hx:∀k∈an x,h' k=h k):pH T h' s d x=pH T h s d x:=by
 have hs:∀row,ow h' row x=ow h row x:=λrow=>zl row x hx;grind[pH,RH,an]
def BN(T:bX)(d:Nat)(t:TypeId)(len:Nat)(ps:M (Nat×AV))(hx:∀k∈au (ps.map (·.2)),h' k=h k):k7 T h' d t len ps=k7 T h d t len ps:=by
 unfold k7;simp[Lb ps hx,jz (qa h ps).2 (λj hj=>hx j (N3 ps j hj))]
theorem N5(E:Env)(d f:Nat)(xs:M AV)(hx:∀k∈au xs,h' k=h k):qb E h' d f xs=qb E h d f xs:=by
 grind[qb,BL,jz,mZ,Fz]
theorem jW:∀(a b:M AV),au (a++b)=au a++au b
 |[],_=>rfl
 |x::a,b=>by simp[U?,au,jW a b,V!]
def iR {x:AV}:∀ {xs:M AV},x∈xs->∀k∈an x,k∈au xs
 |y::ys,hx,k,hk=>by
  simp[au,I!];rcases O!.1 hx with rfl|hx;exact .inl hk;exact .inr (iR hx k hk)
theorem X6(ht:∀x∈o.op.operands.toList,ev bp x=ev st x)(hh:∀k∈lH E st o,bp.h k=st.h k)(oA:bp.kb=st.kb):
  dL E bp o=dL E st o:=by
 have hk:∀x∈o.op.operands.toList,∀k∈an (ev st x),bp.h k=st.h k:=by
  intro x hx k hk;exact hh k (F! _ (T! _ (iR (L? hx) k hk)))
 have hd:∀d,o.dst=some d->bp.h (st.kb+d)=st.h (st.kb+d):=by
  intro d hd;exact hh _ (by simp[lH,hd])
 obtain⟨dst,op,type,pos,after,guard⟩:=o;simp only at ht hk hd
 have ì:∀d,dst=some d->fresh bp.h (st.kb+d)=fresh st.h (st.kb+d):=by
  intro d h;simp only[fresh,hd d h]
 cases op with
 |move x=>simp only[dL,ht x (by simp[Op.operands])]
 |assign x=>simp only[dL,ht x (by simp[Op.operands])]
 |pick c x y=>simp only[dL,ht c (by simp[Op.operands]),ht x (by simp[Op.operands]),ht y (by simp[Op.operands])]
 |alloc t=>simp only[dL,oA]
 |box t x=>simp only[dL,ht x (by simp[Op.operands]),oA]
 |build t parts=>
  have :(parts.toList.map λp=>(p.1,ev bp p.2))=parts.toList.map λp=>(p.1,ev st p.2):=by
   apply O?;intro p hp;rw[ht p.2 (by simp only[Op.operands];exact L? hp)]
  simp only[dL,this]
 |buildSlice t len parts=>
  have :(parts.toList.map λp=>(p.1,ev bp p.2))=parts.toList.map λp=>(p.1,ev st p.2):=by
   apply O?;intro p hp;rw[ht p.2 (by simp only[Op.operands];exact L? hp)]
  simp only[dL,this,oA];cases dst with
  |none=>rfl
  |some d=>
   simp only[ì d rfl];rw[BN];intro k fc;refine hh k (F! _ (T! _ ?_));simp only[Op.operands,v?] at fc |-;exact fc
 |load t x=>simp only[dL,ht x (by simp[Op.operands]),BM _ t _ (hk x (by simp[Op.operands]))]
 |store t x y=>simp only[dL,ht x (by simp[Op.operands]),ht y (by simp[Op.operands]),AD _ t _ _ (hk x (by simp[Op.operands])) (hk y (by simp[Op.operands]))]
 |nilCheck x=>simp only[dL,ht x (by simp[Op.operands])]
 |binOp op t x y yt=>simp only[dL,ht x (by simp[Op.operands]),ht y (by simp[Op.operands])]
 |unOp op t x=>simp only[dL,ht x (by simp[Op.operands])]
 |convert s d x=>grind[dL,Op.operands,Hp]
 |makeFunc f first aO=>
  grind[ev,List.map_congr_left,Op.operands,dL]
 |makeSlice t l c=>
  simp only[dL,ht l (by simp[Op.operands]),ht c (by simp[Op.operands]),oA];grind
 |slice t x l hi mx=>
  have h1:l.map (ev bp)=l.map (ev st):=by cases l with|none=>rfl|some y=>simp only[Option.map_some,ht y (by simp[Op.operands])]
  have h2:hi.map (ev bp)=hi.map (ev st):=by cases hi with|none=>rfl|some y=>grind[Op.operands]
  have h3:mx.map (ev bp)=mx.map (ev st):=by cases mx with|none=>rfl|some y=>grind[Op.operands]
  grind[dL,Op.operands,Mj]
 |fieldAddr s x f=>simp only[dL,ht x (by simp[Op.operands])]
 |field s x f=>simp only[dL,ht x (by simp[Op.operands])]
 |indexAddr t x i=>simp only[dL,wu,ht x (by simp[Op.operands]),ht i (by simp[Op.operands]),D6 _ t _ _ (hk x (by simp[Op.operands]))]
 |index t x i=>simp only[dL,ht x (by simp[Op.operands]),ht i (by simp[Op.operands])]
 |extract x i=>simp only[dL,ht x (by simp[Op.operands])]
 |lookup t x i ok=>simp only[dL,ht x (by simp[Op.operands]),ht i (by simp[Op.operands])]
 |call c=>
  obtain⟨callee,args,argTypes⟩:=c
  have bm:∀x∈args.toList,x∈(Op.call ⟨callee,args,argTypes⟩).operands.toList:=by
   grind[Op.operands,Call.operands,Array.toList_append]
  have BO:args.toList.map (ev bp)=args.toList.map (ev st):=O? λx hx=>ht x (bm x hx);cases callee with
  |invoke r m=>rfl
  |builtin b=>
   simp only[dL];cases hl:args.toList with
   |nil=>grind
   |cons x xs=>
    have hx:ev bp x=ev st x:=ht x (bm x x!);have kx:=hk x (bm x x!);cases xs with
    |nil=>
     cases b<;>first|rfl|(cases argTypes.toList with
      |nil=>rfl
      |cons t ts=>cases ts with
       |nil=>first|(simp only[hx,UT _ kx];done)|(simp only[hx,Mi _ t _ kx];done)
       |cons _ _=>rfl)
    |cons y ys=>
     have hy:ev bp y=ev st y:=ht y (bm y x!);have ky:=hk y (bm y x!);cases ys with
     |cons z zs=>cases b<;>rfl
     |nil=>
      cases b
      case append=>
       cases Jd:argTypes.toList with
       |nil=>rfl
       |cons t ts=>cases ts with
        |nil=>rfl
        |cons t' Hq=>grind[Jl]
      case copy=>
       grind[N4]
      all_goals first|rfl|simp only[hx,hy]
  |value f=>
   have ÿ:f∈(Op.call ⟨.value f,args,argTypes⟩).operands.toList:=by simp[Op.operands,Call.operands]
   have hf:ev bp f=ev st f:=ht f ÿ;have kf:=hk f ÿ;simp only[dL,hf,BO,oA];cases Hb:ev st f with
   |fn rq first aO=>
    cases rq with
    |func g=>
     have Lc:∀d,qb E bp.h d g (first++args.toList.map (ev st)++aO)=qb E st.h d g (first++args.toList.map (ev st)++aO):=by
      intro d;refine N5 E d g _ λk fc=>?_;simp only[jW,List.mem_append] at fc;rw[Hb] at kf;simp only[an,List.mem_append] at kf;rcases fc with(fc|fc)|fc;grind;refine hh k (List.mem_cons_of_mem _ (List.mem_append_left _ ?_));grind[Op.operands,Call.operands,Array.toList_append,jW];grind
     grind
    |_=>rfl
   |_=>rfl
 |_=>rfl
theorem Mk(E:Env)(d f:Nat)(xs:M AV)(hx:∀k∈au xs,h' k=h k):nP E h' d f xs=nP E h d f xs:=by
 grind[nP,BL,jz,mZ,Fz]
theorem X7(ht:∀x∈o.op.operands.toList,ev bp x=ev st x)(hh:∀k∈lH E st o,bp.h k=st.h k)(oA:bp.kb=st.kb):
  Ew E bp o=Ew E st o:=by
 have hk:∀x∈o.op.operands.toList,∀k∈an (ev st x),bp.h k=st.h k:=by
  intro x hx k hk;exact hh k (F! _ (T! _ (iR (L? hx) k hk)))
 obtain⟨dst,op,type,pos,after,guard⟩:=o;cases op with
 |load t p=>
  grind[Ew,Op.operands,ev,an]
 |store t p v=>
  grind[Ew,Op.operands,ev,an]
 |slice t x l hi mx=>
  cases l with
  |none=>rfl
  |some l=>
   cases hi with
   |none=>rfl
   |some hi=>
    cases mx with
    |none=>rfl
    |some mx=>
     grind[Ew,Op.operands,hi,ev,an]
 |indexAddr t x i=>
  grind[Ew,Op.operands,ev,an]
 |call c=>
  obtain⟨callee,args,argTypes⟩:=c
  have bm:∀x∈args.toList,x∈(Op.call ⟨callee,args,argTypes⟩).operands.toList:=by
   grind[Op.operands,Call.operands,Array.toList_append]
  have BO:args.toList.map (ev bp)=args.toList.map (ev st):=O? λx hx=>ht x (bm x hx);cases callee with
  |invoke r m=>rfl
  |builtin b=>
   simp only[Ew];grind[ev,an]
  |value f=>
   have ÿ:f∈(Op.call ⟨.value f,args,argTypes⟩).operands.toList:=by simp[Op.operands,Call.operands]
   have hf:ev bp f=ev st f:=ht f ÿ;have kf:=hk f ÿ;simp only[Ew,hf,BO,oA];cases Hb:ev st f with
   |fn rq first aO=>
    cases rq with
    |func g=>
     have Lc:∀d,nP E bp.h d g (first++args.toList.map (ev st)++aO)=nP E st.h d g (first++args.toList.map (ev st)++aO):=by
      intro d;refine Mk E d g _ λk fc=>?_;simp only[jW,List.mem_append] at fc;rw[Hb] at kf;simp only[an,List.mem_append] at kf;rcases fc with(fc|fc)|fc;grind;refine hh k (List.mem_cons_of_mem _ (List.mem_append_left _ ?_));grind[Op.operands,Call.operands,Array.toList_append,jW];grind
     grind
    |_=>rfl
   |_=>rfl
 |_=>rfl
theorem X8(ht:∀x∈o.op.operands.toList,ev bp x=ev st x)(hh:∀k∈lH E st o,bp.h k=st.h k)(oA:bp.kb=st.kb):
  NF E bp o=NF E st o:=by
 have hk:∀x∈o.op.operands.toList,∀k∈an (ev st x),bp.h k=st.h k:=by
  intro x hx k hk;exact hh k (F! _ (T! _ (iR (L? hx) k hk)))
 obtain⟨dst,op,type,pos,after,guard⟩:=o;cases op with
 |alloc t=>simp_all[NF]
 |load t p=>
  grind[NF,Op.operands,ev,an]
 |store t p v=>
  grind[NF,Op.operands,ev,an]
 |_=>rfl
theorem Ld(x:AV):∀k∈an (ja h x).1,k∈an x:=by
 intro k hk;cases x with
 |own j=>grind[ja,an]
 |pre j n=>grind[ja,an]
 |view j sz off n=>
  grind[ja,Nat.beq,an]
 |_=>exact hk
theorem Le {h:aJ}:∀(xs:M AV),∀k∈au (p0 h xs).1,k∈au xs
 |[],k,hk=>hk
 |x::xs,k,hk=>by
  simp[p0,au,I!] at hk |-;rcases hk with hk|hk;exact .inl (Ld x k hk);exact .inr (Le xs k hk)
theorem Ā(x:AV):∀k∈an (mY h x).1,k∈an x:=by
 intro k hk;unfold mY at hk;grind[an,Le,Ld]
def BP {h:aJ}:∀(m:M Bool) (xs:M AV),(∀k∈au (dG h m xs).1,k∈au xs)/\∀k∈(dG h m xs).2,k∈au xs
 |m,[]=>⟨λk hk=>hk,λk hk=>by cases hk⟩
 |m,x::xs=>by
  obtain⟨g1,g2⟩:=BP (h:=h) m.tail xs;cases hm:m.headD false with
  |true=>
   simp only[dG,hm,cond_true,au,List.mem_append];grind
  |false=>
   simp only[dG,hm,cond_false,au,List.mem_append];grind[Ā,yh]
theorem AE {h h':aJ}:∀(m:M Bool) (xs:M AV),(∀k∈au xs,h' k=h k)->dG h' m xs=dG h m xs
 |m,[],_=>rfl
 |m,x::xs,hx=>by
  have h1:=AE (h:=h) (h':=h') m.tail xs (λk hk=>hx k (by simp[au,I!];exact .inr hk));have h2:=uS (h:=h) (h':=h') x (λk hk=>hx k (by simp[au,I!];exact .inl hk));simp[dG,h1,h2]
def xo {h h':aJ}:∀(ks:M Nat),(∀k∈ks,h' k=h k)->behind h' ks=behind h ks
 |[],_=>rfl
 |k::ks,hk=>by
  simp[behind,hk k (G! ..),xo ks λj hj=>hk j (F! _ hj)]
def wF {h:aJ}:∀(ks ls:M Nat),(∀k∈ks,k∈ls)->∀j∈behind h ks,j∈behind h ls
 |[],ls,_,j,hj=>by cases hj
 |k::ks,ls,hk,j,hj=>by
  simp[behind,I!] at hj;rcases hj with hj|hj
  . have :∀(ls:M Nat),k∈ls->j∈behind h ls:=by
     intro ls;induction ls with
     |nil=>intro h;cases h
     |cons l ls ih=>
      intro hl;simp[behind,I!];rcases O!.1 hl with rfl|hl;exact .inl hj;exact .inr (ih hl)
    exact this ls (hk k (G! ..))
  exact wF ks ls (λi hi=>hk i (F! _ hi)) j hj
theorem BQ(hk:∀k∈ks,h' k=h k)(hb:∀k∈behind h ks,h' k=h k):qn h' ks=qn h ks:=by
 simp only[qn,xo ks hk,xo _ hb]
theorem zm{ls:M Nat}(hs:∀k∈ks,k∈ls):∀j∈qn h ks,j∈qn h ls:=by
 intro j hj;simp only[qn,I!] at hj |-;exact hj.imp (wF _ _ hs j) (wF _ _ (wF _ _ hs) j)
theorem FA:∀(l acc:M Nat) (k:Nat),k∈dedup acc l->k∈acc\/k∈l
 |[],acc,k,h=>.inl (by grind[dedup])
 |x::l,acc,k,h=>by
  simp[dedup] at h;cases hm:aq acc x with
  |true=>
   rw[hm] at h;rcases FA l acc k h with h|h;exact .inl h;exact .inr (F! _ h)
  |false=>
   rw[hm] at h;rcases FA l (x::acc) k h with h|h;rcases O!.1 h with rfl|h;exact .inr (G! ..);exact .inl h;exact .inr (F! _ h)
def AF {h h':aJ}:∀(K:M Nat),(∀k∈K,h' k=h k)->contents h' K=contents h K
 |[],_=>rfl
 |k::K,hk=>by simp[contents,hk k (G! ..),AF K λj hj=>hk j (F! _ hj)]
def Ml(E:Env)(d f:Nat)(xs:M AV)(hx:∀k∈au xs++qn h (au xs),h' k=h k):nQ E h' d f xs=nQ E h d f xs:=by
 have Rn:∀k∈au xs,h' k=h k:=λk hk=>hx k (List.mem_append_left _ hk);unfold nQ;split;rename_i m s hs;obtain⟨p1,p2⟩:=BP (h:=h) m xs;rw[AE m xs Rn,BQ (h:=h) (h':=h') (λk hk=>Rn k (p1 k hk)) (λk hk=>hx k (List.mem_append_right _ (zm p1 k (List.mem_append_left _ hk))))];unfold UD
 rw[AF (h:=h) (h':=h') _ (λk hk=>by
  rcases FA _ _ k hk with hk|hk;grind;grind[List.mem_append_right,zm]),jz (h:=h) (h':=h') _ (λk hk=>Rn k (p2 k hk))]
 rfl
theorem X9(ht:∀x∈o.op.operands.toList,ev bp x=ev st x)(hh:∀k∈lH E st o,bp.h k=st.h k)(oA:bp.kb=st.kb):
  XH E bp o=XH E st o:=by
 obtain⟨dst,op,type,pos,after,guard⟩:=o;cases op with
 |call c=>
  obtain⟨callee,args,argTypes⟩:=c;cases callee with
  |value f=>
   have bm:∀x∈args.toList,x∈(Op.call ⟨.value f,args,argTypes⟩).operands.toList:=by
    grind[Op.operands,Call.operands,Array.toList_append]
   have BO:args.toList.map (ev bp)=args.toList.map (ev st):=O? λx hx=>ht x (bm x hx);have hf:ev bp f=ev st f:=ht f (by simp[Op.operands,Call.operands]);simp[XH,hf,BO,oA];cases Hb:ev st f with
   |fn rq first aO=>
    cases rq with
    |func g=>
     have Sf:∀k∈au (first++args.toList.map (ev st)++aO),k∈au ((Op.call ⟨.value f,args,argTypes⟩).operands.toList.map (ev st)):=by
      have ÿ:f∈(Op.call ⟨.value f,args,argTypes⟩).operands.toList:=by simp[Op.operands,Call.operands]
      have hfk:=iR (List.mem_map_of_mem (f:=ev st) ÿ);grind[an,jW,Op.operands,Call.operands,Array.toList_append]
     have Lc:∀d,nQ E bp.h d g (first++args.toList.map (ev st)++aO)=nQ E st.h d g (first++args.toList.map (ev st)++aO):=by
      intro d;refine Ml E d g _ λk hk=>?_;rcases I!.1 hk with hk|hk;exact hh k (F! _ (T! _ (Sf k hk)));exact hh k (F! _ (X! _ (T! _ (zm Sf k hk))))
     grind
    |_=>rfl
   |_=>rfl
  |_=>rfl
 |_=>rfl
theorem qp {h:aJ}{k e i j:Nat}{row:M Ty}{l:M (Row row)}(hk:h k=some (.iy e (some j) row l i)):∀ {ks:M Nat},k∈ks->j∈ic h ks
 |q::ks,hm=>by
  simp[ic];rcases O!.1 hm with rfl|hm;rw[hk];simp;split;exact F! _ (qp hk hm);exact qp hk hm
theorem EF:∀ {cs:M AV} {xs:M AV} {k:Nat},uL cs=some (xs,k)->k∈au cs
 |[],_,_,h=>by cases h
 |a::r,xs,k,h=>by
  unfold uL at h;simp[au,List.mem_append];cases r with
  |nil=>
   cases a<;>first|(obtain⟨_,rfl⟩:=h;simp[an])|cases h
  |cons b r=>
   simp at h;split at h;rename_i x k' hl;obtain⟨_,rfl⟩:=h;exact .inr (EF hl);cases h
theorem RJ(p v:AV)(hp:∀k∈an p,h' k=h k)(hv:∀k∈an v,h' k=h k):Dj E h' t p v=Dj E h t p v:=by
 unfold Dj;grind[an,uL,EF]
theorem Mm(p:AV)(hp:∀k∈an p,h' k=h k)(ho:∀k∈ic h (an p),h' k=h k):uu E h' t p=uu E h t p:=by
 unfold uu;grind[an,qp]
theorem N6(x i:AV)(hp:∀k∈an x,h' k=h k):yb E h' t x i=yb E h t x i:=by
 unfold yb;grind[an]
theorem N7{k:Nat}(hk:h' k=h k)(ho:∀j∈ic h [k],h' j=h j):closing h' k=closing h k:=by
 unfold closing;rw[hk];cases hh:h k with
 |none=>rfl
 |some ab=>
  cases ab with
  |iy e j row l i=>
   cases j with
   |none=>rfl
   |some k5=>simp[ho k5 (qp hh z!)]
  |_=>rfl
def zn {h:aJ}:∀ {a b:M Nat},(∀k∈a,k∈b)->∀j∈ic h a,j∈ic h b
 |[],_,_,j,hj=>by grind[ic]
 |k::a,b,hs,j,hj=>by
  simp[ic] at hj;split at hj;rename_i hk;rcases O!.1 hj with rfl|hj;exact qp hk (hs k (G! ..));exact zn (λq hq=>hs q (F! _ hq)) j hj;exact zn (λq hq=>hs q (F! _ hq)) j hj
theorem Ya(ht:∀x∈o.op.operands.toList,ev bp x=ev st x)(hh:∀k∈lH E st o,bp.h k=st.h k)(oA:bp.kb=st.kb):
  Sh E bp o=Sh E st o:=by
 unfold Sh adg adf;rw[X6 ht hh oA,X7 ht hh oA,X8 ht hh oA,X9 ht hh oA]
theorem Yb(ht:∀x∈o.op.operands.toList,ev bp x=ev st x)(hh:∀k∈lH E st o,bp.h k=st.h k)(oA:bp.kb=st.kb):
  Ez E bp o=Ez E st o:=by
 have hk:∀x∈o.op.operands.toList,∀k∈an (ev st x),bp.h k=st.h k:=λx hx k hk=>
  hh k (F! _ (T! _ (iR (L? hx) k hk)))
 have fD:∀d,o.dst=some d->bp.h (st.kb+d)=st.h (st.kb+d):=λd hd=>hh _ (by unfold lH;rw[hd];exact List.mem_cons_self ..);obtain⟨dst,op,type,pos,after,guard⟩:=o;cases op with
 |buildSlice t len parts=>
  have hp:parts.toList.map (λp=>(p.1,ev bp p.2))=parts.toList.map (λp=>(p.1,ev st p.2)):=O? λp hp=>by
   rw[ht p.2 (by simp only[Op.operands,Array.toList_map,g?];exact⟨p,hp,rfl⟩)]
  cases dst with
  |none=>rfl
  |some d=>
   have hf:fresh bp.h (st.kb+d)=fresh st.h (st.kb+d):=by simp only[fresh,fD d rfl]
   simp only[Ez,hp,oA];cases nI E.T t<;>cases lP E.T t<;>simp only[hf]
 |call c=>
  obtain⟨callee,args,argTypes⟩:=c;cases callee with
  |builtin b=>
   have bm:∀x∈args.toList,ev bp x=ev st x:=λx hx=>ht x (by grind[Op.operands,Call.operands,Array.toList_append]);have Xn:∀x∈args.toList,∀k∈an (ev st x),bp.h k=st.h k:=λx hx=>hk x (by grind[Op.operands,Call.operands,Array.toList_append]);have jv:∀x k,x∈args.toList->ev st x= .own k->bp.h k=st.h k:=λx k hx he=>Xn x hx k (by rw[he];exact List.mem_cons_self ..);simp only[Ez,oA];split;rename_i x y t t' hx hy;rw[bm x (by rw[hx];simp),bm y (by rw[hx];simp)];split;rename_i d e te j k he iO h1 h2;rw[jv x j (by rw[hx];simp) h1,jv y k (by rw[hx];simp) h2];simp only[fresh,fD d rfl];rename_i d pZ;rw[Nx (h':=bp.h) (h:=st.h) (λk h1=>jv x k (by rw[hx];simp) h1)];simp only[fresh,fD d rfl];rfl;rename_i x t hx hy;rw[bm x (by rw[hx];simp)];split;rename_i k h1;rw[jv x k (by rw[hx];simp) h1];rfl;rfl
  |_=>rfl
 |store t x y=>
  simp only[Ez,ht x (by simp[Op.operands]),ht y (by simp[Op.operands])];split;rename_i k sz i j k5 h1 h2;rw[hk x (by simp[Op.operands]) k (by rw[h1];exact G! ..),hk y (by simp[Op.operands]) k5 (by rw[h2];exact G! ..)];rename_i k sz i j f bs cs h1 h2;rw[hk x (by simp[Op.operands]) k (by rw[h1];exact G! ..)];rfl
 |indexAddr t x i=>
  simp only[Ez,ht x (by simp[Op.operands]),ht i (by simp[Op.operands])];split;rename_i k ki n h1 h2;rw[hk x (by simp[Op.operands]) k (by rw[h1];exact G! ..)];rfl
 |load t x=>
  simp only[Ez,ht x (by simp[Op.operands])];split;rename_i k sz i j te h1 h2;rw[hk x (by simp[Op.operands]) k (by rw[h1];exact G! ..)];rename_i k off te h1 h2;rw[hk x (by simp[Op.operands]) k (by rw[h1];exact G! ..)];rfl
 |_=>rfl
theorem Yc(ht:∀x∈o.op.operands.toList,ev bp x=ev st x)(hh:∀k∈lH E st o,bp.h k=st.h k)(oA:bp.kb=st.kb):
  Su E bp o=Su E st o:=by
 have hN:NJ E bp o=NJ E st o:=by unfold NJ;rw[Ya ht hh oA,Yb ht hh oA]
 have aml:∀x∈o.op.operands.toList,∀k∈an (ev st x),k∈au (o.op.operands.toList.map (ev st)):=λx hx k hk=>iR (L? hx) k hk
 have hk:∀x∈o.op.operands.toList,∀k∈an (ev st x),bp.h k=st.h k:=λx hx k hk=>
  hh k (F! _ (T! _ (aml x hx k hk)))
 have UR:∀x∈o.op.operands.toList,∀k∈ic st.h (an (ev st x)),bp.h k=st.h k:=λx hx k hk=>
  hh k (F! _ (X! _ (X! _ (T! _ (zn (aml x hx) k hk)))))
 have hc:∀k∈uM E st.h o,bp.h k=st.h k:=λk hk=>hh k (F! _ (X! _ (X! _ (X! _ hk))))
 have hO:XR E bp o=XR E st o:=by
  unfold XR
  have mD:yc E bp.h o=yc E st.h o:=by
   grind[yc,uM,ic,N7,List.mem_cons_self,List.mem_cons_of_mem]
  grind[guard,store,Op.operands,RJ,load,Mm,N6]
 grind[Su]
def wG {T:bX}{h h':aJ}:∀(as_:M AV) (l:M (Option TypeId)),(∀k∈au as_,h' k=h k)->qZ T h' as_ l=qZ T h as_ l
 |_,[],_=>by simp only[qZ]
 |[],o::_,_=>by cases o<;>rfl
 |x::as_,none::r,hk=>by
  simp only[qZ];exact wG as_ r λk h=>hk k (X! _ h)
 |x::as_,some ty::r,hk=>by
  have ih:=wG (T:=T) as_ r λk h=>hk k (List.mem_append_right _ h);unfold qZ;cases x<;>simp only[ih];rename_i k off;rw[hk k (List.mem_append_left _ (List.mem_cons_self ..))]
def ā{x:AV}(hk:∀k∈an x,h' k=h k):zh (Az u h') x=zh (Az u h) x:=by
 unfold zh;cases x<;>simp only[];rename_i k off;have :Az u h' k=Az u h k:=by simp only[Az,hk k (List.mem_cons_self ..)]
 rw[this]
theorem Ă(ht:∀x∈o.op.operands.toList,ev bp x=ev st x)(hh:∀k∈lH E st o,bp.h k=st.h k)(oA:bp.kb=st.kb):
  act E bp o=act E st o:=by
 have hF:EC E bp o=EC E st o:=by
  have hk:∀x∈o.op.operands.toList,∀k∈an (ev st x),bp.h k=st.h k:=λx hx k hk=>
   hh k (F! _ (T! _ (iR (L? hx) k hk)))
  obtain⟨dst,op,type,pos,after,guard⟩:=o;cases dst with
  |none=>rfl
  |some d=>
  cases hl:E.L7 d with
  |none=>simp only[EC,hl]
  |some l=>
  cases op with
  |makeFunc f first aO=>
   have h1:first.toList.map (ev bp)=first.toList.map (ev st):=O? λx hx=>ht x (by simp[Op.operands];exact .inl (by simpa using hx))
   have h2:aO.toList.map (ev bp)=aO.toList.map (ev st):=O? λx hx=>ht x (by simp[Op.operands];exact .inr (by simpa using hx));have hc:∀x∈aO.toList,∀k∈an (ev st x),bp.h k=st.h k:=λx hx=>hk x (by simp[Op.operands];exact .inr (by simpa using hx))
   have hcc:∀k∈au (aO.toList.map (ev st)),bp.h k=st.h k:=by
    clear h1 h2 hk ht hh;generalize aO.toList=l at *;induction l with
    |nil=>intro k h;cases h
    |cons y l ih=>
     intro k h;rcases I!.1 h with h|h;exact hc y (G! ..) k h;exact ih (λx hx=>hc x (F! _ hx)) k h
   have h3:∀u,(aO.toList.map (ev st)).map (zh (Az u bp.h))=(aO.toList.map (ev st)).map (zh (Az u st.h)):=λu=>by
    rw[v?,v?];exact O? λx hx=>ā (hc x hx)
   simp only[EC,hl,h1,h2,wG (h:=st.h) _ l hcc,h3]
  |load t x=>
   have h1:=hk x (by simp[Op.operands]);simp only[EC,hl,ht x (by simp[Op.operands]),wG (h:=st.h) [ev st x] l (by simpa[au] using h1),BM (h:=st.h) E.T t (ev st x) h1]
  |makeSlice t x y=>
   have hf:fresh bp.h (st.kb+d)=fresh st.h (st.kb+d):=by
    simp only[fresh,hh (st.kb+d) (by unfold lH;exact List.mem_cons_self ..)]
   simp only[EC,hl,ht x (by simp[Op.operands]),ht y (by simp[Op.operands]),oA,hf]
  |_=>simp only[EC,hl]
 have hK:Sr bp o=Sr st o:=by
  obtain⟨dst,op,type,pos,after,guard⟩:=o;cases dst with
  |none=>cases op<;>first|rfl|(rename_i c;obtain⟨c,_,_⟩:=c;cases c<;>rfl)
  |some d=>
  have hf:fresh bp.h (st.kb+d)=fresh st.h (st.kb+d):=by
   simp only[fresh,hh (st.kb+d) (by unfold lH;exact List.mem_cons_self ..)]
  cases op with
  |call c=>
   obtain⟨c,args,tys⟩:=c;cases c with
   |value f=>
    have h1:ev bp f=ev st f:=ht f (by simp[Op.operands,Call.operands])
    have h2:∀x,args.toList=[x]->ev bp x=ev st x:=λx hx=>ht x (by
     have :x∈args:=by rw[<-Array.mem_toList_iff,hx];exact t?.2 rfl
     simp[Op.operands,Call.operands,this])
    unfold Sr;simp only[h1];split;rename_i x _ _ hx _;rw[h2 x hx,oA,hf];rfl
   |_=>rfl
  |_=>rfl
 have hS:Ss E bp o=Ss E st o:=by
  have hk:∀x∈o.op.operands.toList,∀k∈an (ev st x),bp.h k=st.h k:=λx hx k hk=>
   hh k (F! _ (T! _ (iR (L? hx) k hk)))
  obtain⟨dst,op,type,pos,after,guard⟩:=o;unfold Ss;simp only;split;rename_i t s v;have h1:=ht (.tmp s) (by simp[Op.operands]);have h2:=ht v (by simp[Op.operands]);split
  have h3:∀k off,ev st (.tmp s)= .ref k off->iB E.T bp.h t (.ref k off) (ev st v)=iB E.T st.h t (.ref k off) (ev st v):=λk off he=>
   AD (h:=st.h) E.T t _ _ (by rw[<-he];exact hk (.tmp s) (by simp[Op.operands])) (hk v (by simp[Op.operands]))
  rw[h1,h2];generalize ev st (.tmp s)=q at h3 |-;cases q<;>first|rfl|(rename_i k off;simp only[al9];rw[h3 k off rfl])
  rfl;rename_i x d;have h1:=ht x (by simp[Op.operands]);have h2:mY bp.h (ev st x)=mY st.h (ev st x):=uS _ (hk x (by simp[Op.operands]));have h3:b6 bp.h (mY st.h (ev st x)).2=b6 st.h (mY st.h (ev st x)).2:=jz _ λk Xn=>hk x (by simp[Op.operands]) k (yh _ k Xn);rw[h1,h2,h3];rfl
 unfold act;rw[hF,hK,hS,Yc ht hh oA]
def Dt:∀(l:M Nat) (k:Nat),aq l k=true↔k∈l
 |[],k=>by simp[aq]
 |j::l,k=>by
  simp_all[aq,e?,O!,Dt]
theorem jf {l:M Nat}{k:Nat}:aq l k=false↔k∉l:=by
 rw[<-Dt,Bool.not_eq_true]
theorem rz {a b:M Nat}(h:ni a b=true):∀k∈a,k∉b:=by
 intro k hk;have:=(List.all_eq_true.1 h) k hk;grind[Bool.not_eq_true',jf]
mutual
theorem N8(p:Nat->Bool):∀(a:AV),(∀k∈an a,p k=false)->aE p a=a
 |.own k,h=>by simp[aE,h k (by simp[an])]
 |.pre k _,h|.view k _ _ _,h|.ref k _,h|.elem k _ _ _,h=>by simp[aE,h k (by simp[an])]
 |.agg cs,h|.bc cs,h=>by simp only[aE,nj p cs (by simpa[an] using h)]
 |.iA _ cs,h=>by simp only[aE,nj p cs (by simpa[an] using h)]
 |.fn f first aO,h=>by
   simp only[an,I!] at h;simp only[aE,nj p first (λk hk=>h k (.inl hk)),nj p aO (λk hk=>h k (.inr hk))]
 |.cM,_|.undef,_|.int _ _,_|.bool _,_|.tt,_|.ff,_|.str _,_|.nil,_|.kY,_|.qV _ _,_|.mf,_|.sl _ _,_|.full _ _,_|.cz _ _ _,_|.qU _ _,_=>by simp[aE]
theorem nj(p:Nat->Bool):∀(as_:M AV),(∀k∈au as_,p k=false)->fO p as_=as_
 |[],_=>rfl
 |a::as_,h=>by
  simp only[au,I!] at h;simp only[fO,N8 p a (λk hk=>h k (.inl hk)),nj p as_ (λk hk=>h k (.inr hk))]
end
theorem BS(p:Nat->Bool)(b:AB)(h:∀k∈iC b,p k=false):cq p b=b:=by
 cases b with
 |cells cs=>grind[cq,nj,iC]
 |row _ _ _ _|arr _ _|bj _ _ _ _|fvar _ _|mp _ _ _=>rfl
 |dq e j l=>
  cases j with
  |none=>rfl
  |some j=>simp_all[cq,yT,iC,N!]
 |ek e j xs i=>
  cases j with
  |none=>rfl
  |some j=>simp_all[cq,dF,iC,N!]
 |views e j n m sz=>
  cases j with
  |none=>rfl
  |some j=>simp_all[cq,dF,iC,N!]
 |iy e j row l i=>
  cases j with
  |none=>rfl
  |some j=>simp_all[cq,dF,iC,N!]
def Hr {new:M (Nat×AB)}{k:Nat}(h:k∉new.map (·.1)):gP new k=false:=by
 grind[zk,jy,jf]
def Clean(e:Ev)(s:St):Prop:=(∀i,aE (gP e.cg.new) (s.t i)=s.t i)/\∀k,b7 (gP e.cg.new) (s.h k)=s.h k
def ap(ops:M Oper)(e:Ev)(s:St):St:=jR (mj ops e.i) e.o.dst (s.put e.o.dst e.cg)
def aBQ(g:Bool)(a:AV):AV:=bif g then NU a else a
def FB(e:Ev)(k:Nat):Option (Option AB):=match ai e.cg.new k with
 |some b=>some (some b)
 |none=>bif aq e.cg.del k then some none else match ai e.cg.gb k with
  |some b=>some (some (xQ e.cg k b))
  |none=>none
def amn:(jR g d s).g=s.g:=by
 cases d<;>cases g<;>rfl
theorem N9:(jR g d s).h=s.h/\(jR g d s).n=s.n/\(jR g d s).kb=s.kb:=by
 cases d<;>cases g<;>exact⟨rfl,rfl,rfl⟩
theorem Oa(e:Ev)(s:St):(ap ops e s).n=s.n:=N9.2.1
theorem FC(e:Ev)(s:St):(ap ops e s).kb=s.kb:=N9.2.2
theorem Ob(e:Ev)(s:St):(ap ops e s).g=s.g:=amn
theorem Oc(hc:Clean e s)(i:Nat):(ap ops e s).t i=if e.o.dst=some i then aBQ (mj ops e.i) e.cg.res else s.t i:=by
 unfold ap;cases hd:e.o.dst with
 |none=>
  simp[jR,St.put,reduceCtorEq,s?];rw[ry];exact hc.1 i
 |some d=>
  by_cases hi:i=d;subst hi;cases mj ops e.i<;>simp[jR,St.put,aBQ];have fN:¬(some d=some i):=λh=>hi (V? h).symm;have :nJ e.cg.new (s.t i)=s.t i:=by rw[ry];exact hc.1 i
  cases mj ops e.i<;>simp only[jR,St.put,aL hi,N!,K!,W! fN,this]
theorem Lf(hc:Clean e s)(k:Nat):(ap ops e s).h k=match FB e k with
  |some v=>v
  |none=>s.h k:=by
 unfold ap;rw[N9.1];have hk:=hc.2 k;simp[St.put,xR,FB];cases ai e.cg.new k with
 |some b=>rfl
 |none=>
  cases aq e.cg.del k with
  |true=>rfl
  |false=>
   grind[ai,b7,Option.some.injEq,wD]
theorem pM{k:Nat}(h:k∉e.cg.wr):FB e k=none:=by
 simp only[Out.wr,I!,not_or] at h;simp[FB,jy _ k (jf.2 h.2.2),jy _ k (jf.2 h.1),jf.2 h.2.1,N!]
theorem xp:∀(l:M (Nat×AB)) (k:Nat) (c:AB),ai l k=some c->∀j∈iC c,j∈BD l
 |(j0,b0)::l,k,c,hc,j,hj=>by
  simp[ai] at hc;simp[BD,I!];cases hb:Nat.beq k j0 with
  |true=>grind
  |false=>rw[hb] at hc;exact .inr (xp l k c hc j hj)
theorem UU {g:Ev}{k:Nat}{b:AB}(hp:ni e.cg.wc (g.cg.new.map (·.1))=true)(h:FB e k=some (some b)):cq (gP g.cg.new) b=b:=by
 have aJ8:∀j∈e.cg.wc,gP g.cg.new j=false:=λj hj=>Hr (rz hp j hj);unfold FB at h;split at h;grind[Option.some.injEq,BS,Out.wc,xp]
 . cases hd:aq e.cg.del k with
   |true=>grind
   |false=>
    rw[hd] at h;split at h
    . rename_i c hc;simp at h;subst h;have mD:∀j∈iC c,gP g.cg.new j=false:=λj hj=>aJ8 j (by grind[Out.wc,xp]);unfold xQ;cases aq e.cg.raw k with
      |true=>grind[BS]
      |false=>
      simp;rw[wD,jn];have comm:(λk=>gP e.cg.new k || gP g.cg.new k)=λk=>gP g.cg.new k || gP e.cg.new k:=by grind
      rw[comm,<-jn,BS _ c mD]
    grind
theorem Clean.ap {g:Ev}(hg:Clean g s)(he:Clean e s)(hp:ni e.cg.wc (g.cg.new.map (·.1))=true):Clean g (ap ops e s):=by
 refine⟨λi=>?_,λk=>?_⟩
 . rw[Oc he];split
   . have :aE (gP g.cg.new) e.cg.res=e.cg.res:=N8 _ _ λk hk=>Hr (rz hp k (by grind[Out.wc]));cases hq:mj ops e.i with
     |false=>exact this
     |true=>
      cases hr:e.cg.res with
      |bool b=>cases b<;>rfl
      |_=>rw[hr] at this;exact this
   exact hg.1 i
 . rw[Lf he];cases hw:FB e k with
   |none=>exact hg.2 k
   |some v=>
    cases v with
    |none=>rfl
    |some b=>grind[b7,UU]
theorem Ht {h h':aJ}:∀(l:M (Nat×AB)),(∀k∈l.map (·.1),h' k=h k)->jQ h' l=jQ h l
 |[],_=>rfl
 |(k,b)::l,hx=>by
  simp[jQ,hx k z!,Ht l (λj hj=>hx j (by simp only[K?,O!];exact .inr hj))]
theorem Od {t t':Nat->AV}(h:∀x∈looks ops o,t' x=t x):NR ops t' o=NR ops t o:=by
 grind[NR,looks,Fv]
theorem Hu:∀(xs:M Operand) (i:Nat),.tmp i∈xs->i∈slotsOf xs
 |x::xs,i,h=>by
  rcases O!.1 h with rfl|h;simp[slotsOf];have:=Hu xs i h;cases x<;>simp[slotsOf,this]
theorem uU {h h':aJ}:∀(ks:M Nat),(∀k∈ks,h' k=h k)->ic h' ks=ic h ks
 |[],_=>rfl
 |k::ks,hk=>by simp[ic,hk k (G! ..),uU ks λj hj=>hk j (F! _ hj)]
def aiu(h:∀x∈looks ops o,s'.t x=s.t x)(hg:s'.g=s.g):∀x∈o.op.operands.toList,ev s' x=ev s x:=by
 intro x hx;cases x with
 |global i=>grind[ev]
 |tmp i=>exact h i (by grind[looks,List.mem_append_right,Hu])
 |_=>rfl
theorem kB.Hv(hf:kB E ops f s s1)(ht:∀x∈looks ops f.o,s'.t x=s.t x)(hk:∀k,k∈f.kr\/k∈f.cg.wr->s'.h k=s.h k)(hn:s'.n=s.n)(oA:s'.kb=s.kb)(hgg:s'.g=s.g):
  kB E ops f s' (ap ops f s'):=by
 have hev:=aiu ht hgg
 have hkr:lH E s' f.o=lH E s f.o:=by
  have oJ:∀k∈au (f.o.op.operands.toList.map (ev s)),s'.h k=s.h k:=λk fc=>hk k (.inl (by rw[hf.kr];exact F! _ (T! _ fc)))
  have hbc:sG s' f.o=sG s f.o:=by
   have Mg:∀k∈sG s f.o,s'.h k=s.h k:=λk fc=>hk k (.inl (by rw[hf.kr];exact List.mem_cons_of_mem _ (List.mem_append_right _ (List.mem_append_left _ fc))));unfold sG at Mg |-;cases Oe:f.o.op with
   |call c=>
    simp only[Oe] at Mg oJ hev |-;rw[O? hev];exact BQ oJ λk fc=>Mg k (T! _ fc)
   |_=>rfl
  have mD:uM E s'.h f.o=uM E s.h f.o:=by
   have hm:∀q∈uM E s.h f.o,s'.h q=s.h q:=λq hq=>hk q (.inl (by
    rw[hf.kr];exact F! _ (X! _ (X! _ (X! _ hq)))))
   grind[uM,uU,List.mem_singleton,List.mem_cons_self]
  grind[lH,List.map_congr_left,uU]
 refine⟨hf.op,?_,hf.kr.trans hkr.symm,?_,iQ.refl _⟩;have:=hf.dst;grind[fq]
 . have pX:=hf.step;cases ho:f.out with
   |none=>
    grind[Od]
   |some out=>
    rw[ho] at pX;obtain⟨h1,h2,h3,h4⟩:=pX;have he:f.cg=out:=by grind[Ev.cg]
    refine⟨by grind[Od],?_,?_,h4⟩;rw[Ă hev (λk fc=>hk k (.inl (by rw[hf.kr];omega))) oA];omega;grind[Ht,Out.wr]
theorem kB.seq{r1:St}(hf:kB E ops f s s1)(h:iQ r s)(h1:iQ r1 s1):kB E ops f r r1:=by
 have:=hf.Hv (s':=r) (λx _=>by rw[h.1]) (λk _=>by rw[h.2.1]) h.2.2.1 h.2.2.2.1 h.2.2.2.2;refine⟨this.op,this.dst,this.kr,this.step,?_⟩;refine h1.trans (hf.next.trans ?_);refine iQ.jR ?_ _ _;obtain⟨e1,e2,e3,e4,e5⟩:=h;refine⟨?_,?_,e3.symm,e4.symm,e5.symm⟩;simp_all[St.put]
 simp_all[St.put]
theorem yf.seq:∀(es:M Ev) (s r q q':St),yf E ops es s q->iQ r s->iQ q' q->yf E ops es r q'
 |[],s,r,q,q',h,h1,h2=>h2.trans (iQ.trans h h1.symm)
 |e::es,s,r,q,q',⟨s1,h,hx⟩,h1,h2=>⟨s1,h.seq h1 (iQ.refl _),yf.seq es s1 s1 q q' hx (iQ.refl _) h2⟩
def apart_spec(h:tQ ops e f=true):(∀d,e.o.dst=some d->d∉looks ops f.o)/\(∀d,f.o.dst=some d->d∉looks ops e.o)/\(∀d,e.o.dst=some d->f.o.dst≠some d)/\
  (∀k∈e.cg.wr,k∉f.kr)/\(∀k∈f.cg.wr,k∉e.kr)/\(∀k∈e.cg.wr,k∉f.cg.wr)/\ni e.cg.wc (f.cg.new.map (·.1))=true/\ni f.cg.wc (e.cg.new.map (·.1))=true:=by
 unfold tQ at h;grind[rz,NS,Bool.not_eq_true',jf,cU,Bool.not_true]
def swap{s2:St}(he:kB E ops e s s1)(hf:kB E ops f s1 s2)(ha:tQ ops e f=true)(ce:Clean e s)(cf:Clean f s):
  kB E ops f s (ap ops f s)/\kB E ops e (ap ops f s) (ap ops e (ap ops f s))/\iQ (ap ops e (ap ops f s)) s2:=by
 obtain⟨a1,a2,a3,a4,a5,a6,a7,a8⟩:=apart_spec ha;have n1:iQ s1 (ap ops e s):=he.next;have cf1:Clean f (ap ops e s):=cf.ap ce a7;have ce1:Clean e (ap ops f s):=ce.ap cf a8;have hf':kB E ops f (ap ops e s) s2:=hf.seq n1.symm (iQ.refl _)
 have hF:kB E ops f s (ap ops f s):=by
  refine hf'.Hv (λx hx=>?_) (λk hk=>?_) (Oa _ _).symm (FC _ _).symm (Ob _ _).symm;rw[Oc ce,if_neg (λh=>a1 x h hx)];grind[Lf,pM]
 have hE:kB E ops e (ap ops f s) (ap ops e (ap ops f s)):=by
  refine he.Hv (λx hx=>?_) (λk hk=>?_) (Oa _ _) (FC _ _) (Ob _ _);rw[Oc cf,if_neg (λh=>a2 x h hx)];grind[Lf,pM]
 refine⟨hF,hE,iQ.trans ?_ hf'.next.symm⟩;show iQ (ap ops e (ap ops f s)) (ap ops f (ap ops e s));refine⟨?_,?_,by grind[Oa],by grind[FC],by grind[Ob]⟩;grind[Oc];grind[Lf,pM]
def uV(ops:M Oper):M Ev->Prop
 |[]=>True
 |e::es=>(∀f∈es,ni e.cg.wc (f.cg.new.map (·.1))=true/\(waits f e=true\/tQ ops e f=true))/\uV ops es
def adq:∀(es1:M Ev) (f:Ev) (sH:M Ev) (s q:St),yf E ops (es1++f::sH) s q->(∀e∈es1,tQ ops e f=true)->
  uV ops (es1++f::sH)->(∀g∈es1++f::sH,Clean g s)->kB E ops f s (ap ops f s)/\yf E ops (es1++sH) (ap ops f s) q
 |[],f,sH,s,q,hx,ha,_,hc=>by
   obtain⟨s1,h1,h2⟩:=hx;refine⟨h1.Hv (λ_ _=>rfl) (λ_ _=>rfl) rfl rfl rfl,yf.seq _ _ _ _ _ h2 h1.next.symm (iQ.refl _)⟩
 |e::es1,f,sH,s,q,hx,ha,hP,hc=>by
  obtain⟨s1,h1,h2⟩:=hx;have ce:=hc e z!
  have hc1:∀g∈es1++f::sH,Clean g s1:=by
   intro g hg;have h:=(hc g x!).ap (ops:=ops) ce (hP.1 g hg).1;have hn:iQ s1 (ap ops e s):=h1.next;exact⟨λi=>by rw[hn.1];exact h.1 i,λk=>by rw[hn.2.1];exact h.2 k⟩
  obtain⟨b1,b2⟩:=adq es1 f sH s1 q h2 (λe' UW=>ha e' (F! _ UW)) hP.2 hc1;obtain⟨c1,c2,c3⟩:=swap h1 b1 (ha e z!) ce (hc f z!);exact⟨c1,ap ops e (ap ops f s),c2,yf.seq _ _ _ _ _ b2 c3 (iQ.refl _)⟩
def rA {l:Array Bool}(h:i<l.size):l.getD i true=l.getD i false:=by
 grind
def uV.sub:∀ {es1:M Ev} {f:Ev} {sH:M Ev} {ops:M Oper},uV ops (es1++f::sH)->uV ops (es1++sH)
 |[],f,sH,ops,h=>h.2
 |e::es1,f,sH,ops,h=>by
  refine⟨λg hg=>h.1 g ?_,uV.sub (es1:=es1) h.2⟩;have hg:g∈es1++sH:=hg;show g∈es1++f::sH;rw[I!] at hg |-;exact hg.imp id (F! _)
def uV.mid:∀ {es1:M Ev} {f:Ev} {sH:M Ev} {ops:M Oper},uV ops (es1++f::sH)->(∀e∈es1,ni e.cg.wc (f.cg.new.map (·.1))=true/\(waits f e=true\/tQ ops e f=true))/\
  ∀g∈sH,ni f.cg.wc (g.cg.new.map (·.1))=true
 |[],f,sH,ops,h=>⟨λe he=>x!,λg hg=>(h.1 g hg).1⟩
 |e::es1,f,sH,ops,h=>by
  obtain⟨h1,h2⟩:=uV.mid (es1:=es1) h.2;refine⟨λe' UW=>?_,h2⟩;rcases O!.1 UW with rfl|UW;exact h.1 f z!;exact h1 e' UW
def aDC(all:M Ev):Prop:=∀f∈all,∀k∈f.pre,∃x∈f.o.after.toList,Region.binds .any x=true/\(x.on=k\/∃g∈all,g.i=x.on/\k∈g.pre)
def ă {ops jN:Array Oper}{all:M Ev}{R:Array Bool->St->Act->World->Prop}(Uv:jN.size=ops.size)(ho2:∀(i:Nat) (o o':Oper),ops[i]? =some o->jN[i]? =some o'->o'.after=o.after)
  (Sz:∀listed s r a w,iQ r s->R listed s a w->R listed r a w)
  (Ą:∀(f:Ev) (listed:Array Bool) (s:St) (a:Act) (w:World) (K:Act->World->Prop),f∈all->kB E jN.toList f s (ap jN.toList f s)->Clean f s->listed.size=ops.size->listed.getD f.i true=false->
    (∀x∈f.o.after,Region.binds .any x=true->listed.getD x.on false=true)->R listed s a w->(∀a' w',R (listed.setIfInBounds f.i true) (ap jN.toList f s) a' w'->K a' w')->wpOp P ops Q f.i K a w):
  ∀(fuel:Nat) (listed:Array Bool) (es:M Ev) (s q:St) (a:Act) (w:World),
  es.length<=fuel->yf E jN.toList es s q->uV jN.toList es->(∀g∈es,Clean g s)->(es.map (·.i)).Pairwise (· < ·)->(∀i,listed.getD i true=false↔∃e∈es,e.i=i)->
  (∀e∈es,∀x∈e.o.after.toList,Region.binds .any x=true->x.on<e.i)->(∀e∈es,jN[e.i]? =some e.o)->(∀e∈es,e∈all)->(∀g∈all,jN[g.i]? =some g.o)->aDC all->(∀g∈all,listed.getD g.i true=true->∀k∈g.pre,listed.getD k false=true)->listed.size=ops.size->R listed s a w->(∀listed a' w',(∀i,listed.getD i true=true)->listed.size=ops.size->R listed q a' w'->Q .normal a' w')->wpAny P .any ops Q fuel listed a w:=by
 have sF:∀(i:Nat) (o':Oper),jN[i]? =some o'->∃o:Oper,ops[i]? =some o/\o'.after=o.after:=by
  intro i o' h;have gf:i<ops.size:=by rw[<-Uv];exact(M!.1 h).1
  exact⟨ops[i],S? gf,ho2 i _ _ (S? gf) h⟩
 intro fuel;induction fuel with
 |zero=>
  intro listed es s q a w hl hx hP hc hi hm hb ho lI hao qq mD dH hR hQ;have :es=[]:=W?.1 (Nat.le_zero.1 hl);subst this
  have hal:∀i,listed.getD i true=true:=λi=>by
   cases h:listed.getD i true with
   |true=>rfl
   |false=>obtain⟨_,he,_⟩:=(hm i).1 h;cases he
  refine⟨?_,hQ _ _ _ hal dH (Sz _ _ _ _ _ hx hR)⟩;rw[List.eq_nil_iff_forall_not_mem];intro j hj;rw[(mem_ready.1 hj).1.symm.trans (hal j)] at *;have:=(mem_ready.1 hj).1;rw[hal j] at this;cases this
 |succ fuel ih=>
  intro listed es s q a w hl hx hP hc hi hm hb ho lI hao qq mD dH hR hQ;refine⟨λhr=>?_,λi fN=>?_⟩
  . cases es with
    |nil=>
     refine hQ _ _ _ (λi=>?_) dH (Sz _ _ _ _ _ hx hR);cases h:listed.getD i true with
     |true=>rfl
     |false=>obtain⟨_,he,_⟩:=(hm i).1 h;cases he
    |cons e es=>
     exfalso;have hoe:=ho e z!;obtain⟨oo,UX,haf⟩:=sF _ _ hoe;have gf:e.i<ops.size:=(M!.1 UX).1
     have :e.i∈Region.ready .any ops listed:=by
      refine mem_ready.2 ⟨(hm e.i).2 ⟨e,z!,rfl⟩,oo,UX,λx D1 hbx=>?_⟩;rw[<-haf] at D1;have hon:=hb e z! x (by simpa using D1) hbx;rw[<-rA (by rw[dH];omega)];cases hq:listed.getD x.on true with
      |true=>rfl
      |false=>
       obtain⟨g,hg,hgi⟩:=(hm x.on).1 hq;exfalso;rcases O!.1 hg with rfl|hg;omega;have :e.i<g.i:=(h?.1 hi).1 g.i (L? hg);omega
     rw[hr] at this;cases this
  . obtain⟨h0,o,yi,Of⟩:=mem_ready.1 fN;obtain⟨f,hf,Mn⟩:=(hm i).1 h0;obtain⟨es1,sH,rfl⟩:=List.append_of_mem hf;subst Mn;have ą:=ho f z!;rw[<-ho2 _ _ _ yi ą] at Of;obtain⟨m1,m2⟩:=hP.mid
    have aBR:∀g∈all,jN[g.i]? =some f.o->∀k∈g.pre,listed.getD k false=true:=by
     intro g hg hgo k hk
     have hgf:g.o=f.o:=by
      have:=hao g hg;rw[hgo] at this;exact(V? this).symm
     obtain⟨x,Rn,Ć,hx3⟩:=qq g hg k hk;rw[hgf] at Rn;have Mo:=Of x (by simpa using Rn) Ć;rcases hx3 with rfl|⟨g',yj,hgi,hkg⟩;exact Mo
     . refine mD g' yj ?_ k hkg;rw[hgi];rw[A?] at Mo |-;cases hq:listed[x.on]? with
       |none=>rfl
       |some b=>rw[hq] at Mo;exact Mo
    have yk:∀e∈es1,tQ jN.toList e f=true:=by
     intro e he;rcases(m1 e he).2 with hw|hw;exfalso;have hmk:e.i∈f.pre:=(Dt _ _).1 hw;have this:=aBR f (lI f z!) ą e.i hmk;have he0:=(hm e.i).2 ⟨e,by simp[he],rfl⟩
     have gf:e.i<listed.size:=by
      rw[dH,<-Uv];exact(M!.1 (ho e (by simp[he]))).1
     rw[rA gf] at he0;rw[he0] at this;cases this;exact hw
    obtain⟨c1,c2⟩:=adq es1 f sH s q hx yk hP hc;refine Ą f listed s a w _ (lI f z!) c1 (hc f z!) dH h0 Of hR λa' w' qo=>?_;have cf:=hc f z!
    have ju:∀e∈es1++sH,e∈es1++f::sH:=by
     intro e he;rw[I!] at he |-;exact he.imp id (F! _)
    have di:∀e∈es1++sH,e.i≠f.i:=by
     intro e he;rw[l?,K?,List.pairwise_append] at hi;obtain⟨p1,p2,p3⟩:=hi;rcases I!.1 he with he|he;have :e.i<f.i:=p3 e.i (L? he) f.i z!;omega;have :f.i<e.i:=(h?.1 p2).1 e.i (L? he);omega
    have aKd:f.i<listed.size:=by rw[dH,<-Uv];exact(M!.1 ą).1
    refine ih (listed.setIfInBounds f.i true) (es1++sH) (ap jN.toList f s) q a' w' ?_ c2 hP.sub ?_ ?_ ?_ (λe he=>hb e (ju e he)) (λe he=>ho e (ju e he)) (λe he=>lI e (ju e he)) hao qq ?_ (by simpa using dH) qo hQ;simp only[H!,N?] at hl |-;omega;intro g hg;refine(hc g (ju g hg)).ap cf ?_;rcases I!.1 hg with hg|hg;exact(apart_spec (yk g hg)).2.2.2.2.2.2.2;exact m2 g hg;refine hi.sublist ?_;rw[l?,l?,K?];exact List.Sublist.append (List.Sublist.refl _) (List.sublist_cons_self _ _);intro i;by_cases hif:i=f.i;subst hif
    have :(listed.setIfInBounds f.i true).getD f.i true=true:=by
     rw[A?,Array.getElem?_setIfInBounds_self_of_lt aKd];rfl
    rw[this];constructor;intro h;cases h;rintro⟨e,he,h⟩;exact absurd h (di e he);rw[getD_set_ne true (λh=>hif h.symm),hm i];constructor;rintro⟨e,he,rfl⟩;refine⟨e,?_,rfl⟩;rw[I!,O!] at he;rw[I!];rcases he with he|rfl|he;exact .inl he;exact absurd rfl hif;exact .inr he;rintro⟨e,he,rfl⟩;exact⟨e,ju e he,rfl⟩;intro g hg hlg k hk;by_cases hgf:g.i=f.i;exact getD_set_true (aBR g hg (by rw[hgf];exact ą) k hk);rw[getD_set_ne true (λh=>hgf h.symm)] at hlg;exact getD_set_true (mD g hg hlg k hk)
theorem BT:∀(a b:M Nat) (k:Nat),k∈Hh a b->k∈a\/k∈b
 |[],b,k,h=>.inr h
 |j::a,b,k,h=>by
  simp[Hh] at h;cases hj:aq b j with
  |true=>
   rw[hj] at h;rcases BT a b k h with h|h;exact .inl (F! _ h);exact .inr h
  |false=>
   rw[hj] at h;rcases BT a (j::b) k h with h|h;exact .inl (F! _ h);rcases O!.1 h with rfl|h;exact .inl (G! ..);exact .inr h
theorem Og:∀(tr:M Ev) (i k:Nat),k∈UJ i tr->∃g∈tr,g.i=i/\k∈g.pre
 |e::tr,i,k,h=>by
  simp[UJ] at h;cases hb:Nat.beq e.i i with
  |true=>rw[hb] at h;exact⟨e,G! ..,D! hb,h⟩
  |false=>
   rw[hb] at h;obtain⟨g,h1,h2⟩:=Og tr i k h;exact⟨g,F! _ h1,h2⟩
 |[],_,_,h=>by cases h
theorem FD:∀(tr:M Ev) (xs:M Edge) (k:Nat),k∈pn tr xs->∃x∈xs,Region.binds .any x=true/\(x.on=k\/∃g∈tr,g.i=x.on/\k∈g.pre)
 |tr,x::xs,k,h=>by
  simp[pn] at h;cases hb:Region.binds .any x with
  |true=>
   rw[hb] at h;rcases BT _ _ k h with h|h;grind[List.mem_cons_self,Og];obtain⟨y,h1,h2⟩:=FD tr xs k h;exact⟨y,List.mem_cons_of_mem _ h1,h2⟩
  |false=>
   rw[hb] at h;obtain⟨y,h1,h2⟩:=FD tr xs k h;exact⟨y,F! _ h1,h2⟩
 |_,[],_,h=>by cases h
def ć(es:M Ev):∀(tr:M Ev),UP kb ops tr es->∀f∈es,∀k∈f.pre,∃x∈f.o.after.toList,Region.binds .any x=true/\(x.on=k\/∃g,(g∈tr\/g∈es)/\g.i=x.on/\k∈g.pre):=by
 induction es with
 |nil=>grind
 |cons e es ih=>
  intro tr h f hf k hk;obtain⟨_,hp,hr⟩:=h;grind[FD,List.mem_cons_self,List.mem_cons_of_mem]
def Hw {kb:Nat}{ops:M Oper}:∀(es tr:M Ev),UP kb ops tr es->(∀e∈tr,∀f∈es,ni e.cg.wc (f.cg.new.map (·.1))=true/\(waits f e=true\/tQ ops e f=true))/\
  uV ops es/\(∀f∈es,∀x∈f.o.after.toList,Region.binds .any x=true->x.on<f.i)/\(∀f∈es,∀x∈f.cg.new,cN kb ((dZ ops).map .dst) x.1=true)/\
  ∀f∈es,ni (f.kr++(f.cg.wr++f.cg.wc)) [eb]=true/\Ji f=true
 |[],tr,_=>⟨λ_ _ f hf=>x!,trivial,λf hf=>x!,λf hf=>x!,λf hf=>x!⟩
 |f::es,tr,⟨h,_,hr⟩=>by
  obtain⟨r1,r2,r3,r4,r5⟩:=Hw es (f::tr) hr;simp only[ou,cond_true,Bool.and_eq_true] at h;obtain⟨⟨⟨h1,h2⟩,h3⟩,h4⟩:=h;simp only[List.all_eq_true,Bool.or_eq_true,Bool.and_eq_true] at h1 h2 h3;refine⟨λe he g hg=>?_,⟨λg hg=>r1 f z! g hg,r2⟩,λg hg x hx hb=>?_,λg hg x hx=>?_,λg hg=>?_⟩;grind;rcases List.mem_cons.1 hg with rfl|hg;rcases h2 x hx with h|h;grind;simp_all
  grind;rcases List.mem_cons.1 hg with rfl|hg;exact h3 x hx;exact r4 g hg x hx;rcases List.mem_cons.1 hg with rfl|hg;exact h4;exact r5 g hg
theorem al.drew(hB:al C A β st a w)(n:Nat):al C A β st a {w with drawn:=n}:=by
 have hK:bG w {w with drawn:=n} A A:=λb hb=>⟨hb,rfl⟩;refine⟨hB.defers,hB.size,λi=>jb hK _ _ (hB.tmps i),λk ab h=>?_,hB.apart,hB.bound,⟨hB.frame.os,hB.frame.tape,hB.frame.output,hB.frame.size,hB.frame.block⟩,hB.fk,hB.base,hB.ot,hB.qc,λi d hd=>(hB.laid i d hd).mono hK,hB.held⟩;have:=xS (w:=w) (az:=β) (new:=[]) (w':={w with drawn:=n}) (λ_ _=>rfl) rfl (λb hb=>⟨rfl,id⟩) hK (hB.blocks k ab h);rwa [show bF [] ab=ab from rfl] at this
def aiv(es:M Ev):∀(s q:St),yf E ops es s q->∀e∈es,ops[e.i]? =some e.o:=by
 induction es with
 |nil=>grind
 |cons e es ih=>
  intro s q hx f hf;obtain⟨s1,h1,h2⟩:=hx;rcases List.mem_cons.1 hf with rfl|hf;exact h1.op;grind
def Oh {ops jN:Array Oper}(Uv:jN.size=ops.size)(ho2:∀(i:Nat) (o o':Oper),ops[i]? =some o->jN[i]? =some o'->o'.after=o.after){s0 m:St}{cs:M Prop}(h:wA E true jN.toList 0 [] jN.toList s0=some (cs,m))(ep:∀p∈cs,p)
  (L8:∀i,aE (cN s0.kb ((dZ jN.toList).map .dst)) (s0.t i)=s0.t i) (Uh:∀k,b7 (cN s0.kb ((dZ jN.toList).map .dst)) (s0.h k)=s0.h k):
  ∃(es:M Ev) (sl:St),(∀f∈es,jN[f.i]? =some f.o/\ni (f.kr++(f.cg.wr++f.cg.wc)) [eb]=true/\Ji f=true)/\(∀(C:Ctx) A β a w,al C A β sl a w->al C A β m a w)/\
   ∀(R:Array Bool->St->Act->World->Prop) (Q:Exit->Act->World->Prop) (a:Act) (w:World),(∀listed s r a w,iQ r s->R listed s a w->R listed r a w)->
   (∀(f:Ev) (listed:Array Bool) (s:St) (a:Act) (w:World) (K:Act->World->Prop),f∈es->kB E jN.toList f s (ap jN.toList f s)->Clean f s->listed.size=ops.size->listed.getD f.i true=false->
     (∀x∈f.o.after,Region.binds .any x=true->listed.getD x.on false=true)->R listed s a w->(∀a' w',R (listed.setIfInBounds f.i true) (ap jN.toList f s) a' w'->K a' w')->wpOp P ops Q f.i K a w)->
   R (Array.replicate ops.size false) s0 a w->(∀listed a' w',(∀i,listed.getD i true=true)->listed.size=ops.size->R listed sl a' w'->Q .normal a' w')->wpAny P .any ops Q ops.size (Array.replicate ops.size false) a w:=by
 obtain⟨es,sl,h1,h2,h3,h4⟩:=uR jN.toList 0 [] _ cs m h ep (λk=>by simp);obtain⟨_,p1,p2,p3,p4⟩:=Hw es [] (h3 rfl)
 have hlen:es.length=ops.size:=by
  have:=congrArg List.length h2;grind
 have aBS:∀i,(∃e∈es,e.i=i)↔i<ops.size:=by
  intro i;have :(∃e∈es,e.i=i)↔i∈es.map (·.i):=by simp
  grind
 have hgo:∀e∈es,jN[e.i]? =some e.o:=λe he=>by
  have:=aiv es _ _ h1 e he;simpa using this
 refine⟨es,sl,λf hf=>⟨hgo f hf,p4 f hf⟩,h4,λR Q a w Sz Ą h0 hQ=>?_⟩;refine ă Uv ho2 Sz Ą ops.size _ es _ sl _ _ w! h1 p1 (λg hg=>?_) ?_ (λi=>?_) p2 hgo (λ_ h=>h) hgo ?_ ?_ z! h0 hQ
 . have hp:∀k,gP g.cg.new k=true->cN s0.kb ((dZ jN.toList).map .dst) k=true:=by
    intro k hk
    have :∃x∈g.cg.new,x.1=k:=by
     rw[zk] at hk
     have :k∈g.cg.new.map (·.1):=by
      apply Classical.byContradiction;intro hn;rw[jy _ k (jf.2 hn)] at hk;cases hk
     simpa using this
    obtain⟨x,hx,rfl⟩:=this;exact p3 g hg x hx
   have aBT:∀k,(cN s0.kb ((dZ jN.toList).map .dst) k || gP g.cg.new k)=cN s0.kb ((dZ jN.toList).map .dst) k:=by
    intro k;cases hk:gP g.cg.new k with
    |false=>rw[Bool.or_false]
    |true=>rw[hp k hk];rfl
   refine⟨λi=>?_,λk=>?_⟩;rw[<-L8 i,dm];simp only[aBT];rw[<-Uh k,fQ];simp only[aBT]
 rw[h2];exact List.pairwise_lt_range';rw[aBS];constructor;intro h;by_cases hi:i<ops.size;exact hi;rw[A?,Array.getElem?_eq_none (by simpa using hi)] at h;cases h;intro hi;rw[A?,Array.getElem?_replicate,Q! hi];rfl;intro f hf k hk;obtain⟨x,g1,g2,g3⟩:=ć es [] (h3 rfl) f hf k hk;refine⟨x,g1,g2,g3.imp (λh=>h) ?_⟩;rintro⟨g,hg,h⟩;rcases hg with hg|hg;cases hg;exact⟨g,hg,h⟩;intro g hg hlg;have hgi:g.i<ops.size:=(aBS g.i).1 ⟨g,hg,rfl⟩;rw[A?,Array.getElem?_replicate,Q! hgi] at hlg;cases hlg
def Jm(st:St)(W:M Nat):(∀i,aE (cN st.kb (W.map .dst)) ((st.ahead W).t i)=(st.ahead W).t i)/\∀k,b7 (cN st.kb (W.map .dst)) ((st.ahead W).h k)=(st.ahead W).h k:=by
 constructor;intro i;simp only[St.ahead,dm,Bool.or_self];intro i;simp only[St.ahead,fQ,Bool.or_self]
theorem RK(hE:dx P C E)(hm:P.follows .mixedOrders=true){id:Nat}{ops:Array Oper}{cs:M Prop}{m:St}(h:wA E true ops.toList 0 [] ops.toList (st.ahead (dZ ops.toList))=some (cs,m))(ep:∀p∈cs,p)
  (hR:Rel C st a w) (hQ:∀a' w',Rel C m a' w'->Q .normal a' w'):(Code.region id ops true).wp P Q a w:=by
 obtain⟨es,sl,_,h1,h2⟩:=Oh (P:=P) (ops:=ops) rfl (λi o o' h1 h2=>by rw[h1] at h2;cases h2;rfl) h ep (Jm st _).1 (Jm st _).2;obtain⟨A,β,hB⟩:=hR;exact wp_region_any hm (h2 (λ_ s a w=>Rel C s a w) Q _ _ (λ_ s r a w hq ⟨A,β,hB⟩=>⟨A,β,hB.seq hq⟩) (λf _ s a w K _ hf _ _ _ _ hR hK=>tT hE hf hR hK) ⟨A,β,(hB.ahead _).drew _⟩ λ_ a' w' _ _ ⟨A,β,hB⟩=>hQ _ _ ⟨A,β,h1 _ _ _ _ _ hB⟩)
theorem Yd {ops:Array Oper}{i:Nat}{o:Oper}(ho:ops[i]? =some o)(h:wpOp P ops Q i K a w):
  wpOp P ops Q i (λa' w'=>K a' w'/\∀j,o.dst≠some j->a'.tmps.getD j undef=a.tmps.getD j undef) a w:=by
 have hp:∀(b:Act) (v:Value),b.tmps=a.tmps->∀j,o.dst≠some j->(b.put o.dst v).tmps.getD j undef=a.tmps.getD j undef:=by
  unfold Act.put;cases hd:o.dst with
  |none=>grind
  |some d=>
   simp_all
 unfold wpOp at *;simp[ho] at *;split
 . rename_i hw;rw[if_pos hw] at h;refine h.imp (λh=>?_) id;unfold Oper.wp at *;generalize (execOp a.eval o).run P w=r at *;cases r with
   |ok n w'=>
    cases n with
    |enter f args=>exact Calls.mono h λe Ud he=>by grind
    |row r args=>exact Rows.mono h λ_ _ he=>⟨he,hp _ _ rfl⟩
    |value v=>exact⟨h,hp _ _ rfl⟩
    |skip=>exact⟨h,hp _ _ rfl⟩
    |defer d=>exact⟨h,hp _ _ rfl⟩
    |_=>exact h
   |halt x w'=>cases x<;>exact h
 grind
def Cl(s:St):Prop:=∀o,Clean ⟨0,o,some {cond:=[],res:=.cM,new:=[(eb,.cells [])]},[],[]⟩ s
def FE {x:AB}:gP [(eb,x)]=λk=>Nat.beq k eb:=by
 grind[gP]
def UY:Cl s↔(∀i,aE (λk=>Nat.beq k eb) (s.t i)=s.t i)/\∀k,b7 (λk=>Nat.beq k eb) (s.h k)=s.h k:=by
 rw[<-FE (x:= .cells [])];exact⟨λh=>h ⟨none,NT,0,"", #[],none⟩,λh _=>h⟩
def asj(s:St):Cl s.cut:=by
 simp_all[UY,St.cut,dm,Bool.or_self,fQ]
def St.wm(s:St)(b:Nat)(es:Array MapEntry)(ck:Nat):St:={s with h:=λk=>bif Nat.beq k eb then some (.mp b es ck) else s.h k}
theorem BU:(fK L o).dst=o.dst/\(fK L o).guard=o.guard/\(fK L o).after=o.after:=by
 grind[fK]
theorem Ĉ:Fv (ops.map (fK L)) j=Fv ops j:=by
 unfold Fv;rw[List.getElem?_map];cases ops[j]? with
 |none=>rfl
 |some o=>exact BU.1
theorem UZ:mj (ops.map (fK L)) j=mj ops j:=by
 grind[mj,List.any_map,BU]
theorem Lg {L:M Nat}{ops:M Oper}{f:Ev}{s s':St}(h:kB E (ops.map (fK L)) f s s')(ho:ops[f.i]? =some f.o):kB E ops f s s':=by
 have hg:∀t,NR (ops.map (fK L)) t f.o=NR ops t f.o:=λt=>by grind[NR,Ĉ]
 refine⟨ho,h.dst,h.kr,?_,by have:=h.next;grind[UZ]⟩;have:=h.step;grind
def SA {i0 d:Nat}{t:TypeId}:∀(ops:M Oper) (i:Nat),adj i ops=some (i0,d,t)->i<=i0/\∃o,ops[i0-i]? =some o/\o.op= .makeMap t none/\o.dst=some d
 |o::r,i,h=>by
  unfold adj at h;split at h;grind;obtain⟨h1,o',h2,h3⟩:=SA r (i+1) h;grind
theorem zo {L:M Nat}:∀(ops:M Oper) (i:Nat) (q:Nat×Int×Nat),q∈dN L i ops↔∃o t,i<=q.1/\ops[q.1-i]? =some o/\role L o= .ins t q.2.1 q.2.2
 |[],i,q=>by simp[dN]
 |o::r,i,q=>by
  have ih:=zo (L:=L) r (i+1) q;unfold dN;grind
theorem Du{q:Nat×Int×Nat}:q∈dN L 0 ops↔∃o t,ops[q.1]? =some o/\role L o= .ins t q.2.1 q.2.2:=by
 grind[zo]
def uW {L:M Nat}:∀(ops:M Oper) (i:Nat),((dN L i ops).map (·.1)).Nodup
 |[],i=>by simp[dN]
 |o::r,i=>by
  have ih:=uW (L:=L) r (i+1);unfold dN;split;rw[List.map_cons,List.nodup_cons];refine⟨λh=>?_,ih⟩;obtain⟨q,h1,h2⟩:=List.mem_map.1 h;obtain⟨_,_,h3,_⟩:=(zo r (i+1) q).1 h1;omega;exact ih
def Hx {α:Type}{p p':α->Bool}{x:α}:∀(l:M α),l.Nodup->x∈l->p x=false->(∀y∈l,p' y=true↔p y=true\/y=x)->(l.filter p').Perm (l.filter p++[x])
 |y::l,hn,hx,hp,h=>by
  rw[List.nodup_cons] at hn;have hy:=h y (G! ..);by_cases hyx:y=x;subst hyx
  have e:l.filter p'=l.filter p:=List.filter_congr λz hz=>by
   grind
  rw[List.filter_cons_of_pos (hy.2 (.inr rfl)),List.filter_cons_of_neg x!,e];exact(List.perm_append_singleton y _).symm
  . have ih:=Hx l hn.2 (by rcases O!.1 hx with h|h;exact absurd h.symm hyx;exact h) hp λz hz=>h z (F! _ hz);cases hpy:p y with
    |true=>
     rw[List.filter_cons_of_pos (hy.2 (.inl hpy)),List.filter_cons_of_pos hpy];exact ih.cons y
    |false=>
     have hn':¬p' y=true:=λh=>by rcases hy.1 h with h|h;rw[hpy] at h;cases h;exact hyx h
     rw[List.filter_cons_of_neg hn',List.filter_cons_of_neg (by simp[hpy])];exact ih
def BV {α γ:Type}{f:α->γ}:∀ {l:M α},(l.map f).Nodup->∀x∈l,∀y∈l,f x=f y->x=y
 |z::l,h,x,hx,y,hy,e=>by
  rw[K?,List.nodup_cons] at h;rcases O!.1 hx with h1|h1<;>rcases O!.1 hy with h2|h2;exact h1.trans h2.symm;exact absurd (g?.2 ⟨y,h2,by rw[<-e,h1]⟩) h.1;exact absurd (g?.2 ⟨x,h1,by rw[e,h2]⟩) h.1;exact BV h.2 x h1 y h2 e
def EG {α γ:Type}{f:α->γ}:∀ {l:M α},(l.map f).Nodup->l.Nodup
 |[],_=>List.nodup_nil
 |z::l,h=>by
  rw[K?,List.nodup_cons] at h;exact List.nodup_cons.2 ⟨λhz=>h.1 (L? hz),EG h.2⟩
structure MI (L:List Nat) (ops:List Oper) (listed:Array Bool) (a:Act) (b:Nat) (es:Array MapEntry):Prop where
 at_:∀j o e,ops[j]? =some o->RE L o=true->o.dst=some e->listed.getD j false=true->a.tmps.getD e undef= .map (some b)
 done :∀q∈dN L 0 ops,listed.getD q.1 false=true->∀(j:Nat) (o:Oper),ops[j]? =some o->o.dst=some q.2.2->listed.getD j false=true
 there:(es.toList.map λx=>(x.key,x.val)).Perm (((dN L 0 ops).filter λq=>listed.getD q.1 false).map λq=>(Value.int .i64 q.2.1,a.tmps.getD q.2.2 undef))
structure aBU (T:bX) (L:List Nat) (ops:List Oper) (i0 d:Nat) (t:TypeId):Prop where
 new:∃o,ops[i0]? =some o/\o.op= .makeMap t none/\o.dst=some d
 ty:∃te kt et,T.find t=some te/\te.desc= .map kt et/\cE T kt xh=true
 nodup:gX ((dN L 0 ops).map (·.2.1))=true
 chk:∀(i:Nat) (o:Oper),ops[i]? =some o->adk L ops i0 t i o=true
def Ye(h:UL T ops=some (i0,t,L)):∃d,aBU T L ops i0 d t:=by
 unfold UL at h;split at h;rename_i i d t' hm;split at h;rename_i te iO;split at h;rename_i kt et hd;rw[cond_eq_ite] at h;split at h;rename_i hq;cases h;simp at hq;obtain⟨_,o,h1,h2,h3⟩:=SA _ _ hm;refine⟨d,⟨o,w!,h2,h3⟩,⟨te,kt,et,iO,hd,hq.1⟩,hq.2.1,λi o ho=>?_⟩;grind;grind;grind;grind;grind
theorem qs(h:Hj o j=true)(hl:∀x∈o.after,Region.binds .any x=true->listed.getD x.on false=true):listed.getD j false=true:=by
 obtain⟨x,hx,hb⟩:=List.any_eq_true.1 h;grind[Nat.eq_of_beq_eq_true]
theorem fR(hi:i<listed.size):(listed.setIfInBounds i true).getD j false=if i=j then true else listed.getD j false:=by
 simp;grind
theorem MI.ra {L:M Nat}{listed:Array Bool}{a':Act}{b:Nat}{i:Nat}{o:Oper}(h:MI L ops listed a b es)(hi:i<listed.size)(hl:listed.getD i true=false)(ho:ops[i]? =some o)
  (hn:∀t k x,role L o≠ .ins t k x) (ha:∀j,o.dst≠some j->a'.tmps.getD j undef=a.tmps.getD j undef)
  (hd:∀j q e,ops[j]? =some q->RE L q=true->q.dst=some e->o.dst=some e->(j=i\/listed.getD j false=true)->a'.tmps.getD e undef= .map (some b)) (hw:RE L o=true->o.dst.isSome):MI L ops (listed.setIfInBounds i true) a' b es:=by
 have hlf:listed.getD i false=false:=by
  grind
 have KX:∀q∈dN L 0 ops,listed.getD q.1 false=true->o.dst≠some q.2.2:=λq hq AZ hd=>by
  rw[h.done q hq AZ i o ho hd] at hlf;grind
 have hqi:∀q∈dN L 0 ops,i≠q.1:=λq hq e=>by
  grind[Du]
 refine⟨λj q e hq é he hj=>?_,λq hq AZ j o' hj qR=>?_,?_⟩;rw[fR hi] at hj;by_cases ñ:o.dst=some e;grind;rw[ha e ñ];refine h.at_ j q e hq é he ?_;grind;rw[fR hi,if_neg (hqi q hq)] at AZ;rw[fR hi];split;rfl;exact h.done q hq AZ j o' hj qR
 have e1:((dN L 0 ops).filter λq=>(listed.setIfInBounds i true).getD q.1 false)=(dN L 0 ops).filter λq=>listed.getD q.1 false:=
  List.filter_congr λq hq=>by rw[fR hi,W! (hqi q hq)]
 have e2:(((dN L 0 ops).filter λq=>listed.getD q.1 false).map λq=>(Value.int .i64 q.2.1,a'.tmps.getD q.2.2 undef))=((dN L 0 ops).filter λq=>listed.getD q.1 false).map λq=>(Value.int .i64 q.2.1,a.tmps.getD q.2.2 undef):=
  O? λq hq=>by
   rw[List.mem_filter] at hq;rw[ha _ (KX q hq.1 hq.2)]
 rw[e1,e2];exact h.there
def RM(C:Ctx)(L:M Nat)(ops:M Oper)(i0:Nat)(listed:Array Bool)(s:St)(a:Act)(w:World):Prop:=Cl s/\s.h eb=none/\∃A β,
 (listed.getD i0 false=false/\(∀(j:Nat) (o:Oper),ops[j]? =some o->role L o≠ .no->listed.getD j false=false)/\al C A β s a w)\/
 ∃b es ck,listed.getD i0 false=true/\al C A β (s.wm b es ck) a w/\MI L ops listed a b es
theorem Cl.seq(h:Cl s)(hq:iQ r s):Cl r:=by
 rw[UY] at *;rwa [hq.1,hq.2.1]
theorem iQ.wm {s r:St}(h:iQ r s)(b:Nat)(es:Array MapEntry)(ck:Nat):iQ (r.wm b es ck) (s.wm b es ck):=
 ⟨h.1,by simp[St.wm,h.2.1],h.2.2⟩
theorem RM.seq {L:M Nat}{ops:M Oper}{i0:Nat}{listed:Array Bool}{s r:St}(h:RM C L ops i0 listed s a w)(hq:iQ r s):RM C L ops i0 listed r a w:=by
 obtain⟨h1,h2,A,β,h⟩:=h;refine⟨h1.seq hq,by rw[hq.2.1];omega,A,β,?_⟩;rcases h with⟨g1,g2,g3⟩|⟨b,es,ck,g1,g2,g3⟩;exact .inl ⟨g1,g2,g3.seq hq⟩;exact .inr ⟨b,es,ck,g1,g2.seq (hq.wm b es ck),g3⟩
def aDG(h:Cl s)(hc:Clean f s)(hd:ni (f.kr++(f.cg.wr++f.cg.wc)) [eb]=true):Cl (ap ops f s):=λo=>
 (h o).ap hc (by
   unfold ni at *;rw[List.all_append,List.all_append,Bool.and_eq_true,Bool.and_eq_true] at hd;exact hd.2.2)
def asm(hc:Clean f s)(hn:s.h eb=none)(hd:ni (f.kr++(f.cg.wr++f.cg.wc)) [eb]=true):(ap ops f s).h eb=none:=by
 rw[Lf hc,pM (λh=>rz hd eb x! z!)];omega
def aDH{b:Nat}{ck:Nat}(hc:Clean f s)(hd:ni (f.kr++(f.cg.wr++f.cg.wc)) [eb]=true):Clean f (s.wm b es ck)/\iQ ((ap ops f s).wm b es ck) (ap ops f (s.wm b es ck)):=by
 have hc2:Clean f (s.wm b es ck):=by
  refine⟨hc.1,λk=>?_⟩;simp[St.wm];cases Nat.beq k eb with
  |true=>rfl
  |false=>exact hc.2 k
 refine⟨hc2,?_,?_,by grind[Oa,St.wm],by grind[FC,St.wm],by grind[Ob,St.wm]⟩;funext i;show(ap ops f s).t i=_;rw[Oc hc,Oc hc2];rfl
 . funext k;rw[Lf hc2];simp[St.wm];cases hk:Nat.beq k eb with
   |true=>
    have:=Nat.eq_of_beq_eq_true hk;rw[pM (λh=>rz hd eb x! z!)];rfl
   |false=>simp_all[N!,Lf]
def U0(hc:Clean f s)(ho:f.o.op=NT)(hn:Ji f=true):f.cg.wr=[]/\(∀k,(ap ops f s).h k=s.h k)/\∀i,(ap ops f s).t i=if f.o.dst=some i then .cM else s.t i:=by
 simp[Ji,ho,NT,B!,List.isEmpty_iff] at hn
 have hr:f.cg.res= .cM:=by
  grind
 refine⟨hn.2.1,λk=>?_,λi=>?_⟩;grind[Lf,pM];rw[Oc hc,hr];cases mj ops f.i<;>rfl
variable {ops:Array Oper}{x:Nat}
def FF{i:Nat}{o:Oper}(h:ops[i]? =some o)(hg:o.guard=none)(hw:o.wp P a w K Q):wpOp P ops Q i K a w:=by
 simp_all[wpOp,Q!,Region.wanted]
theorem Yf {d:Nat}(hd:d<a.tmps.size):(a.put (some d) v).tmps.getD d undef=v:=by
 simp[Act.put,A?,hd]
def amt(hd:d≠some j):(a.put d v).tmps.getD j undef=a.tmps.getD j undef:=by
 cases d with
 |none=>rfl
 |some d=>
  simp_all[Act.put,A?,Array.getElem?_setIfInBounds,W!]
theorem SB(h:Jj L o=true):∃e,o.dst=some e/\aq L e=true:=by
 grind[Jj]
def amu(h:role L o= .cp x):o.op= .move (.tmp x)\/o.op= .assign (.tmp x):=by
 grind[role]
def aix{k:Int}(h:role L o= .ins t k x):∃s,o.op= .insert t (.tmp s) (.const (.int .i64 k)) (.tmp x):=by
 grind[role]
def aiy(hE:dx P C E){L:M Nat}{ops:Array Oper}{d:Nat}(hp:aBU E.T L ops.toList i0 d t){f:Ev}{s:St}
  (hf0:(ops.toList.map (fK L))[f.i]? =some f.o) (hdj:ni (f.kr++(f.cg.wr++f.cg.wc)) [eb]=true) (pZ:Ji f=true) (hf:kB E (ops.toList.map (fK L)) f s (ap (ops.toList.map (fK L)) f s)) (hc:Clean f s) (dH:listed.size=ops.size)
  (hl:listed.getD f.i true=false) (haf:∀x∈f.o.after,Region.binds .any x=true->listed.getD x.on false=true) (hR:RM C L ops.toList i0 listed s a w)
  (hK:∀a' w',RM C L ops.toList i0 (listed.setIfInBounds f.i true) (ap (ops.toList.map (fK L)) f s) a' w'->K a' w'):wpOp P ops Q f.i K a w:=by
 rw[E?] at hf0
 obtain⟨o,ho,ą⟩:∃o,ops.toList[f.i]? =some o/\fK L o=f.o:=by
  cases h:ops.toList[f.i]? with
  |none=>rw[h] at hf0;cases hf0
  |some o=>rw[h] at hf0;exact⟨o,rfl,V? hf0⟩
 have hoa:ops[f.i]? =some o:=by grind
 have Mn:f.i<listed.size:=by
  grind
 have hlf:listed.getD f.i false=false:=by grind
 have pK:f.o.dst=o.dst:=by grind[BU]
 have Yg:∀x∈o.after,Region.binds .any x=true->listed.getD x.on false=true:=by grind[BU]
 have yd:=hp.chk f.i o ho;unfold adk at yd;rw[Bool.and_eq_true] at yd;obtain⟨hg,yd⟩:=yd;have hg:o.guard=none:=by simp_all
 obtain⟨mD,ĉ,A,β,hR⟩:=hR;have Yh:=aDG (ops:=ops.toList.map (fK L)) mD hc hdj;have Yi:=asm (ops:=ops.toList.map (fK L)) hc ĉ hdj
 have qY:∀j,listed.getD j false=true->(listed.setIfInBounds f.i true).getD j false=true:=λj hj=>by
  grind[fR]
 obtain⟨oi,yi,aPG,amw⟩:=hp.new;have hri:role L oi= .mk:=by grind[role]
 cases BC:role L o with
 |no=>
  rw[BC] at yd
  have hnd:∀e,o.dst=some e->aq L e=false:=λe he=>by
   grind[Jj,Bool.not_eq_true']
  have UX:f.o=o:=by grind[fK]
  rcases hR with⟨g1,g2,g3⟩|⟨b,es,ck,g1,g2,g3⟩;refine tT hE (Lg hf x!) ⟨A,β,g3⟩ λa' w' ⟨A',az,h'⟩=>hK _ _ ⟨Yh,Yi,A',az,.inl ⟨?_,λj q hq hr=>?_,h'⟩⟩;rw[fR Mn,if_neg];omega;grind;rw[fR Mn,if_neg];grind;grind
  . obtain⟨c1,c2⟩:=aDH (ops:=ops.toList.map (fK L)) (b:=b) (es:=es) (ck:=ck) hc hdj
    have hF:=(hf.Hv (s':=s.wm b es ck) (λ_ _=>rfl) (λk hk=>by
     simp only[St.wm];cases hkm:Nat.beq k eb with
     |false=>rfl
     |true=>
      have:=Nat.eq_of_beq_eq_true hkm;subst this;refine absurd ?_ (rz hdj eb ?_);simp;grind) rfl rfl rfl)
    refine wpOp_mono (λa' w' h=>?_) (Yd hoa (tT hE (Lg hF x!) ⟨A,β,g2⟩ (K:=λa' w'=>Rel C _ a' w') λ_ _ h=>h));obtain⟨⟨A',az,h1⟩,h2⟩:=h;refine hK _ _ ⟨Yh,Yi,A',az,.inr ⟨b,es,ck,qY _ g1,h1.seq c2,g3.ra Mn hl ho x! h2 (λj q e hq hw he hoe _=>?_) (λh=>by grind[RE])⟩⟩;have:=hp.chk j q hq;unfold adk at this;unfold RE at hw;rw[Bool.and_eq_true] at this;grind[SB]
 |mk=>
  have UX:f.o.op=NT:=by grind[fK]
  rw[BC] at yd;simp only[B!] at yd;have ju:=D! yd.1;rw[ju,yi] at ho;cases ho;rcases hR with⟨g1,g2,g3⟩|⟨b,es,ck,g1,_⟩
  . have By:d<s.n:=by
     have:=hf.dst;simp_all[fq,L!]
    obtain⟨n1,n2,n3⟩:=U0 (ops:=ops.toList.map (fK L)) hc UX pZ;refine FF hoa hg (bn (v:=.map (some w.heap.size)) (w':=w.alloc (.map #[] 0)) (by simp_all[execOp,Instr.makeMap]) ?_);rw[amw];refine(hK _ _ ⟨Yh,Yi,A,λk=>if k=eb then .pointer (some ⟨w.heap.size,0,none⟩) else β k,.inr ⟨w.heap.size, #[],0,?_,?_,?_⟩⟩);simp_all
    . have hnb:∀k x,ai [(eb,AB.mp w.heap.size #[] 0)] k=some x->k=eb/\x= .mp w.heap.size #[] 0:=λk x hk=>by
       grind[ai,Nat.beq,eb,Nat.eq_of_beq_eq_true,Option.some.inj]
      have AW:bG w (w.alloc (.map #[] 0)) A A:=λb hb=>⟨hb,ej _ b (g3.bound b hb)⟩
      refine(g3.step (out:={cond:=[],res:=.cM,new:=[(eb,.mp w.heap.size #[] 0)]}) (A':=A) (d:=some d) (v:=.map (some w.heap.size)) (w':=w.alloc (.map #[] 0)) (λt ht=>by grind)
       (λk x hk=>?_) (λk x hk=>by cases hk) (λk hk=>?_) AW rfl rfl rfl z! (λb hb _=>ej _ b hb) (λb hb=>?_) (λb hb=>.inl hb) (λk x hk=>by cases hk) (λk x hk=>?_) (λk b x hk hb=>?_) (λk k' b hk fc _ _=>?_) trivial).seq ?_
      obtain⟨rfl,_⟩:=hnb k x hk;exact⟨ĉ,rfl⟩;refine W! λe=>?_;subst e;simp[ai] at hk;have:=g3.bound b hb;simp;omega
      obtain⟨rfl,rfl⟩:=hnb k x hk;exact⟨rfl,heap_alloc_new w _,λh=>Nat.lt_irrefl _ (g3.bound _ h)⟩;obtain⟨rfl,_⟩:=hnb k x hk;simp[ah] at hb;exact .inl w!;obtain⟨x,hx⟩:=S!.1 hk;obtain⟨y,hy⟩:=S!.1 fc;rw[(hnb k x hx).1,(hnb k' y hy).1]
      . obtain⟨e1,e2⟩:=UY.1 mD;refine⟨?_,?_,by simp only[St.wm,Oa,St.put],by simp only[St.wm,FC,St.put],by simp only[St.wm,Ob,St.put]⟩;funext i;show(ap _ f s).t i=_;rw[n3,pK,amw];simp only[St.put,ry,FE,e1];by_cases hi:i=d;subst hi;simp;rw[W! λh=>hi (V? h).symm,aL hi];rfl
        . funext k;simp only[St.wm,St.put,xR,ai,n2];cases Nat.beq k eb with
          |true=>rfl
          |false=>
           simp only[N!,aq];have:=e2 k;cases hk:s.h k with
           |none=>rfl
           |some x=>
            rw[hk] at this;simp only[wD,FE];exact this.symm
    refine⟨λj q e hq hw he hj=>?_,λq hq AZ=>?_,?_⟩;by_cases A3:f.i=j;rw[<-A3,ju,yi] at hq;cases hq;rw[amw] at he;cases he;exact Yf (by rw[g3.size];exact By);rw[fR Mn,if_neg A3] at hj;rw[g2 j q hq (λh=>by unfold RE at hw;rw[h] at hw;cases hw)] at hj;cases hj;exfalso;obtain⟨q',t',h1,h2⟩:=Du.1 hq;rw[fR Mn] at AZ;split at AZ;rename_i e;rw[<-e,ju,yi] at h1;cases h1;rw[hri] at h2;cases h2;rw[g2 _ _ h1 (by rw[h2];nofun)] at AZ;cases AZ
    have :((dN L 0 ops.toList).filter λq=>(listed.setIfInBounds f.i true).getD q.1 false)=[]:=by
     rw[List.filter_eq_nil_iff];intro q hq AZ;obtain⟨q',t',h1,h2⟩:=Du.1 hq;rw[fR Mn] at AZ;split at AZ;rename_i e;rw[<-e,ju,yi] at h1;cases h1;rw[hri] at h2;cases h2;rw[g2 _ _ h1 (by rw[h2];nofun)] at AZ;cases AZ
    rw[this];exact .refl _
  grind
 |cp x=>
  have UX:f.o.op=NT:=by rw[<-ą];unfold fK;rw[BC]
  rw[BC] at yd;simp only[B!] at yd;have U1:=qs yd.2.1 Yg;obtain⟨e,he,heL⟩:=SB yd.1;rcases hR with⟨g1,_⟩|⟨b,es,ck,g1,g2,g3⟩;rw[U1] at g1;cases g1
  . have hx:a.tmps.getD x undef= .map (some b):=by
     obtain⟨j,_,hj⟩:=List.any_eq_true.1 yd.2.2;split at hj;rename_i q hq;simp only[B!] at hj;obtain⟨j1,j2,j3⟩:=hj;split at j3;rename_i e' UW;have:=D! j3;subst this;exact g3.at_ j q _ hq j2 UW (qs j1 Yg);cases j3;cases hj
    have hxe:(execOp a.eval o).run P w= .ok (.value (.map (some b))) w:=by
     rcases amu BC with h|h<;>simp[execOp,h,Act.eval,hx]
    refine FF hoa hg (bn hxe ?_);rw[he]
    have By:e<s.n:=by
     have:=hf.dst;unfold fq at this;rw[pK,he] at this;exact Nat.le_of_ble_eq_true this
    obtain⟨n1,n2,n3⟩:=U0 (ops:=ops.toList.map (fK L)) hc UX pZ;refine hK _ _ ⟨Yh,Yi,A,β,.inr ⟨b,es,ck,qY _ g1,(g2.pure (d:=some e) (c:=[]) (r:=.cM) (v:=.map (some b)) (λt ht=>by cases ht;exact By) trivial).seq ?_,g3.ra Mn hl ho (by rw[BC];nofun) (λj hj=>amt (by rw[<-he];exact hj)) (λj q e' _ _ _ h _=>?_) (λ_=>by rw[he];rfl)⟩⟩
    . refine⟨?_,?_,by simp only[St.wm,Oa,St.put],by simp only[St.wm,FC,St.put],by simp only[St.wm,Ob,St.put]⟩;funext i;show(ap _ f s).t i=_;rw[n3,pK,he];simp only[St.put,St.wm,nJ];by_cases hi:i=e;subst hi;simp;rw[W! λh=>hi (V? h).symm,aL hi];rfl
      . funext k;simp only[St.wm,St.put,xR,ai,n2,aq,bF];cases Nat.beq k eb with
        |true=>rfl
        |false=>simp only[N!];cases s.h k<;>rfl
    rw[he] at h;cases h;exact Yf (by rw[g2.size];exact By)
 |ins t' k x=>
  have UX:f.o.op=NT:=by rw[<-ą];unfold fK;rw[BC]
  obtain⟨z,Oe⟩:=aix BC;rw[BC] at yd;simp only[Oe,B!,J!] at yd;obtain⟨⟨htt,hk⟩,hod,U1,hD,hM⟩:=yd;have htt:=D! htt;subst htt;have hod:o.dst=none:=by simpa using hod
  have U1:=qs U1 Yg;rcases hR with⟨g1,_⟩|⟨b,es,ck,g1,g2,g3⟩;rw[U1] at g1;cases g1
  . have hx:a.tmps.getD z undef= .map (some b):=by
     obtain⟨j,_,hj⟩:=List.any_eq_true.1 hM;split at hj;rename_i q hq;simp only[B!] at hj;obtain⟨j1,j2,j3⟩:=hj;split at j3;rename_i e' UW;have:=D! j3;subst this;exact g3.at_ j q _ hq j2 UW (qs j1 Yg);cases j3;cases hj
    have aq:(f.i,k,x)∈dN L 0 ops.toList:=Du.2 ⟨o,_,ho,BC⟩;obtain⟨h1,h2,h3⟩:=g2.blocks eb (.mp b es ck) rfl;obtain⟨te,kt,et,iO,htd,xU⟩:=hp.ty;obtain⟨hu,_⟩:=hE.eY.ok _ te iO;rw[htd] at hu
    have xU:P.underlying kt=some (.int .i64):=by
     unfold cE at xU;split at xU;rename_i tk Bo;obtain⟨hku,_⟩:=hE.eY.ok kt tk Bo;grind[xh];cases xU
    have ò:(es.toList.map (·.key)).Perm (((dN L 0 ops.toList).filter λq=>listed.getD q.1 false).map λq=>Value.int .i64 q.2.1):=by
     have:=g3.there.map (·.1);simpa[v?,Function.comp_def] using this
    obtain⟨ks,q1,q2⟩:=Fh (f:=Value.int .i64) ò (((dN L 0 ops.toList).filter λq=>listed.getD q.1 false).map (·.2.1)) (by simp[v?,Function.comp_def])
    have hkn:k∉ks:=λhk=>by
     obtain⟨q,e1,e2⟩:=g?.1 (q1.mem_iff.1 hk);rw[List.mem_filter] at e1;have:=BV ((wv _).1 hp.nodup) q e1.1 _ aq e2;rw[this] at e1;rw[hlf] at e1;cases e1.2
    have hem:a.eval (.tmp z)= .map (some b):=hx;have hek:a.eval (.const (.int .i64 k))= .int .i64 k:=rfl;have hev:a.eval (.tmp x)=a.tmps.getD x undef:=rfl
    have gI:(Instr.mapUpdate t' (.map (some b)) (.int .i64 k) (a.tmps.getD x undef)).run P w= .ok () {w with heap:=w.heap.setIfInBounds b (.map (es.push {key:=.int .i64 k,val:=a.tmps.getD x undef,born:=ck}) (ck+1))}:=by
     have hc:(Instr.checkKey false 10000 kt (.int .i64 k)).run P w= .ok () w:=MapKept.run_checkKey xU (by rfl) false 9999;simp[Instr.mapUpdate,run_underlying hu,MapKept.run_getObj_map h2,hc,MapKept.run_findKey xU (sb k es.toList ks 0 q2 hkn),MapKept.run_setObj_map _ h2,Result.andThen]
    refine FF hoa hg (nK (w':={w with heap:=w.heap.setIfInBounds b (.map (es.push {key:=.int .i64 k,val:=a.tmps.getD x undef,born:=ck}) (ck+1))}) (by simp only[execOp,Oe,hem,hek,hev];generalize a.tmps.getD x undef=v at gI |-;simp[gI]) ?_);rw[hod];have zp:b<w.heap.size:=(M!.1 h2).1;obtain⟨n1,n2,n3⟩:=U0 (ops:=ops.toList.map (fK L)) hc UX pZ;have AW:bG w {w with heap:=w.heap.setIfInBounds b (.map (es.push {key:=.int .i64 k,val:=a.tmps.getD x undef,born:=ck}) (ck+1))} A A:=λy hy=>⟨hy,(MapKept.heap_set h2).2 y λe=>h3 (e▸hy)⟩;refine hK _ _ ⟨Yh,Yi,A,β,.inr ⟨b,es.push {key:=.int .i64 k,val:=a.tmps.getD x undef,born:=ck},ck+1,qY _ g1,?_,?_⟩⟩
    . have hub:∀j y,ai [(eb,AB.mp b (es.push {key:=.int .i64 k,val:=a.tmps.getD x undef,born:=ck}) (ck+1))] j=some y->j=eb/\y= .mp b (es.push {key:=.int .i64 k,val:=a.tmps.getD x undef,born:=ck}) (ck+1):=λj y hk=>by
       simp only[ai] at hk;cases hb:Nat.beq j eb with
       |true=>rw[hb] at hk;exact⟨D! hb,(V? hk).symm⟩
       |false=>rw[hb] at hk;cases hk
      refine(g2.step (out:={cond:=[],res:=.cM,gb:=[(eb,.mp b (es.push {key:=.int .i64 k,val:=a.tmps.getD x undef,born:=ck}) (ck+1))]}) (A':=A) (az:=β) (d:=none) (v:=undef) (w':={w with heap:=w.heap.setIfInBounds b (.map (es.push {key:=.int .i64 k,val:=a.tmps.getD x undef,born:=ck}) (ck+1))}) nofun
       (λk x hk=>by cases hk) (λj y hk=>?_) (λ_ _=>rfl) AW rfl rfl rfl z! (λy hy hn=>(MapKept.heap_set h2).2 y λe=>?_) (λy hy=>by have:=g2.bound y hy;simpa using this) (λy hy=>.inl hy) (λj y hk _=>?_) (λk x hk=>by cases hk) (λk b x hk hb=>by cases hk) (λk k' b hk fc _ _=>by cases hk) trivial).seq ?_
      obtain⟨rfl,_⟩:=hub j y hk;rfl;subst e;exact hn eb ⟨rfl,.inl rfl⟩ (by rw[h1];rfl);obtain⟨rfl,rfl⟩:=hub j y hk;exact⟨h1,(MapKept.heap_set h2).1,h3⟩
      . refine⟨?_,?_,by simp only[St.wm,Oa,St.put],by simp only[St.wm,FC,St.put],by simp only[St.wm,Ob,St.put]⟩;funext i;show(ap _ f s).t i=_;rw[n3,pK,hod];simp only[St.put,St.wm,nJ];rfl
        . funext j;simp only[St.wm,St.put,xR,ai,n2,Vg.aq,xQ,bF];cases Nat.beq j eb with
          |true=>rfl
          |false=>simp only[N!];cases s.h j<;>rfl
    refine⟨λj q e hq hw he hj=>?_,λq hq AZ j q' hj qR=>?_,?_⟩;refine g3.at_ j q e hq hw he ?_;rw[fR Mn,if_neg] at hj;exact hj;intro h;rw[<-h,ho] at hq;cases hq;unfold RE at hw;rw[BC] at hw;cases hw;rw[fR Mn] at AZ;split at AZ;rename_i e;obtain⟨q2,t2,e1,e2⟩:=Du.1 hq;rw[<-e,ho] at e1;cases e1;rw[BC] at e2;simp only[MR.ins.injEq] at e2;have Oi:j<ops.toList.length:=(List.getElem?_eq_some_iff.1 hj).1;have:=(List.all_eq_true.1 hD) j (List.mem_range.2 Oi);simp only[hj,qR,<-e2.2.2] at this;refine qY _ (qs ?_ Yg);simpa[cU] using this;exact qY _ (g3.done q hq AZ j q' hj qR)
    have hfp:=Hx (p:=λq=>listed.getD q.1 false) (p':=λq=>(listed.setIfInBounds f.i true).getD q.1 false) _ (EG (uW (L:=L) ops.toList 0)) aq hlf λq hq=>by
     rw[fR Mn];by_cases e:f.i=q.1;rw[Q! e];exact⟨λ_=>.inr (BV (uW ops.toList 0) q hq _ aq e.symm),λ_=>rfl⟩;rw[W! e];exact⟨.inl,λh=>h.elim id λh=>(e (by simp[h])).elim⟩
    rw[Array.toList_push,l?];refine(g3.there.append_right _).trans ?_;have:=(hfp.map λq=>(Value.int .i64 q.2.1,a.tmps.getD q.2.2 undef)).symm;rw[l?] at this;exact this
def filter_all{p:α->Bool}{l:M α}(h:∀x∈l,p x=true):l.filter p=l:=List.filter_eq_self.2 h
theorem Hy {α:Type}{f:α->Value}{g:α->AV}:∀(l:M α),(∀x∈l,aa w A β (f x) (g x))->ae w A β (l.map f) (l.map g)
 |[],_=>rfl
 |x::l,h=>⟨_,_,rfl,h x (G! ..),Hy l λy hy=>h y (F! _ hy)⟩
theorem zq {p:Oper->Bool}{i:Nat}:∀(ops:M Oper),aq (dZ (ops.filter p)) i=true->∃(j:Nat) (o:Oper),ops[j]? =some o/\p o=true/\o.dst=some i
 |o::r,h=>by
  have up:(∃(j:Nat) (o':Oper),r[j]? =some o'/\p o'=true/\o'.dst=some i)->∃(j:Nat) (o':Oper),(o::r)[j]? =some o'/\p o'=true/\o'.dst=some i:=λ⟨j,o',h⟩=>⟨j+1,o',h⟩;rw[List.filter_cons] at h;split at h;rename_i hp;unfold dZ at h;split at h;simp[aq,Bool.or_eq_true] at h;rcases h with h|h;exact⟨0,o,rfl,hp,by simp_all⟩;exact up (zq r h);exact up (zq r h);exact up (zq r h)
def Jn{k:Nat}(h:(s.cut.h k).isSome):(s.h k).isSome:=by
 simp[St.cut] at h;cases hk:s.h k with
 |none=>rw[hk] at h;cases h
 |some x=>rfl
def aiz{ops:M Oper}{s:St}{b:Nat}{es:Array MapEntry}{ck:Nat}(hB:al C A β (s.wm b es ck) a w)(ĉ:s.h eb=none)(hM:MI L ops listed a b es)(hl:∀i,listed.getD i true=true)(dH:listed.size=ops.length)
  (hm:∀(C:Ctx) A β a w,al C A β s a w->al C A β m a w):Rel C (m.mapped L ops) a w:=by
 have hlf:∀i,i<ops.length->listed.getD i false=true:=λi hi=>by grind
 obtain⟨h1,h2,h3⟩:=hB.blocks eb (.mp b es ck) rfl;have AW:bG w w A λy=>A y\/y=b:=λy hy=>⟨.inl hy,rfl⟩;have zp:b<w.heap.size:=(M!.1 h2).1;have hblk:ah (β eb)=some b:=by rw[h1];rfl
 have hwm:∀k,k≠eb->(s.wm b es ck).h k=s.h k:=λk hk=>by simp_all[St.wm,aL,N!]
 have fH:∀k,(s.h k).isSome->k≠eb/\((s.wm b es ck).h k).isSome:=λk hk=>by
  grind
 have h0:al C (λy=>A y\/y=b) β s a w:=by
  refine⟨hB.defers,hB.size,λi=>jb AW _ _ (hB.tmps i),λk ab hk=>?_,λk k' y hk fc=>hB.apart k k' y (fH k hk).2 (fH k' fc).2,λy hy=>hy.elim (hB.bound y) λe=>e▸zp,hB.frame,λy hy h=>h.elim (hB.fk y hy) λe=>?_,λy hy=>.inl (hB.base y hy),λk y hk=>hB.ot k y (fH k hk).2,hB.qc,λi d hd=>(hB.laid i d hd).mono AW,hB.held⟩;obtain⟨hkm,oJ⟩:=fH k x!;have:=xS (w:=w) (w':=w) (A':=λy=>A y\/y=b) (az:=β) (new:=[]) (λ_ _=>rfl) rfl (λy hy=>⟨rfl,λhA=>hA.elim id λe=>absurd (hB.apart k eb b oJ (by rfl) (e▸hy) hblk) hkm⟩) AW (hB.blocks k ab x!);exact this;rw[e] at hy |-;rcases hB.ot eb b (by rfl) hblk with h|h;omega;grind
 have h4:=hm _ _ _ _ _ h0;refine⟨_,β,h4.defers,h4.size,λi=>?_,h4.blocks,h4.apart,h4.bound,h4.frame,h4.fk,h4.base,h4.ot,h4.qc,h4.laid,h4.held⟩;simp only[St.mapped];cases hi:aq (dZ (ops.filter (RE L))) i with
 |false=>exact h4.tmps i
 |true=>
  obtain⟨j,o,hj,hw,hd⟩:=zq ops hi;rw[hM.at_ j o i hj hw hd (hlf j (G?.1 hj).1)];have hth:=hM.there
  rw[filter_all λq hq=>by
   grind[Du,List.getElem?_eq_some_iff]] at hth
  obtain⟨þ,p1,p2⟩:=Fh hth.symm es.toList rfl;have k1:=congrArg (List.map Prod.fst) p2;have k2:=congrArg (List.map Prod.snd) p2;simp only[List.map_map,Function.comp_def] at k1 k2;refine⟨b,þ.toArray,ck,rfl,.inr rfl,⟨es,h2,by simpa using p1.symm⟩,by grind[List.map_map,Function.comp_def],?_⟩;simp only[cond_true];rw[<-k2];exact Hy _ λq _=>h4.tmps q.2.2
theorem RL(hE:dx P C E)(hm:P.follows .mixedOrders=true){id:Nat}{cs:M Prop}{m:St}(h:Hk E true ops.toList st=some (cs,m))(ep:∀p∈cs,p)
  (hR:Rel C st a w) (hQ:∀a' w',Rel C m a' w'->Q .normal a' w'):(Code.region id ops true).wp P Q a w:=by
 simp only[Hk,K!,amf] at h;split at h
 . rename_i i0 t L hp;obtain⟨d,hp⟩:=Ye hp;rw[cond_eq_ite] at h;split at h
   . rename_i hn;split at h
     . rename_i c q hq;cases h;have e0:=Jm st (dZ ops.toList)
       have e1:∀i,aE (cN (st.ahead (dZ ops.toList)).cut.kb ((dZ (ops.toList.map (fK L))).map .dst)) ((st.ahead (dZ ops.toList)).cut.t i)=(st.ahead (dZ ops.toList)).cut.t i:=λi=>by
        rw[Ds];simp[St.cut];conv=>rhs;rw[<-e0.1 i]
        simp only[dm];congr 1
        funext k;rw[Bool.or_comm];rfl
       have e2:∀k,b7 (cN (st.ahead (dZ ops.toList)).cut.kb ((dZ (ops.toList.map (fK L))).map .dst)) ((st.ahead (dZ ops.toList)).cut.h k)=(st.ahead (dZ ops.toList)).cut.h k:=λk=>by
        rw[Ds];simp only[St.cut];conv=>rhs;rw[<-e0.2 k]
        simp only[fQ];congr 1
        funext k;rw[Bool.or_comm];rfl
       obtain⟨es,sl,r0,r1,r2⟩:=Oh (P:=P) (ops:=ops) (jN:=(ops.toList.map (fK L)).toArray) z! (λi o o' h1 h2=>by
        simp only[List.getElem?_toArray,E?,k?,h1,Option.map_some,A!] at h2;rw[<-h2];exact BU.2.2) hq ep e1 e2
       obtain⟨A,β,hB⟩:=hR;obtain⟨oi,yi,_⟩:=hp.new
       have U1:i0<ops.size:=by
        have:=(G?.1 yi).1;simpa using this
       have SC:∀j,(Array.replicate ops.size false).getD j false=false:=λj=>by
        simp[A?,Array.getElem?_replicate];split<;>rfl
       refine wp_region_any hm (r2 (RM C L ops.toList i0) Q _ _ (λ_ s r a w hs hr=>hr.seq hs) (λf listed s a w K Bq hf hc dH hl haf hR hK=>aiy hE hp ?_ (r0 f Bq).2.1 (r0 f Bq).2.2 hf hc dH hl haf hR hK) ⟨asj _,?_,A,β,.inl ⟨SC i0,λj _ _ _=>SC j,?_⟩⟩ λlisted a' w' lI dH hR=>?_);have:=(r0 f Bq).1;simpa using this;have :st.h eb=none:=by simpa using hn
       simp[St.cut,St.ahead,this,b7]
       . have uK:=(hB.ahead (dZ ops.toList)).drew (w.drawn+1);refine⟨uK.defers,uK.size,λi=>oN _ (λ_ _=>rfl) _ _ (uK.tmps i),λk ab h=>?_,λk k' b h1 h2=>uK.apart k k' b (Jn h1) (Jn h2),uK.bound,uK.frame,uK.fk,uK.base,λk b h=>uK.ot k b (Jn h),uK.qc,uK.laid,uK.held⟩;simp[St.cut] at h;cases hk:(st.ahead (dZ ops.toList)).h k with
         |none=>rw[hk] at h;cases h
         |some x=>
          rw[hk] at h;cases h;exact zj _ (uK.blocks k x hk)
       obtain⟨_,ĉ,A',az,hR⟩:=hR;rcases hR with⟨g1,_⟩|⟨b,es,ck,_,g2,g3⟩;rw[<-rA w!,lI] at g1;cases g1;exact hQ _ _ (aiz g2 ĉ g3 lI (by simpa using dH) r1)
     grind
   grind
 grind[RK]
theorem EH(hE:dx P C E)(hm:P.follows .mixedOrders=true){id:Nat}{d:Bool}{cs:M Prop}{m:St}(h:Hk E d ops.toList st=some (cs,m))(ep:∀p∈cs,p)
  (hR:Rel C st a w) (hQ:∀a' w',Rel C m a' w'->Q .normal a' w'):(Code.region id ops d).wp P Q a w:=by
 cases d;grind[US];grind[RL]
theorem eZ.clear(h:eZ W s.clear m):eZ W s.clear m:=h
theorem al.clear(hB:al C A β st a w):al C A β st.clear a w:=hB.seq ⟨rfl,rfl,rfl,rfl,rfl⟩
theorem amA(hB:al C A β st a w)(h:ev st c= .tt):a.eval c= .bool true:=by
 have:=aC hB c;grind[aa]
theorem amB(hB:al C A β st a w)(h:ev st c= .ff):a.eval c= .bool false:=by
 have:=aC hB c;grind[aa]
theorem Yj(hB:al C A β st a w)(h:ev st c= .bool b):a.eval c= .bool b:=by
 have:=aC hB c;grind[aa]
def amC(hB:al C A β st a w){row:M Ty}{l:M (Row row)}(h:ev st c= .qV row l):∃b,a.eval c= .bool b/\(b=true->l=[]):=by
 have:=aC hB c;grind[aa]
def uX:∀i,aq (W++W') i=false->aq W i=false:=by
 grind[dj,Bool.or_eq_false_iff]
def BW:∀i,aq (W++W') i=false->aq W' i=false:=by
 grind[dj,Bool.or_eq_false_iff]
def nk:∀(c:Code) (st:St) (cs:M Prop) (m:St),iI E c st=some (cs,m)->eZ (AX c) st m
 |.skip,st,cs,m,h=>by
   grind[iI,Option.some.injEq,Prod.mk.injEq,eZ.refl]
 |.region id ops d,st,cs,m,h=>by
   exact N1 h
 |.seq x y,st,cs,m,h=>by
   simp[iI] at h;split at h;rename_i c bp hx;obtain⟨c',hy,_⟩:=sf h;exact(nk x _ _ _ hx).trans (nk y _ _ _ hy);cases h
 |.cond c x y,st,cs,m,h=>by
   simp[iI] at h;split at h;exact(nk x _ _ _ h).mono uX;exact(nk y _ _ _ h).mono BW;obtain⟨c1,s1,c2,s2,r1,r2,hm,rfl⟩:=Dr h;exact eZ.merge hm;cases h
 |.block id b,st,cs,m,h=>by
   exact nk b _ _ _ h
 |.loop _,st,cs,m,h|.rangeFunc _ _ _ _,st,cs,m,h|.exit _,st,cs,m,h|.scope _,st,cs,m,h|.label _,st,cs,m,h|.goto _,st,cs,m,h=>by grind[iI]
 |.ret,st,cs,m,h=>by grind[iI]
 |.refuse _,st,cs,m,h=>by grind[iI]
def lJ(hE:dx P C E)(hm:P.follows .mixedOrders=true):∀(c:Code) (st:St) (cs:M Prop) (m:St) (a:Act) (w:World) (Q:Exit->Act->World->Prop),iI E c st=some (cs,m)->(∀p∈cs,p)->Rel C st a w->
  (∀a' w',Rel C m a' w'->Q .normal a' w')->c.wp P Q a w
 |.skip,st,cs,m,a,w,Q,h,ep,hR,hQ=>by
   grind[iI,Option.some.injEq,Prod.mk.injEq,wp_skip]
 |.region id ops d,st,cs,m,a,w,Q,h,ep,hR,hQ=>by
   grind[iI,EH]
 |.seq x y,st,cs,m,a,w,Q,h,ep,hR,hQ=>by
   simp[iI] at h;split at h;rename_i c bp hx;obtain⟨c',hy,rfl⟩:=sf h
   exact wp_seq (lJ hE hm x st _ _ a w _ hx (λp hp=>ep p (T! _ hp)) hR λa' w' qo=>
    lJ hE hm y bp _ _ a' w' Q hy (λp hp=>ep p (X! _ hp)) qo hQ)
   cases h
 |.cond c x y,st,cs,m,a,w,Q,h,ep,hR,hQ=>by
   obtain⟨A,β,hB⟩:=hR;simp[iI] at h;split at h;rename_i hv;exact wp_cond_true (amA hB hv) (lJ hE hm x st _ _ a w Q h ep ⟨A,β,hB⟩ hQ);rename_i hv;exact wp_cond_false (amB hB hv) (lJ hE hm y st _ _ a w Q h ep ⟨A,β,hB⟩ hQ);rename_i b hv;obtain⟨c1,s1,c2,s2,r1,r2,hmg,rfl⟩:=Dr h;have hc:=K6 ep;have f1:=(nk x _ _ _ r1).mono (W':=AX x++AX y) uX;have f2:=(nk y _ _ _ r2).mono (W':=AX x++AX y) BW;refine wp_cond_split (Yj hB hv) (λhb=>?_) (λhb=>?_);subst hb
   exact lJ hE hm x st.clear _ _ a w Q r1 (hc.1 rfl) ⟨A,β,hB.clear⟩ λa' w' ⟨A',az,uK⟩=>
    hQ _ _ ⟨A',az,uK.merge (b:=true) hmg f1 (λ_ _=>rfl) rfl rfl rfl f2 (λ_ _=>rfl) rfl rfl rfl⟩
   subst hb
   exact lJ hE hm y st.clear _ _ a w Q r2 (hc.2 rfl) ⟨A,β,hB.clear⟩ λa' w' ⟨A',az,uK⟩=>
    hQ _ _ ⟨A',az,uK.merge (b:=false) hmg f1 (λ_ _=>rfl) rfl rfl rfl f2 (λ_ _=>rfl) rfl rfl rfl⟩
   grind
 |.block id b,st,cs,m,a,w,Q,h,ep,hR,hQ=>by
   exact wp_block (lJ hE hm b st _ _ a w _ h ep hR hQ)
 |.loop _,st,cs,m,a,w,Q,h,_,_,_|.rangeFunc _ _ _ _,st,cs,m,a,w,Q,h,_,_,_|.exit _,st,cs,m,a,w,Q,h,_,_,_|.scope _,st,cs,m,a,w,Q,h,_,_,_|.label _,st,cs,m,a,w,Q,h,_,_,_|.goto _,st,cs,m,a,w,Q,h,_,_,_|.ret,st,cs,m,a,w,Q,h,_,_,_|.refuse _,st,cs,m,a,w,Q,h,_,_,_=>by grind[iI]
structure mF (W:List Nat) (base s:St):Prop where
 ra:∃p,(∀k,p k=true->cN base.kb s.news k=true)/\(∀i,aq W i=false->s.t i=aE p (base.t i))/\
  ∀k,aq s.cd k=false->cN base.kb s.news k=false->s.h k=b7 p (base.h k)
 n:s.n=base.n
 kb:s.kb=base.kb
 cd:∀k,aq base.cd k=true->aq s.cd k=true
 news:∀k,cN base.kb base.news k=true->cN base.kb s.news k=true
 g:s.g=base.g
theorem eZ.loose(h:eZ W s m):mF W s m:=by
 obtain⟨p,h1,h2,h3⟩:=h.ra;exact⟨⟨p,h1,h2,λk hk _=>h3 k hk⟩,h.n,h.kb,h.cd,h.news,h.g⟩
theorem mF.refl(W:M Nat)(s:St):mF W s s:=(eZ.refl W s).loose
theorem mF.mono{s0:St}(h:mF W s0 s1)(hw:∀i,aq W' i=false->aq W i=false):mF W' s0 s1:=by
 obtain⟨p,a1,a2,a3⟩:=h.ra;exact⟨⟨p,a1,λi hi=>a2 i (hw i hi),a3⟩,h.n,h.kb,h.cd,h.news,h.g⟩
theorem mF.trans {W W':M Nat}{s0 s1 s2:St}(h1:mF W s0 s1)(h2:mF W' s1 s2):mF (W++W') s0 s2:=by
 obtain⟨p,a1,a2,a3⟩:=h1.ra;obtain⟨q,b1,b2,b3⟩:=h2.ra
 have aDJ:∀k,cN s0.kb s1.news k=true->cN s0.kb s2.news k=true:=by
  intro k h;have:=h2.news k (by rw[h1.kb];exact h);rwa [h1.kb] at this
 refine⟨⟨λk=>p k || q k,λk hk=>?_,λi hi=>?_,λk hk hn=>?_⟩,h2.n.trans h1.n,h2.kb.trans h1.kb,λk h=>h2.cd k (h1.cd k h),λk h=>aDJ k (h1.news k h),h2.g.trans h1.g⟩;rcases Bool.or_eq_true _ _ |>.mp hk with h|h;grind;have:=b1 k h;rwa [h1.kb] at this
 grind[dj,Bool.or_eq_false_iff,dm]
 . have Ma:aq s1.cd k=false:=by
    cases h:aq s1.cd k with
    |false=>rfl
    |true=>rw[h2.cd k h] at hk;omega
   have Xl:cN s0.kb s1.news k=false:=by
    grind
   rw[b3 k hk (by rw[h1.kb];omega),a3 k Ma Xl,fQ]
def tH:Value:=.slice none 0 0
def lU(bad:Nat->Bool)(s:M (Nat×Option Nat))(β:Nat->Value)(k:Nat):Value:=bif bad k then(match ct s k with
 |some (some j)=>β j
 |some none=>tH
 |none=>β k) else β k
def lV {r r':M Ty}{l:M (Row r)}{m:M (Row r')}(h:fG r r' l=some m):∃e:r=r',m=e▸l:=by
 grind[fG,Option.some.injEq,Ty.mX]
def lW:∀ {a b:M Prop},(∀p∈a++b,p)->(∀p∈a,p)/\∀p∈b,p:=by
 intro a b h;exact⟨λp hp=>h p (T! _ hp),λp hp=>h p (X! _ hp)⟩
theorem aR {p:Prop}(h:∀q∈ [p],q):p:=h p z!
variable {s:List (Nat×Option Nat)}
structure Keyed (bad:Nat->Bool) (s:List (Nat×Option Nat)) (β az:Nat->Value):Prop where
 src:∀K k,ct s K=some (some k)->az K=β k
 nil:∀K,ct s K=some none->az K=tH
 same:∀K,ct s K=none->bad K=false->az K=β K
 aKi:∀K,bad K=false->az K=β K
def Yk(β az:Nat->Value):Keyed (λ_=>true) [] β az:=⟨(λ_ _ h=>nomatch h),(λ_ h=>nomatch h),(λ_ _ h=>nomatch h),(λ_ h=>nomatch h)⟩
def qt(hK:Keyed bad s β az){k K:Nat}(h:uO s bad k K=true):az K=β k:=by
 unfold uO at h;split at h;rename_i j hj;rw[hK.src K j hj,Nat.eq_of_beq_eq_true h];cases h;simp only[Bool.and_eq_true,Bool.not_eq_true'] at h;have:=Nat.eq_of_beq_eq_true h.1;subst this;exact hK.aKi k h.2
mutual
theorem rB {az:Nat->Value}(hK:Keyed bad s β az):∀(x y:AV) (v:Value),(∀p∈NV s bad x y,p)->aa w A β v x->aa w A az v y
 |x,y,v,h,hr=>by
  unfold NV at h;split at h;simp[aa];simpa only[aa] using hr;rename_i k n k' m;split at h;rename_i hk;subst hk;have:=aR h;subst this;simpa only[aa] using hr;exact(aR h).elim;simpa only[aa] using hr;simpa only[aa] using hr;have:=aR h;subst this;simpa only[aa] using hr;have:=aR h;subst this;simpa only[aa] using hr;have:=aR h;subst this;simpa only[aa] using hr;have:=aR h;subst this;simpa only[aa] using hr;simpa only[aa] using hr;simpa only[aa] using hr;simpa only[aa] using hr;rename_i r l;have:=aR h;subst this;simp only[aa] at hr |-;subst hr;simp only[Rd];exact⟨none,0,[],rfl,z!,by simp[maxLen],by simp[dn],z!⟩;rename_i r l r' l';split at h;rename_i m hm;obtain⟨e,he⟩:=lV hm;subst e;have:=aR h;subst he;subst this;simpa only[aa] using hr;exact(aR h).elim;rename_i r l r' l';split at h;rename_i m hm;obtain⟨e,he⟩:=lV hm;subst e;have:=aR h;subst he;subst this;simp only[aa] at hr |-;exact hr.1;exact(aR h).elim
  . rename_i k K;simp only[aa] at hr |-;split at h
    . rename_i j hj;cases hb:Nat.beq k j with
      |false=>rw[hb] at h;exact(aR h).elim
      |true=>
       have:=D! hb;subst this;rw[hK.src K k hj];exact hr
    exact(aR h).elim
    . rename_i hj;cases hb:(Nat.beq k K&& !bad K) with
      |false=>rw[hb] at h;exact(aR h).elim
      |true=>
       simp only[B!,Q?] at hb;have:=D! hb.1;subst this;rw[hK.same k hj hb.2];exact hr
  rename_i K;simp only[aa] at hr |-;split at h;rename_i hj;rw[hK.nil K hj];subst hr;exact⟨rfl,rfl⟩;exact(aR h).elim
  . rename_i k o k' o';simp only[aa] at hr |-;cases hb:uO s bad k k' with
    |false=>rw[hb] at h;exact(aR h).elim
    |true=>
     rw[hb] at h;have:=aR h;subst this;rw[qt hK hb];exact hr
  rename_i xs ys;simp only[aa] at hr |-;obtain⟨arr,h1,h2⟩:=hr;exact⟨arr,h1,lK hK xs ys _ h h2⟩;rename_i xs ys;simp only[aa] at hr |-;obtain⟨arr,h1,h2⟩:=hr;exact⟨arr,h1,lK hK xs ys _ h h2⟩;rename_i f xs us f' ys vs;split at h;rename_i hf;subst hf;simp only[aa] at hr |-;obtain⟨a1,a2,h1,h2,h3⟩:=hr;obtain⟨g1,g2⟩:=lW h;exact⟨a1,a2,h1,lK hK xs ys _ g1 h2,lK hK us vs _ g2 h3⟩;exact(aR h).elim;rename_i ks xs ks' ys;split at h;rename_i oJ;subst oJ;simp only[aa] at hr |-;obtain⟨b,es,ck,h1,h2,h3,h4,h5⟩:=hr;exact⟨b,es,ck,h1,h2,h3,h4,lK hK xs ys _ h h5⟩;exact(aR h).elim;split at h;rename_i m hm;obtain⟨e,he⟩:=lV hm;subst e;subst he;have h1:=h _ (G! ..);have h2:=h _ (F! _ (G! ..));simp only[List.cons.injEq,and_true] at h1;subst h1;subst h2;simpa only[aa] using hr;exact(aR h).elim;exact(aR h).elim
theorem lK {az:Nat->Value}(hK:Keyed bad s β az):∀(xs ys:M AV) (vs:M Value),(∀p∈AA s bad xs ys,p)->ae w A β vs xs->ae w A az vs ys
 |[],[],vs,_,hr=>by simpa only[ae] using hr
 |x::xs,y::ys,vs,h,hr=>by
  simp only[AA] at h;obtain⟨g1,g2⟩:=lW h;simp only[ae] at hr |-;obtain⟨v,bY,h1,h2,h3⟩:=hr;exact⟨v,bY,h1,rB hK x y v g1 h2,lK hK xs ys bY g2 h3⟩
 |[],_::_,vs,h,_|_::_,[],vs,h,_=>by simp only[AA] at h;exact(aR h).elim
end
theorem zr(hK:Keyed bad s β az){k K:Nat}{c b:AB}(hk:az K=β k)(h:∀p∈RF s bad (some c) b,p)(hr:BR w A β k c):BR w A az K b:=by
 unfold RF at h;split at h;rename_i xs ys heq;simp only[Option.some.injEq] at heq;subst heq;obtain⟨g,arr,e,h1,h2,h3,h4,h5⟩:=hr;exact⟨g,arr,e,hk.trans h1,h2,h3,lK hK xs ys _ h h4,h5⟩
 . rename_i e r l fr e' r' l' GK heq;simp only[A!] at heq;subst heq;split at h
   . rename_i m hm;obtain⟨er,he⟩:=lV hm;subst er;subst he;cases hb:(Nat.beq e e'&&(fr==GK)) with
     |false=>rw[hb] at h;exact(aR h).elim
     |true=>
      rw[hb] at h;simp only[B!,beq_iff_eq] at hb;have he:=D! hb.1;have hf:=hb.2;subst he;subst hf;have:=aR h;subst this;obtain⟨xs,h1,h2,h3⟩:=hr;simp only[BR,hk];exact⟨xs,h1,h2,h3⟩
   exact(aR h).elim
 rename_i r l r' l' heq;simp only[A!] at heq;subst heq;split at h;rename_i m hm;obtain⟨er,he⟩:=lV hm;subst er;subst he;have:=aR h;subst this;obtain⟨g,arr,e,h1,h2,h3,h4⟩:=hr;exact⟨g,arr,e,hk.trans h1,h2,h3,h4⟩;exact(aR h).elim
 . rename_i e j r l i e' j' r' l' i' heq;simp only[A!] at heq;subst heq;split at h
   . rename_i m hm;obtain⟨er,he⟩:=lV hm;subst er;subst he;cases hb:(Nat.beq e e'&&uO s bad j j') with
     |false=>rw[hb] at h;exact(aR h).elim
     |true=>
      rw[hb] at h;simp only[B!] at hb;have he:=D! hb.1;have hj:=qt hK hb.2;subst he;have hl:=h _ (G! ..);have hi:i=i':=h _ (F! _ (G! ..));subst hl;subst hi;obtain⟨xs,v0,h1,h2,h3,h4⟩:=hr;simp only[BR,hk];refine⟨xs,v0,h1,h2,h3,λq hq=>?_⟩;simp only[A!] at hq;subst hq;rw[hj];exact h4 j rfl
   exact(aR h).elim
 . rename_i e r l e' jj n m sz heq;simp only[A!] at heq;subst heq;cases hb:(Nat.beq e e'&&Nat.beq r.length 1) with
   |false=>rw[hb] at h;exact(aR h).elim
   |true=>
    rw[hb] at h;simp only[B!] at hb;have he:=D! hb.1;have hr1:=D! hb.2;subst he;have hn:l.length=n:=h _ (G! ..);have hm:m=0:=h _ (F! _ (G! ..));subst hn;subst hm;obtain⟨xs,h1,h2,h3⟩:=hr;simp only[BR,hk];rw[hr1] at h1;exact⟨xs,h1,λb hb=>by simpa using h3 b hb,λj' _ i hi=>absurd hi (Nat.not_lt_zero _)⟩
 . rename_i e j n m sz e' j' n' m' û heq;simp only[A!] at heq;subst heq;cases hb:(Nat.beq e e'&&uO s bad j j') with
   |false=>rw[hb] at h;exact(aR h).elim
   |true=>
    rw[hb] at h;simp only[B!] at hb;have he:=D! hb.1;have hj:=qt hK hb.2;subst he;have hn:n=n':=h _ (G! ..);have hm:m=m':=h _ (F! _ (G! ..));have hs:sz=û:=h _ (F! _ (F! _ (G! ..)));subst hn;subst hm;subst hs;obtain⟨xs,h1,h2,h3⟩:=hr;simp only[BR,hk];refine⟨xs,h1,h2,λq hq i hi=>?_⟩;simp only[A!] at hq;subst hq;obtain⟨v,e1,e2⟩:=h3 j rfl i hi;refine⟨v,e1,?_⟩;simp only[aa] at e2 |-;rw[hj];exact e2
 . rename_i e j l e' j' l' heq;simp only[A!] at heq;subst heq;cases hb:(Nat.beq e e'&&aBO s bad j j') with
   |false=>rw[hb] at h;exact(aR h).elim
   |true=>
    rw[hb] at h;simp only[B!] at hb;have he:=D! hb.1;have hl:=aR h;subst he;subst hl;obtain⟨xs,h1,h2,h3⟩:=hr;simp only[BR,hk];refine⟨xs,h1,h2,λq hq=>h3 q λi hi=>?_⟩;subst hi;have hb:=hb.2;cases j' with
    |none=>cases hb
    |some j'=>exact(hq j' rfl).trans (qt hK hb)
 . rename_i e j xs i e' j' Uq i' heq;simp only[A!] at heq;subst heq;cases hb:(Nat.beq e e'&&uO s bad j j') with
   |false=>rw[hb] at h;exact(aR h).elim
   |true=>
    rw[hb] at h;simp only[B!] at hb;have he:=D! hb.1;have hj:=qt hK hb.2;have g1:xs=Uq:=h _ (G! ..);have g2:i=i':=h _ (F! _ (G! ..));subst he;subst g1;subst g2;obtain⟨ys,h1,h2,h3,h4⟩:=hr;simp only[BR,hk];refine⟨ys,h1,h2,h3,λq hq=>?_⟩;cases hq;rw[hj];exact h4 j rfl
 . rename_i e sz n cs e' û n' gk heq;simp only[A!] at heq;subst heq;cases hb:(Nat.beq e e'&&(Nat.beq sz û&&Nat.beq n n')) with
   |false=>rw[hb] at h;exact(aR h).elim
   |true=>
    rw[hb] at h;simp only[B!] at hb;obtain⟨h1,h2,h3⟩:=hb;have h1:=D! h1;have h2:=D! h2;have h3:=D! h3;subst h1;subst h2;subst h3;obtain⟨xs,g1,g2,g3⟩:=hr;simp only[BR,hk];exact⟨xs,g1,g2,λfm=>lK (Yk β fm) cs gk xs h (g3 β)⟩
 simp_all
def U2(p:Nat->Bool)(bI:∀k,p k=false->az k=β k){k:Nat}(hk:az k=β k)(h:BR w A β k ab):BR w A az k (cq p ab):=by
 cases ab with
 |cells cs=>
  obtain⟨b,arr,e,h1,h2,h3,h4,h5⟩:=h;exact⟨b,arr,e,hk.trans h1,h2,h3,ij p bI _ _ h4,h5⟩
 |row e row l fr=>
  grind[cq,BR]
 |arr row l=>
  obtain⟨b,arr,e,h1,h2,h3,h4⟩:=h;exact⟨b,arr,e,hk.trans h1,h2,h3,h4⟩
 |iy e j row l i=>
  obtain⟨xs,v0,h1,h2,h3,h4⟩:=h;simp[cq,BR,hk];cases j with
  |none=>grind[dF]
  |some j0=>
   grind[dF]
 |ek e j xs i=>
  obtain⟨ys,h1,h2,h3,h4⟩:=h;simp only[cq,BR,hk];refine⟨ys,h1,h2,h3,λj' gz=>?_⟩;cases j with
  |none=>cases gz
  |some j0=>
   simp only[dF] at gz;cases hp:p j0 with
   |true=>rw[hp] at gz;cases gz
   |false=>
    rw[hp] at gz;simp only[N!,A!] at gz;subst gz;rw[bI _ hp];exact h4 _ rfl
 |fvar row x=>
  obtain⟨b,arr,e,h1,h2,h3,h4⟩:=h;exact⟨b,arr,e,hk.trans h1,h2,h3,h4⟩
 |mp b es ck=>exact⟨hk.trans h.1,h.2⟩
 |bj e sz n cs=>
  obtain⟨xs,h1,h2,h3⟩:=h;exact⟨xs,hk▸h1,hk▸h2,h3⟩
 |dq e j l=>
  obtain⟨xs,h1,h2,h3⟩:=h;cases j with
  |none=>
   simp only[cq,BR,hk];exact⟨xs,h1,h2,λq _=>h3 q (λ_ h=>by cases h)⟩
  |some j=>
   simp only[cq];cases hp:p j with
   |true=>
    simp only[yT,K!,BR,hk];exact⟨xs,h1,h2,λ_ h=>by cases h⟩
   |false=>
    simp only[yT,N!,BR,hk];exact⟨xs,h1,h2,λq hq=>h3 q λj' hj=>(hq j' hj).trans (by cases hj;exact bI j hp)⟩
 |views e j n m sz=>
  obtain⟨xs,h1,h2,h3⟩:=h;simp[cq,BR,hk];refine⟨xs,h1,h2,λj' gz i hi=>?_⟩;cases j with
  |none=>grind[dF]
  |some j0=>
   simp[dF] at gz;cases hp:p j0 with
   |true=>grind
   |false=>
    grind[Be]
def oO:∀(AY:M (Loc×Nat)) (s:M (Nat×Option Nat)),sources st AY=some s->∀K r,ct s K=some r->∃l,(l,K)∈AY
 |[],s,h,K,r,hl=>by
   simp[sources,A!] at h;subst h;cases hl
 |(l,K0)::AY,s,h,K,r,hl=>by
  simp[sources] at h;split at h
  . rename_i k s' la iJ;simp at h;subst h;simp[ct] at hl;cases hb:Nat.beq K K0 with
    |true=>exact⟨l,by rw[D! hb];exact G! ..⟩
    |false=>
     rw[hb] at hl;obtain⟨l',h'⟩:=oO AY s' iJ K r hl;exact⟨l',F! _ h'⟩
  . rename_i k o s' la iJ;simp at h;subst h;simp[ct] at hl;cases hb:Nat.beq K K0 with
    |true=>exact⟨l,by rw[D! hb];exact G! ..⟩
    |false=>
     rw[hb] at hl;obtain⟨l',h'⟩:=oO AY s' iJ K r hl;exact⟨l',F! _ h'⟩
  . rename_i s' la iJ;simp at h;subst h;simp[ct] at hl;cases hb:Nat.beq K K0 with
    |true=>exact⟨l,by rw[D! hb];exact G! ..⟩
    |false=>
     rw[hb] at hl;obtain⟨l',h'⟩:=oO AY s' iJ K r hl;exact⟨l',F! _ h'⟩
  cases h
def Yl(kb:Nat):∀(AY:M (Loc×Nat)) (l:Loc) (K:Nat),(l,K)∈AY->cN kb (AY.map λx=>KS.one x.2) K=true
 |(l0,K0)::AY,l,K,h=>by
  simp only[K?,cN,KS.has,e?];rcases O!.1 h with h|h;simp at h;rw[h.2];exact .inl (cU _);exact .inr (Yl kb AY l K h)
def Lh {τ:Type}{s:M (Nat×Option Nat)}{bad:Nat->Bool}{x:τ}:∀(l:M (Nat×(τ->AV))) (i:Nat) (f:τ->AV),ie l i=some f->∀p∈NV s bad (st.t i) (f x),p∈MF s bad st x l
 |(j,g)::r,i,f,h,p,hp=>by
  simp[ie] at h;simp[MF,I!];cases hb:Nat.beq i j with
  |true=>
   simp_all
  |false=>
   rw[hb] at h;exact .inr (Lh r i f h p hp)
def amD {τ:Type}(s:M (Nat×Option Nat))(bad:Nat->Bool)(st:St)(x:τ)(K:Nat)(f:τ->AB):M Prop:=match ct s K with
 |some (some k)=>RF s bad (st.h k) (f x)
 |some none=>match f x with
  |.row _ _ l false=>[[]=l]
  |_=>[False]
 |none=>bif bad K then [False] else RF s bad (st.h K) (f x)
def Oj {τ:Type}{s:M (Nat×Option Nat)}{bad:Nat->Bool}{x:τ}:∀(l:M (Nat×(τ->AB))) (i:Nat) (f:τ->AB),ie l i=some f->∀p∈amD s bad st x i f,p∈UN s bad st x l
 |(j,g)::r,i,f,h,p,hp=>by
  simp[ie] at h;simp only[UN,I!];cases hb:Nat.beq i j with
  |true=>
   rw[hb] at h;simp at h;have:=D! hb;subst this;subst h;exact .inl hp
  |false=>
   rw[hb] at h;exact .inr (Oj r i f h p hp)
def j5:∀(s:M (Nat×Option Nat)) (K k:Nat),ct s K=some (some k)->k∈eG s
 |(j,r)::s,K,k,h=>by
  simp[ct] at h;cases hb:Nat.beq K j with
  |true=>
   simp_all[K!,A!,eG]
  |false=>
   rw[hb] at h;have:=j5 s K k h;cases r<;>simp[eG,this]
def zt:∀(s:M (Nat×Option Nat)),kN (eG s)=true->∀K K' k,ct s K=some (some k)->ct s K'=some (some k)->K=K'
 |(j,r)::s,hn,K,K',k,h,h'=>by
  have hn':kN (eG s)=true:=by
   cases r with
   |none=>exact hn
   |some j'=>simp_all[eG,kN,B!]
  simp[ct] at h h';cases hb:Nat.beq K j with
  |true=>
   cases eO:Nat.beq K' j with
   |true=>simp_all
   |false=>
    rw[eO] at h';have:=j5 s K' k h';simp_all[eG,kN,B!,Q?,absurd,jf]
  |false=>
   cases eO:Nat.beq K' j with
   |true=>
    rw[hb] at h;rw[eO] at h';have:=j5 s K k h;simp_all[eG,kN,B!,Q?,absurd,jf]
   |false=>
    rw[hb] at h;rw[eO] at h';exact zt s hn' K K' k h h'
def yl{o:Option AB}{b:AB}(h:∀p∈RF s bad o b,p):∃c,o=some c:=by
 cases o with
 |some c=>grind
 |none=>exact(aR h).elim
theorem U3{k e:Nat}{row:M Ty}{l:M (Row row)}(hk:β k=tH)(hl: []=l):BR w A β k (.row e row l false):=by
 subst hl;refine⟨[],⟨z!,.inl ⟨hk,rfl⟩⟩,by rfl,λb hb=>?_⟩;grind[tH,ah]
def aiA {L:bM}{W:M Nat}{base:St}{x:L.τ}(iG:sources st L.AY=some s)(Ol:Dp L W base st s=true)(hm:∀p∈Dq L W base st s x,p)(hB:al C A β st a w)
  (hT:∀i,aq W i=false->∃p,(∀k,p k=true->cN base.kb (cZ L W) k=true)/\st.t i=aE p (base.t i))
  (hH:∀k,aq st.cd k=false->cN base.kb (cZ L W) k=false->ie L.keys k=none->∃p,(∀k,p k=true->cN base.kb (cZ L W) k=true)/\st.h k=b7 p (base.h k))
  (hn:st.n=base.n) (hgg:st.g=base.g):al C A (lU (cN base.kb (cZ L W)) s β) (mQ L W base x) a w:=by
 generalize Om:cN base.kb (cZ L W)=bad at *;simp only[Dp,Om,B!] at Ol;obtain⟨⟨⟨⟨⟨⟨⟨o1,o2⟩,oP2⟩,o3⟩,o4⟩,o5⟩,o6⟩,o7⟩:=Ol;rw[B?] at oP2 o3 o4 o5 o6 o7
 have amE:∀K r,ct s K=some r->bad K=true:=by
  intro K r h;obtain⟨l,hl⟩:=oO _ _ iG K r h;rw[<-Om];simp only[cZ,dg,Yl base.kb _ l K hl,Bool.true_or,Bool.or_true]
 have BX:∀K,bad K=false->lU bad s β K=β K:=by
  intro K h;simp only[lU,h,N!]
 have D7:Keyed bad s β (lU bad s β):=by
  refine⟨λK k h=>?_,λK h=>?_,λK _ h=>BX K h,BX⟩;simp only[lU,amE K _ h,K!,h];simp only[lU,amE K _ h,K!,h]
 have hm1:∀i f,ie L.xn i=some f->∀p∈NV s bad (st.t i) (f x),p:=by
  intro i f hf p hp;refine hm p ?_;simp only[Dq,Om,I!];exact .inl (Lh _ i f hf p hp)
 have hm2:∀K f,ie L.keys K=some f->∀p∈amD s bad st x K f,p:=by
  intro K f hf p hp;refine hm p ?_;simp only[Dq,Om,I!];exact .inr (Oj _ K f hf p hp)
 have fH:∀K ab,(mQ L W base x).h K=some ab->BR w A (lU bad s β) K ab/\(lU bad s β K=tH\/∃j,lU bad s β K=β j/\(st.h j).isSome/\((bad K=false/\j=K)\/(bad K=true/\ct s K=some (some j)))):=by
  intro K ab h;simp only[mQ,Om] at h;cases hf:ie L.keys K with
  |some f=>
   rw[hf] at h;simp at h;subst h;have hc:=hm2 K f hf;unfold amD at hc;split at hc;rename_i k hk;obtain⟨c,sX⟩:=yl hc;rw[sX] at hc;exact⟨zr D7 (D7.src K k hk) hc (hB.blocks k c sX),.inr ⟨k,D7.src K k hk,by simp[sX],.inr ⟨amE K _ hk,hk⟩⟩⟩;rename_i hk;refine⟨?_,.inl (D7.nil K hk)⟩;split at hc;rename_i e row l hfx;rw[hfx];exact U3 (D7.nil K hk) (aR hc);exact(aR hc).elim
   . rename_i hk;cases hb:bad K with
     |true=>rw[hb] at hc;exact(aR hc).elim
     |false=>
      rw[hb] at hc;obtain⟨c,sX⟩:=yl hc;rw[sX] at hc;exact⟨zr D7 (BX K hb) hc (hB.blocks K c sX),.inr ⟨K,BX K hb,by simp[sX],.inl ⟨rfl,rfl⟩⟩⟩
  |none=>
   rw[hf] at h;cases hb:bad K with
   |true=>rw[hb] at h;cases h
   |false=>
    rw[hb] at h;simp only[N!] at h
    have hd:aq st.cd K=false:=by
     cases hq:aq st.cd K with
     |false=>rfl
     |true=>
      have:=o7 K ((Dt _ _).1 hq);rw[hf,hb] at this;cases this
    obtain⟨p,p1,p2⟩:=hH K hd hb hf;cases Fe:base.h K with
    |none=>rw[Fe] at h;cases h
    |some b0=>
     rw[Fe] at h p2;simp only[b7,A!] at h p2;subst h;have fl:=U2 (az:=lU bad s β) bad BX (BX K hb) (hB.blocks K _ p2);rw[jn] at fl
     have hpq:(λk=>p k || bad k)=bad:=by
      funext k;cases hp:p k with
      |false=>rfl
      |true=>rw[p1 k hp];rfl
     rw[hpq] at fl;exact⟨fl,.inr ⟨K,BX K hb,by simp[p2],.inl ⟨rfl,rfl⟩⟩⟩
 have RB:∀K,((mQ L W base x).h K).isSome->∀b,ah (lU bad s β K)=some b->∃j,lU bad s β K=β j/\(st.h j).isSome/\((bad K=false/\j=K)\/(bad K=true/\ct s K=some (some j))):=by
  intro K hK b hb;obtain⟨ab,k9⟩:=S!.1 hK;rcases(fH K ab k9).2 with h|h;rw[h] at hb;simp[tH,ah] at hb;exact h
 have hsb:∀K j,ct s K=some (some j)->bad j=true:=λK j h=>o6 j (j5 s K j h)
 refine⟨hB.defers,hB.size.trans hn,λi=>?_,λK ab h=>(fH K ab h).1,λK K' b h1 h2 g1 g2=>?_,hB.bound,hB.frame,hB.fk,hB.base,λK b h1 g1=>?_,λi d hd=>hB.qc i d ((congrFun hgg i).trans hd),hB.laid,λK hK=>by
  have :lU bad s β K=β K:=by
   unfold lU;cases bad K with
   |false=>rfl
   |true=>
    cases hl:ct s K with
    |none=>rfl
    |some y=>
     obtain⟨l,hl⟩:=oO _ _ iG K y hl;have:=oP2 _ hl;rw[hK] at this;cases this
  exact this.trans (hB.held K hK)⟩
 . have hi:=hB.tmps i
   show aa w A _ _ (match ie L.xn i with
    |some f=>f x
    |none=>bif aq W i then .cM else aE (cN base.kb (cZ L W)) (base.t i))
   rw[Om];cases hf:ie L.xn i with
   |some f=>exact rB D7 _ _ _ (hm1 i f hf) hi
   |none=>
    simp only;cases hW:aq W i with
    |true=>simp[aa]
    |false=>
     obtain⟨p,p1,p2⟩:=hT i hW;rw[p2] at hi;have:=oN (az:=lU bad s β) bad BX _ _ hi;rw[dm] at this
     have hpq:(λk=>p k || bad k)=bad:=by
      funext k;cases hp:p k with
      |false=>rfl
      |true=>rw[p1 k hp];rfl
     rwa [hpq] at this
 obtain⟨j,e1,l1,c1⟩:=RB K h1 b g1;obtain⟨j',e2,l2,c2⟩:=RB K' h2 b g2;rw[e1] at g1;rw[e2] at g2;have hj:j=j':=hB.apart j j' b l1 l2 g1 g2;subst hj;rcases c1 with⟨b1,rfl⟩|⟨b1,k1⟩<;>rcases c2 with⟨b2,h⟩|⟨b2,k2⟩;exact h;rw[hsb K' _ k2] at b1;cases b1;subst h;rw[hsb K _ k1] at b2;cases b2;exact zt s o2 K K' j k1 k2;obtain⟨j,e1,l1,c1⟩:=RB K h1 b g1;rw[e1] at g1;exact hB.ot j b l1 g1
def EI {L:bM}{W:M Nat}{base:St}{Pp:L.τ->Prop}(h:Hl L W base st Pp)(hR:Rel C st a w)
  (hT:∀i,aq W i=false->∃p,(∀k,p k=true->cN base.kb (cZ L W) k=true)/\st.t i=aE p (base.t i))
  (hH:∀k,aq st.cd k=false->cN base.kb (cZ L W) k=false->ie L.keys k=none->∃p,(∀k,p k=true->cN base.kb (cZ L W) k=true)/\st.h k=b7 p (base.h k))
  (hn:st.n=base.n) (hgg:st.g=base.g):∃x,Pp x/\Rel C (mQ L W base x) a w:=by
 obtain⟨A,β,hB⟩:=hR;unfold Hl at h;split at h;grind
 . rename_i s hs;cases hk:Dp L W base st s with
   |false=>grind
   |true=>
    rw[hk] at h;obtain⟨x,h1,h2⟩:=h;exact⟨x,h2,A,_,aiA hs hk (yg _ h1) hB hT hH hn hgg⟩
def amF:Ex->Exit
 |.norm=>.normal
 |.exit i=>.exit i
 |.ret=>.ret
def FG:∀ {cs:M Prop} {k:Prop},UM cs k->(∀p∈cs,p)/\k
 |[],k,h=>⟨λp hp=>x!,h⟩
 |p::ps,k,h=>by
  obtain⟨h1,h2⟩:=FG (cs:=ps) h.2;refine⟨λq hq=>?_,h2⟩;rcases O!.1 hq with rfl|hq;exact h.1;exact h1 q hq
theorem aiB(kb:Nat){d k:Nat}(h:(KS.dst d).has kb k=true):aq W d=true->cN kb (W.map .dst) k=true:=by
 induction W with
 |nil=>intro hd;cases hd
 |cons j W ih=>
  intro hd;simp[aq,Bool.or_eq_true] at hd;simp[List.map_cons,cN,Bool.or_eq_true];grind[Nat.eq_of_beq_eq_true]
def Hz {L:bM}{W:M Nat}{base:St}:∀ {news:M KS},MG L W base news=true->∀k,cN base.kb news k=true->cN base.kb (cZ L W) k=true
 |[],_,k,hk=>by cases hk
 |x::news,h,k,hk=>by
  simp only[MG,List.all_cons,B!] at h;simp[cN,e?] at hk;rcases hk with hk|hk
  . cases x with
    |one j=>
     grind[KS.has,Nat.eq_of_beq_eq_true]
    |dst d=>
     simp[cZ,dg,Bool.or_eq_true];grind[aiB]
  exact Hz (news:=news) h.2 k hk
theorem mF.back {L:bM}{W:M Nat}{base:St}{x:L.τ}{m:St}(h:mF W (mQ L W base x) m)(G9:∀y∈L.xn,aq W y.1=true):mF W base (St.back L W base m):=by
 obtain⟨p,a1,a2,a3⟩:=h.ra;have oA:(mQ L W base x).kb=base.kb:=rfl;refine⟨⟨λk=>cN base.kb (cZ L W) k || p k,λk hk=>?_,λi hi=>?_,λk hk NM=>?_⟩,h.n,h.kb,λk hk=>?_,λk hk=>?_,h.g⟩;simp only[St.back,dg,Bool.or_eq_true] at hk |-;grind
 . show m.t i=_;rw[a2 i hi,<-dm]
   have :(mQ L W base x).t i=aE (cN base.kb (cZ L W)) (base.t i):=by
    show(match ie L.xn i with
     |some f=>f x
     |none=>bif aq W i then .cM else aE (cN base.kb (cZ L W)) (base.t i))=_
    have hls:∀(l:M (Nat×(L.τ->AV))),(∀y∈l,aq W y.1=true)->ie l i=none:=by
     intro l;induction l with
     |nil=>intro _;rfl
     |cons y l ih=>
      grind[g,ie,Nat.beq,aL,hi,List.mem_cons_of_mem]
    grind
   grind
 . have fc:aq m.cd k=false/\aq (L.keys.map (·.1)) k=false:=by
    grind[St.back,dj,Bool.or_eq_false_iff]
   have hn':cN base.kb (cZ L W) k=false/\cN base.kb m.news k=false:=by
    grind[St.back,dg,Bool.or_eq_false_iff]
   show m.h k=_;rw[a3 k fc.1 hn'.2,<-fQ]
   have :(mQ L W base x).h k=b7 (cN base.kb (cZ L W)) (base.h k):=by
    show(match ie L.keys k with
     |some f=>some (f x)
     |none=>bif cN base.kb (cZ L W) k then none else b7 (cN base.kb (cZ L W)) (base.h k))=_
    have hls:∀(l:M (Nat×(L.τ->AB))),aq (l.map (·.1)) k=false->ie l k=none:=by
     intro l;induction l with
     |nil=>intro _;rfl
     |cons y l ih=>
      simp_all[g,K?,aq,Y?,ie,N!]
    grind
   grind
 simp_all[St.back,dj,Bool.or_true]
 simp_all[St.back,dg,Bool.true_or]
abbrev Ċ(C:Ctx)(W:M Nat)(st:St)(K:Ex->St->Prop)(Q:Exit->Act->World->Prop):Prop:=
 ∀e bp a' w',K e bp->mF W st bp->Rel C bp a' w'->Q (amF e) a' w'
variable {K:Ex->St->Prop}
def Ym {L:bM}{b:Code}{V:(Ex->St->Prop)->St->Prop}
  (hV:∀K' bp a' w' Q',V K' bp->Rel C bp a' w'->Ċ C W bp K' Q'->b.wp P Q' a' w')
  (h:adl L W K V st) (hR:Rel C st a w) (hQ:Ċ C W st K Q):(Code.loop b).wp P Q a w:=by
 obtain⟨h0,ass⟩:=h
 have G9:∀y∈L.xn,aq W y.1=true:=by
  unfold Hl at h0;split at h0;grind
  . rename_i s hs;cases hk:Dp L W st st.clear s with
    |false=>grind
    |true=>
     simp only[Dp,Bool.and_eq_true] at hk;grind
 have hRc:Rel C st.clear a w:=by
  obtain⟨A,β,hB⟩:=hR;exact⟨A,β,hB.clear⟩
 obtain⟨x0,U1,hr0⟩:=EI h0 hRc (λi _=>⟨λ_=>false,z!,(tS _).symm⟩) (λk _ _ _=>⟨λ_=>false,z!,(EE _).symm⟩) rfl rfl;refine wp_loop_ghost (λn a w=>∃x,L.inv x/\L.ag x=n/\Rel C (mQ L W st x) a w) (L.ag x0) ⟨x0,U1,rfl,hr0⟩ ?_;intro n a w hI;obtain⟨x,hx,rfl,hRx⟩:=hI;refine hV _ _ _ _ _ (ass x hx) hRx ?_;intro e bp a' w' hk hF qo;cases e with
 |norm=>
  simp only[XY] at hk;cases hn:MG L W st bp.news with
  |false=>grind
  |true=>
   rw[hn] at hk;obtain⟨p,a1,a2,a3⟩:=hF.ra;have oA:(mQ L W st x).kb=st.kb:=rfl;rw[oA] at a1 a3;have Om:∀k,cN st.kb bp.news k=true->cN st.kb (cZ L W) k=true:=Hz hn;have hb:=hF.back G9
   obtain⟨x',D1,qe⟩:=EI hk qo (λi hi=>by
     refine⟨λk=>cN st.kb (cZ L W) k || p k,λk hk=>?_,?_⟩;grind
     . rw[a2 i hi,<-dm]
       have :(mQ L W st x).t i=aE (cN st.kb (cZ L W)) (st.t i):=by
        show(match ie L.xn i with
         |some f=>f x
         |none=>bif aq W i then .cM else aE (cN st.kb (cZ L W)) (st.t i))=_
        have hls:∀(l:M (Nat×(L.τ->AV))),(∀y∈l,aq W y.1=true)->ie l i=none:=by
         intro l;induction l with
         |nil=>intro _;rfl
         |cons y l ih=>
          grind[ie,Nat.beq,aL,hi,List.mem_cons_of_mem]
        grind
       grind)
    (λk hd Ue hls=>by
      grind[cN,cZ,fQ,mQ,b7,ie]) hF.n hF.g
   exact⟨L.ag x',D1.2,x',D1.1,rfl,qe⟩
 |exit i=>
  obtain⟨A,β,hB⟩:=qo;exact hQ _ _ _ _ hk (hF.back G9) ⟨A,β,hB.seq ⟨rfl,rfl,rfl,rfl,rfl⟩⟩
 |ret=>
  obtain⟨A,β,hB⟩:=qo;exact hQ _ _ _ _ hk (hF.back G9) ⟨A,β,hB.seq ⟨rfl,rfl,rfl,rfl,rfl⟩⟩
def On(id:Nat)(hQ:Ċ C W st K Q):Ċ C W st (XX id K) (Exit.inBlock id Q):=by
 intro e bp a' w' hk hF hR;cases e with
 |norm=>exact hQ .norm _ _ _ hk hF hR
 |ret=>exact hQ .ret _ _ _ hk hF hR
 |exit j=>
  simp only[XX] at hk;by_cases hj:j=id;subst hj;simp at hk;simp[amF,Exit.inBlock,P?];exact hQ .norm _ _ _ hk hF hR;simp[aL hj,N!] at hk;simp[amF,Exit.inBlock,W! hj];exact hQ (.exit j) _ _ _ hk hF hR
def Yn(n:Int)(ks:U)(f:Nat->Prop)(h:MH n ks f 0 ks):∃j,f j:=by
 have :∀(r:U) (i:Nat),MH n ks f i r->(∃j,f j)\/(n∉r/\(yX n ks->∃j,f j)):=by
  intro r;induction r with
  |nil=>intro i h;exact .inr ⟨z!,λq=>⟨i,h q⟩⟩
  |cons k r ih=>
   intro i h;by_cases hk:n=k;exact .inl ⟨i,h.1 hk⟩;rcases ih (i+1) h.2 with g|⟨g1,g2⟩;grind;grind
 grind[Bm]
theorem gQ(hE:dx P C E)(hm:P.follows .mixedOrders=true){L:Nat->Option bM}:∀(c:Code) (K:Ex->St->Prop) (st:St) (a:Act) (w:World) (Q:Exit->Act->World->Prop),
  sY E L c K st->Rel C st a w->Ċ C (AX c) st K Q->c.wp P Q a w
 |.skip,K,st,a,w,Q,h,hR,hQ=>by
   exact wp_skip (hQ .norm _ _ _ h (mF.refl _ _) hR)
 |.region id ops d,K,st,a,w,Q,h,hR,hQ=>by
   have fin:∀E',dx P C E'->UO E' K st ops.toList d->(Code.region id ops d).wp P Q a w:=by
    intro E' hE' h;unfold UO at h;split at h;rename_i cs m hr;obtain⟨h1,h2⟩:=FG h;exact EH hE' hm hr h1 hR λa' w' qo=>hQ .norm _ _ _ h2 (N1 hr).loose qo;grind
   simp only[sY] at h;split at h;rename_i n ks hw;obtain⟨i,hi⟩:=Yn n ks _ h;exact fin {E with IV:=i} ⟨⟨hE.ok.eY,hE.ok.sig,hE.ok.qW,hE.ok.hp,hE.ok.cg⟩,hE.g⟩ hi;grind
 |.seq x y,K,st,a,w,Q,h,hR,hQ=>by
   refine wp_seq (gQ hE hm x _ st a w _ h hR λe bp a' w' hk hF qo=>?_);cases e with
   |norm=>
    exact gQ hE hm y K bp a' w' Q hk qo λe aPH a'' Ud fc hF' aKm=>hQ e _ _ _ fc (hF.trans hF') aKm
   |exit i=>exact hQ (.exit i) _ _ _ hk (hF.mono uX) qo
   |ret=>exact hQ .ret _ _ _ hk (hF.mono uX) qo
 |.cond c x y,K,st,a,w,Q,h,hR,hQ=>by
   simp only[sY] at h;have hx:Ċ C (AX x) st K Q:=λe bp a' w' hk hF qo=>hQ e _ _ _ hk (hF.mono uX) qo;have hy:Ċ C (AX y) st K Q:=λe bp a' w' hk hF qo=>hQ e _ _ _ hk (hF.mono BW) qo;split at h
   . rename_i cs m hr;obtain⟨h1,h2⟩:=FG h;unfold aBP at hr;cases hs:(!adm E c&&(nS x&&nS y)) with
     |false=>grind
     |true=>
      rw[hs] at hr;exact lJ hE hm _ st _ _ a w Q hr h1 hR λa' w' qo=>hQ .norm _ _ _ h2 (nk _ _ _ _ hr).loose qo
   obtain⟨A,β,hB⟩:=hR;split at h;rename_i hv;exact wp_cond_true (amA hB hv) (gQ hE hm x K st a w Q h ⟨A,β,hB⟩ hx);rename_i hv;exact wp_cond_false (amB hB hv) (gQ hE hm y K st a w Q h ⟨A,β,hB⟩ hy);rename_i b hv;exact wp_cond_split (Yj hB hv) (λhb=>gQ hE hm x K st a w Q (h.1 hb) ⟨A,β,hB⟩ hx) (λhb=>gQ hE hm y K st a w Q (h.2 hb) ⟨A,β,hB⟩ hy);rename_i row l hv;obtain⟨b,hb,hl⟩:=amC hB hv;exact wp_cond_split hb (λht=>gQ hE hm x K st a w Q (h.1 (hl ht)) ⟨A,β,hB⟩ hx) (λ_=>gQ hE hm y K st a w Q h.2 ⟨A,β,hB⟩ hy);grind
 |.block id b,K,st,a,w,Q,h,hR,hQ=>by
   have aKn:sY E L b (XX id K) st->(Code.block id b).wp P Q a w:=λh=>wp_block (gQ hE hm b _ st a w _ h hR (On id hQ));cases b with
   |loop b=>
    simp only[sY] at h;split at h;rename_i An hA;exact wp_block (Ym (λK' bp a' w' Q' hv qo hQ'=>gQ hE hm b K' bp a' w' Q' hv qo hQ') h hR (On id hQ));exact h.elim
   |_=>exact aKn (by first|exact h|(simp only[sY] at h |-))
 |.exit i,K,st,a,w,Q,h,hR,hQ=>by
   exact wp_exit (hQ (.exit i) _ _ _ h (mF.refl _ _) hR)
 |.ret,K,st,a,w,Q,h,hR,hQ=>by
   exact wp_ret (hQ .ret _ _ _ h (mF.refl _ _) hR)
 |.loop _,K,st,a,w,Q,h,_,_|.rangeFunc _ _ _ _,K,st,a,w,Q,h,_,_=>by grind[sY]
 |.scope c,K,st,a,w,Q,h,hR,hQ=>by
   simp only[sY] at h;refine wp_scope_straight (gQ hE hm c K st a w _ h hR λe bp a' w' hk hF qo=>?_);have:=hQ e bp a' w' hk hF qo;cases e<;>exact this
 |.label _,K,st,a,w,Q,h,hR,hQ=>by
   simp only[sY] at h;exact wp_label (hQ .norm _ _ _ h (mF.refl _ _) hR)
 |.goto _,K,st,a,w,Q,h,_,_|.refuse _,K,st,a,w,Q,h,_,_=>by grind[sY]
termination_by c=>SizeOf.sizeOf c
def Oo:Keyed (λ_=>true) [] β az:=⟨λK k h=>(by cases h),λK h=>(by cases h),λK _ h=>(by cases h),λK h=>(by cases h)⟩
def MK(tmps:Array Value):ResultVar->Sem Value
 |.tmp t=>pure (tmps.getD t undef)
 |.cell x t=>do loadVar t (<-asAddr (tmps.getD x undef))
theorem Li(fn:Func)(tmps:Array Value):results fn tmps=(do
  let vs <-fn.results.mapM (MK tmps)
  pure (if h:vs.size=1 then vs[0] else .tuple vs)):=by
 rfl
def tU(hT:bz T P)(hB:al C A β st a w):∀(rs:M ResultVar) (as_:M AV),nT T st rs=some as_->
  ∃vs,(rs.mapM (MK a.tmps)).run P w= .ok vs w/\ae w A β vs as_
 |[],as_,h=>by
   simp_all[nT,A!,ae]
 |.tmp t::rs,as_,h=>by
   simp[nT] at h;split at h;rename_i l hl;simp at h;subst h;obtain⟨vs,h1,h2⟩:=tU hT hB rs l hl;refine⟨a.tmps.getD t undef::vs,?_,?_⟩;simp[List.mapM_cons,MK,Sem.run_bind,Sem.run_pure,Result.andThen_ok,h1];exact⟨_,_,rfl,hB.tmps t,h2⟩;cases h
 |.cell x t::rs,as_,h=>by
   simp[nT] at h;split at h;rename_i k off hk;split at h;rename_i out l ho hl;obtain⟨vs,h1,h2⟩:=tU hT hB rs l hl;have hx:=hB.tmps x;rw[hk] at hx
   have pg:out.cond=[]:=by
    grind[p9,Option.some.injEq]
   obtain⟨_,v,g1,g2⟩:=Bi hT hB hx ho x!;obtain⟨b,Fq,Mg⟩:=hx;refine⟨v::vs,?_,?_⟩;simp only[Instr.loadAt,Instr.sureAddr,Sem.run_bind,Sem.run_pure,Result.andThen_ok] at g1;grind[asAddr,undef,Sem.run_pure,MK,Sem.run_bind,Result.andThen_ok];grind[ae];grind;grind
def Yo {α:Type}{R:M Value->α->Prop}:∀(xs:M Value) (l:M α),xs.length=l.length->(∀(i:Nat) (v:Value) (x:α),xs[i]? =some v->l[i]? =some x->R [v] x)->dn R xs l
 |[],[],_,_=>by rfl
 |v::xs,x::l,hl,h=>by
  exact⟨[v],xs,rfl,h 0 v x rfl rfl,Yo xs l (by simpa using hl) λi v x h1 h2=>h (i+1) v x (by simpa using h1) (by simpa using h2)⟩
 |[],_::_,hl,_|_::_,[],hl,_=>by grind
theorem HA(hB:al C A β st a w)(hA:∀b,A b->A' b)(r:M Ty)(l:M (Row r))(k:Nat)(v:Value)(h:∀p∈(Fw st.h r l k).1,p)(hF:∀k'∈(Fw st.h r l k).2,∀b,ah (β k')=some b->A' b)
  (hr:aa w A β v (.own k)):aa w A' az v (.sl r l)/\∀k'∈(Fw st.h r l k).2,(st.h k').isSome:=by
 generalize he:Fw st.h r l k=g at h hF |-;unfold Fw at he;split at he
 . rename_i e j n m sz hk;split at he
   . rename_i e2 ado bytes fr hj;cases hb:Nat.beq ado.length 1 with
     |false=>rw[hb] at he;subst he;exact(aR h).elim
     |true=>
      rw[hb] at he;have hr2:=D! hb;split at he;rename_i g' hg;subst he;obtain⟨er,Mc⟩:=lV hg;subst er;subst Mc;have ĉ:m=n:=h _ (G! ..);have hgl:wB sz n bytes=l:=h _ (F! _ (G! ..));subst ĉ;subst hgl;have hFk:∀b,ah (β k)=some b->A' b:=hF k z!;have hFj:∀b,ah (β j)=some b->A' b:=hF j z!;refine⟨?_,λk' fc=>?_⟩;obtain⟨rfl,_⟩:=hr;have hlen:(wB sz m bytes).length=m:=by simp[wB]
      rcases ru hB hk with⟨h1,h2⟩|⟨b,cap,cur,h1,h2,h3,h4,h5,h6,h7⟩;subst h2;exact⟨none,0,[],by rw[h1];simp[wB],by simp[wB],z!,by simp[wB,dn],z!⟩;refine⟨_,cap,cur.toList.take m,by rw[h1,hlen],by rw[hlen];exact h3,h4,?_,λ_=>⟨b,0,rfl,hFk b (by rw[h1];rfl),?_⟩⟩;refine Yo _ _ (by simp;omega) λi u x hu hx=>?_
      have hi:i<m:=by
       have:=(G?.1 hx).1;omega
      obtain⟨v',e1,e3⟩:=h7 j rfl i hi;rw[hu] at e1;simp at e1;subst e1
      have D1:x=(bytes.drop (i*sz)).take sz:=by
       simp[wB,E?,List.getElem?_range hi,Option.map_some,A!] at hx;exact hx.symm
      have hp:=(ur (A':=A') hB e3 hA (λq hq=>by
       have D8:=Fy _ q hq;simp[an,t?] at D8;subst D8;exact hFj)).1
      simp[ja,hj,hr2,cU,K!,aa] at hp;refine⟨u,[],rfl,?_,rfl⟩;rw[D1];exact hp;intro q u hq;rw[List.getElem?_take] at hq;split at hq;simp[World.cell?,h2];simpa using hq;cases hq;simp at fc;rcases fc with rfl|rfl;simp[hk];simp[hj];subst he;exact(aR h).elim
   subst he;exact(aR h).elim
 subst he;obtain⟨g1,g2⟩:=ur hB hr hA hF;exact⟨rB Oo _ _ _ h g1,λk hk=>by obtain⟨e,row,l,fr,hr⟩:=g2 k hk;simp[hr]⟩
mutual
theorem Lj(hB:al C A β st a w){s:M (Nat×Option Nat)}(hA:∀b,A b->A' b)(h1:∀i k,ct s i=some (some k)->az i=β k)(h2:∀i,ct s i=some none->az i=tH):∀(x y:AV) (v:Value),
  (∀p∈(BI st.h s x y).1,p)->(∀k∈(BI st.h s x y).2,∀b,ah (β k)=some b->A' b)->aa w A β v y->aa w A' az v x/\∀k∈(BI st.h s x y).2,(st.h k).isSome
 |x,y,v,h,hF,hr=>by
  generalize he:BI st.h s x y=r at h hF |-;unfold BI at he;split at he
  . rename_i i k;subst he;simp only at h hF |-;refine⟨?_,λk hk=>(by cases hk)⟩;simp only[aa] at hr |-;split at h
    . rename_i j hj;cases hb:Nat.beq k j with
      |false=>rw[hb] at h;exact(aR h).elim
      |true=>
       have:=D! hb;subst this;rw[h1 i k hj];exact hr
    exact(aR h).elim
  rename_i i;subst he;simp only at h hF |-;refine⟨?_,λk hk=>(by cases hk)⟩;simp only[aa] at hr |-;split at h;rename_i hj;rw[h2 i hj];subst hr;exact⟨rfl,rfl⟩;exact(aR h).elim;rename_i r0 l0 k;subst he;exact HA hB hA r0 l0 k v h hF hr;rename_i xs ys;subst he;simp only[aa] at hr |-;obtain⟨arr,e1,e2⟩:=hr;obtain⟨g1,g2⟩:=zu hB hA h1 h2 xs ys _ h hF e2;exact⟨⟨arr,e1,g1⟩,g2⟩;rename_i xs ys;subst he;simp only[aa] at hr |-;obtain⟨arr,e1,e2⟩:=hr;obtain⟨g1,g2⟩:=zu hB hA h1 h2 xs ys _ h hF e2;exact⟨⟨arr,e1,g1⟩,g2⟩;subst he;obtain⟨g1,g2⟩:=ur hB hr hA hF;exact⟨rB Oo _ _ _ h g1,λk hk=>by obtain⟨e,row,l,fr,hr⟩:=g2 k hk;simp[hr]⟩
theorem zu(hB:al C A β st a w){s:M (Nat×Option Nat)}(hA:∀b,A b->A' b)(h1:∀i k,ct s i=some (some k)->az i=β k)(h2:∀i,ct s i=some none->az i=tH):∀(xs ys:M AV) (vs:M Value),
  (∀p∈(uQ st.h s xs ys).1,p)->(∀k∈(uQ st.h s xs ys).2,∀b,ah (β k)=some b->A' b)->ae w A β vs ys->ae w A' az vs xs/\∀k∈(uQ st.h s xs ys).2,(st.h k).isSome
 |[],[],vs,_,_,hr=>by
   simp only[ae] at hr |-;exact⟨hr,λk hk=>by simp[uQ] at hk⟩
 |x::xs,y::ys,vs,h,hF,hr=>by
  simp only[uQ] at h hF |-;obtain⟨g1,g2⟩:=lW h;simp only[ae] at hr |-;obtain⟨v,bY,e,r1,r2⟩:=hr;obtain⟨q1,q2⟩:=Lj hB hA h1 h2 x y v g1 (λk hk=>hF k (T! _ hk)) r1;obtain⟨q3,q4⟩:=zu hB hA h1 h2 xs ys bY g2 (λk hk=>hF k (X! _ hk)) r2;refine⟨⟨v,bY,e,q1,q3⟩,λk hk=>?_⟩;rcases I!.1 hk with hk|hk;exact q2 k hk;exact q4 k hk
 |[],_::_,vs,h,_,_|_::_,[],vs,h,_,_=>by simp only[uQ] at h;exact(aR h).elim
end
def ym(h:aJ)(s:M (Nat×Option Nat))(i:Nat)(b:AB):M Prop:=match ct s i with
 |some (some k)=>RF s (λ_=>true) (h k) b
 |some none=>match b with
  |.row _ _ l false=>[[]=l]
  |_=>[False]
 |none=>[False]
theorem Oq {h:aJ}{s:M (Nat×Option Nat)}:∀(bs:M AB) (i j:Nat) (b:AB),bs[j]? =some b->∀p∈ym h s (i+j) b,p∈NW h s i bs
 |b0::bs,i,0,b,hb,p,hp=>by
  simp at hb;subst hb;simp only[NW,I!];exact .inl hp
 |b0::bs,i,j+1,b,hb,p,hp=>by
  simp[NW,I!];refine .inr (Oq bs (i+1) j b (by simpa using hb) p ?_);rw[show i+1+j=i+(j+1) by omega];exact hp
theorem al.init {G:Nat->Option GD}{args:M Value}{bj:M AV}{n:Nat}(hA:∀b,A b->b<w.heap.size)(hG:∀i d,G i=some d->nb w A i d)(hr:ae w A β args bj)(hn:bj.length<=n):
  al ⟨w,A,λ_=>False,G,β⟩ A β (St.init G n bj) {tmps:=args.toArray++Array.replicate (n-args.toArray.size) undef,defers:=[]} w:=by
 have hlen:=dM bj args hr
 have sF:∀(as_:M AV) (vs:M Value) (i:Nat),ae w A β vs as_->aa w A β (vs.getD i undef) (as_.getD i .undef):=by
  intro as_;induction as_ with
  |nil=>grind[ae,aa]
  |cons x as_ ih=>
   intro vs i h;obtain⟨v,bY,rfl,h1,h2⟩:=h;cases i with
   |zero=>grind
   |succ i=>simp_all
 refine⟨rfl,?_,λi=>?_,λk ab h=>(by cases h),λk k' b h=>(by cases h),hA,⟨rfl,rfl,rfl,Nat.le_refl _,λb _ _=>rfl⟩,λb _ h=>.inl h,λb h=>h,λk b h=>(by cases h),λi d h=>h,hG,λk _=>rfl⟩;grind[St.init];show aa w A β _ (bj.getD i .undef)
 have e:(args.toArray++Array.replicate (n-args.toArray.size) undef).getD i undef=args.getD i undef:=by
  rw[Array.getD_eq_getD_getElem?];grind
 grind
def ċ(hT:bz T P){fn:Func}{w0:World}{A0:Nat->Prop}{GN:Nat->Value}(hB:al ⟨w0,A0,λ_=>False,G,GN⟩ A β st a w){want:AV}{bs:M AB}(h:XZ T st fn.results.toList want bs):
  ∃v,(results fn a.tmps).run P w= .ok v w/\∃A' az,my w0 A0 w v want bs A' az:=by
 unfold XZ at h;split at h;grind
 . rename_i as_ has;cases hq:(kN (eG (tR st.h want (ig as_) bs))&&((BI st.h (tR st.h want (ig as_) bs) want (ig as_)).2.all λk=>!aq (eG (tR st.h want (ig as_) bs)) k)&&iH bs.length bs) with
   |false=>grind
   |true=>
    rw[hq] at h;simp only[K!] at h;simp only[B!,B?] at hq;obtain⟨⟨q1,q2⟩,q3⟩:=hq;obtain⟨c1,c2⟩:=lW (yg _ h);generalize hs:tR st.h want (ig as_) bs=s at *;obtain⟨vs,p1,p2⟩:=tU hT hB fn.results.toList as_ has
    have hv:∃v,(results fn a.tmps).run P w= .ok v w/\aa w A β v (ig as_):=by
     have hl:=dM as_ vs p2;refine⟨if h:vs.toArray.size=1 then vs.toArray[0] else .tuple vs.toArray,?_,?_⟩;grind[Li,Array.mapM_eq_mapM_toList,Sem.run_bind,map_eq_pure_bind,Result.andThen_ok,Sem.run_pure]
     . match as_,vs,hl,p2 with
       |[x],[v],_,p2=>
         grind[ae,List.cons.injEq,ig]
       |[],[],_,p2=>
         grind[ig,aa,ae]
       |x::y::l,v::u::m,_,p2=>
        have di:¬(v::u::m).toArray.size=1:=by simp
        rw[dif_neg di];simp only[ig,aa];grind
    obtain⟨v,hv1,Mf⟩:=hv;let F:=(BI st.h s want (ig as_)).2
    let fm:Nat->Value:=λi=>match ct s i with
     |some (some k)=>β k
     |_=>tH
    obtain⟨r1,r2⟩:=Lj (A':=bL A β F) (az:=fm) hB (λb hb=>.inl hb) (λi k hk=>by grind) (λi hk=>by grind) want (ig as_) v c1 (λk hk b hb=>.inr ⟨k,hk,hb⟩) Mf;have hK:bG w w A (bL A β F):=λb hb=>⟨.inl hb,rfl⟩
    have mO:∀i ab,bs[i]? =some ab->BR w (bL A β F) fm i ab/\(fm i=tH\/∃k,ct s i=some (some k)/\fm i=β k/\(st.h k).isSome):=by
     intro i ab hi;have hc:∀p∈ym st.h s i ab,p:=λp hp=>c2 p (Oq bs 0 i ab hi p (by rw[Nat.zero_add];exact hp));unfold ym at hc;have ast:Keyed (λ_=>true) s β fm:=⟨λK k h=>by simp only[fm,h],λK h=>by simp only[fm,h],λK _ h=>(by cases h),λK h=>(by cases h)⟩
     have Xy:∀k c,ct s i=some (some k)->st.h k=some c->BR w A fm i ab->BR w (bL A β F) fm i ab:=by
      intro k c hk sX fl;have Ll:fm i=β k:=by simp only[fm,hk]
      have pZ:∀b,ah (fm i)=some b->¬A b->¬bL A β F b:=by
       rintro b hb kK (Mp|⟨j,hj,Bs⟩);exact kK Mp;rw[Ll] at hb;have :j=k:=hB.apart j k b (r2 j hj) (by simp[sX]) Bs hb;subst this;have NM:=q2 j hj;rw[Q?] at NM;exact jf.1 NM (j5 s i j hk)
      rcases tO bs i ab q3 hi with⟨e,row,l,rfl⟩|⟨e,j,n,m,sz,rfl,_⟩;obtain⟨xs,x1,x2,x3⟩:=fl;refine⟨xs,x1,bx (λc x hx=>br hK row c x hx) l xs x2,λb hb=>?_⟩;have:=x3 b hb;exact pZ b hb this;obtain⟨xs,x1,x2,x3⟩:=fl;refine⟨xs,x1,λb hb=>pZ b hb (x2 b hb),λj' gz i' fN=>?_⟩;obtain⟨v,e1,e2⟩:=x3 j' gz i' fN;exact⟨v,e1,Be rfl e2⟩
     split at hc;rename_i k hk;obtain⟨c,sX⟩:=yl hc;rw[sX] at hc;have Ll:fm i=β k:=by simp only[fm,hk]
     have fl:=zr (az:=fm) ast Ll hc (hB.blocks k c sX);exact⟨Xy k c hk sX fl,.inr ⟨k,hk,Ll,by simp[sX]⟩⟩;rename_i hk;have Ll:fm i=tH:=by simp only[fm,hk]
     split at hc;exact⟨U3 Ll (aR hc),.inl Ll⟩;exact(aR hc).elim;exact(aR hc).elim
    have fH:∀i ab b,bs[i]? =some ab->ah (fm i)=some b->∃k,ct s i=some (some k)/\ah (β k)=some b/\(st.h k).isSome:=by
     intro i ab b hi hb;rcases(mO i ab hi).2 with hn|⟨k,h1,h2,h3⟩;rw[hn] at hb;simp[tH,ah] at hb;exact⟨k,h1,by rw[<-h2];exact hb,h3⟩
    refine⟨v,hv1,bL A β F,fm,⟨hB.frame.os,hB.frame.tape,hB.frame.output,hB.frame.size,λb hb=>hB.frame.block b hb (λh=>h),λb hb=>.inl (hB.base b hb),λb hb Nh=>?_,λb hb=>?_,r1,λi ab hi=>⟨(mO i ab hi).1,λb hb=>?_⟩,λi j b hi hj hb eO=>?_⟩⟩;rcases Nh with Nh|⟨j,hj,Bs⟩;rcases hB.fk b hb Nh with h|h;exact h;exact h.elim;rcases hB.ot j b (r2 j hj) Bs with h|h;exact absurd hb (Nat.not_lt.2 h);exact h.elim;rcases hb with hb|⟨j,hj,Bs⟩;exact hB.bound b hb;exact mh hB (r2 j hj) Bs;obtain⟨k,_,g2,g3⟩:=fH i ab b hi hb;rcases hB.ot k b g3 g2 with h|h;exact h;exact h.elim;obtain⟨x,hx⟩:∃x,bs[i]? =some x:=⟨_,C! hi⟩;obtain⟨y,hy⟩:∃y,bs[j]? =some y:=⟨_,C! hj⟩;obtain⟨k,g1,g2,g3⟩:=fH i x b hx hb;obtain⟨k',g1',ù,g3'⟩:=fH j y b hy eO;have :k=k':=hB.apart k k' b g3 g3' g2 ù;subst this;exact zt s q1 i j k g1 g1'
theorem U4(hE:aW P E)(hm:P.follows .mixedOrders=true){f:FuncId}{fn:Func}{c:Code}{s:Ub}(L:M AV->Nat->Option bM)(hf:P.funcs[f]? =some fn)(hb:fn.body=some c)
  (h:∀bj pre res bs,s bj=some (pre,res,bs)->pre->K5 E (L bj) c fn.ntmps fn.results.toList bj res bs):Valid P E.jY f s:=by
 intro w A β args bj pre res bs hA hG bm hs hp;have U5:=h bj pre res bs hs hp;unfold K5 at U5;cases hn:Nat.ble bj.length fn.ntmps with
 |false=>grind
 |true=>
  rw[hn] at U5;refine calls_of_wp hf hb (gQ (C:=⟨w,A,λ_=>False,E.jY,β⟩) ⟨hE,rfl⟩ hm c _ _ _ w _ U5 ⟨A,β,al.init hA hG bm (L! hn)⟩ ?_);intro e bp a' w' hk _ hR;obtain⟨A',az,hB⟩:=hR
  have key:XZ E.T bp fn.results.toList res bs->bodyPost P fn (λe w'=>∃v,e= .returned v/\∃A' az,my w A w' v res bs A' az) .ret a' w':=by
   intro hk;obtain⟨v,h1,A2,fm,h2⟩:=ċ hE.eY hB hk;exact⟨hB.defers,v,h1,v,rfl,A2,fm,h2⟩
  cases e with
  |norm=>exact key hk
  |ret=>exact key hk
  |exit i=>exact hk.elim
mutual
def Ot:Ty->Bool
 |.int k=>!(decide (k= .u8))
 |.bool|.str=>true
 |.slice row=>jo row
def jo:M Ty->Bool
 |[]=>true
 |t::ts=>Ot t&&jo ts
end
def Ty.Č:Ty->Bool
 |.slice row=>jo row
 |_=>true
mutual
def AV.quiet:AV->Bool
 |.sl row _|.full row _|.cz row _ _|.qU row _=>jo row
 |.agg cs=>tV cs
 |.bc vs=>tV vs
 |.fn _ first aO=>tV first&&tV aO
 |.iA _ cs=>tV cs
 |_=>true
def tV:M AV->Bool
 |[]=>true
 |a::as_=>a.quiet&&tV as_
end
def AB.quiet:AB->Bool
 |.cells cs=>tV cs
 |.row _ r _ _=>r.all Ty.Č
 |_=>false
structure Yp (w w':World):Prop where
 cell:∀b o v,w.cell? ⟨b,o,none⟩=some v->(∀m,v≠ .int .u8 m)->w'.cell? ⟨b,o,none⟩=some v
 map:∀(b:Nat) es ck,w.heap[b]? =some (.map es ck)->w'.heap[b]? =some (.map es ck)
def Ou:∀ {ts:M Ty} {vs:M Value} {x:Row ts},bw w A ts vs x->jo ts=true->∀v∈vs,∀m,v≠ .int .u8 m
 |[],vs,x,h,_,v,hv,m=>by
   grind[bw]
 |t::ts,vs,x,h,hq,v,hv,m=>by
  obtain⟨u,us,rfl,h1,h2⟩:=h;simp[jo,B!] at hq;rcases O!.1 hv with rfl|hv
  . intro e;subst e;cases t with
    |int k=>
     obtain⟨h1,_⟩:=h1;grind[Value.int.injEq,Ot,absurd]
    |bool=>cases h1
    |str=>cases h1.1
    |slice row=>
     obtain⟨a,cap,cs,h1,_⟩:=h1;grind
  exact Ou h2 hq.2 v hv m
def Ov {ts:M Ty}:∀ {l:M (Row ts)} {cs:M Value},dn (bw w A ts) cs l->jo ts=true->∀v∈cs,∀m,v≠ .int .u8 m
 |[],cs,h,_,v,hv,m=>by
   grind[dn]
 |x::l,cs,⟨c1,c2,hc,h1,h2⟩,hq,v,hv,m=>by
  subst hc;rcases I!.1 hv with hv|hv;exact Ou h1 hq v hv m;exact Ov h2 hq v hv m
def BY(hp:Yp w w'){b o:Nat}{cs:M Value}(h:w.rangeAt b o cs)(hn:∀v∈cs,∀m,v≠ .int .u8 m):w'.rangeAt b o cs:=λj v hj=>
 hp.cell b (o+j) v (h j v hj) (hn v (D? hj))
def ML:∀ {ts:M Ty},jo ts=true->ts.all Ty.Č=true
 |[],_=>rfl
 |t::ts,h=>by
  simp[jo,B!] at h;simp only[List.all_cons,B!];refine⟨?_,ML h.2⟩;cases t with
  |slice row=>simpa only[Ty.Č,Ot] using h.1
  |_=>rfl
mutual
theorem Ow(hp:Yp w w'):∀(t:Ty) (v:Value) (x:D t),Rd w A t v x->t.Č=true->Rd w' A t v x
 |.int _,_,_,hr,_|.bool,_,_,hr,_|.str,_,_,hr,_=>by simpa only[Rd] using hr
 |.slice row,v,l,hr,hq=>by
   simp only[Rd] at hr |-;have hq:jo row=true:=hq;obtain⟨a,cap,cs,h1,h2,h3,h4,h5⟩:=hr;refine⟨a,cap,cs,h1,h2,h3,bx (λc x hx=>Dv hp row c x hx (ML hq)) l cs h4,λdi=>?_⟩;obtain⟨b,o,ha,hA,hra⟩:=h5 di;exact⟨b,o,ha,hA,BY hp hra (Ov h4 hq)⟩
theorem Dv(hp:Yp w w'):∀(ts:M Ty) (vs:M Value) (x:Row ts),bw w A ts vs x->ts.all Ty.Č=true->bw w' A ts vs x
 |[],vs,x,hr,_=>by simpa only[bw] using hr
 |t::ts,vs,x,hr,hq=>by
  obtain⟨v,bY,h1,h2,h3⟩:=hr;simp only[List.all_cons,B!] at hq;exact⟨v,bY,h1,Ow hp t v _ h2 hq.1,Dv hp ts bY _ h3 hq.2⟩
end
mutual
theorem Yq(hp:Yp w w'):∀(x:AV) (v:Value),aa w A β v x->x.quiet=true->aa w' A β v x
 |.cM,_,_,_=>trivial
 |.undef,_,h,_|.int _ _,_,h,_|.bool _,_,h,_|.tt,_,h,_|.ff,_,h,_|.str _,_,h,_|.nil,_,h,_|.kY,_,h,_|.mf,_,h,_|.own _,_,h,_|.pre _ _,_,h,_|.view _ _ _ _,_,h,_|.ref _ _,_,h,_|.elem _ _ _ _,_,h,_|.qV _ _,_,h,_=>h
 |.sl row l,v,h,hq=>Ow hp (.slice row) v l h (by simpa only[Ty.Č,AV.quiet] using hq)
 |.full row l,v,h,hq=>⟨Ow hp (.slice row) v l h.1 (by simpa only[Ty.Č,AV.quiet] using hq),h.2⟩
 |.cz row x j,v,⟨b,o,cs,h1,h2,h3,h4⟩,hq=>⟨b,o,cs,h1,h2,BY hp h3 (Ou h4 (by simpa only[AV.quiet] using hq)),Dv hp row cs x h4 (ML (by simpa only[AV.quiet] using hq))⟩
 |.qU row l,v,⟨b,o,cs,h1,h2,h3,h4⟩,hq=>⟨b,o,cs,h1,h2,BY hp h3 (Ov h4 (by simpa only[AV.quiet] using hq)),bx (λc x hx=>Dv hp row c x hx (ML (by simpa only[AV.quiet] using hq))) l cs h4⟩
 |.agg cs,v,⟨arr,h1,h2⟩,hq|.bc cs,v,⟨arr,h1,h2⟩,hq=>⟨arr,h1,nV hp cs _ h2 (by simpa only[AV.quiet] using hq)⟩
 |.fn f first aO,v,⟨a1,a2,h1,h2,h3⟩,hq=>by
   simp only[AV.quiet,B!] at hq;exact⟨a1,a2,h1,nV hp first _ h2 hq.1,nV hp aO _ h3 hq.2⟩
 |.iA ks cs,v,h,hq=>by
   simp only[aa] at h |-;obtain⟨b,es,ck,h1,h2,⟨yY,h3,h4⟩,h5,h6⟩:=h;exact⟨b,es,ck,h1,h2,⟨yY,hp.map b yY ck h3,h4⟩,h5,nV hp cs _ h6 (by simpa only[AV.quiet] using hq)⟩
theorem nV(hp:Yp w w'):∀(as_:M AV) (vs:M Value),ae w A β vs as_->tV as_=true->ae w' A β vs as_
 |[],_,h,_=>h
 |a::as_,vs,⟨v,bY,h1,h2,h3⟩,hq=>by
  simp only[tV,B!] at hq;exact⟨v,bY,h1,Yq hp a v h2 hq.1,nV hp as_ bY h3 hq.2⟩
end
@[reducible] def pO (α:Type):M α:=[]
mutual
def D.ok:(t:Ty)->D t->Prop
 |.int k,x=>lo k<=DI.toInt k x/\DI.toInt k x<=hi k
 |.bool,_=>True
 |.str,s=>s.length<=9223372036854775807
 |.slice row,l=>l.length<=9223372036854775807/\∀x,x∈l->Row.ok row x
def Row.ok:(ts:M Ty)->Row ts->Prop
 |[],_=>True
 |t::ts,x=>D.ok t (Row.hd x)/\Row.ok ts (Row.tl x)
end
mutual
def AV.facts:AV->Prop
 |.int k n=>lo k<=n/\n<=hi k
 |.str s=>s.length<=9223372036854775807
 |.sl row l|.full row l=>D.ok (.slice row) l
 |.agg cs|.bc cs=>Dw cs
 |_=>True
def Dw:M AV->Prop
 |[]=>True
 |a::as_=>a.facts/\Dw as_
end
theorem U6 {α:Type}{R:M Value->α->Prop}{p:α->Prop}(h:∀c x,R c x->p x):∀(l:M α) (cs:M Value),dn R cs l->∀x,x∈l->p x
 |[],_,_,x,hx=>by grind
 |y::l,_,⟨c1,c2,hc,h1,h2⟩,x,hx=>by
  rcases List.mem_cons.1 hx with rfl|hx;grind;exact U6 h l c2 h2 x hx
mutual
theorem č:∀(t:Ty) (v:Value) (x:D t),Rd w A t v x->D.ok t x
 |.int k,v,x,h=>by simp only[Rd] at h;simp only[D.ok];exact h.2
 |.bool,v,x,h=>by simp only[D.ok]
 |.str,v,s,h=>by simp only[Rd] at h;simp only[D.ok];exact h.2
 |.slice row,v,l,h=>by
   simp only[Rd] at h;obtain⟨a,cap,cs,h1,h2,h3,h4,h5⟩:=h;simp only[D.ok];exact⟨Z? h2 h3,U6 (λc x hx=>HC row c x hx) l cs h4⟩
theorem HC:∀(ts:M Ty) (vs:M Value) (x:Row ts),bw w A ts vs x->Row.ok ts x
 |[],vs,x,h=>by simp only[Row.ok]
 |t::ts,vs,x,h=>by
  simp only[bw] at h;obtain⟨v,bY,h1,h2,h3⟩:=h;simp only[Row.ok];exact⟨č t v _ h2,HC ts bY _ h3⟩
end
mutual
theorem U7:∀(a:AV) (v:Value),aa w A β v a->a.facts
 |.int k n,v,h=>by simp only[aa] at h;simp only[AV.facts];exact h.2
 |.str s,v,h=>by simp only[aa] at h;simp only[AV.facts];exact h.2
 |.sl row l,v,h=>by simp only[aa] at h;simp only[AV.facts];exact č _ _ _ h
 |.full row l,v,h=>by simp only[aa] at h;simp only[AV.facts];exact č _ _ _ h.1
 |.agg cs,v,h=>by
   simp only[aa] at h;obtain⟨arr,_,h2⟩:=h;simp only[AV.facts];exact xq cs _ h2
 |.bc cs,v,h=>by
   simp only[aa] at h;obtain⟨arr,_,h2⟩:=h;simp only[AV.facts];exact xq cs _ h2
 |.cM,_,_|.undef,_,_|.bool _,_,_|.tt,_,_|.ff,_,_|.nil,_,_|.kY,_,_|.qV _ _,_,_|.mf,_,_|.cz _ _ _,_,_|.qU _ _,_,_|.own _,_,_|.pre _ _,_,_|.view _ _ _ _,_,_|.ref _ _,_,_|.elem _ _ _ _,_,_|.fn _ _ _,_,_|.iA _ _,_,_=>by simp only[AV.facts]
theorem xq:∀(as_:M AV) (vs:M Value),ae w A β vs as_->Dw as_
 |[],_,_=>by simp only[Dw]
 |a::as_,vs,h=>by
  simp only[ae] at h;obtain⟨v,bY,_,h1,h2⟩:=h;simp only[Dw];exact⟨U7 a v h1,xq as_ bY h2⟩
end
def bX.Ok(P:Program):bX->Prop
 |.leaf=>True
 |.node l k v r=>l.Ok P/\r.Ok P/\P.underlying k=some v.desc/\á P k v.desc/\∃i,P.info? k=some i/\i.size=v.size/\i.bytes=v.bytes/\i.zero=some v.zero
theorem bX.Ok.at {P:Program}{T:bX}(h:T.Ok P):∀t te,T.find t=some te->(P.underlying t=some te.desc/\∃i,P.info? t=some i/\i.size=te.size/\i.bytes=te.bytes/\i.zero=some te.zero)/\á P t te.desc:=by
 induction T with
 |leaf=>intro t te ht;cases ht
 |node l k v r ihl ihr=>
  obtain⟨h1,h2,h3,h5,h4⟩:=h;intro t te ht;simp[bX.find] at ht;cases hb:Nat.beq t k with
  |true=>
   simp_all
  |false=>
   grind
theorem bz.of(h:T.Ok P):bz T P:=⟨λt te ht=>(h.at t te ht).1,λt te ht=>(h.at t te ht).2⟩
end Go.Vg
