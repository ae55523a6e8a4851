import Derived.Test.YtmonnkdlphjngaaGreatDoorPartA
import Derived.Orders
import Derived.Deep.LoopGhost
import Derived.Scope
import Derived.WalkKit
import Derived.ProofKit
import Derived.OpenShut
import Derived.SizedLaws
set_option linter.unusedVariables false
set_option linter.unusedSimpArgs false
section
namespace Go.Vg
open Go
mutual
def aD:AV->List Nat
 | .own k| .pre k _| .view k _ _ _| .ref k _| .elem k _ _ _=> [k]
 | .agg cs=>aV cs
 | .b4 vs=>aV vs
 | .fn _ first bB=>aV first++aV bB
 | .ia _ cs=>aV cs
 |_=> []
def aV:List AV->List Nat
 | []=> []
 |a::aK=>aD a++aV aK
end
def iK:AB->List Nat
 | .cells cs=>aV cs
 | .views _ (some j) _ _ _=> [j]
 | .gS _ (some j) _ _ _=> [j]
 |_=> []
def wj:List (Nat×AB)->List Nat
 | []=> []
 |(_,b)::r=>iK b++wj r
mutual
def fa(f:Nat->Nat):AV->AV
 | .own k=> .own (f k)
 | .pre k n=> .pre (f k) n
 | .view k sz off n=> .view (f k) sz off n
 | .ref k off=> .ref (f k) off
 | .elem k sz i j=> .elem (f k) sz i j
 | .agg cs=> .agg (lY f cs)
 | .b4 vs=> .b4 (lY f vs)
 | .fn g first bB=> .fn g (lY f first) (lY f bB)
 | .ia ks cs=> .ia ks (lY f cs)
 |a=>a
def lY(f:Nat->Nat):List AV->List AV
 | []=> []
 |a::aK=>fa f a::lY f aK
end
def jX(f:Nat->Nat):AB->AB
 | .cells cs=> .cells (lY f cs)
 | .views e (some j) n m sz=> .views e (some (f j)) n m sz
 | .gS e (some j) row l i=> .gS e (some (f j)) row l i
 |b=>b
section
variable {P:Program} {C:Ctx} {A A':Nat->Prop} {β aO:Nat->Value} {st:St} {a:Act} {w:World} {E:Env} {T:cA}
mutual
theorem zE(f:Nat->Nat):∀(x:AV) (v:Value),(∀k∈aD x,aO (f k)=β k)->aa w A β v x->aa w A aO v (fa f x)
 | .own k,v,hk,h=>by
   simp only [fa,aa] at h |-;rw [hk k (by simp [aD])];exact h
 | .pre k n,v,hk,h=>by
   simp only [fa,aa] at h |-;rw [hk k (by simp [aD])];exact h
 | .view k _ _ _,v,hk,h=>by
   simp only [fa,aa] at h |-;rw [hk k (by simp [aD])];exact h
 | .ref k _,v,hk,h=>by
   simp only [fa,aa] at h |-;rw [hk k (by simp [aD])];exact h
 | .elem k _ _ _,v,hk,h=>by
   simp only [fa,aa] at h |-;rw [hk k (by simp [aD])];exact h
 | .agg cs,v,hk,h=>by
   simp only [fa,aa] at h |-;obtain⟨arr,h1,h2⟩:=h;exact⟨arr,h1,jr f cs _ (fun k dJ=>hk k (by simpa [aD] using dJ)) h2⟩
 | .b4 cs,v,hk,h=>by
   simp only [fa,aa] at h |-;obtain⟨arr,h1,h2⟩:=h;exact⟨arr,h1,jr f cs _ (fun k dJ=>hk k (by simpa [aD] using dJ)) h2⟩
 | .fn g first bB,v,hk,h=>by
   simp only [fa,aa] at h |-;obtain⟨a1,a2,h1,h2,h3⟩:=h;exact⟨a1,a2,h1,jr f first _ (fun k dJ=>hk k (by simp [aD,dJ])) h2,jr f bB _ (fun k dJ=>hk k (by simp [aD,dJ])) h3⟩
 | .ia ks cs,v,hk,h=>by
   simp only [fa,aa] at h |-;obtain⟨b,es,ck,h1,h2,h3,h4,h5⟩:=h;exact⟨b,es,ck,h1,h2,h3,h4,jr f cs _ (fun k dJ=>hk k (by simpa [aD] using dJ)) h5⟩
 | .dz,v,_,h=>by simp [fa,aa]
 | .undef,v,_,h=>by simpa only [fa,aa] using h
 | .int _ _,v,_,h=>by simpa only [fa,aa] using h
 | .bool _,v,_,h=>by simpa only [fa,aa] using h
 | .tt,v,_,h=>by simpa only [fa,aa] using h
 | .ff,v,_,h=>by simpa only [fa,aa] using h
 | .str _,v,_,h=>by simpa only [fa,aa] using h
 | .nil,v,_,h=>by simpa only [fa,aa] using h
 | .jM,v,_,h=>by simpa only [fa,aa] using h
 | .pw _ _,v,_,h=>by simpa only [fa,aa] using h
 | .kq,v,_,h=>by simpa only [fa,aa] using h
 | .sl _ _,v,_,h=>by simpa only [fa,aa] using h
 | .full _ _,v,_,h=>by simpa only [fa,aa] using h
 | .gR _ _ _,v,_,h=>by simpa only [fa,aa] using h
 | .qd _ _,v,_,h=>by simpa only [fa,aa] using h
theorem jr(f:Nat->Nat):∀(xs:List AV) (vs:List Value),(∀k∈aV xs,aO (f k)=β k)->ai w A β vs xs->ai w A aO vs (lY f xs)
 | [],vs,_,h=>by simpa only [lY,ai] using h
 |x::xs,vs,hk,h=>by
  simp only [lY,ai] at h |-;obtain⟨v,cg,rfl,h1,h2⟩:=h;exact⟨v,cg,rfl,zE f x v (fun k dJ=>hk k (by simp [aV,dJ])) h1,jr f xs cg (fun k dJ=>hk k (by simp [aV,dJ])) h2⟩
end
theorem Nt(f:Nat->Nat) {k k':Nat} {b:AB}(hk:aO k'=β k)(hj:∀j∈iK b,aO (f j)=β j)(h:BR w A β k b):BR w A aO k' (jX f b):=by
 cases b with
 |cells cs=>
  obtain⟨b,arr,e,h1,h2,h3,h4,h5⟩:=h;exact⟨b,arr,e,hk.trans h1,h2,h3,jr f cs _ (fun j eY=>hj j (by grind[iK])) h4,h5⟩
 |row e row l fr=>
  grind[jX,BR]
 |arr row l=>
  obtain⟨b,arr,e,h1,h2,h3,h4⟩:=h;exact⟨b,arr,e,hk.trans h1,h2,h3,h4⟩
 |gS e j row l i=>
  cases j with
  |none=>
   grind[jX,BR]
  |some j0=>
   grind[jX,BR,Option.some.injEq,iK]
 |views e j n m sz=>
  obtain⟨xs,h1,h2,h3⟩:=h;cases j with
  |none=>
   grind[jX,BR]
  |some j0=>
   simp only [jX,BR,hk];refine⟨xs,h1,h2,fun j' eY i hi=> ?_⟩;simp at eY;subst eY;obtain⟨v,e1,e2⟩:=h3 j0 rfl i hi
   exact⟨v,e1,zE f (.view j0 1 (i*sz) sz) v (fun k dJ=>by
    grind[aD,List.mem_singleton,iK]) e2⟩
end
def iL:List Nat->Bool
 | []=>true
 |k::r=> !(aI r k)&&iL r
def dedup(acc:List Nat):List Nat->List Nat
 | []=>acc.reverse
 |k::r=>bif aI acc k then dedup acc r else dedup (k::acc) r
def behind(h:bg):List Nat->List Nat
 | []=> []
 |k::r=>(match h k with
  |some b=>iK b
  |none=> [])++behind h r
def FL:List Nat->Nat->Nat
 | [],_=>0
 |j::r,k=>bif Nat.beq k j then 0 else FL r k+1
def SL(K:List Nat)(k:Nat):Nat:=50000+FL K k
def gC(K:List Nat)(base k:Nat):Nat:=bif Nat.blt k 60000 then K.getD (k-50000) 0 else base+(k-60000)
def dm(h:bg):List Bool->List AV->List AV×List Nat
 |_,[]=>([],[])
 |m,a::aK=>bif m.headD false then(a::(dm h m.tail aK).1,(dm h m.tail aK).2) else((ny h a).1::(dm h m.tail aK).1,(ny h a).2++(dm h m.tail aK).2)
def contents(h:bg):List Nat->Option (List AB)
 | []=>some []
 |k::r=>match h k,contents h r with
  |some b,some l=>some (b::l)
  |_,_=>none
def kOk(r:b9)(k:Nat):Bool:=(Nat.ble 50000 k&&Nat.blt k 60000&&(match r.heap[k-50000]? with
 |some (some _)=>true
 |_=>false)) || (Nat.ble 60000 k&&Nat.blt k (60000+r.new.length))
def mV(g:Nat->Nat):List Nat->List (Option AB)->List (Nat×AB)
 |k::ks,some b::bs=>(k,jX g b)::mV g ks bs
 |_::ks,none::bs=>mV g ks bs
 |_,_=> []
def sw:List Nat->List (Option AB)->List Nat
 |_::ks,some _::bs=>sw ks bs
 |k::ks,none::bs=>k::sw ks bs
 |_,_=> []
def wk:List (Option AB)->List Nat
 | []=> []
 |some b::r=>iK b++wk r
 |none::r=>wk r
def ub:List AB->List Nat
 | []=> []
 |b::r=>iK b++ub r
def axN(a K:List Nat):Bool:=a.all fun k=>aI K k
def Nu(s:bq)(h:bg)(base:Nat)(K:List Nat)(ps:List AV)(fz:List Nat):Option Out:=match contents h K with
 |some hs=>bif iL K&&(axN (aV ps++ub hs) K&&(fz.all (fun k=> !aI K k)&&Nat.ble hs.length 100)) then
  match s (lY (SL K) ps) (hs.map (jX (SL K))) with
  |some r=>bif Nat.beq r.heap.length hs.length&&(Nat.ble r.new.length 100&&((aD r.res++(wk r.heap++ub r.new)).all (kOk r))) then
    some {cond:= [r.pre]
          res:=fa (gC K base) r.res
          ib:=mV (gC K base) K r.heap++cJ h fz
          del:=sw K r.heap
          new:=fC base (r.new.map (jX (gC K base)))
          raw:=K}
   else none
  |none=>none
  else none
 |none=>none
def acs(E:Env)(h:bg)(d:Nat)(f:Nat)(args:List AV):Option Out:=match E.lq f with
 |some (m,s)=>Nu s h (mA d) (dedup [] (aV (dm h m args).1++behind h (aV (dm h m args).1))) (dm h m args).1 (dm h m args).2
 |none=>none
section
variable {P:Program} {C:Ctx} {A A':Nat->Prop} {β aO:Nat->Value} {st:St} {a:Act} {w:World} {E:Env} {T:cA}
theorem kY:∀ {l:List Nat} {k:Nat},aI l k=true↔k∈l
 | [],k=>by simp [aI]
 |j::l,k=>by
  simp_all[aI,X?,L!,kY,E!,bZ]
theorem Dq:∀ {K:List Nat} {k:Nat},k∈K->FL K k<K.length/\K.getD (FL K k) 0=k
 |j::K,k,h=>by
  simp [FL];by_cases hk:k=j
  . simp_all
  . simp [bc hk,P!];have :=Dq (K:=K) ((L!.1 h).resolve_left hk);simpa using this
theorem wm {h:bg}:∀ {K:List Nat} {hs:List AB},contents h K=some hs->hs.length=K.length/\∀(i:Nat) (ab:AB),hs[i]? =some ab->∃k:Nat,K[i]? =some k/\h k=some ab
 | [],hs,hh=>by
   grind[contents,Option.some.injEq]
 |k::K,hs,hh=>by
  simp [contents] at hh;split at hh
  . rename_i b l h1 h2;simp at hh;subst hh;obtain⟨g1,g2⟩:=wm h2;refine⟨by simp [g1],fun i ab hi=> ?_⟩;cases i with
    |zero=>simp at hi;subst hi;exact⟨k,rfl,h1⟩
    |succ i=>simpa using g2 i ab (by simpa using hi)
  . cases hh
theorem Dr:∀ {K:List Nat},iL K=true->∀ {i j:Nat} {k:Nat},K[i]? =some k->K[j]? =some k->i=j
 | [],_,i,j,k,h,_=>by grind
 |x::K,hn,i,j,k,h1,h2=>by
  simp [iL,B!,L?] at hn
  have hx:∀m:Nat,K[m]? =some x->False:=fun m hm=>by
   have :=kY.2 (List.mem_of_getElem? hm);rw [this] at hn;exact absurd hn.1 (by simp)
  cases i with
  |zero=>
   cases j with
   |zero=>rfl
   |succ j=>
    simp at h1;subst h1;exact(hx j (by simpa using h2)).elim
  |succ i=>
   cases j with
   |zero=>
    simp at h2;subst h2;exact(hx i (by simpa using h1)).elim
   |succ j=>rw [Dr hn.2 (i:=i) (j:=j) (by simpa using h1) (by simpa using h2)]
theorem rI {g:Nat->Nat}:∀ {K:List Nat} {bs:List (Option AB)} {k:Nat} {ab:AB},aw (mV g K bs) k=some ab->∃(i:Nat) (b:AB),K[i]? =some k/\bs[i]? =some (some b)/\ab=jX g b
 | [],bs,k,ab,h=>by grind[mV,aw]
 |x::K,[],k,ab,h=>by grind[mV,aw]
 |x::K,some b::bs,k,ab,h=>by
  simp [mV,aw] at h;by_cases hk:k=x
  . subst hk;simp at h;exact⟨0,b,rfl,rfl,h.symm⟩
  . simp [bc hk,cond_false] at h;obtain⟨i,b',h1,h2,h3⟩:=rI h;exact⟨i+1,b',by grind,by grind,h3⟩
 |x::K,none::bs,k,ab,h=>by
  simp [mV] at h;obtain⟨i,b',h1,h2,h3⟩:=rI h;exact⟨i+1,b',by simpa using h1,by simpa using h2,h3⟩
theorem wo {g:Nat->Nat}:∀ {K:List Nat} {bs:List (Option AB)} {i k:Nat} {b:AB},K[i]? =some k->bs[i]? =some (some b)->(aw (mV g K bs) k).isSome
 | [],bs,i,k,b,h,_=>by grind
 |x::K,[],i,k,b,_,h=>by grind
 |x::K,some c::bs,i,k,b,h1,h2=>by
  simp [mV,aw];by_cases hk:k=x
  . simp_all
  . simp [bc hk,P!];cases i with
    |zero=>simp at h1;exact absurd h1.symm hk
    |succ i=>exact wo (by simpa using h1) (by simpa using h2)
 |x::K,none::bs,i,k,b,h1,h2=>by
  simp [mV];cases i with
  |zero=>simp at h2
  |succ i=>exact wo (by simpa using h1) (by simpa using h2)
theorem uc:∀ {K:List Nat} {bs:List (Option AB)} {k:Nat},k∈sw K bs↔∃i:Nat,K[i]? =some k/\bs[i]? =some none
 | [],bs,k=>by grind[sw]
 |x::K,[],k=>by simp [sw]
 |x::K,some b::bs,k=>by
  simp [sw,uc (K:=K)];constructor
  . rintro⟨i,h1,h2⟩;exact⟨i+1,by simpa using h1,by simpa using h2⟩
  . rintro⟨i,h1,h2⟩;cases i with
    |zero=>simp at h2
    |succ i=>exact⟨i,by simpa using h1,by simpa using h2⟩
 |x::K,none::bs,k=>by
  simp [sw,L!,uc (K:=K)];constructor
  . rintro(rfl|⟨i,h1,h2⟩)
    . exact⟨0,rfl,rfl⟩
    . exact⟨i+1,by simpa using h1,by simpa using h2⟩
  . rintro⟨i,h1,h2⟩;cases i with
    |zero=>simp at h1;exact .inl h1.symm
    |succ i=>exact .inr ⟨i,by simpa using h1,by simpa using h2⟩
theorem zF:∀ {bs:List (Option AB)} {i:Nat} {b:AB},bs[i]? =some (some b)->∀j∈iK b,j∈wk bs
 | [],i,b,h,_,_=>by grind
 |some c::bs,0,b,h,j,hj=>by
  grind[List.getElem?_cons_zero,Option.some.injEq,wk]
 |some c::bs,i+1,b,h,j,hj=>by
  simp [wk,F!];exact .inr (zF (by simpa using h) j hj)
 |none::bs,0,b,h,j,hj=>by grind
 |none::bs,i+1,b,h,j,hj=>by
  simp [wk];exact zF (i:=i) (by simpa using h) j hj
theorem zG:∀ {bs:List AB} {i:Nat} {b:AB},bs[i]? =some b->∀j∈iK b,j∈ub bs
 | [],i,b,h,_,_=>by grind
 |c::bs,0,b,h,j,hj=>by
  grind[List.getElem?_cons_zero,Option.some.injEq,ub]
 |c::bs,i+1,b,h,j,hj=>by
  simp [ub,F!];exact .inr (zG (by simpa using h) j hj)
theorem lK:∀(a b:List (Nat×AB)) (k:Nat),aw (a++b) k=match aw a k with
  |some x=>some x
  |none=>aw b k
 | [],b,k=>rfl
 |(j,x)::a,b,k=>by
  simp [c?,aw];cases Nat.beq k j with
  |true=>rfl
  |false=>exact lK a b k
theorem Nv {G:Nat->Option GD} {f:FuncId} {s:bq}(hv:az P G f s)(hB:aF C A β st a w)(hG:C.G=G) {dst:Option Nat}(hd:∀t,dst=some t->t<st.n)
  {args:List Value} {ps:List AV} {fz K:List Nat} {base:Nat} {out:Out} (hps:ai w (cq A β fz) β args ps) (zB:∀j∈fz,∃e row l fr,st.h j=some (.row e row l fr))
  (h:Nu s st.h base K ps fz=some out) (dN:jy st.h out.new=true) (hc:∀p∈out.cond,p):
  Calls P f args.toArray w fun e w'=>∃v,e= .returned v/\Rel C (st.put dst out) (a.put dst v) w':=by
 unfold Nu at h;split at h;case h_2=>cases h
 rename_i hs UR;cases hq:(iL K&&(axN (aV ps++ub hs) K&&(fz.all (fun k=> !aI K k)&&Nat.ble hs.length 100))) with
 |false=>grind
 |true=>
 rw [hq] at h;simp only [K!] at h;split at h;case h_2=>cases h
 rename_i r hr;cases hq2:(Nat.beq r.heap.length hs.length&&(Nat.ble r.new.length 100&&((aD r.res++(wk r.heap++ub r.new)).all (kOk r)))) with
 |false=>grind
 |true=>
 rw [hq2] at h;simp only [K!,A!] at h;subst h;simp only [B!,E?] at hq hq2;obtain⟨q1,q2,q3,q4⟩:=hq;obtain⟨r1,r2,r3⟩:=hq2;have q4:=M! q4;have r1:=E! r1;have r2:=M! r2;obtain⟨hl,UR⟩:=wm UR;have FM:∀k∈aV ps++ub hs,k∈K:=fun k hk=>kY.1 (E?.1 q2 k hk)
 have axO:∀k∈fz,k∉K:=fun k hk hK=>by
  have :=q3 k hk;rw [kY.2 hK] at this;cases this
 let βc:Nat->Value:=fun k=>if 50000<=k/\k<50000+K.length then β (K.getD (k-50000) 0) else .slice none 0 0
 have Ds:∀(i k:Nat),K[i]? =some k->βc (50000+i)=β k:=by
  intro i k hi;have fP:=(U?.1 hi).1;simp only [βc];rw [W! ⟨by omega,by omega⟩,o?,List.getD,hi];rfl
 have hto:∀k∈K,βc (SL K k)=β k:=by
  intro k hk;obtain⟨h1,h2⟩:=Dq hk;refine Ds _ _ ?_;rw [D! h1];rw [List.getD,D! h1] at h2;simpa using h2
 have fQ:∀(i k:Nat),K[i]? =some k->∃ab,hs[i]? =some ab/\st.h k=some ab:=by
  intro i k hi;have fP:=(U?.1 hi).1;obtain⟨k',h1,h2⟩:=UR i _ (D! (by omega));rw [hi] at h1;simp only [A!] at h1;subst h1;exact⟨_,D! (by omega),h2⟩
 have aG5:∀b,cq A β fz b->b<w.heap.size:=by
  intro b hb;rcases hb with hb|⟨j,hj,vW⟩
  . exact hB.bound b hb
  . obtain⟨e,row,l,fr,hr⟩:=zB j hj;exact lJ hB (by simp [hr]) vW
 have SB:dg w w A (cq A β fz):=fun b hb=>⟨.inl hb,rfl⟩
 have wi:=hv w (cq A β fz) βc args (lY (SL K) ps) (hs.map (jX (SL K))) r aG5
  (fun i d hi=>(hB.laid i d (by rw [hG];exact hi)).mono SB)
  (jr (SL K) ps args (fun k hk=>hto k (FM k (A? _ hk))) hps)
  (fun i ab hi=>by
    rw [J?,Option.map_eq_some_iff] at hi;obtain⟨FH,hi,rfl⟩:=hi;obtain⟨k,hk,lI⟩:=UR i FH hi
    have gw:BR w (cq A β fz) β k FH:=by
     have :=vL (w':=w) (A':=cq A β fz) (aO:=β) (new:= []) (fun _ _=>rfl) rfl (fun b hb=>⟨rfl,fun hA=> ?_⟩) SB (hB.blocks k FH lI)
     . exact this
     . rcases hA with hA|⟨j,hj,vW⟩
       . exact hA
       . exfalso;obtain⟨e,row,l,fr,hr⟩:=zB j hj;have :=hB.apart j k b (by simp [hr]) (by simp [lI]) vW hb;subst this;exact axO j hj (List.mem_of_getElem? hk)
    exact Nt (SL K) (Ds i k hk) (fun j hj=>hto j (FM j (Z! _ (zG hi j hj)))) gw)
  (fun i j b hi hj h1 h2=>by
    rw [List.length_map] at hi hj;have e1:K[i]? =some K[i]:=D! (by omega);have e2:K[j]? =some K[j]:=D! (by omega);rw [Ds i _ e1] at h1;rw [Ds j _ e2] at h2;obtain⟨_,_,l1⟩:=fQ i _ e1;obtain⟨_,_,l2⟩:=fQ j _ e2;have :=hB.apart _ _ b (by simp [l1]) (by simp [l2]) h1 h2;exact Dr q1 e1 (by rw [this];exact e2))
  hr (hc _ (by simp)) (by rw [List.length_map];exact r1) (by rw [List.length_map];exact q4)
 rw [List.length_map] at wi;refine wi.mono ?_;rintro e w' ⟨v,rfl,A2,gW,hp⟩;refine⟨v,rfl,?_⟩;let n:=K.length
 have SM:r.new.length<=100:=r2;let ups:=fC base (r.new.map (jX (gC K base)))
 have rH:∀k,aw ups k=(if base<=k then(r.new.map (jX (gC K base)))[k-base]? else none):=fun k=>by simpa using rG base (r.new.map (jX (gC K base))) 0 k
 let SN:Nat->Value:=fun k=>if base<=k/\k<base+r.new.length then gW (60000+(k-base)) else β k
 have FN:∀j,j<r.new.length->SN (base+j)=gW (60000+j):=by
  intro j hj;simp only [SN];rw [W! ⟨by omega,by omega⟩,o?]
 have mf:∀k,aw ups k=none->SN k=β k:=by
  intro k h;rw [rH k] at h;simp only [SN];rw [T!];rintro⟨h1,h2⟩;rw [W! h1,List.getElem?_eq_none_iff,List.length_map] at h;omega
 have nD:∀k ab,aw ups k=some ab->∃j b,k=base+j/\r.new[j]? =some b/\ab=jX (gC K base) b/\j<r.new.length:=by
  intro k ab h;rw [rH k] at h;split at h
  . rename_i hb;rw [J?,Option.map_eq_some_iff] at h;obtain⟨b,h1,h2⟩:=h;exact⟨k-base,b,by omega,h1,h2.symm,(U?.1 h1).1⟩
  . cases h
 have J8:∀k,(st.h k).isSome->aw ups k=none:=by
  intro k hk;cases hh:aw ups k with
  |none=>rfl
  |some y=>have :=(jq _ k y dN hh).1;rw [this] at hk;cases hk
 have EI:∀(i k:Nat),K[i]? =some k->(st.h k).isSome:=fun i k hi=>by obtain⟨_,_,h⟩:=fQ i k hi;simp [h]
 have adP:∀(i k:Nat),K[i]? =some k->SN k=β k:=fun i k hi=>mf k (J8 k (EI i k hi))
 have hg:∀j,kOk r j=true->SN (gC K base j)=gW j:=by
  intro j hj;simp only [kOk,X?,B!] at hj;rcases hj with⟨⟨h1,h2⟩,h3⟩|⟨h1,h2⟩
  . have h1:=M! h1;obtain⟨i,rfl⟩:∃i,j=50000+i:=⟨j-50000,by omega⟩;rw [o?] at h3;split at h3
    . rename_i ab gv;have fP:=(U?.1 gv).1;obtain⟨k,hKi⟩:∃k,K[i]? =some k:=⟨_,D! (by omega)⟩;obtain⟨_,g2⟩:=hp.kept _ _ gv
      have e:gC K base (50000+i)=k:=by
       unfold gC;rw [h2,cond_true,Nat.add_sub_cancel_left,List.getD,hKi];rfl
      rw [e,adP _ _ hKi,g2,Ds _ _ hKi]
    . cases h3
  . have h1:=M! h1;have h2':j<60000+r.new.length:=M! h2;obtain⟨i,rfl⟩:∃i,j=60000+i:=⟨j-60000,by omega⟩
    have hb:Nat.blt (60000+i) 60000=false :=by
     cases hb:Nat.blt (60000+i) 60000 with
     |false=>rfl
     |true=>have :60000+i<60000:=M! hb;omega
    have e:gC K base (60000+i)=base+i:=by
     unfold gC;rw [hb,cond_false,Nat.add_sub_cancel_left]
    rw [e,FN _ (by omega)]
 have gB:∀(i k:Nat),K[i]? =some k->(r.heap[i]? =some none\/∃b,r.heap[i]? =some (some b)):=by
  intro i k hi;have fP:=(U?.1 hi).1;have :i<r.heap.length:=by omega
  cases hh:r.heap[i] with
  |none=>exact .inl (by rw [D! this,hh])
  |some b=>exact .inr ⟨b,by rw [D! this,hh]⟩
 generalize rz:({cond:= [r.pre],res:=fa (gC K base) r.res,ib:=mV (gC K base) K r.heap++cJ st.h fz,del:=sw K r.heap,new:=fC base (r.new.map (jX (gC K base))),raw:=K}:Out)=out;have o1:out.ib=mV (gC K base) K r.heap++cJ st.h fz:=by rw [<-rz]
 have o2:out.del=sw K r.heap:=by rw [<-rz]
 have o3:out.new=ups:=by rw [<-rz]
 have o4:out.raw=K:=by rw [<-rz]
 have o5:out.res=fa (gC K base) r.res:=by rw [<-rz]
 have htK:∀(i k:Nat),K[i]? =some k->lG st out k:=by
  intro i k hi;refine⟨EI i k hi,?_⟩;rcases gB i k hi with hh|⟨b,hh⟩
  . right;rw [o2];exact kY.2 (uc.2 ⟨i,hi,hh⟩)
  . left;rw [o1,lK];have :=wo (g:=gC K base) hi hh;obtain⟨y,hy⟩:=O!.1 this;rw [hy];rfl
 have htF:∀j∈fz,lG st out j:=by
  intro j hj;refine⟨by obtain⟨_,_,_,_,hr⟩:=zB j hj;simp [hr], .inl ?_⟩;rw [o1,lK];cases aw (mV (gC K base) K r.heap) j with
  |some y=>rfl
  |none=>exact ov fz j hj (zB j hj)
 have hHM:∀b,HM βc K.length b->∃k,lG st out k/\aA (β k)=some b:=by
  rintro b ⟨i,hi,hb⟩;have e1:K[i]? =some K[i]:=D! hi;rw [Ds i _ e1] at hb;exact⟨_,htK i _ e1,hb⟩
 rw [hl] at hp;have hK2:dg w w' A A2:=fun b hb=>hp.mono b (.inl hb);refine⟨A2,SN,hB.Sk hd ?_ ?_ ?_ hK2 hp.os hp.tape hp.output hp.size ?_ hp.bound ?_ ?_ ?_ ?_ ?_ ?_⟩
 . rw [o3];exact fun k b h=>jq _ k b dN h
 . rw [o1];intro k b h;rw [lK] at h;split at h
   . rename_i y hy;obtain⟨i,_,h1,_⟩:=rI hy;exact EI i k h1
   . obtain⟨h1,e,row,l,fr,h2,_⟩:=iG fz k b h;simp [h2]
 . rw [o3];exact mf
 . intro b hb ht;refine hp.same b hb fun hm=> ?_;obtain⟨k,h1,h2⟩:=hHM b hm;exact ht k h1 h2
 . intro b hb;rcases Nat.lt_or_ge b w.heap.size with fP|Ek
   . rcases hp.lx b fP hb with(h|⟨j,hj,vW⟩)|hm
     . exact .inl h
     . exact .inr (.inr ⟨j,htF j hj,vW⟩)
     . exact .inr (.inr (hHM b hm))
   . exact .inr (.inl Ek)
 . intro k ab h _;rw [o1,lK] at h;split at h
   . rename_i y hy;simp only [A!] at h;subst h;obtain⟨i,b,h1,h2,rfl⟩:=rI hy
     have :vG out k (jX (gC K base) b)=jX (gC K base) b:=by
      simp only [vG,o4,kY.2 (List.mem_of_getElem? h1),K!]
     rw [this];obtain⟨g1,g2⟩:=hp.kept i b h2;refine Nt (k:=50000+i) (gC K base) ((adP i k h1).trans (g2.trans (Ds i k h1)).symm) (fun j hj=>hg j (r3 j ?_)) g1;simp only [F!];exact .inr (.inl (zF h2 j hj))
   . obtain⟨hk,e,row,l,fr,nz,rfl⟩:=iG fz k ab h
     have hkK:aI K k=false :=by
      cases hh:aI K k with
      |false=>rfl
      |true=>exact absurd (kY.1 hh) (axO k hk)
     simp only [vG,o4,hkK,P!];rw [abK];obtain⟨xs,h1,h2,h3⟩:=hB.blocks k _ nz;simp only [BR,mf k (J8 k (by simp [nz]))];refine⟨xs,gJ h1 (fun b hb=>(hp.mono b (.inr ⟨k,hk,hb⟩)).2),bX (fun c x hx=>bY hK2 row c x hx) l xs h2,fun b hb=> ?_⟩;simp only [H?];exact(hp.mono b (.inr ⟨k,hk,hb⟩)).1
 . rw [o3];intro k ab h;obtain⟨j,b,rfl,h1,rfl,hj⟩:=nD k ab h;refine Nt (k:=60000+j) (gC K base) (FN j hj) (fun i hi=>hg i (r3 i ?_)) (hp.rows j b h1).1;simp only [F!];exact .inr (.inr (zG h1 i hi))
 . rw [o3,o2];intro k b ab h hb;obtain⟨j,c,rfl,h1,rfl,hj⟩:=nD k ab h;rw [FN j hj] at hb;rcases(hp.rows j c h1).2 b hb with h|⟨i,hi,PD⟩
   . exact .inl h
   . have e1:K[i]? =some K[i]:=D! hi;have axP:=PD;rw [Ds i _ e1] at axP;rcases gB i _ e1 with hh|⟨c',hh⟩
     . exact .inr ⟨K[i],kY.2 (uc.2 ⟨i,e1,hh⟩),EI i _ e1,axP⟩
     . exfalso;obtain⟨_,g2⟩:=hp.kept i c' hh;have :=hp.apart (50000+i) (60000+j) b (.inl ⟨i,c',rfl,by omega,hh⟩) (.inr ⟨j,rfl,hj⟩) (by rw [g2];exact PD) hb;omega
 . rw [o3];intro k k' b h h' hb bS;obtain⟨x,hx⟩:=O!.1 h;obtain⟨y,hy⟩:=O!.1 h';obtain⟨j,c,rfl,h1,_,hj⟩:=nD k x hx;obtain⟨j',c',rfl,h1',_,eY⟩:=nD k' y hy;rw [FN j hj] at hb;rw [FN j' eY] at bS;have :=hp.apart (60000+j) (60000+j') b (.inr ⟨j,rfl,hj⟩) (.inr ⟨j',rfl,eY⟩) hb bS;omega
 . rw [o5];refine zE (gC K base) r.res v (fun k hk=>hg k (r3 k ?_)) hp.res;simp only [F!];exact .inl hk
theorem sx(hB:aF C A β st a w)(hA:∀b,A b->A' b):∀(m:List Bool) (cM:List AV) (args:List Value),ai w A β args cM->(∀k∈(dm st.h m cM).2,∀b,aA (β k)=some b->A' b)->
  ai w A' β args (dm st.h m cM).1/\∀k∈(dm st.h m cM).2,∃e row l fr,st.h k=some (.row e row l fr)
 |m,[],args,h,_=>by
  grind[dm,ai]
 |m,x::xs,args,h,hk=>by
  obtain⟨v,vs,rfl,h1,h2⟩:=h;cases hm:m.headD false with
  |true=>
   simp only [dm,hm,K!] at hk |-;obtain⟨g1,g2⟩:=sx hB hA m.tail xs vs h2 hk;refine⟨?_,g2⟩;exact⟨v,vs,rfl,jo (fun b hb=>⟨hA b hb,rfl⟩) x v h1,g1⟩
  |false=>
   simp only [dm,hm,P!] at hk |-;obtain⟨p1,p2⟩:=vY hB hA x v h1 (fun k dJ=>hk k (A? _ dJ));obtain⟨g1,g2⟩:=sx hB hA m.tail xs vs h2 (fun k dJ=>hk k (Z! _ dJ));refine⟨?_,fun k dJ=> ?_⟩
   . simp [ai];grind
   grind
end
def PR(E:Env)(st:St)(o:Oper):Option Out:=match o.op with
 | .call c=>match c.callee with
   | .value f=>match ev st f,o.dst with
     | .fn (.func f) first bB,some d=>acs E st.h (st.kb+d) f (first++(c.args.toList.map (ev st))++bB)
     | .fn (.func f) first bB,none=>acs E st.h st.kb f (first++(c.args.toList.map (ev st))++bB)
     |_,_=>none
   |_=>none
 |_=>none
def FO(E:Env)(st:St)(o:Oper):Option Out:=match UQ E st o with
 |some out=>some out
 |none=>PR E st o
section
variable {P:Program} {C:Ctx} {A A':Nat->Prop} {β aO:Nat->Value} {st:St} {a:Act} {w:World} {E:Env} {T:cA}
theorem Dt(hE:gi P C E)(hB:aF C A β st a w) {o:Oper} {out:Out}(h:FO E st o=some out)(j8:iX st o=true)(dN:jy st.h out.new=true)(hc:∀p∈out.cond,p)
  {K:Act->World->Prop} {Q:Exit->Act->World->Prop} (hK:∀a' w',Rel C (st.put o.dst out) a' w'->K a' w'):o.wp P a w K Q:=by
 unfold FO at h;split at h
 . grind[Option.some.injEq,PQ]
 rename_i mf
 have hd:∀t,o.dst=some t->t<st.n:=by
  intro t ht;simp_all[iX,M!]
 obtain⟨dst,op,type,pos,after,guard⟩:=o;unfold PR at h;simp at h;split at h
 . rename_i c;obtain⟨callee,args,argTypes⟩:=c;split at h
   . rename_i f axQ;have hf:=bl hB f
     have key:∀(kB:FuncId) (first bB:List AV) (base:Nat),ev st f= .fn (.func kB) first bB->acs E st.h base kB (first++(args.toList.map (ev st))++bB)=some out->
       Oper.wp P {dst,op:= .call {callee:= .value f,args,argTypes},type,pos,after,guard} a w K Q:=by
      intro kB first bB base qo jN
      rw [qo] at hf;obtain⟨a1,a2,Nj,r1,r2⟩:=hf;unfold acs at jN;split at jN
      . rename_i m s hs;obtain⟨hv,SJ⟩:=hE.lq kB m s hs;have bP:=eD _ _ _ _ (eD _ _ _ _ r1 (oK hB args.toList)) r2;obtain⟨p1,p2⟩:=sx (A':=cq A β (dm st.h m (first++(args.toList.map (ev st))++bB)).2) hB (fun b h=> .inl h) m _ _ bP (fun k hk b hb=> .inr ⟨k,hk,hb⟩);have wi:=Nv hv hB hE.g hd p1 p2 jN dN hc
        have gT:(execOp a.eval {dst,op:= .call {callee:= .value f,args,argTypes},type,pos,after,guard}).run P w= .ok (.enter kB (a1.toList++args.toList.map a.eval++a2.toList).toArray) w:=by
         have e:(a1++args.map a.eval)++a2=(a1.toList++args.toList.map a.eval++a2.toList).toArray:=by
          simp
         have :=SJ (a1++args.map a.eval++a2) w;rw [e] at this;simp only [execOp,resolve,Nj,Deferred.ofValue,Sem.run_bind,Sem.run_pure,Result.andThen_ok,invoke,e,this]
        unfold Oper.wp;rw [gT];refine wi.mono fun e w' ⟨v,he,hrel⟩=> ?_;subst he;exact hK _ _ hrel
      grind
     grind
   grind
 grind
end
end Go.Vg

end
section
namespace Go.Vg
open Go
def oL:List AV->Option (List AV×Nat)
 | []=>none
 |a::r=>match r with
  | []=>match a with
    | .own k=>some ([],k)
    |_=>none
  |_::_=>match oL r with
   |some (x,k)=>some (a::x,k)
   |none=>none
def xK(E:Env)(h:bg)(t:TypeId):AV->AV->Option Out
 | .elem k sz i j, .agg cs=>match h k,oL cs with
   |some (.row e row l false),some (xs,k5)=>match h k5 with
    |some (.row _ _ _ false)=>bif E.gS t&&Nat.beq j 0&&Nat.beq sz row.length&&abH E.T t row.length&&Nat.blt 0 row.length&& !(Nat.beq k5 k) then
      match lu row (xs++ [.nil]) with
       |some x=>some {cond:= [i<l.length],res:= .undef,ib:= [(k, .gS e (some k5) row (l.set i x) i)]}
       |none=>none
     else none
    |_=>none
   |_,_=>none
 |_,_=>none
def p0(E:Env)(h:bg)(t:TypeId):AV->Option Out
 | .elem k sz i j=>match E.T.find t,h k with
   |some te,some (.gS _ (some k5) row l i0)=>match h k5 with
    |some (.row _ _ _ _)=>bif Nat.beq sz row.length&&Nat.beq j (row.length-1)&&Nat.blt 0 row.length then
      match pick te [.own k5] 0 with
       |some a=>some {cond:= [i<l.length,i=i0],res:=a}
       |none=>none
     else none
    |_=>none
   |_,_=>none
 |_=>none
def sQ(E:Env)(h:bg)(t:TypeId):AV->AV->Option Out
 | .own k, .int _ i=>match h k with
   |some (.gS _ _ row l _)=>bif bE E.T t row.length then some {cond:= [0<=i/\i<(l.length:Int)],res:= .elem k row.length i.toNat 0} else none
   |_=>none
 |_,_=>none
def closing(h:bg)(k:Nat):Option (Prop×List (Nat×AB)):=match h k with
 |some (.gS e (some k5) row l i)=>match h k5 with
  |some (.row e5 rJ l5 false)=>bif Nat.blt 0 row.length&& !(Nat.beq k5 k) then match oF row (l.getD i (Row.zero row)) (row.length-1) [.sl rJ l5] with
    |some y=>some (i<l.length,[(k, .row e row (l.set i y) false),(k5, .row e5 rJ l5 true)])
    |none=>none
   else none
  |_=>none
 |_=>none
def isNil {α:Type}:List α->Bool
 | []=>true
 |_::_=>false
def sR(E:Env)(h:bg)(o:Oper):Option (Prop×List (Nat×AB)):=match o.dst with
 |some d=>match E.cls d with
  |some k=>closing h k
  |none=>none
 |none=>none
def PT(E:Env)(st:St)(o:Oper):Option Out:=match sR E st.h o with
 |some (c,u)=>match FO E st o with
  |some out=>bif isNil out.ib&&isNil out.del&&isNil out.new&&isNil out.raw then some {out with cond:=c::out.cond,ib:=u} else none
  |none=>none
 |none=>match o.op with
  | .store t p v=>xK E st.h t (ev st p) (ev st v)
  | .load t p=>p0 E st.h t (ev st p)
  | .indexAddr t x i=>sQ E st.h t (ev st x) (ev st i)
  |_=>none
def act(E:Env)(st:St)(o:Oper):Option Out:=match PT E st o with
 |some out=>some out
 |none=>FO E st o
section
variable {P:Program} {C:Ctx} {A A':Nat->Prop} {β aO:Nat->Value} {st:St} {a:Act} {w:World} {E:Env} {T:cA}
theorem A7:∀(cs:List AV) (vs:List Value) (xs:List AV) (k:Nat),oL cs=some (xs,k)->ai w A β vs cs->∃us,vs=us++ [β k]/\ai w A β us xs/\(β k).oneCell'=true
 | [],vs,xs,k,h,_=>by cases h
 |a::r,vs,xs,k,h,hr=>by
  obtain⟨v,cg,rfl,h1,h2⟩:=hr;unfold oL at h;cases r with
  |nil=>
   subst h2;cases a with
   |own k'=>
    obtain⟨rfl,rfl⟩:=h;exact⟨[],by rw [h1.1];rfl,by simp [ai],by rw [<-h1.1];exact h1.2⟩
   |_=>cases h
  |cons b r=>
   simp at h;split at h
   . rename_i x k' hl;simp at h;obtain⟨rfl,rfl⟩:=h;obtain⟨us,e1,e2,e3⟩:=A7 (b::r) cg x k' hl h2;refine⟨v::us,by rw [e1];rfl,?_,e3⟩;exact⟨v,us,rfl,h1,e2⟩
   . cases h
theorem adQ {α:Type}(p s:List α)(x y:α):(p++x::s).set p.length y=p++y::s:=by
 grind
theorem xL {α:Type}:∀(l:List α) (i:Nat) (x:α),l[i]? =some x->l.set i x=l
 | [],_,_,h=>by rfl
 |a::l,0,x,h=>by grind
 |a::l,i+1,x,h=>by
  rw [List.set_cons_succ,xL l i x (by simpa using h)]
theorem zH(hB:aF C A β st a w) {k e i:Nat} {j:Option Nat} {row:List Ty} {l:List (Row row)}(h:st.h k=some (.gS e j row l i)):
  (β k= .slice none 0 0/\l= [])\/∃b cap cur v0,β k= .slice (some ⟨b,0,none⟩) l.length cap/\w.heap[b]? =some (.cells cur e (0,0))/\l.length<=cap/\cap<=maxLen/\cur.size=cap*row.length/\¬A b/\
    E2 (bC w A row) ((cur.toList.take (l.length*row.length)).set (i*row.length+(row.length-1)) v0) l/\
    ∀j',j=some j'->(cur.toList.take (l.length*row.length))[i*row.length+(row.length-1)]? =some (β j'):=by
 obtain⟨xs,v0,h1,h2,h3,h4⟩:=hB.blocks k _ h;rcases h1.2 with⟨hv,hn⟩|⟨g,cap,cur,hv,_,hg,g4,g5,g6,g7⟩
 . grind
 . exact .inr ⟨g,cap,cur,v0,hv,hg,g4,g5,g6,h2 g (by rw [hv];rfl),by grind,by grind⟩
theorem FP(hB:aF C A β st a w) {k e:Nat} {row:List Ty} {l:List (Row row)} {fr:Bool}(h:st.h k=some (.row e row l fr)):(β k).oneCell'=true :=by
 rcases e9 hB h with⟨h1,_⟩|⟨b,cap,cur,h1,_⟩<;>rw [h1]<;>rfl
theorem En(hT:bO E.T P)(hB:aF C A β st a w) {t:TypeId} {x:AV} {vx:Value}(hx:aa w A β vx x) {out:Out}(h:p0 E st.h t x=some out)(hc:∀p∈out.cond,p):
  Reads P A β w (Instr.loadAt t vx) out:=by
 unfold p0 at h;split at h
 . rename_i k sz i j;split at h
   . rename_i te e k5 row l i0 ht hk;split at h
     . rename_i e5 rJ l5 fr5 vD;cases hq:(Nat.beq sz row.length&&Nat.beq j (row.length-1)&&Nat.blt 0 row.length) with
       |false=>grind
       |true=>
        simp [hq,K!] at h;simp only [B!] at hq;obtain⟨⟨q1,q2⟩,q3⟩:=hq;have q1:=E! q1;have q2:=E! q2;subst q1;subst q2;split at h
        . rename_i av hpk;simp at h;subst h;have iJ:i=i0:=hc _ (by simp);subst iJ;obtain⟨b,m,cap,cB,rfl⟩:=hx;rcases zH hB hk with⟨_,hl⟩|⟨b',iS,cur,v0,hv,hg,hle,vC,dy,iV,hL,hch⟩
          . grind
          . rw [cB] at hv;obtain⟨rfl,rfl,rfl⟩:=hv;have mW:=hch k5 rfl;rw [i?] at mW;split at mW
            . have hr:w.rangeAt b (i*row.length+(row.length-1)) [β k5]:=by
               intro jj u hj;cases jj with
               |zero=>
                simp at hj;subst hj;simp [World.cell?,hg];simpa using mW
               |succ jj=>simp at hj
              have Ns:ai w A β [β k5] [.own k5]:=by
               exact⟨_,[],rfl,⟨rfl,FP hB vD⟩,rfl⟩
              obtain⟨v',g1,g2⟩:=l9 (β:=β) hT ht Ns hpk hr;exact⟨⟨rfl,rfl,rfl⟩,v',g1,g2⟩
            grind
        grind
     grind
   grind
 grind
theorem FQ(hT:bO E.T P)(hB:aF C A β st a w) {t:TypeId} {x i:AV} {vx vi:Value}(hx:aa w A β vx x)(hi:aa w A β vi i) {out:Out}
  (h:sQ E st.h t x i=some out) (hc:∀p∈out.cond,p):Reads P A β w (Instr.indexAt t vx vi) out:=by
 unfold sQ at h;split at h
 . rename_i k kk n;split at h
   . rename_i e' j row l i0 hk;cases hs:bE E.T t row.length with
     |false=>grind
     |true=>
      simp [hs,K!,A!] at h;subst h;obtain⟨h0,h1⟩:=eC hc;obtain⟨e,ii,hu,iJ,cZ,iT⟩:=e8 hT hs;simp [aa] at hx hi;rcases zH hB hk with⟨_,hl⟩|⟨b,cap,cur,v0,hv,_⟩
      . grind
      . refine⟨⟨rfl,rfl,rfl⟩, .pointer (some ⟨b,0+n.toNat*row.length,none⟩),?_,?_⟩
        . simp_all[hi,jz]
        grind[aa]
   grind
 grind
theorem J9(hT:bO E.T P)(hB:aF C A β st a w) {dst:Option Nat}(hd:∀t,dst=some t->t<st.n) {t:TypeId} {p x:AV} {vp vx:Value}(hp:aa w A β vp p)(hx:aa w A β vx x) {out:Out}
  (h:xK E st.h t p x=some out) (hc:∀p∈out.cond,p):∃w',(Instr.storeAt t vp vx).run P w= .ok () w'/\Rel C (st.put dst out) (a.put dst undef) w':=by
 unfold xK at h;split at h
 . rename_i k sz i j cs;split at h
   . rename_i e row l xs k5 hk Nw;split at h
     . rename_i e5 rJ l5 vD;cases hq:(E.gS t&&Nat.beq j 0&&Nat.beq sz row.length&&abH E.T t row.length&&Nat.blt 0 row.length&& !(Nat.beq k5 k)) with
       |false=>grind
       |true=>
        simp only [hq,K!] at h;simp only [B!] at hq;obtain⟨⟨⟨⟨⟨_,q0⟩,q1⟩,q2⟩,q3⟩,q4⟩:=hq;have q0:=E! q0;have q1:=E! q1;subst q0;subst q1;have q3:=M! q3;split at h
        . rename_i y hy;simp only [A!] at h;subst h;have hi:i<l.length:=eC hc;simp only [aa] at hp hx;obtain⟨b,m,cap,cB,rfl⟩:=hp;obtain⟨arr,rfl,hx⟩:=hx;obtain⟨us,e1,e2,e3⟩:=A7 cs arr.toList xs k5 Nw hx;rcases e9 hB hk with⟨_,hl⟩|⟨b',iS,cur,hv,hg,hle,vC,dy,hL,iV⟩
          . grind
          . rw [cB] at hv;simp only [Value.slice.injEq,A!,Addr.mk.injEq,and_true] at hv;obtain⟨rfl,rfl,rfl⟩:=hv;simp only [B?,Z?] at iV;have hb:aA (β k)=some b:=by rw [cB];rfl
            obtain⟨ii,iJ,py⟩:=qj hT q2
            have hyr:bC w A row (us++ [Value.slice none 0 0]) y:=by
             refine ql (β:=β) row (xs++ [.nil]) _ y ?_ hy;grind[vN,ai,aa]
            have hlen:us.length+1=row.length:=by
             have :=gK row _ y hyr;grind
            have l8:arr.size=ii.size:=by
             have :arr.toList.length=arr.size:=by simp
             grind
            have iI:∀u∈arr.toList,u.oneCell'=true :=by
             grind[agh,List.mem_append_left,List.mem_singleton]
            have AZ:l.length*row.length<=cur.size:=by simp_all[F?]
            have hyy:∀c,bC w A row c l[i]->bC w A row (c.take 0++(us++ [Value.slice none 0 0])++c.drop (0+(us++ [Value.slice none 0 0]).length)) y/\((us++ [Value.slice none 0 0])≠ []->0+(us++ [Value.slice none 0 0]).length<=c.length):=fun c pj=>by
             have iu:=gK row c _ pj;simp_all[r?,Q?,List.take_zero,t?,C?]
            rcases Fv hi hL hyy AZ with⟨g1,g2,g3⟩|ph
            . have hul:(us++ [Value.slice none 0 0]).length=row.length:=by grind
              have hal:arr.toList.length=row.length:=by grind
              rw [hul] at g3
              have rC:i*row.length+0+arr.size<=cur.size:=by
               omega
              have abX:(Value.agg arr).cells=arr:=rfl;refine⟨_,mU iJ (v:= .agg arr) (by grind) (by grind) hg (by grind),?_⟩;rw [abX];refine hB.write hd (k:=k) (fz:= []) (ab:= .gS e (some k5) row (l.set i y) i) (by grind) hb iV hg ⟨rfl,rfl,rfl⟩ (by simp) ?_ (by rfl);intro A2 h1 h2 h3
              have Fp:∀b',A2 b'->A b':=fun b' h=>by
               grind
              have SK:dg w (w.setRow b (cur.toList.take (i*row.length+0)++arr.toList++cur.toList.drop (i*row.length+0+arr.toList.length)).toArray) A A2:=fun b' h=>⟨h1 b' h,setRow_other w b b' _ (fun h'=>iV (h'▸h))⟩
              have hP:cur.toList.take (i*row.length+0)++arr.toList++cur.toList.drop (i*row.length+0+arr.toList.length)=(cur.toList.take (i*row.length)++us)++β k5::cur.toList.drop (i*row.length+row.length):=by
               grind
              have hPl:(cur.toList.take (i*row.length)++us).length=i*row.length+(row.length-1):=by
               grind
              have fP:i*row.length+row.length<=l.length*row.length:=by
               have :(i+1)*row.length<=l.length*row.length:=Nat.mul_le_mul_right _ hi;grind
              refine⟨_, .slice none 0 0,⟨?_, .inr ⟨b,cap,_,by grind,by omega,setRow_heap w b cur _ e _ hg,by grind,vC,?_,rfl⟩⟩,fun b' bS=> ?_,?_,fun j' eY=> ?_⟩
              . grind
              . grind
              . grind
              . simp only [List.length_set]
                have hg2:(cur.toList.take (i*row.length+0)++(us++ [Value.slice none 0 0])++cur.toList.drop (i*row.length+0+(us++ [Value.slice none 0 0]).length))=(cur.toList.take (i*row.length)++us)++Value.slice none 0 0::cur.toList.drop (i*row.length+row.length):=by
                 simp only [Nat.add_zero,hul,U!,List.singleton_append]
                have g2':=g2;simp only [hg2] at g2';simp only [hP] at SK |-;rw [<-List.take_set,<-hPl,adQ];exact bX (fun c x hx=>bY SK row c x hx) _ _ g2'
              . simp only [A!] at eY;subst eY;simp only [List.length_set,hP];rw [i?,W! (by omega),<-hPl,List.getElem?_append_right (N! _),Nat.sub_self];rfl
            grind
        grind
     grind
   grind
 grind
theorem aF.close(hB:aF C A β st a w) {k e k5 e5 i:Nat} {row rJ:List Ty} {l:List (Row row)} {l5:List (Row rJ)} {y:Row row}
  (hk:st.h k=some (.gS e (some k5) row l i)) (vD:st.h k5=some (.row e5 rJ l5 false)) (dR:k5≠k) (iT:0<row.length) (hi:i<l.length)
  (hy:oF row (l.getD i (Row.zero row)) (row.length-1) [.sl rJ l5]=some y) {cw:St} (hn:cw.n=st.n) (ht:cw.t=st.t) (hg:cw.g=st.g)
  (hh:∀q,cw.h q=if q=k then some (.row e row (l.set i y) false) else if q=k5 then some (.row e5 rJ l5 true) else st.h q):Rel C cw a w:=by
 let A1:Nat->Prop :=fun b=>A b\/aA (β k5)=some b
 have hK:dg w w A A1:=fun b h=>⟨.inl h,rfl⟩
 have adS:∀q,(cw.h q).isSome↔(st.h q).isSome:=by
  grind
 have axR:(ny st.h (.own k5))=(.sl rJ l5,[k5]):=by grind[ny,gu]
 have wc:aa w A1 β (β k5) (.sl rJ l5):=by
  have :=(vY (A':=A1) hB (fun b h=> .inl h) (.own k5) (β k5) (by simp only [aa];exact⟨trivial,FP hB vD⟩) (fun q hq b hb=>by
   grind)).1
  grind
 refine⟨A1,β,?_⟩;refine⟨hB.defers,by rw [hn];exact hB.size,fun q=>by rw [ht];exact jo hK _ _ (hB.tmps q),fun q ab hq=> ?_,fun q q' b h1 h2=>hB.apart q q' b ((adS q).1 h1) ((adS q').1 h2),fun b hb=> ?_,hB.frame,fun b hb hA=> ?_,fun b hb=> .inl (hB.base b hb),fun q b hq hb=>hB.oI q b ((adS q).1 hq) hb,fun q d hq=>hB.sk q d (by grind),fun q d hd=>(hB.laid q d hd).mono hK,hB.held⟩
 . rw [hh] at hq;by_cases h1:q=k
   . subst h1;rw [W! rfl] at hq;simp only [A!] at hq;subst hq;rcases zH hB hk with⟨_,hl⟩|⟨b,cap,cur,v0,hv,hgc,hle,vC,dy,iV,hL,hch⟩
     . grind
     . have hN:(cur.toList.take (l.length*row.length)).length=l.length*row.length:=by
        simp_all
       have mW:=hch k5 rfl;have hL1:=bX (fun c x hx=>bY hK row c x hx) l _ hL;rw [getD_eq l _ _ hi] at hy
       have yM:=Fv (A:=A1) (w:=w) (i:=i) (j:=row.length-1) (cur:=((cur.toList.take (l.length*row.length)).set (i*row.length+(row.length-1)) v0).toArray) (us:= [β k5]) (y:=y) hi (by
        grind[List.take_of_length_le,List.length_set]) (fun c hc=>by
        have :=tZ (β:=β) row [.sl rJ l5] l[i] (row.length-1) c [β k5] y hc (by grind[ai]) hy;omega) (by grind)
       rcases yM with⟨g1,g2,g3⟩|ph
       . refine⟨cur.toList.take (l.length*row.length),⟨by grind, .inr ⟨b,cap,cur,by grind,by omega,hgc,by grind,vC,dy,by grind⟩⟩,?_,fun b' bS=> ?_⟩
         . have hp:i*row.length+(row.length-1)<l.length*row.length:=by
            have :(i+1)*row.length<=l.length*row.length:=F? _ hi;rw [h?,Nat.one_mul] at this;omega
           have dN:((cur.toList.take (l.length*row.length)).set (i*row.length+(row.length-1)) v0).take (i*row.length+(row.length-1))++ [β k5]++((cur.toList.take (l.length*row.length)).set (i*row.length+(row.length-1)) v0).drop (i*row.length+(row.length-1)+ [β k5].length)=cur.toList.take (l.length*row.length):=by
            have h2:((cur.toList.take (l.length*row.length)).set (i*row.length+(row.length-1)) v0).set (i*row.length+(row.length-1)) (β k5)=cur.toList.take (l.length*row.length):=by
             rw [List.set_set];exact xL _ _ _ mW
            rw [z?,W! (by rw [List.length_set,hN];exact hp)] at h2;simpa using h2
           simp only [dN] at g2;rw [I? (by omega)] at g2;exact g2
         . rw [hv] at bS;simp only [aA,A!] at bS;subst bS;simp only [B?,Z?];rintro(h|h)
           . exact iV h
           . exact dR (hB.apart k5 q b (by simp [vD]) (by simp [hk]) h (by rw [hv];rfl))
       grind
   . rw [T! h1] at hq;by_cases h2:q=k5
     . subst h2;rw [W! rfl] at hq;simp only [A!] at hq;subst hq;obtain⟨xs,g1,g2,g3⟩:=hB.blocks q _ vD;refine⟨xs,g1,bX (fun c x hx=>bY hK rJ c x hx) _ _ g2,fun b hb=> ?_⟩;simp only [H?];exact .inr hb
     . rw [T! h2] at hq
       have :=vL (w':=w) (A':=A1) (aO:=β) (new:= []) (k:=q) (fun _ _=>rfl) rfl (fun b hb=>⟨rfl,fun h=>by
        rcases h with h|h
        . exact h
        . exact absurd (hB.apart q k5 b (by simp [hq]) (by simp [vD]) hb h) h2⟩) hK (hB.blocks q ab hq)
       simpa [c6] using this
 . rcases hb with hb|hb
   . exact hB.bound b hb
   . exact lJ hB (by simp [vD]) hb
 . rcases hA with hA|hA
   . exact hB.lx b hb hA
   . rcases hB.oI k5 b (by simp [vD]) hA with h|h
     . omega
     . exact .inr h
theorem xM {α:Type}:∀ {l:List α},isNil l=true->l= []
 | [],_=>rfl
 |_::_,h=>by cases h
theorem SO(hE:gi P C E)(hB:aF C A β st a w) {o:Oper} {out:Out}(h:act E st o=some out)(j8:iX st o=true)(dN:jy st.h out.new=true)(hc:∀p∈out.cond,p)
  {K:Act->World->Prop} {Q:Exit->Act->World->Prop} (hK:∀a' w',Rel C (st.put o.dst out) a' w'->K a' w'):o.wp P a w K Q:=by
 unfold act at h;split at h
 . rename_i adN h0;simp only [A!] at h;subst h
   have hd:∀t,o.dst=some t->t<st.n:=by
    intro t ht;simp_all[iX,M!]
   unfold PT at h0;split at h0
   . rename_i c u iu;split at h0
     . rename_i PU h1;cases hq:(isNil PU.ib&&isNil PU.del&&isNil PU.new&&isNil PU.raw) with
       |false=>grind
       |true=>
        simp only [hq,cond_true,Option.some.injEq] at h0;subst h0;simp only [Bool.and_eq_true] at hq;obtain⟨⟨⟨q1,q2⟩,q3⟩,q4⟩:=hq;have q1:=xM q1;have q2:=xM q2;have q3:=xM q3;have q4:=xM q4;have hcc:c:=hc c (by simp);refine Dt hE hB h1 j8 (by omega) (fun p hp=>hc p (by grind)) (fun a' w' hr=>hK a' w' ?_);obtain⟨A',aO,SP⟩:=hr
        have PV:∀q,(st.put o.dst PU).h q=st.h q:=by
         intro q;simp only [St.put,Fb,q1,q2,q3,aw,aI];grind[c6]
        have :∃k,closing st.h k=some (c,u):=by
         grind[sR]
        obtain⟨k,iu⟩:=this;unfold closing at iu;split at iu
        . rename_i e k5 row l i hk;split at iu
          . rename_i e5 rJ l5 vD;cases hqq:(Nat.blt 0 row.length&& !(Nat.beq k5 k)) with
            |false=>grind
            |true=>
             simp only [hqq,K!] at iu;simp only [B!,L?] at hqq;split at iu
             . rename_i y hy;obtain⟨rfl,rfl⟩:=iu;have dR:k5≠k:=fun h=>by grind
               refine aF.close SP (k:=k) (k5:=k5) (by rw [PV];exact hk) (by rw [PV];exact vD) dR (M! hqq.1) hcc hy rfl ?_ rfl (fun q=> ?_)
               . rfl
               . rw [PV];simp only [St.put,Fb,q2,q3,aw,aI,vG,q4];by_cases e1:q=k
                 . subst e1;simp [c6]
                 . by_cases e2:q=k5
                   . subst e2;simp [e1,bc e1,c6]
                   . simp only [bc e1,bc e2,P!,T! e1,T! e2];cases st.h q with
                     |none=>rfl
                     |some ab=>simp [c6]
             grind
          grind
        grind
     grind
   . rename_i mf;clear mf;obtain⟨dst,op,type,pos,after,guard⟩:=o;simp only at hd hK h0;split at h0
     . rename_i t p v;obtain⟨w',g1,g2⟩:=J9 hE.fE hB hd (bl hB p) (bl hB v) h0 hc;refine sM (w':=w') ?_ (hK _ _ g2);simp only [execOp,Sem.run_bind,g1,Result.andThen_ok,Sem.run_pure]
     . rename_i t p;exact cN (s:=Instr.loadAt t (a.eval p)) (fun w=>by simp [execOp]) (Reads.qn hB hd (En hE.fE hB (bl hB p) h0 hc)) hK
     . rename_i t x i;exact cN (s:=Instr.indexAt t (a.eval x) (a.eval i)) (fun w=>by simp [execOp]) (Reads.qn hB hd (FQ hE.fE hB (bl hB x) (bl hB i) h0 hc)) hK
     . cases h0
 grind[Dt]
end
end Go.Vg

end
section
namespace Go.Vg
open Go
mutual
def aP(p:Nat->Bool):AV->AV
 | .own k=>bif p k then .dz else .own k
 | .pre k n=>bif p k then .dz else .pre k n
 | .view k sz off n=>bif p k then .dz else .view k sz off n
 | .ref k off=>bif p k then .dz else .ref k off
 | .elem k sz i j=>bif p k then .dz else .elem k sz i j
 | .agg cs=> .agg (eO p cs)
 | .b4 vs=> .b4 (eO p vs)
 | .fn f first bB=> .fn f (eO p first) (eO p bB)
 | .ia ks cs=> .ia ks (eO p cs)
 |a=>a
def eO(p:Nat->Bool):List AV->List AV
 | []=> []
 |a::aK=>aP p a::eO p aK
end
def fb(p:Nat->Bool):Option Nat->Option Nat
 |some k=>bif p k then none else some k
 |none=>none
def dO(p:Nat->Bool):AB->AB
 | .cells cs=> .cells (eO p cs)
 | .views e j n m sz=> .views e (fb p j) n m sz
 | .gS e j row l i=> .gS e (fb p j) row l i
 |b=>b
def cK(p:Nat->Bool):Option AB->Option AB
 |some b=>some (dO p b)
 |none=>none
def KS.has(kb:Nat):KS->Nat->Bool
 | .one j,k=>Nat.beq k j
 | .dst d,k=>Nat.beq k (kb+d) || (Nat.ble (mA (kb+d)) k&&Nat.blt k (mA (kb+d)+100))
def cL(kb:Nat):List KS->Nat->Bool
 | [],_=>false
 |x::r,k=>x.has kb k || cL kb r k
def Nx(ops:List Oper)(j:Nat):Option Nat:=match ops[j]? with
 |some o=>o.dst
 |none=>none
def oM(ops:List Oper)(i:Nat):Bool:=ops.any fun o=>match o.guard with
 |some (j,_)=>Nat.beq j i
 |none=>false
def PW(ops:List Oper)(t:Nat->AV)(o:Oper):Option Bool:=match o.guard with
 |none=>some true
 |some (j,want)=>match Nx ops j with
  |none=>none
  |some g=>match t g with
   | .tt=>some want
   | .ff=>some (!want)
   | .undef=>some false
   |_=>none
def lL:List Oper->List Nat
 | []=> []
 |o::r=>match o.dst with
  |some d=>d::lL r
  |none=>lL r
def Out.wr(o:Out):List Nat:=o.ib.map (·.1)++(o.del++o.new.map (·.1))
def Out.zI(o:Out):List Nat:=aD o.res++(wj o.ib++wj o.new)
def Out.skip:Out:= {cond:= [],res:= .undef}
def qq(a b:List Nat):Bool:=a.all fun k=> !aI b k
structure Ev where
 i:Nat
 o:Oper
 out:Option Out
 kr:List Nat
 pre:List Nat
def Ev.dP(e:Ev):Out:=match e.out with
 |some out=>out
 |none=> .skip
def rK(st:St)(o:Oper):List Nat:=match o.op with
 | .call _=>behind st.h (aV (o.op.operands.toList.map (ev st)))
 |_=> []
def fS(h:bg):List Nat->List Nat
 | []=> []
 |k::r=>match h k with
  |some (.gS _ (some j) _ _ _)=>j::fS h r
  |_=>fS h r
def oN(E:Env)(h:bg)(o:Oper):List Nat:=match o.dst with
 |some d=>match E.cls d with
  |some k=>k::fS h [k]
  |none=> []
 |none=> []
def lM(E:Env)(st:St)(o:Oper):List Nat:=(match o.dst with
 |some d=>st.kb+d
 |none=>st.kb)::(aV (o.op.operands.toList.map (ev st))++(rK st o++(fS st.h (aV (o.op.operands.toList.map (ev st)))++oN E st.h o)))
def slotsOf:List Operand->List Nat
 | []=> []
 | .tmp i::r=>i::slotsOf r
 |_::r=>slotsOf r
def looks(ops:List Oper)(o:Oper):List Nat:=(match o.guard with
 |some (j,_)=>match Nx ops j with
  |some g=> [g]
  |none=> []
 |none=> [])++slotsOf o.op.operands.toList
def waits(f e:Ev):Bool:=aI f.pre e.i
def A8:List Nat->List Nat->List Nat
 | [],b=>b
 |k::r,b=>bif aI b k then A8 r b else A8 r (k::b)
def Ny(k:Nat):List Ev->List Nat
 | []=> []
 |e::r=>bif Nat.beq e.i k then e.pre else Ny k r
def mg(tr:List Ev):List Edge->List Nat
 | []=> []
 |x::r=>bif Region.binds .any x then A8 (x.on::Ny x.on tr) (mg tr r) else mg tr r
def A9(l:List Nat):Option Nat->Bool
 |some d=> !aI l d
 |none=>true
def pH(ops:List Oper)(e f:Ev):Bool:=
 A9 (looks ops f.o) e.o.dst&&A9 (looks ops e.o) f.o.dst&&
 (match e.o.dst,f.o.dst with
   |some d,some d'=> !Nat.beq d d'
   |_,_=>true)&&
 qq e.dP.wr f.kr&&qq f.dP.wr e.kr&&qq e.dP.wr f.dP.wr&&qq e.dP.zI (f.dP.new.map (·.1))&&qq f.dP.zI (e.dP.new.map (·.1))
def yR(kb:Nat)(dr:Bool)(ops:List Oper)(tr:List Ev)(f:Ev):Bool:=
 bif dr then(tr.all fun e=>qq e.dP.zI (f.dP.new.map (·.1))&&(waits f e || pH ops e f))&&(f.o.after.toList.all fun x=> !Region.binds .any x || Nat.blt x.on f.i)&&
  (f.dP.new.all fun x=>cL kb ((lL ops).map .dst) x.1) else true
def agj:AV->AV
 | .bool b=>bif b then .tt else .ff
 |a=>a
def St.lit(st:St)(d:Nat)(a:AV):St:= {st with t:=fun i=>bif Nat.beq i d then a else st.t i,cm:= [],news:= [],Df:= []}
def St.clear(st:St):St:= {st with cm:= [],news:= [],Df:= []}
def sS(b:Bool)(W:List Nat)(base s1 s2:St):Option St:=
 match s1.Df,s2.Df with
 | [],[]=>some {base with
     t:=fun i=>bif aI W i then AE b (s1.t i) (s2.t i) else aP (cL base.kb (s1.news++s2.news)) (base.t i)
     h:=fun k=>bif aI (s1.cm++s2.cm) k then AF b (s1.h k) (s2.h k) else cK (cL base.kb (s1.news++s2.news)) (base.h k)
     cm:=(s1.cm++s2.cm)++base.cm
     news:=base.news++(s1.news++s2.news)}
 |_,_=>none
def EJ(b:Bool)(c1 c2:List Prop):List Prop :=match c1,c2 with
 | [],[]=> []
 |_,_=> [(b=true->Dh c1)/\(b=false->Dh c2)]
def both(b:Bool)(W:List Nat)(base:St)(r1 r2:Option (List Prop×St)):Option (List Prop×St):=match r1,r2 with
 |some (c1,s1),some (c2,s2)=>match sS b W base s1 s2 with
  |some s=>some (EJ b c1 c2,s)
  |none=>none
 |_,_=>none
def xN(c:List Prop):Option (List Prop×St)->Option (List Prop×St)
 |some (c',s)=>some (c++c',s)
 |none=>none
def fork(g:Bool)(W:List Nat)(d:Option Nat)(st:St)(next :St->Option (List Prop×St)):Option (List Prop×St):=match d with
 |some d=>bif g then(match st.t d with
  | .bool b=>both b (d::W) st (next (st.lit d .tt)) (next (st.lit d .ff))
  |_=>next st) else next st
 |none=>next st
def wu(E:Env)(dr:Bool)(ops:List Oper):Nat->List Ev->List Oper->St->Option (List Prop×St)
 |_,_,[],st=>some ([],st)
 |i,tr,o::rest,st=>match PW ops st.t o with
  |none=>none
  |some false=>bif iX st o&&yR st.kb dr ops tr ⟨i,o,none,lM E st o,mg tr o.after.toList⟩ then
    wu E dr ops (i+1) (⟨i,o,none,lM E st o,mg tr o.after.toList⟩::tr) rest (st.put o.dst .skip) else none
  |some true=>match act E st o with
   |none=>none
   |some out=>bif iX st o&&(jy st.h out.new&&yR st.kb dr ops tr ⟨i,o,some out,lM E st o,mg tr o.after.toList⟩) then
     xN out.cond (fork (oM ops i) (lL rest) o.dst (st.put o.dst out) (wu E dr ops (i+1) (⟨i,o,some out,lM E st o,mg tr o.after.toList⟩::tr) rest)) else none
def St.ahead(st:St)(W:List Nat):St:= {st with
 t:=fun i=>aP (cL st.kb (W.map .dst)) (st.t i)
 h:=fun k=>cK (cL st.kb (W.map .dst)) (st.h k)
 news:=st.news++W.map .dst}
def Nz(d:Nat)(o:Oper):Option (TypeId×Int×Operand):=match o.op,o.dst,o.guard with
 | .insert t (.tmp d') (.const (.int .i64 k)) x,none,none=>bif Nat.beq d' d then some (t,k,x) else none
 |_,_,_=>none
def xO(d:Nat):Operand->Bool
 | .tmp i=> !Nat.beq i d
 |_=>true
def cV(st:St)(t:TypeId)(d:Nat):List Oper->List Int×List AV×List Oper
 | []=>([],[],[])
 |o::r=>match Nz d o with
  |some (t',k,x)=>bif Nat.beq t' t&&xO d x&&decide (lo .i64<=k/\k<=hi .i64) then(k::(cV st t d r).1,ev st x::(cV st t d r).2.1,(cV st t d r).2.2) else([],[],o::r)
  |none=>([],[],o::r)
def ud(T:cA)(st:St):List Oper->Option (Nat×List Int×List AV×List Oper)
 | []=>none
 |o::r=>match o.op,o.dst,o.guard with
  | .makeMap t none,some d,none=>match T.find t with
    |some te=>match te.desc with
     | .map kt _=>bif dW T kt zp&&jx (cV st t d r).1&&Nat.blt d st.n then some (d,cV st t d r) else none
     |_=>none
    |none=>none
  |_,_,_=>none
def Ba(E:Env)(dr:Bool)(ops:List Oper)(st:St):Option (List Prop×St):=
 bif dr then wu E true ops 0 [] ops (st.ahead (lL ops)) else match ud E.T st ops with
  |some (d,ks,cs,rest)=>wu E false ops (cs.length+1) [] rest (st.put (some d) {cond:= [],res:= .ia ks cs})
  |none=>wu E false ops 0 [] ops st
inductive Ex where
 |norm
 |exit (i:Nat)
 |ret
def vE:Code->List Nat
 | .region _ ops _=>lL ops.toList
 | .seq x y=>vE x++vE y
 | .cond _ x y=>vE x++vE y
 | .block _ b=>vE b
 | .loop b=>vE b
 | .scope b=>vE b
 |_=> []
def kZ:Code->Bool
 | .skip=>true
 | .region _ _ _=>true
 | .seq x y=>kZ x&&kZ y
 | .cond _ x y=>kZ x&&kZ y
 | .block _ b=>kZ b
 |_=>false
def fH(E:Env):Code->St->Option (List Prop×St)
 | .skip,st=>some ([],st)
 | .region _ ops d,st=>Ba E d ops.toList st
 | .seq x y,st=>match fH E x st with
   |some (c,cw)=>xN c (fH E y cw)
   |none=>none
 | .cond c x y,st=>match ev st c with
   | .tt=>fH E x st
   | .ff=>fH E y st
   | .bool b=>both b (vE x++vE y) st (fH E x st.clear) (fH E y st.clear)
   |_=>none
 | .block _ b,st=>fH E b st
 |_,_=>none
def NA:List Prop->Prop->Prop
 | [],k=>k
 |p::ps,k=>p/\NA ps k
inductive Loc where
 |slot (i:Nat)
 |cell (k off:Nat)
structure ak where
 τ:Type
 aJ:List (Nat×(τ->AV))
 keys:List (Nat×(τ->AB)):= []
 bU:List (Loc×Nat):= []
 drop:List Nat:= []
 bt:List (Nat×(τ->AV)):= []
 inv:τ->Prop
 ag:τ->Nat
def fT {α β:Type}(l:List (Nat×(α->β)))(k:Nat):Option (α->β):=match l with
 | []=>none
 |(j,a)::r=>bif Nat.beq k j then some a else fT r k
def azr(st:St):Loc->AV
 | .slot i=>st.t i
 | .cell k off=>match st.h k with
   |some (.cells cs)=>cs.getD off .dz
   |_=> .dz
def sources(st:St):List (Loc×Nat)->Option (List (Nat×Option Nat))
 | []=>some []
 |(l,K)::r=>match azr st l,sources st r with
  | .own k,some s=>some ((K,some k)::s)
  | .ref k _,some s=>some ((K,some k)::s)
  | .nil,some s=>some ((K,none)::s)
  |_,_=>none
def eb:List (Nat×Option Nat)->List Nat
 | []=> []
 |(_,some k)::r=>k::eb r
 |(_,none)::r=>eb r
def cy(s:List (Nat×Option Nat))(k:Nat):Option (Option Nat):=match s with
 | []=>none
 |(j,a)::r=>bif Nat.beq k j then some a else cy r k
def cG(L:ak)(W:List Nat):List KS:=W.map .dst++(L.bU.map (fun x=> .one x.2)++L.drop.map .one)
def j9(L:ak)(W:List Nat)(base:St)(x:L.τ):St:=
 {base with
  t:=fun i=>match fT L.aJ i with
   |some f=>f x
   |none=>bif aI W i then .dz else aP (cL base.kb (cG L W)) (base.t i)
  h:=fun k=>match fT L.keys k with
   |some f=>some (f x)
   |none=>bif cL base.kb (cG L W) k then none else cK (cL base.kb (cG L W)) (base.h k)
  cm:= [],news:= [],Df:= []}
def wv(s:List (Nat×Option Nat))(bad:Nat->Bool)(k K:Nat):Bool:=match cy s K with
 |some (some j)=>Nat.beq k j
 |some none=>false
 |none=>Nat.beq k K&& !bad K
mutual
def FT(s:List (Nat×Option Nat))(bad:Nat->Bool):AV->AV->List Prop
 |_, .dz=> []
 | .undef, .undef=> []
 | .int k n, .int k' m=>if k=k' then [n=m] else [False]
 | .tt, .tt=> []
 | .ff, .ff=> []
 | .tt, .bool b=> [true=b]
 | .ff, .bool b=> [false=b]
 | .bool b, .bool c=> [b=c]
 | .str a, .str b=> [a=b]
 | .nil, .nil=> []
 | .jM, .jM=> []
 | .kq, .kq=> []
 | .nil, .sl r l=> [([]:List (Row r))=l]
 | .sl r l, .sl r' l'=>match fu r r' l with
   |some m=> [m=l']
   |none=> [False]
 | .full r l, .sl r' l'=>match fu r r' l with
   |some m=> [m=l']
   |none=> [False]
 | .own k, .own K=>match cy s K with
   |some (some j)=>bif Nat.beq k j then [] else [False]
   |some none=> [False]
   |none=>bif Nat.beq k K&& !(bad K) then [] else [False]
 | .nil, .own K=>match cy s K with
   |some none=> []
   |_=> [False]
 | .ref k o, .ref k' o'=>bif wv s bad k k' then [o=o'] else [False]
 | .agg xs, .agg ys=>wx s bad xs ys
 | .b4 xs, .b4 ys=>wx s bad xs ys
 | .fn f xs us, .fn f' ys vs=>if f=f' then wx s bad xs ys++wx s bad us vs else [False]
 | .ia ks xs, .ia ks' ys=>if ks=ks' then wx s bad xs ys else [False]
 |_,_=> [False]
def wx(s:List (Nat×Option Nat))(bad:Nat->Bool):List AV->List AV->List Prop
 | [],[]=> []
 |x::xs,y::ys=>FT s bad x y++wx s bad xs ys
 |_,_=> [False]
end
def FU(s:List (Nat×Option Nat))(bad:Nat->Bool):Option AB->AB->List Prop
 |some (.cells xs), .cells ys=>wx s bad xs ys
 |some (.row e r l fr), .row e' r' l' Cg=>match fu r r' l with
  |some m=>bif Nat.beq e e'&&(fr==Cg) then [m=l'] else [False]
  |none=> [False]
 |some (.arr r l), .arr r' l'=>match fu r r' l with
  |some m=> [m=l']
  |none=> [False]
 |some (.gS e (some j) r l i), .gS e' (some j') r' l' i'=>match fu r r' l with
  |some m=>bif Nat.beq e e'&&wv s bad j j' then [m=l',i=i'] else [False]
  |none=> [False]
 |some (.row e r l false), .views e' _ n m _=>bif Nat.beq e e'&&Nat.beq r.length 1 then [l.length=n,m=0] else [False]
 |some (.views e (some j) n m sz), .views e' (some j') n' m' sz'=>bif Nat.beq e e'&&wv s bad j j' then [n=n',m=m',sz=sz'] else [False]
 |_,_=> [False]
def EK {τ:Type}(s:List (Nat×Option Nat))(bad:Nat->Bool)(st:St)(x:τ):List (Nat×(τ->AV))->List Prop
 | []=> []
 |(i,f)::r=>FT s bad (st.t i) (f x)++EK s bad st x r
def NB {τ:Type}(s:List (Nat×Option Nat))(bad:Nat->Bool)(st:St)(x:τ):List (Nat×(τ->AB))->List Prop
 | []=> []
 |(K,f)::r=>(match cy s K with
  |some (some k)=>FU s bad (st.h k) (f x)
  |some none=>match f x with
   | .row _ _ l false=> [[]=l]
   |_=> [False]
  |none=>bif bad K then [False] else FU s bad (st.h K) (f x))++NB s bad st x r
def xP(L:ak)(W:List Nat)(base st:St)(s:List (Nat×Option Nat)):Bool:=
 iL (L.bU.map (·.2))&&iL (eb s)&&
 (L.bU.all fun x=> !(pB x.2))&&
 (L.aJ.all fun x=>aI W x.1)&&
 (L.bU.all fun x=>(fT L.keys x.2).isSome)&&
 (L.keys.all fun x=>(cy s x.1).isSome || !(cL base.kb (cG L W) x.1))&&
 ((eb s).all fun k=>cL base.kb (cG L W) k)&&
 (st.cm.all fun k=>(fT L.keys k).isSome || cL base.kb (cG L W) k)
def EL(L:ak)(W:List Nat)(base:St)(news:List KS):Bool:=
 news.all fun x=>match x with
  | .one k=>cL base.kb (cG L W) k
  | .dst d=>aI W d
def azt(st:St):AV->AV
 | .own k=>match st.h k with
   |some (.row _ r l _)=> .sl r l
   |_=> .undef
 |v=>v
def adT {τ:Type}(st:St)(x:τ):List (Nat×(τ->AV))->List Prop
 | []=> []
 |(i,f)::r=>FT [] (fun _=>true) (azt st (st.t i)) (f x)++adT st x r
def ak.tied(L:ak)(st:St):ak:=match L.bt with
 | []=>L
 |t::ts=> {L with inv:=fun x=>L.inv x/\Dh (adT st x (t::ts)),bt:= []}
def PX(id:Nat)(K:Ex->St->Prop)(e:Ex)(st:St):Prop :=match e with
 | .exit j=>bif Nat.beq j id then K .norm st else K (.exit j) st
 |e=>K e st
def xQ(L:ak)(W:List Nat)(base st:St)(s:List (Nat×Option Nat))(x:L.τ):List Prop :=
 EK s (cL base.kb (cG L W)) st x L.aJ++NB s (cL base.kb (cG L W)) st x L.keys
def Bb(L:ak)(W:List Nat)(base st:St)(P:L.τ->Prop):Prop :=match sources st L.bU with
 |none=>False
 |some s=>bif xP L W base st s then ∃x,Dh (xQ L W base st s x)/\P x else False
def St.back(L:ak)(W:List Nat)(base st:St):St:=
 {st with cm:=st.cm++(L.keys.map (·.1)++base.cm),news:=base.news++(cG L W++st.news)}
def Bc(L:ak)(W:List Nat)(base:St)(x:L.τ)(K:Ex->St->Prop)(e:Ex)(st:St):Prop :=match e with
 | .norm=>bif EL L W base st.news then Bb L W base st fun x'=>L.inv x'/\L.ag x'<L.ag x else False
 |e=>K e (St.back L W base st)
def US(L:ak)(W:List Nat)(K:Ex->St->Prop)(body:(Ex->St->Prop)->St->Prop)(st:St):Prop :=
 Bb L W st st.clear L.inv/\∀x,L.inv x->body (Bc L W st x K) (j9 L W st x)
def azu(E:Ex->St->Prop)(next :St->Prop)(e:Ex)(st:St):Prop :=match e with
 | .norm=>next st
 |e=>E e st
def UT(E:Env):Operand->Bool
 | .tmp i=>E.spl i
 |_=>false
def axS(E:Env)(c:Operand)(x y:Code)(st:St):Option (List Prop×St):=
 bif !UT E c&&(kZ x&&kZ y) then fH E (.cond c x y) st else none
def anJ:Op->Bool
 | .lookup _ _ _ _=>true
 |_=>false
def adU(E:Env):List Oper->St->Option (Int×List Int)
 | [],_=>none
 |o::r,st=>match o.op with
  | .lookup _ m x _=>match ev st m,ev st x with
    | .ia ks _, .int .i64 n=>some (n,ks)
    |_,_=>none
  |_=>match act E st o with
   |some out=>adU E r (st.put o.dst out)
   |none=>none
def anK(E:Env)(st:St)(ops:List Oper):Option (Int×List Int):=
 bif ops.any fun o=>anJ o.op then adU E ops st else none
def NC(E:Env)(K:Ex->St->Prop)(st:St)(ops:List Oper)(d:Bool):Prop :=match Ba E d ops st with
 |some (c,cw)=>NA c (K .norm cw)
 |none=>False
def EM(n:Int)(ks:List Int)(f:Nat->Prop):Nat->List Int->Prop
 |i,[]=>tP n ks->f i
 |i,k::r=>(n=k->f i)/\EM n ks f (i+1) r
def mX(E:Env)(L:Nat->Option ak):Code->(Ex->St->Prop)->St->Prop
 | .skip,K,st=>K .norm st
 | .region _ ops d,K,st=>match anK E st ops.toList with
   |some (n,ks)=>EM n ks (fun i=>NC {E with JW:=i} K st ops.toList d) 0 ks
   |none=>NC E K st ops.toList d
 | .seq x y,K,st=>mX E L x (azu K (mX E L y K)) st
 | .cond c x y,K,st=>match axS E c x y st with
   |some (cs,cw)=>NA cs (K .norm cw)
   |none=>match ev st c with
    | .tt=>mX E L x K st
    | .ff=>mX E L y K st
    | .bool b=>(b=true->mX E L x K st)/\(b=false->mX E L y K st)
    | .pw _ l=>(l= []->mX E L x K st)/\mX E L y K st
    |_=>False
 | .block id (.loop b),K,st=>match L id with
   |some A=>US (A.tied st) (vE b) (PX id K) (mX E L b) st
   |none=>False
 | .block id b,K,st=>mX E L b (PX id K) st
 | .exit i,K,st=>K (.exit i) st
 | .ret,K,st=>K .ret st
 | .scope c,K,st=>mX E L c K st
 | .label _,K,st=>K .norm st
 |_,_,_=>False
def St.init(G:Nat->Option GD)(n:Nat)(cM:List AV):St:= {t:=fun i=>cM.getD i .undef,h:=fun _=>none,cm:= [],news:= [],Df:= [],n:=n,kb:=0,g:=G}
def k6(T:cA)(st:St):List ResultVar->Option (List AV)
 | []=>some []
 | .tmp t::r=>match k6 T st r with
   |some l=>some (st.t t::l)
   |none=>none
 | .cell a ty::r=>match st.t a with
   | .ref k off=>match oG T st.h ty (.ref k off),k6 T st r with
     |some out,some l=>some (out.res::l)
     |_,_=>none
   |_=>none
def fU:List AV->AV
 | [a]=>a
 |aK=> .b4 aK
def rL {α:Type}(sz n:Nat)(l:List α):List (List α):=(List.range n).map fun i=>(l.drop (i*sz)).take sz
def zJ(h:bg)(r:List Ty)(l:List (Row r))(k:Nat):List Prop×List Nat:=match h k with
 |some (.views _ (some j) n m sz)=>match h j with
  |some (.row _ UU bytes _)=>bif Nat.beq UU.length 1 then(match fu [.slice UU] r (rL sz n bytes) with
   |some g=>([m=n,g=l],[k,j])
   |none=>([False],[])) else([False],[])
  |_=>([False],[])
 |_=>(FT [] (fun _=>true) (gu h (.own k)).1 (.sl r l),(gu h (.own k)).2)
mutual
def EN:AV->AV->List (Nat×Option Nat)
 | .own i, .own k=> [(i,some k)]
 | .own i, .nil=> [(i,none)]
 | .ref i _, .ref k _=> [(i,some k)]
 | .fn _ xs us, .fn _ ys vs=>qs xs ys++qs us vs
 | .agg xs, .agg ys=>qs xs ys
 | .b4 xs, .b4 ys=>qs xs ys
 |_,_=> []
def qs:List AV->List AV->List (Nat×Option Nat)
 |x::xs,y::ys=>EN x y++qs xs ys
 |_,_=> []
end
mutual
def wy(h:bg)(s:List (Nat×Option Nat)):AV->AV->List Prop×List Nat
 | .own i, .own k=>(match cy s i with
   |some (some j)=>bif Nat.beq k j then [] else [False]
   |_=> [False],[])
 | .own i, .nil=>(match cy s i with
   |some none=> []
   |_=> [False],[])
 | .sl r l, .own k=>zJ h r l k
 | .agg xs, .agg ys=>qt h s xs ys
 | .b4 xs, .b4 ys=>qt h s xs ys
 |x,y=>(FT [] (fun _=>true) (gu h y).1 x,(gu h y).2)
def qt(h:bg)(s:List (Nat×Option Nat)):List AV->List AV->List Prop×List Nat
 | [],[]=>([],[])
 |x::xs,y::ys=>((wy h s x y).1++(qt h s xs ys).1,(wy h s x y).2++(qt h s xs ys).2)
 |_,_=>([False],[])
end
def FV(h:bg)(s:List (Nat×Option Nat)):Nat->List AB->List Prop
 |_,[]=> []
 |i,b::bs=>(match cy s i with
  |some (some k)=>FU s (fun _=>true) (h k) b
  |some none=>match b with
   | .row _ _ l false=> [[]=l]
   |_=> [False]
  |none=> [False])++FV h s (i+1) bs
def FW(h:bg)(s:List (Nat×Option Nat)):Nat->List AB->List (Nat×Option Nat)
 |_,[]=> []
 |i, .views _ (some j) _ _ _::bs=>(match cy s i with
  |some (some k)=>match h k with
   |some (.views _ (some j') _ _ _)=> [(j,some j')]
   |_=> []
  |_=> [])++FW h s (i+1) bs
 |i,_::bs=>FW h s (i+1) bs
def pI(h:bg)(want r:AV)(bs:List AB):List (Nat×Option Nat):=EN want r++FW h (EN want r) 0 bs
def PY(T:cA)(st:St)(rs:List ResultVar)(want:AV)(bs:List AB):Prop :=match k6 T st rs with
 |none=>False
 |some aK=>bif iL (eb (pI st.h want (fU aK) bs))&&((wy st.h (pI st.h want (fU aK) bs) want (fU aK)).2.all fun k=> !aI (eb (pI st.h want (fU aK) bs)) k)&&gx bs.length bs then
   Dh ((wy st.h (pI st.h want (fU aK) bs) want (fU aK)).1++FV st.h (pI st.h want (fU aK) bs) 0 bs) else False
def azv(T:cA)(rs:List ResultVar)(want:AV)(bs:List AB)(e:Ex)(st:St):Prop :=match e with
 | .norm=>PY T st rs want bs
 | .ret=>PY T st rs want bs
 |_=>False
def adV(E:Env)(L:Nat->Option ak)(c:Code)(n:Nat)(rs:List ResultVar)(cM:List AV)(want:AV)(bs:List AB):Prop :=
 bif Nat.ble cM.length n then mX E L c (azv E.T rs want bs) (St.init E.mP n cM) else False
end Go.Vg

end
section
namespace Go.Vg
open Go
section
variable {P:Program} {C:Ctx} {A:Nat->Prop} {β:Nat->Value} {w:World}
mutual
theorem ow(p:Nat->Bool) {aO:Nat->Value}(cB:∀k,p k=false->aO k=β k):∀(a:AV) (v:Value),aa w A β v a->aa w A aO v (aP p a)
 | .dz,_,hr=>by simp [aP,aa]
 | .undef,_,hr=>by simpa only [aP,aa] using hr
 | .int _ _,_,hr=>by simpa only [aP,aa] using hr
 | .bool _,_,hr=>by simpa only [aP,aa] using hr
 | .tt,_,hr=>by simpa only [aP,aa] using hr
 | .ff,_,hr=>by simpa only [aP,aa] using hr
 | .str _,_,hr=>by simpa only [aP,aa] using hr
 | .nil,_,hr=>by simpa only [aP,aa] using hr
 | .jM,_,hr=>by simpa only [aP,aa] using hr
 | .pw _ _,_,hr=>by simpa only [aP,aa] using hr
 | .kq,_,hr=>by simpa only [aP,aa] using hr
 | .sl _ _,_,hr=>by simpa only [aP,aa] using hr
 | .full _ _,_,hr=>by simpa only [aP,aa] using hr
 | .gR _ _ _,_,hr=>by simpa only [aP,aa] using hr
 | .qd _ _,_,hr=>by simpa only [aP,aa] using hr
 | .own k,v,hr=>by
   simp only [aP];cases hk:p k with
   |true=>simp [aa]
   |false=>simp only [P!];simpa only [aa,cB k hk] using hr
 | .pre k n,v,hr=>by
   simp only [aP];cases hk:p k with
   |true=>simp [aa]
   |false=>simp only [P!];simpa only [aa,cB k hk] using hr
 | .view k sz off n,v,hr=>by
   simp only [aP];cases hk:p k with
   |true=>simp [aa]
   |false=>simp only [P!];simpa only [aa,cB k hk] using hr
 | .ref k off,v,hr=>by
   simp only [aP];cases hk:p k with
   |true=>simp [aa]
   |false=>simp only [P!];simpa only [aa,cB k hk] using hr
 | .elem k sz i j,v,hr=>by
   simp only [aP];cases hk:p k with
   |true=>simp [aa]
   |false=>simp only [P!];simpa only [aa,cB k hk] using hr
 | .agg cs,v,hr=>by
   simp only [aP,aa] at hr |-;obtain⟨arr,h1,h2⟩:=hr;exact⟨arr,h1,fV p cB cs _ h2⟩
 | .ia ks cs,v,hr=>by
   simp only [aP,aa] at hr |-;obtain⟨b,es,ck,h1,h2,h3,h4,h5⟩:=hr;exact⟨b,es,ck,h1,h2,h3,h4,fV p cB cs _ h5⟩
 | .b4 cs,v,hr=>by
   simp only [aP,aa] at hr |-;obtain⟨arr,h1,h2⟩:=hr;exact⟨arr,h1,fV p cB cs _ h2⟩
 | .fn f first bB,v,hr=>by
   simp only [aP,aa] at hr |-;obtain⟨a1,a2,h1,h2,h3⟩:=hr;exact⟨a1,a2,h1,fV p cB first _ h2,fV p cB bB _ h3⟩
theorem fV(p:Nat->Bool) {aO:Nat->Value}(cB:∀k,p k=false->aO k=β k):∀(aK:List AV) (vs:List Value),ai w A β vs aK->ai w A aO vs (eO p aK)
 | [],_,hr=>by simpa only [eO,ai] using hr
 |a::aK,vs,hr=>by
  simp only [eO,ai] at hr |-;obtain⟨v,cg,h1,h2,h3⟩:=hr;exact⟨v,cg,h1,ow p cB a v h2,fV p cB aK cg h3⟩
end
theorem zK(p:Nat->Bool) {k:Nat} {ab:AB}(h:BR w A β k ab):BR w A β k (dO p ab):=by
 cases ab with
 |cells cs=>
  obtain⟨b,arr,e,h1,h2,h3,h4,h5⟩:=h;exact⟨b,arr,e,h1,h2,h3,fV p (fun _ _=>rfl) _ _ h4,h5⟩
 |row e row l fr=>exact h
 |arr row l=>exact h
 |gS e j row l i=>
  obtain⟨xs,v0,h1,h2,h3,h4⟩:=h;refine⟨xs,v0,h1,h2,h3,fun j' eY=> ?_⟩;cases j with
  |none=>simp [fb] at eY
  |some j0=>
   simp only [fb] at eY;cases hp:p j0 with
   |true=>rw [hp] at eY;simp at eY
   |false=>
    rw [hp] at eY;exact h4 j' eY
 |views e j n m sz=>
  obtain⟨xs,h1,h2,h3⟩:=h;refine⟨xs,h1,h2,fun j' eY i hi=> ?_⟩;cases j with
  |none=>simp [fb] at eY
  |some j0=>
   simp only [fb] at eY;cases hp:p j0 with
   |true=>rw [hp] at eY;simp at eY
   |false=>
    rw [hp] at eY;exact h3 j' eY i hi
mutual
theorem eE(p q:Nat->Bool):∀a,aP q (aP p a)=aP (fun k=>p k || q k) a
 | .own k=>by cases hk:p k<;>simp [aP,hk]
 | .pre k _=>by cases hk:p k<;>simp [aP,hk]
 | .view k _ _ _=>by cases hk:p k<;>simp [aP,hk]
 | .ref k _=>by cases hk:p k<;>simp [aP,hk]
 | .elem k _ _ _=>by cases hk:p k<;>simp [aP,hk]
 | .agg cs=>by simp [aP,eP p q cs]
 | .b4 cs=>by simp [aP,eP p q cs]
 | .ia _ cs=>by simp [aP,eP p q cs]
 | .fn f first bB=>by simp [aP,eP p q first,eP p q bB]
 | .dz| .undef| .int _ _| .bool _| .tt| .ff| .str _| .nil| .jM| .pw _ _| .kq| .sl _ _| .full _ _| .gR _ _ _| .qd _ _=>by simp [aP]
theorem eP(p q:Nat->Bool):∀aK,eO q (eO p aK)=eO (fun k=>p k || q k) aK
 | []=>rfl
 |a::aK=>by simp [eO,eE p q a,eP p q aK]
end
theorem nQ(p q:Nat->Bool)(j:Option Nat):fb q (fb p j)=fb (fun k=>p k || q k) j:=by
 cases j with
 |none=>rfl
 |some k=>cases hp:p k<;>simp [fb,hp]
theorem gO(p q:Nat->Bool)(b:AB):dO q (dO p b)=dO (fun k=>p k || q k) b:=by
 cases b<;>simp [dO,eP,nQ]
theorem iY(p q:Nat->Bool)(b:Option AB):cK q (cK p b)=cK (fun k=>p k || q k) b:=by
 cases b<;>simp [cK,gO]
mutual
theorem KG(d:Nat):∀a,dX d a=aP (fun k=>Nat.beq k d) a
 | .own k=>rfl
 | .pre k _=>rfl
 | .view k _ _ _=>rfl
 | .ref k _=>rfl
 | .elem k _ _ _=>rfl
 | .agg cs=>by simp [dX,aP,mh d cs]
 | .b4 cs=>by simp [dX,aP,mh d cs]
 | .ia _ cs=>by simp [dX,aP,mh d cs]
 | .fn f first bB=>by simp [dX,aP,mh d first,mh d bB]
 | .dz| .undef| .int _ _| .bool _| .tt| .ff| .str _| .nil| .jM| .pw _ _| .kq| .sl _ _| .full _ _| .gR _ _ _| .qd _ _=>by simp [dX,aP]
theorem mh(d:Nat):∀aK,fI d aK=eO (fun k=>Nat.beq k d) aK
 | []=>rfl
 |a::aK=>by simp [fI,eO,KG d a,mh d aK]
end
mutual
theorem pJ:∀a,aP (fun _=>false) a=a
 | .own k=>rfl
 | .pre k _=>rfl
 | .view k _ _ _=>rfl
 | .ref k _=>rfl
 | .elem k _ _ _=>rfl
 | .agg cs=>by simp [aP,iH cs]
 | .b4 cs=>by simp [aP,iH cs]
 | .ia _ cs=>by simp [aP,iH cs]
 | .fn f first bB=>by simp [aP,iH first,iH bB]
 | .dz| .undef| .int _ _| .bool _| .tt| .ff| .str _| .nil| .jM| .pw _ _| .kq| .sl _ _| .full _ _| .gR _ _ _| .qd _ _=>by simp [aP]
theorem iH:∀aK,eO (fun _=>false) aK=aK
 | []=>rfl
 |a::aK=>by simp [eO,pJ a,iH aK]
end
theorem Ka(j:Option Nat):fb (fun _=>false) j=j:=by cases j<;>rfl
theorem yS(b:AB):dO (fun _=>false) b=b:=by cases b<;>simp [dO,iH,Ka]
theorem yT(b:Option AB):cK (fun _=>false) b=b:=by cases b<;>simp [cK,yS]
def gD:List (Nat×AB)->Nat->Bool
 | [],_=>false
 |(j,_)::r,k=>Nat.beq k j || gD r k
theorem qu:∀(new:List (Nat×AB)) (a:AV),mR new a=aP (gD new) a
 | [],a=>by
   have :gD []=fun _=>false :=rfl;rw [this,pJ];rfl
 |(j,b)::r,a=>by
  simp only [mR];rw [qu r,KG,eE];rfl
theorem wz(new:List (Nat×AB))(b:AB):c6 new b=dO (gD new) b:=by
 induction new generalizing b with
 |nil=>
  have :gD []=fun _=>false :=rfl;rw [this,yS];rfl
 |cons x r ih=>
  obtain⟨k0,y⟩:=x;simp only [c6];rw [ih];cases b with
  |cells cs=>simp only [oh,mh,dO,eP];rfl
  |row _ _ _ _=>rfl
  |arr _ _=>rfl
  |views e j n m sz=>
   have :rp k0 j=fb (fun k=>Nat.beq k k0) j:=by cases j<;>rfl
   simp only [oh,this,dO,nQ];rfl
  |gS e j row l i=>
   have :rp k0 j=fb (fun k=>Nat.beq k k0) j:=by cases j<;>rfl
   simp only [oh,this,dO,nQ];rfl
theorem ue:∀(new:List (Nat×AB)) (k:Nat),gD new k=(aw new k).isSome
 | [],_=>rfl
 |(j,b)::r,k=>by
  simp only [gD,aw,ue r k];cases Nat.beq k j<;>simp
structure fq (W:List Nat) (base s:St):Prop where
 qv:∃p,(∀k,p k=true->cL base.kb s.news k=true)/\(∀i,aI W i=false->s.t i=aP p (base.t i))/\
  ∀k,aI s.cm k=false->s.h k=cK p (base.h k)
 n:s.n=base.n
 kb:s.kb=base.kb
 cm:∀k,aI base.cm k=true->aI s.cm k=true
 news:∀k,cL base.kb base.news k=true->cL base.kb s.news k=true
 g:s.g=base.g
theorem dn:∀(a b:List Nat) (k:Nat),aI (a++b) k=(aI a k || aI b k)
 | [],_,_=>rfl
 |j::a,b,k=>by simp only [c?,aI,dn a b k,Bool.or_assoc]
theorem dG(kb:Nat):∀(a b:List KS) (k:Nat),cL kb (a++b) k=(cL kb a k || cL kb b k)
 | [],_,_=>rfl
 |j::a,b,k=>by simp only [c?,cL,dG kb a b k,Bool.or_assoc]
theorem fq.refl(W:List Nat)(s:St):fq W s s:=
 ⟨⟨fun _=>false,by simp,fun i _=>(pJ _).symm,fun k _=>(yT _).symm⟩,rfl,rfl,fun _ h=>h,fun _ h=>h,rfl⟩
theorem fq.trans {W W':List Nat} {s0 s1 s2:St}(h1:fq W s0 s1)(h2:fq W' s1 s2):fq (W++W') s0 s2:=by
 obtain⟨p,a1,a2,a3⟩:=h1.qv;obtain⟨q,b1,b2,b3⟩:=h2.qv;refine⟨⟨fun k=>p k || q k,fun k hk=> ?_,fun i hi=> ?_,fun k hk=> ?_⟩,h2.n.trans h1.n,h2.kb.trans h1.kb,fun k h=>h2.cm k (h1.cm k h),fun k h=> ?_,h2.g.trans h1.g⟩
 . rcases X? _ _ |>.mp hk with h|h
   . have :=h2.news k (by rw [h1.kb];exact a1 k h);rwa [h1.kb] at this
   . have :=b1 k h;rwa [h1.kb] at this
 . rw [dn,R?] at hi;rw [b2 i hi.2,a2 i hi.1,eE]
 . have Ej:aI s1.cm k=false :=by
    cases h:aI s1.cm k with
    |false=>rfl
    |true=>rw [h2.cm k h] at hk;cases hk
   rw [b3 k hk,a3 k Ej,iY]
 . have :=h2.news k (by rw [h1.kb];exact h1.news k h);rwa [h1.kb] at this
theorem fq.mono {W W':List Nat} {s0 s1:St}(h:fq W s0 s1)(hw:∀i,aI W' i=false->aI W i=false):fq W' s0 s1:=by
 obtain⟨p,a1,a2,a3⟩:=h.qv;exact⟨⟨p,a1,fun i hi=>a2 i (hw i hi),a3⟩,h.n,h.kb,h.cm,h.news,h.g⟩
theorem KH(kb:Nat):∀(new:List (Nat×AB)) (k:Nat),cL kb (new.map fun x=>KS.one x.1) k=gD new k
 | [],_=>rfl
 |(j,b)::r,k=>by simp only [T?,cL,gD,KS.has,KH kb r k]
theorem gX:∀(l:List (Nat×AB)) (k:Nat),aI (l.map (·.1)) k=false->aw l k=none
 | [],_,_=>rfl
 |(j,b)::r,k,h=>by
  simp only [T?,aI,R?] at h;simp only [aw,h.1,P!];exact gX r k h.2
theorem fq.put(st:St)(d:Option Nat)(out:Out)(W:List Nat)(hd:∀t,d=some t->aI W t=true):fq W st (st.put d out):=by
 refine⟨⟨gD out.new,fun k hk=> ?_,fun i hi=> ?_,fun k hk=> ?_⟩,rfl,rfl,fun k hk=> ?_,fun k hk=> ?_,rfl⟩
 . show cL st.kb (st.news++_) k=true;rw [dG,KH,hk];simp
 . cases d with
   |none=>exact qu _ _
   |some t=>
    show(bif Nat.beq i t then out.res else mR out.new (st.t i))=_;have :Nat.beq i t=false :=bc (fun h=>by subst h;rw [hd i rfl] at hi;cases hi);rw [this];exact qu _ _
 . have dJ:aI (out.ib.map (·.1)) k=false/\aI out.del k=false/\aI (out.new.map (·.1)) k=false :=by
    simp only [St.put,dn,R?] at hk;exact⟨hk.1,hk.2.1,hk.2.2.1⟩
   show Fb st.h out k=_;simp only [Fb,gX _ _ dJ.2.2,dJ.2.1,P!,gX _ _ dJ.1];cases st.h k with
   |none=>rfl
   |some b=>simp only [cK,wz]
 . simp only [St.put,dn,hk,Bool.or_true]
 . show cL st.kb (st.news++_) k=true;rw [dG,hk];rfl
theorem PZ(b:Bool) {k:Nat} {x y:Option AB} {ab:AB}(h:AF b x y=some ab):(if b then x else y).isSome/\
  ∀c,(if b then x else y)=some c->BR w A β k c->BR w A β k ab:=by
 unfold AF at h;split at h
 . rename_i xs ys;cases hl:Nat.beq xs.length ys.length with
   |false=>simp [hl] at h
   |true=>
    simp only [hl,K!,A!] at h;subst h;refine⟨by cases b<;>rfl,fun c hc hr=> ?_⟩;have pj:c= .cells (if b then xs else ys):=by cases b<;>simp_all
    subst pj;obtain⟨g,arr,e,h1,h2,h3,h4,h5⟩:=hr;refine⟨g,arr,e,h1,h2,h3,iE b xs ys _ (E! hl) ?_,h5⟩;cases b<;>simpa using h4
 . rename_i e r l fr e' r' m Cg;split at h
   . rename_i m' hm;cases hq:(Nat.beq e e'&&(fr==Cg)) with
     |false=>simp [hq] at h
     |true=>
      simp only [hq,cond_true,Option.some.injEq] at h;subst h;simp only [Bool.and_eq_true,beq_iff_eq] at hq;have he:=Nat.eq_of_beq_eq_true hq.1;have hf:=hq.2;subst he;subst hf;unfold fu at hm;split at hm
      . rename_i hr;have hrr:=Ty.ku _ _ hr;subst hrr;simp only [A!] at hm;subst hm;refine⟨by cases b<;>rfl,fun c hc hr=> ?_⟩;cases b<;>(simp at hc;subst hc;exact hr)
      . cases hm
   . cases h
 . cases h
theorem aF.merge {b:Bool} {W:List Nat} {base b1 b2 s1 s2 m:St} {a:Act}(hm:sS b W base s1 s2=some m)
  (f1:fq W b1 s1) (e1:∀i,aI W i=false->b1.t i=base.t i) (g1:b1.h=base.h) (n1:b1.n=base.n) (k1:b1.kb=base.kb)
  (f2:fq W b2 s2) (e2:∀i,aI W i=false->b2.t i=base.t i) (g2:b2.h=base.h) (n2:b2.n=base.n) (k2:b2.kb=base.kb) (hB:aF C A β (if b then s1 else s2) a w) (y1:b1.g=base.g:=by rfl) (y2:b2.g=base.g:=by rfl):aF C A β m a w:=by
 unfold sS at hm;split at hm
 . simp only [A!] at hm;subst hm
   have ht:∀i,aI W i=false->∀v,aa w A β v ((if b then s1 else s2).t i)->aa w A β v (aP (cL base.kb (s1.news++s2.news)) (base.t i)):=by
    intro i hi v h;have h':=ow (aO:=β) (cL base.kb (s1.news++s2.news)) (fun _ _=>rfl) _ _ h;obtain⟨p1,a1,a2,_⟩:=f1.qv;obtain⟨p2,c1,c2,_⟩:=f2.qv;cases b with
    |true=>
     simp only [H?,a2 i hi,e1 i hi,eE] at h'
     have :(fun k=>p1 k || cL base.kb (s1.news++s2.news) k)=cL base.kb (s1.news++s2.news):=by
      funext k;cases hp:p1 k with
      |false=>rfl
      |true=>rw [dG,<-k1,a1 k hp];rfl
     rwa [this] at h'
    |false=>
     simp only [B?,Z?,c2 i hi,e2 i hi,eE] at h'
     have :(fun k=>p2 k || cL base.kb (s1.news++s2.news) k)=cL base.kb (s1.news++s2.news):=by
      funext k;cases hp:p2 k with
      |false=>rfl
      |true=>rw [dG,<-k2,c1 k hp];simp
     rwa [this] at h'
   have hh:∀k,aI (s1.cm++s2.cm) k=false->∀ab,cK (cL base.kb (s1.news++s2.news)) (base.h k)=some ab->∃c,(if b then s1 else s2).h k=some c/\(BR w A β k c->BR w A β k ab):=by
    intro k hk ab h;rw [dn,R?] at hk;obtain⟨p1,a1,_,a3⟩:=f1.qv;obtain⟨p2,c1,_,c3⟩:=f2.qv;cases hb:base.h k with
    |none=>rw [hb] at h;simp [cK] at h
    |some x=>
     rw [hb] at h;simp only [cK,A!] at h;subst h;cases b with
     |true=>
      refine⟨dO p1 x,by simp only [H?,a3 k hk.1,g1,hb,cK],fun hr=> ?_⟩;have h':=zK (cL base.kb (s1.news++s2.news)) hr;rw [gO] at h'
      have :(fun k=>p1 k || cL base.kb (s1.news++s2.news) k)=cL base.kb (s1.news++s2.news):=by
       funext k;cases hp:p1 k with
       |false=>rfl
       |true=>rw [dG,<-k1,a1 k hp];rfl
      rwa [this] at h'
     |false=>
      refine⟨dO p2 x,by simp only [B?,Z?,c3 k hk.2,g2,hb,cK],fun hr=> ?_⟩;have h':=zK (cL base.kb (s1.news++s2.news)) hr;rw [gO] at h'
      have :(fun k=>p2 k || cL base.kb (s1.news++s2.news) k)=cL base.kb (s1.news++s2.news):=by
       funext k;cases hp:p2 k with
       |false=>rfl
       |true=>rw [dG,<-k2,c1 k hp];simp
      rwa [this] at h'
   have hl:∀k ab,(bif aI (s1.cm++s2.cm) k then AF b (s1.h k) (s2.h k) else cK (cL base.kb (s1.news++s2.news)) (base.h k))=some ab->
     ∃c,(if b then s1 else s2).h k=some c/\(BR w A β k c->BR w A β k ab):=by
    intro k ab h;cases hd:aI (s1.cm++s2.cm) k with
    |false=>rw [hd] at h;exact hh k hd ab h
    |true=>
     rw [hd] at h;simp only [K!] at h;obtain⟨x1,x2⟩:=PZ (w:=w) (A:=A) (β:=β) (k:=k) b h;obtain⟨c,hc⟩:=O!.1 x1;refine⟨c,by cases b<;>simpa using hc,x2 c hc⟩
   have fQ:∀k,(bif aI (s1.cm++s2.cm) k then AF b (s1.h k) (s2.h k) else cK (cL base.kb (s1.news++s2.news)) (base.h k)).isSome->((if b then s1 else s2).h k).isSome:=by
    intro k hk;obtain⟨ab,gv⟩:=O!.1 hk;obtain⟨c,hc,_⟩:=hl k ab gv;simp [hc]
   refine⟨hB.defers,?_,?_,?_,fun k k' b' h1 h2=>hB.apart k k' b' (fQ k h1) (fQ k' h2),hB.bound,hB.frame,hB.lx,hB.base,fun k b' h1=>hB.oI k b' (fQ k h1),fun i d hd=>hB.sk i d (by
    cases b
    . exact(congrFun (f2.g.trans y2) i).trans hd
    . exact(congrFun (f1.g.trans y1) i).trans hd),hB.laid,hB.held⟩
   . rw [hB.size];cases b
     . exact f2.n.trans n2
     . exact f1.n.trans n1
   . intro i;have hi:=hB.tmps i;show aa w A β _ (bif aI W i then AE b (s1.t i) (s2.t i) else _);cases hW:aI W i with
     |false=>exact ht i hW _ hi
     |true=>
      refine yJ b _ _ ?_;cases b<;>simpa using hi
   . intro k ab gv;obtain⟨c,hc,hr⟩:=hl k ab gv;exact hr (hB.blocks k c hc)
 . cases hm
theorem fq.merge {b:Bool} {W:List Nat} {base s1 s2 m:St}(hm:sS b W base s1 s2=some m):fq W base m:=by
 unfold sS at hm;split at hm
 . simp only [A!] at hm;subst hm;refine⟨⟨cL base.kb (s1.news++s2.news),fun k hk=> ?_,fun i hi=> ?_,fun k hk=> ?_⟩,rfl,rfl,fun k hk=> ?_,fun k hk=> ?_,rfl⟩
   . simp only [dG] at hk |-;simp [hk]
   . simp only [hi,P!]
   . simp only [dn,R?] at hk;simp only [dn,hk.1.1,hk.1.2,Bool.or_self,P!]
   . simp only [dn,hk,Bool.or_true]
   . simp only [dG,hk,Bool.true_or]
 . cases hm
end
end Go.Vg

end
section
namespace Go.Vg
open Go
def iZ(s r:St):Prop :=s.t=r.t/\s.h=r.h/\s.n=r.n/\s.kb=r.kb/\s.g=r.g
theorem iZ.refl(s:St):iZ s s:=⟨rfl,rfl,rfl,rfl,rfl⟩
theorem iZ.symm {s r:St}(h:iZ s r):iZ r s:=⟨h.1.symm,h.2.1.symm,h.2.2.1.symm,h.2.2.2.1.symm,h.2.2.2.2.symm⟩
theorem iZ.trans {s r q:St}(h:iZ s r)(g:iZ r q):iZ s q:=⟨h.1.trans g.1,h.2.1.trans g.2.1,h.2.2.1.trans g.2.2.1,h.2.2.2.1.trans g.2.2.2.1,h.2.2.2.2.trans g.2.2.2.2⟩
def ic(g:Bool)(d:Option Nat)(st:St):St:=match d with
 |some d=>bif g then {st with t:=fun i=>bif Nat.beq i d then agj (st.t i) else st.t i} else st
 |none=>st
structure lA (E:Env) (ops:List Oper) (e:Ev) (s s':St):Prop where
 op:ops[e.i]? =some e.o
 dst:iX s e.o=true
 kr:e.kr=lM E s e.o
 step:match e.out with
  |none=>PW ops s.t e.o=some false
  |some out=>PW ops s.t e.o=some true/\act E s e.o=some out/\jy s.h out.new=true/\∀p∈out.cond,p
 next :iZ s' (ic (oM ops e.i) e.o.dst (s.put e.o.dst e.dP))
def sT(E:Env)(ops:List Oper):List Ev->St->St->Prop
 | [],s,s'=>iZ s' s
 |e::es,s,s'=>∃s1,lA E ops e s s1/\sT E ops es s1 s'
def ND(kb:Nat)(ops:List Oper):List Ev->List Ev->Prop
 |_,[]=>True
 |tr,f::es=>yR kb true ops tr f=true/\f.pre=mg tr f.o.after.toList/\ND kb ops (f::tr) es
section
variable {P:Program} {C:Ctx} {A:Nat->Prop} {β:Nat->Value} {st:St} {a:Act} {w:World} {E:Env}
theorem aF.seq {s r:St}(hB:aF C A β s a w)(h:iZ r s):aF C A β r a w:=by
 obtain⟨h1,h2,h3,h4,h5⟩:=h;refine⟨hB.defers,by rw [h3];exact hB.size,by rw [h1];exact hB.tmps,by rw [h2];exact hB.blocks,by rw [h2];exact hB.apart,hB.bound,hB.frame,hB.lx,hB.base,by rw [h2];exact hB.oI,by rw [h5];exact hB.sk,hB.laid,hB.held⟩
theorem aby {x:AV} {v:Value}(h:aa w A β v x):aa w A β v (agj x):=by
 cases x with
 |bool b=>grind[agj,aa]
 |_=>exact h
theorem aF.lit(g:Bool)(d:Option Nat)(hB:aF C A β st a w):aF C A β (ic g d st) a w:=by
 cases d with
 |none=>exact hB
 |some d=>
  cases g with
  |false=>exact hB
  |true=>
   refine⟨hB.defers,hB.size,fun i=> ?_,hB.blocks,hB.apart,hB.bound,hB.frame,hB.lx,hB.base,hB.oI,hB.sk,hB.laid,hB.held⟩;show aa w A β _ (bif Nat.beq i d then agj (st.t i) else st.t i);cases Nat.beq i d with
   |false=>exact hB.tmps i
   |true=>exact aby (hB.tmps i)
theorem iZ.ic {s r:St}(h:iZ s r)(g:Bool)(d:Option Nat):iZ (ic g d s) (ic g d r):=by
 obtain⟨h1,h2,h3,h4⟩:=h;cases d with
 |none=>exact⟨h1,h2,h3,h4⟩
 |some d=>
  cases g with
  |false=>exact⟨h1,h2,h3,h4⟩
  |true=>exact⟨by simp_all[Vg.ic,K!],h2,h3,h4⟩
theorem getD_some {a:Array Value} {i:Nat} {v:Value}(h:a.getD i undef=v)(hv:v≠undef):a[i]? =some v:=by
 rw [Array.getD_eq_getD_getElem?] at h;grind
theorem KI(hB:aF C A β st a w) {ops:Array Oper} {o:Oper} {x:Bool}(h:PW ops.toList st.t o=some x):Region.wanted o (yielded ops a.tmps)=x:=by
 unfold PW at h;unfold Region.wanted;cases hg:o.guard with
 |none=>grind
 |some jw=>
  obtain⟨j,want⟩:=jw;rw [hg] at h;simp only at h |-;unfold Nx at h;cases ho:ops[j]? with
  |none=>grind
  |some oj=>
   simp only [a?,ho] at h;cases hd:oj.dst with
   |none=>grind
   |some g=>
    have ht:=hB.tmps g;cases hv:st.t g with
    |tt=>
     rw [hv] at ht;have :=getD_some ht (by simp [undef])
     simp_all[yielded,Option.bind_some]
    |ff=>
     rw [hv] at ht;have :=getD_some ht (by simp [undef])
     simp_all[yielded,Option.bind_some]
    |undef=>
     rw [hv] at ht;have :yielded ops a.tmps j=none:=by
      simp only [yielded,ho,hd,Option.bind_some];cases hx:a.tmps[g]? with
      |none=>rfl
      |some v=>
       rw [K?,hx] at ht;subst ht;rfl
     grind
    |_=>grind
theorem aF.adW(hB:aF C A β st a w) {d:Option Nat}(hd:∀t,d=some t->t<st.n):aF C A β (st.put d .skip) (a.put d undef) w:=
 hB.pure hd (c:= []) (r:= .undef) (by rfl)
theorem abz {o:Oper}(h:iX st o=true):∀t,o.dst=some t->t<st.n:=by
 intro t ht;simp_all[iX,M!]
theorem Bd(hE:gi P C E) {ops:Array Oper} {e:Ev} {s s':St}(hf:lA E ops.toList e s s')(hR:Rel C s a w) {K:Act->World->Prop} {Q:Exit->Act->World->Prop}
  (hK:∀a' w',Rel C s' a' w'->K a' w'):wpOp P ops Q e.i K a w:=by
 obtain⟨A,β,hB⟩:=hR;have ho:ops[e.i]? =some e.o:=by have :=hf.op;grind
 unfold wpOp;simp [ho];have lI:=hf.step;have FX:=hf.next;unfold Ev.dP at FX;cases rz:e.out with
 |none=>
  rw [rz] at lI FX;rw [KI hB lI];exact hK _ _ ⟨A,β,((hB.adW (abz hf.dst)).lit _ _).seq FX⟩
 |some out=>
  rw [rz] at lI FX;obtain⟨h1,h2,h3,h4⟩:=lI;rw [KI hB h1];refine .inl (SO hE hB h2 hf.dst h3 h4 fun a' w' mY=> ?_);obtain⟨A',aO,SP⟩:=mY;exact hK _ _ ⟨A',aO,(SP.lit _ _).seq FX⟩
theorem wA(hE:gi P C E) {ops:Array Oper} {Q:Exit->Act->World->Prop}:∀(es:List Ev) (s s':St) (a:Act) (w:World),sT E ops.toList es s s'->Rel C s a w->
  (∀a' w',Rel C s' a' w'->Q .normal a' w')->wpOps P ops Q (es.map (·.i)) a w
 | [],s,s',a,w,hx,hR,hQ=>by
   obtain⟨A,β,hB⟩:=hR;exact hQ _ _ ⟨A,β,hB.seq hx⟩
 |e::es,s,s',a,w,hx,hR,hQ=>by
  obtain⟨s1,h1,h2⟩:=hx;exact Bd hE h1 hR fun a' w' mY=>wA hE es s1 s' a' w' h2 mY hQ
theorem p7:∀(ps:List Prop),Dh ps->∀p∈ps,p
 | [],_,p,hp=>by grind
 | [q],h,p,hp=>by
   rcases L!.1 hp with rfl|hp
   . exact h
   grind
 |q::r::rs,h,p,hp=>by
  rcases L!.1 hp with rfl|hp
  . exact h.1
  . exact p7 (r::rs) h.2 p hp
theorem xR {b:Bool} {W:List Nat} {base:St} {r1 r2:Option (List Prop×St)} {cs:List Prop} {m:St}(h:both b W base r1 r2=some (cs,m)):
  ∃c1 s1 c2 s2,r1=some (c1,s1)/\r2=some (c2,s2)/\sS b W base s1 s2=some m/\cs=EJ b c1 c2:=by
 unfold both at h;grind
theorem Du {b:Bool} {c1 c2:List Prop}(h:∀p∈EJ b c1 c2,p):(b=true->∀p∈c1,p)/\(b=false->∀p∈c2,p):=by
 unfold EJ at h;grind[List.mem_cons_self,p7]
theorem oz {c:List Prop} {r:Option (List Prop×St)} {cs:List Prop} {m:St}(h:xN c r=some (cs,m)):∃c',r=some (c',m)/\cs=c++c':=by
 unfold xN at h;grind
theorem P0 {d:Nat} {b:Bool}(hv:st.t d= .bool b):iZ (st.lit d (bif b then .tt else .ff)) (ic true (some d) st):=by
 refine⟨?_,rfl,rfl,rfl,rfl⟩;funext i;simp [St.lit,ic,K!];by_cases hi:i=d
 . simp_all[hi,bZ,K!,agj]
 simp_all[bc,hi,P!]
theorem P1 {d:Nat}(hv:∀b,st.t d≠ .bool b):iZ st (ic true (some d) st):=by
 refine⟨?_,rfl,rfl,rfl,rfl⟩;funext i;simp [ic,K!];by_cases hi:i=d
 . subst hi;simp;cases hx:st.t i with
   |bool b=>grind
   |_=>rfl
 simp_all[bc,hi,P!]
theorem SQ {g:Bool} {W:List Nat} {d:Option Nat} {next :St->Option (List Prop×St)} {cs:List Prop} {m:St}(h:fork g W d st next=some (cs,m))
  (hF:∀s0 c s,next s0=some (c,s)->fq W s0 s) {W':List Nat} (hW:∀i,aI W' i=false->aI W i=false) (ht:∀t,d=some t->aI W' t=true):fq W' st m:=by
 unfold fork at h;cases d with
 |none=>exact(hF _ _ _ h).mono hW
 |some d=>
  simp at h;cases g with
  |false=>exact(hF _ _ _ h).mono hW
  |true=>
   split at h
   . obtain⟨c1,s1,c2,s2,r1,r2,hm,rfl⟩:=xR h;refine(fq.merge hm).mono fun i hi=> ?_;grind[aI,Bool.or_eq_false_iff,bc]
   . exact(hF _ _ _ h).mono hW
theorem abA {g:Bool} {W:List Nat} {d:Option Nat} {next :St->Option (List Prop×St)} {cs:List Prop} {m:St}(h:fork g W d st next=some (cs,m))(dy:∀p∈cs,p)
  (hF:∀s0 c s,next s0=some (c,s)->fq W s0 s):
  ∃s0 c s,iZ s0 (ic g d st)/\next s0=some (c,s)/\(∀p∈c,p)/\(∀(C:Ctx) A β a w,aF C A β s a w->aF C A β m a w):=by
 unfold fork at h;cases d with
 |none=>exact⟨st,cs,m,iZ.refl _,h,dy,fun _ _ _ _ _ hB=>hB⟩
 |some d=>
  simp at h;cases g with
  |false=>exact⟨st,cs,m,iZ.refl _,h,dy,fun _ _ _ _ _ hB=>hB⟩
  |true=>
   split at h
   . rename_i b hv;obtain⟨c1,s1,c2,s2,r1,r2,hm,rfl⟩:=xR h;have hc:=Du dy
     have e:∀x,∀i,aI (d::W) i=false->(st.lit d x).t i=st.t i:=by
      intro x i hi;simp [aI,R?] at hi;simp [St.lit,hi.1,P!]
     refine⟨st.lit d (bif b then .tt else .ff),if b then c1 else c2,if b then s1 else s2,P0 hv,?_,?_,fun C A β a w hB=> ?_⟩
     . cases b
       . exact r2
       . exact r1
     . cases b
       . exact hc.2 rfl
       . exact hc.1 rfl
     . have f1:=hF _ _ _ r1;have f2:=hF _ _ _ r2
       exact hB.merge hm (f1.mono fun i hi=>by simp [aI,R?] at hi;exact hi.2) (e _) rfl rfl rfl
        (f2.mono fun i hi=>by simp [aI,R?] at hi;exact hi.2) (e _) rfl rfl rfl
   grind[P1]
theorem Cz {o:Oper} {rest:List Oper}:∀t,o.dst=some t->aI (lL (o::rest)) t=true :=by
 simp_all[lL,aI,bZ,Bool.true_or]
theorem FY {o:Oper} {rest:List Oper}:∀i,aI (lL (o::rest)) i=false->aI (lL rest) i=false :=by
 grind[hi,lL,aI,Bool.or_eq_false_iff]
theorem nR {dr:Bool} {ops:List Oper}:∀(rest:List Oper) (i:Nat) (tr:List Ev) (st:St) (cs:List Prop) (m:St),wu E dr ops i tr rest st=some (cs,m)->fq (lL rest) st m
 | [],i,tr,st,cs,m,h=>by
   grind[wu,Option.some.injEq,Prod.mk.injEq,fq.refl]
 |o::rest,i,tr,st,cs,m,h=>by
  have adX:∀W i,aI W i=false->aI (W++W) i=false :=fun W i hi=>by grind[dn]
  simp [wu] at h;split at h
  . cases h
  . cases hq:(iX st o&&yR st.kb dr ops tr ⟨i,o,none,lM E st o,mg tr o.after.toList⟩) with
    |false=>grind
    |true=>
     simp [hq,K!] at h;have :=nR rest _ _ _ _ _ h;exact((fq.put st o.dst .skip _ Cz).trans (this.mono FY)).mono (adX _)
  . split at h
    . cases h
    . rename_i out jN;cases hq:(iX st o&&(jy st.h out.new&&yR st.kb dr ops tr ⟨i,o,some out,lM E st o,mg tr o.after.toList⟩)) with
      |false=>grind
      |true=>
       simp [hq,K!] at h;obtain⟨c',h',_⟩:=oz h;have :=SQ h' (fun s0 c s hn=>nR rest _ _ _ _ _ hn) FY Cz;exact((fq.put st o.dst out _ Cz).trans this).mono (adX _)
theorem NF {g:Bool} {d:Option Nat}:iZ (ic g d (st.put d .skip)) (st.put d .skip):=by
 cases d with
 |none=>exact iZ.refl _
 |some d=>
  cases g with
  |false=>exact iZ.refl _
  |true=>
   refine⟨?_,rfl,rfl,rfl,rfl⟩;funext i;simp [ic,K!,St.put,Out.skip];by_cases hi:i=d
   . simp_all[hi,bZ,K!,agj]
   simp_all[bc,hi,P!]
theorem FZ {kb:Nat} {dr:Bool} {ops:List Oper} {tr:List Ev} {f:Ev}(h:yR kb dr ops tr f=true)(hd:dr=true):yR kb true ops tr f=true :=by grind
theorem qw {dr:Bool} {ops:List Oper}:∀(rest:List Oper) (i:Nat) (tr:List Ev) (st:St) (cs:List Prop) (m:St),wu E dr ops i tr rest st=some (cs,m)->(∀p∈cs,p)->
  (∀k,rest[k]? =ops[i+k]?)->
  ∃es sl,sT E ops es st sl/\es.map (·.i)=List.range' i rest.length/\(dr=true->ND st.kb ops tr es)/\∀(C:Ctx) A β a w,aF C A β sl a w->aF C A β m a w
 | [],i,tr,st,cs,m,h,dy,hl=>by
   simp [wu,Option.some.injEq,Prod.mk.injEq] at h;exact⟨[],st,iZ.refl _,rfl,fun _=>trivial,fun _ _ _ _ _ hB=>by grind⟩
 |o::rest,i,tr,st,cs,m,h,dy,hl=>by
  have h0:ops[i]? =some o:=by simpa using(hl 0).symm
  have jA:∀k,rest[k]? =ops[i+1+k]? :=fun k=>by have :=hl (k+1);grind
  simp [wu] at h;split at h
  . cases h
  . rename_i hg;cases hq:(iX st o&&yR st.kb dr ops tr ⟨i,o,none,lM E st o,mg tr o.after.toList⟩) with
    |false=>grind
    |true=>
     simp [hq,cond_true] at h;rw [Bool.and_eq_true] at hq;obtain⟨es,sl,h1,h2,h3,h4⟩:=qw rest _ _ _ _ _ h dy jA;refine⟨⟨i,o,none,lM E st o,mg tr o.after.toList⟩::es,sl,⟨st.put o.dst .skip,⟨h0,hq.1,rfl,hg,NF.symm⟩,h1⟩,?_,fun hd=>⟨FZ hq.2 hd,rfl,h3 hd⟩,h4⟩;grind[List.length_cons,List.range'_succ]
  . rename_i hg;split at h
    . cases h
    . rename_i out jN;cases hq:(iX st o&&(jy st.h out.new&&yR st.kb dr ops tr ⟨i,o,some out,lM E st o,mg tr o.after.toList⟩)) with
      |false=>grind
      |true=>
       simp [hq,K!] at h;rw [B!,B!] at hq;obtain⟨c',h',rfl⟩:=oz h;obtain⟨s0,c,s,e1,e2,e3,e4⟩:=abA h' (fun p hp=>dy p (Z! _ hp)) (fun s0 c s hn=>nR rest _ _ _ _ _ hn);obtain⟨es,sl,h1,h2,h3,h4⟩:=qw rest _ _ _ _ _ e2 e3 jA;refine⟨⟨i,o,some out,lM E st o,mg tr o.after.toList⟩::es,sl,⟨s0,⟨h0,hq.1,rfl,⟨hg,jN,hq.2.1,fun p hp=>dy p (A? _ hp)⟩,e1⟩,h1⟩,?_,fun hd=>⟨FZ hq.2.2 hd,rfl,by have :=h3 hd;rw [show s0.kb=st.kb from e1.2.2.2.1.trans (by cases o.dst<;>cases oM ops i<;>rfl)] at this;exact this⟩,fun C A β a w hB=>e4 _ _ _ _ _ (h4 _ _ _ _ _ hB)⟩;rw [T?,h2,D?,List.range'_succ]
theorem Dv {ops:Array Oper} {Q:Exit->Act->World->Prop} {i:Nat} {rest:List Nat} {o:Oper}(h:ops[i]? =some o)(hg:o.guard=none)(hw:o.wp P a w (wpOps P ops Q rest) Q):wpOps P ops Q (i::rest) a w:=by
 simp_all[wpOps,W!,Region.wanted]
structure UW (w w':World) (es:Array MapEntry) (ck:Nat):Prop where
 os:w'.os=w.os
 tape:w'.tape=w.tape
 output:w'.output=w.output
 size:w'.heap.size=w.heap.size+1
 same:∀b,b<w.heap.size->w'.heap[b]? =w.heap[b]?
 there:w'.heap[w.heap.size]? =some (.map es ck)
theorem SR {d:Nat} {o:Oper} {t:TypeId} {k:Int} {x:Operand}(h:Nz d o=some (t,k,x)):o.op= .insert t (.tmp d) (.const (.int .i64 k)) x/\o.dst=none/\o.guard=none:=by
 unfold Nz at h;split at h
 . rename_i t' d' k' x' h1 h2 h3;cases hb:Nat.beq d' d with
   |false=>grind
   |true=>
    simp_all
 grind
theorem Be(st:St)(t d:Nat):∀r,(cV st t d r).2.2=r.drop (cV st t d r).1.length/\(cV st t d r).1.length<=r.length
 | []=>⟨rfl,N! _⟩
 |o::r=>by
  simp [cV];split
  . rename_i t' k x hx;cases hb:(Nat.beq t' t&&xO d x&&decide (lo .i64<=k/\k<=hi .i64)) with
    |false=>grind
    |true=>
     simp_all[Be,K!,D?,List.drop_succ_cons]
  grind
theorem Dw(st:St)(t d:Nat):∀r,(cV st t d r).2.1.length=(cV st t d r).1.length
 | []=>rfl
 |o::r=>by
  simp only [cV];split
  . rename_i t' k x hx;cases hb:(Nat.beq t' t&&xO d x&&decide (lo .i64<=k/\k<=hi .i64)) with
    |false=>rfl
    |true=>simp_all[K!,D?,Dw]
  . rfl
theorem rM {T:cA} {ops rest:List Oper} {d:Nat} {ks:List Int} {vs:List AV}(h:ud T st ops=some (d,ks,vs,rest)):
  ∃o r t te kt et,ops=o::r/\o.op= .makeMap t none/\o.dst=some d/\o.guard=none/\T.find t=some te/\te.desc= .map kt et/\dW T kt zp=true/\jx ks=true/\d<st.n/\cV st t d r=(ks,vs,rest):=by
 cases ops with
 |nil=>grind[ud]
 |cons o r=>
  simp [ud] at h;split at h
  . rename_i t d' h1 h2 h3;split at h
    . rename_i te lz;split at h
      . rename_i kt et hd;cases hb:(dW T kt zp&&jx (cV st t d' r).1&&Nat.blt d' st.n) with
        |false=>grind
        |true=>
         rw [hb] at h;simp at h;obtain⟨rfl,h⟩:=h;simp only [Bool.and_eq_true] at hb;exact⟨o,r,t,te,kt,et,rfl,h1,h2,h3,lz,hd,hb.1.1,by grind,Nat.le_of_ble_eq_true hb.2,h⟩
      grind
    grind
  grind
theorem Bf {T:cA} {ops rest:List Oper} {d:Nat} {ks:List Int} {vs:List AV}(h:ud T st ops=some (d,ks,vs,rest)):rest=ops.drop (ks.length+1):=by
 grind[rM,Be]
theorem P2 {T:cA} {ops rest:List Oper} {d:Nat} {ks:List Int} {vs:List AV}(h:ud T st ops=some (d,ks,vs,rest)):vs.length=ks.length:=by
 grind[rM,Dw]
theorem Dx {k:Int}:∀ {l:List Int},jx (l++ [k])=true->k∉l
 | [],_=>by simp
 |j::l,h=>by
  simp [c?,jx,B!,L?] at h;have h1:=Dx h.2;rintro(_|q)
  . have :Fa k (l++ [k])=true :=(sP _ _).2 (by simp);rw [this] at h;cases h.1
  . exact h1 (by assumption)
theorem F0:∀ {l m:List Int},jx (l++m)=true->jx l=true
 | [],_,_=>rfl
 |j::l,m,h=>by
  simp [c?,jx,B!,L?] at h |-;refine⟨?_,F0 h.2⟩;cases q:Fa j l with
  |false=>rfl
  |true=>rw [(sP _ _).2 (A? _ ((sP _ _).1 q))] at h;cases h.1
theorem Bg:∀(aK:List AV) (vs:List Value) (x:AV) (v:Value),ai w A β vs aK->aa w A β v x->ai w A β (vs++ [v]) (aK++ [x])
 | [],vs,x,v,h,hx=>by
   grind[ai]
 |a::aK,vs,x,v,h,hx=>by
  obtain⟨u,cg,rfl,h1,h2⟩:=h;exact⟨u,cg++ [v],rfl,h1,Bg aK cg x v h2 hx⟩
theorem abB {d:Nat} {v:Value} {x:Operand}(h:xO d x=true):(a.put (some d) v).eval x=a.eval x:=by
 cases x with
 |tmp i=>
  simp [xO,Bool.not_eq_true'] at h;have :i≠d:=by grind[bZ]
  simp only [Act.eval,Act.put];rw [Array.getD_eq_getD_getElem?,Array.getD_eq_getD_getElem?,Array.getElem?_setIfInBounds];grind
 |_=>rfl
theorem P3 {T:cA}(hT:bO T P)(hB:aF C A β st a w) {ops:Array Oper} {Q:Exit->Act->World->Prop} {d t kt et:Nat}(hd:d<st.n)(ht:P.underlying t=some (.map kt et))(Nd:P.underlying kt=some (.int .i64)):
  ∀(r:List Oper) (i:Nat) (es:Array MapEntry) (ck:Nat) (w':World) (k0:List Int) (c0:List AV),(∀k,r[k]? =ops[i+k]?)->UW w w' es ck->es.toList.map (·.key)=k0.map (Value.int .i64)->ai w A β (es.toList.map (·.val)) c0->
   jx (k0++(cV st t d r).1)=true->
   (∀P4 SS ck',UW w P4 SS ck'->SS.toList.map (·.key)=(k0++(cV st t d r).1).map (Value.int .i64)->ai w A β (SS.toList.map (·.val)) (c0++(cV st t d r).2.1)->
     wpOps P ops Q (List.range' (i+(cV st t d r).1.length) (cV st t d r).2.2.length) (a.put (some d) (.map (some w.heap.size))) P4)->
   wpOps P ops Q (List.range' i r.length) (a.put (some d) (.map (some w.heap.size))) w'
 | [],i,es,ck,w',k0,c0,_,hm,hk,hv,_,hK=>by
   grind[cV]
 |o::r,i,es,ck,w',k0,c0,hl,hm,hk,hv,hn,hK=>by
  have stop:cV st t d (o::r)=([],[],o::r)->wpOps P ops Q (List.range' i (o::r).length) (a.put (some d) (.map (some w.heap.size))) w':=by
   grind
  cases ho:Nz d o with
  |none=>grind[cV]
  |some p=>
   obtain⟨t',k,x⟩:=p;cases hb:(Nat.beq t' t&&xO d x&&decide (lo .i64<=k/\k<=hi .i64)) with
   |false=>exact stop (by simp only [cV,ho,hb,P!])
   |true=>
    have e:cV st t d (o::r)=(k::(cV st t d r).1,ev st x::(cV st t d r).2.1,(cV st t d r).2.2):=by simp_all[cV,K!]
    obtain⟨o1,o2,o3⟩:=SR ho;simp only [B!] at hb;have htt:=E! hb.1.1;subst htt;rw [e] at hn hK;simp only at hn hK;have h0:ops[i]? =some o:=by simpa using(hl 0).symm
    have jA:∀k,r[k]? =ops[i+1+k]? :=fun k=>by have :=hl (k+1);grind
    have Kb:k∉k0:=Dx (F0 (m:=(cV st t' d r).1) (by grind));have hx:=bl hB x;have cZ:d<a.tmps.size:=by rw [hB.size];omega
    have hem:(a.put (some d) (.map (some w.heap.size))).eval (.tmp d)= .map (some w.heap.size):=by
     simp_all[Act.eval,Act.put]
    have gT:(Instr.mapUpdate t' (.map (some w.heap.size)) (.int .i64 k) (a.eval x)).run P w'= .ok () {w' with heap:=w'.heap.setIfInBounds w.heap.size (.map (es.push {key:= .int .i64 k,val:=a.eval x,born:=ck}) (ck+1))}:=by
     have hc:(Instr.checkKey false 10000 kt (.int .i64 k)).run P w'= .ok () w':=MapKept.run_checkKey Nd (by rfl) false 9999;simp [Instr.mapUpdate,run_underlying ht,MapKept.run_getObj_map hm.there,hc,MapKept.run_findKey Nd (su k es.toList k0 0 hk Kb),MapKept.run_setObj_map _ hm.there,Result.andThen]
    have PV:∀(v:Value) (b:Act),b.put none v=b:=fun _ _=>rfl;refine(Dv h0 o3 ?_);refine sM (w':= {w' with heap:=w'.heap.setIfInBounds w.heap.size (.map (es.push {key:= .int .i64 k,val:=a.eval x,born:=ck}) (ck+1))}) ?_ ?_
    . simp only [execOp,o1,hem,abB hb.1.2];have :(a.put (some d) (.map (some w.heap.size))).eval (.const (.int .i64 k))= .int .i64 k:=rfl;simp_all
    . rw [o2,PV];refine P3 hT hB hd ht Nd r (i+1) (es.push {key:= .int .i64 k,val:=a.eval x,born:=ck}) (ck+1) _ (k0++ [k]) (c0++ [ev st x]) jA ⟨hm.os,hm.tape,hm.output,?_,?_,?_⟩ ?_ ?_ (by grind) ?_
      . simp [hm.size]
      . intro b bS;rw [(MapKept.heap_set hm.there).2 b (by omega)];exact hm.same b bS
      . exact(MapKept.heap_set hm.there).1
      . grind
      . grind[Array.toList_push,Bg]
      grind
theorem P5 {T:cA}(hT:bO T P) {ops:Array Oper} {rest:List Oper} {d:Nat} {ks:List Int} {vs:List AV} {Q:Exit->Act->World->Prop}(h:ud T st ops.toList=some (d,ks,vs,rest))(hR:Rel C st a w)
  (hK:∀a' w',Rel C (st.put (some d) {cond:= [],res:= .ia ks vs}) a' w'->wpOps P ops Q (List.range' (ks.length+1) rest.length) a' w'):wpOps P ops Q (List.range' 0 ops.toList.length) a w:=by
 obtain⟨A,β,hB⟩:=hR;obtain⟨o,r,t,te,kt,et,ho,o1,o2,o3,lz,hd,Ej,hk2,hdn,hi⟩:=rM h;obtain⟨hu,_⟩:=hT.ok t te lz;rw [hd] at hu
 have Nd:P.underlying kt=some (.int .i64):=by
  unfold dW at Ej;split at Ej
  . rename_i tk zy;obtain⟨hku,_⟩:=hT.ok kt tk zy;grind[zp]
  grind
 have h0:ops[0]? =some o:=by rw [<-a?,ho];rfl
 have jA:∀k,r[k]? =ops[0+1+k]? :=fun k=>by
  rw [<-a?,ho,show 0+1+k=k+1 by omega];rfl
 rw [ho,D?,List.range'_succ];refine Dv h0 o3 ?_;refine dj (v:= .map (some w.heap.size)) (w':=w.alloc (.map #[] 0)) ?_ ?_
 . simp [execOp,o1,Instr.makeMap]
 . rw [o2];have hn:jx ([]++(cV st t d r).1)=true :=by grind
   refine P3 hT hB hdn hu Nd r (0+1) #[] 0 _ [] [] jA ⟨rfl,rfl,rfl,by simp,fun b hb=>nO _ b hb,heap_alloc_new w _⟩ rfl (by rfl) hn ?_;intro P4 es ck m1 m2 m3;rw [hi] at m2 m3 |-;have e:0+1+ks.length=ks.length+1:=by omega
   simp only [e];refine hK _ _ ⟨fun b=>A b\/b=w.heap.size,β,?_⟩;have SK:dg w P4 A (fun b=>A b\/b=w.heap.size):=fun b hb=>⟨.inl hb,m1.same b (hB.bound b hb)⟩
   refine hB.step (out:= {cond:= [],res:= .ia ks vs}) (fun t ht=>by grind) (fun k b hk=>by grind[aw]) (fun k b hk=>by grind[aw]) (fun _ _=>rfl) SK m1.os m1.tape m1.output (by rw [m1.size];omega)
    (fun b hb _=>m1.same b hb) (fun b hb=> ?_) (fun b hb=> ?_) (fun k ab hk=>by grind[aw]) (fun k ab hk=>by grind[aw]) (fun k b ab hk=>by grind[aw]) (fun k k' b hk=>by grind[aw]) ?_
   . rw [m1.size];rcases hb with hb|hb
     . have :=hB.bound b hb;omega
     omega
   . grind
   . exact⟨w.heap.size,es,ck,rfl, .inr rfl,m1.there,m2,e7 SK _ _ m3⟩
theorem NG(hE:gi P C E) {id:Nat} {ops:Array Oper} {cs:List Prop} {m:St}(h:Ba E false ops.toList st=some (cs,m))(dy:∀p∈cs,p)
  (hR:Rel C st a w) {Q:Exit->Act->World->Prop} (hQ:∀a' w',Rel C m a' w'->Q .normal a' w'):(Code.region id ops false).wp P Q a w:=by
 simp [Ba,P!] at h;split at h
 . rename_i d ks vs rest hp;refine wp_region ?_;have hl:=Bf hp;rw [P2 hp] at h
   have :=P5 (Q:=Q) hE.fE hp hR fun a' w' mY=>by
    obtain⟨es,sl,h1,h2,_,h4⟩:=qw rest (ks.length+1) [] _ cs m h dy (fun k=>by grind);have :=wA (Q:=Q) hE es _ sl a' w' h1 mY (fun a'' P4 ⟨A,β,hB⟩=>hQ _ _ ⟨A,β,h4 _ _ _ _ _ hB⟩);grind
   grind[Array.length_toList,List.range_eq_range']
 obtain⟨es,sl,h1,h2,_,h4⟩:=qw ops.toList 0 [] st cs m h dy (fun k=>by simp);refine wp_region ?_;have :=wA (Q:=Q) hE es st sl a w h1 hR (fun a' w' ⟨A,β,hB⟩=>hQ _ _ ⟨A,β,h4 _ _ _ _ _ hB⟩);grind[Array.length_toList,List.range_eq_range']
theorem fq.ahead(st:St)(W:List Nat):fq W st (st.ahead W):=by
 refine⟨⟨cL st.kb (W.map .dst),fun k hk=> ?_,fun i _=>rfl,fun k _=>rfl⟩,rfl,rfl,fun k h=>h,fun k h=> ?_,rfl⟩
 . simp_all[St.ahead,dG,Bool.or_true]
 simp_all[St.ahead,dG,Bool.true_or]
theorem F3 {dr:Bool} {ops:List Oper} {st:St} {cs:List Prop} {m:St}(h:Ba E dr ops st=some (cs,m)):fq (lL ops) st m:=by
 unfold Ba at h;cases dr with
 |false=>
  split at h
  . rename_i d ks vs rest hp;obtain⟨o,r,t,te,kt,et,rfl,_,h2,_,_,_,_,_,_,hi⟩:=rM hp;have hdr:=Bf hp;have h1:fq [d] st (st.put (some d) {cond:= [],res:= .ia ks vs}):=fq.put st (some d) _ [d] (fun t ht=>by grind[aI,bZ]);refine(h1.trans (nR _ _ _ _ _ _ h)).mono fun i gU=> ?_
    have FM:∀(l:List Oper) (n:Nat),aI (lL l) i=false->aI (lL (l.drop n)) i=false :=by
     intro l;induction l with
     |nil=>grind
     |cons q l ih=>
      intro n hh;cases n with
      |zero=>grind
      |succ n=>
       grind[lL,aI,Bool.or_eq_false_iff]
    grind[lL,aI,Bool.or_eq_false_iff,List.singleton_append]
  grind[nR]
 |true=>exact((fq.ahead st _).trans (nR _ _ _ _ _ _ h)).mono (fun i hi=>by grind[dn])
theorem aF.ahead(hB:aF C A β st a w)(W:List Nat):aF C A β (st.ahead W) a w:=by
 have hl:∀k ab,(st.ahead W).h k=some ab->∃c,st.h k=some c/\ab=dO (cL st.kb (W.map .dst)) c:=by
  intro k ab h;simp [St.ahead] at h;cases hk:st.h k with
  |none=>rw [hk] at h;cases h
  |some c=>grind[cK,Option.some.injEq]
 have hs:∀k,((st.ahead W).h k).isSome->(st.h k).isSome:=by
  grind[Option.isSome_iff_exists]
 refine⟨hB.defers,hB.size,fun i=>ow _ (fun _ _=>rfl) _ _ (hB.tmps i),fun k ab h=> ?_,fun k k' b h1 h2=>hB.apart k k' b (hs k h1) (hs k' h2),hB.bound,hB.frame,hB.lx,hB.base,fun k b h=>hB.oI k b (hs k h),hB.sk,hB.laid,hB.held⟩;obtain⟨c,hc,rfl⟩:=hl k ab h;exact zK _ (hB.blocks k c hc)
end
end Go.Vg

end
section
namespace Go.Vg
open Go
theorem wB {h h':bg}:∀(x:AV),(∀k∈aD x,h' k=h k)->gu h' x=gu h x:=by
 intro x hx;cases x<;>simp_all [gu,aD]
theorem Dy {h h':bg}:∀(xs:List AV),(∀k∈aV xs,h' k=h k)->mN h' xs=mN h xs
 | [],_=>rfl
 |x::xs,hx=>by
  simp [aV,F!] at hx;simp [mN,wB x (fun k hk=>hx k (.inl hk)),Dy xs (fun k hk=>hx k (.inr hk))]
theorem uf {h h':bg}(x:AV)(hx:∀k∈aD x,h' k=h k):ny h' x=ny h x:=by
 unfold ny;grind[Dy,aD,wB]
theorem wC {h h':bg}:∀(xs:List AV),(∀k∈aV xs,h' k=h k)->kv h' xs=kv h xs
 | [],_=>rfl
 |x::xs,hx=>by
  simp [aV,F!] at hx;simp [kv,uf x (fun k hk=>hx k (.inl hk)),wC xs (fun k hk=>hx k (.inr hk))]
theorem Dz {h h':bg}:∀(ps:List (Nat×AV)),(∀k∈aV (ps.map (·.2)),h' k=h k)->mO h' ps=mO h ps
 | [],_=>rfl
 |(i,x)::ps,hx=>by
  simp [T?,aV,F!] at hx;simp [mO,uf x (fun k hk=>hx k (.inl hk)),Dz ps (fun k hk=>hx k (.inr hk))]
theorem zL {h:bg}(x:AV):∀k∈(gu h x).2,k∈aD x:=by
 intro k hk;cases x<;>simp [gu] at hk;case own j=>grind[aD]
 case pre j n=>grind[aD]
 case view j sz off n=>
  grind[Nat.beq,aD]
theorem F4 {h:bg}:∀(xs:List AV),∀k∈(mN h xs).2,k∈aV xs
 | [],k,hk=>by grind[mN]
 |x::xs,k,hk=>by
  simp [mN,F!] at hk;simp [aV,F!];exact hk.imp (zL x k) (F4 xs k)
theorem xS {h:bg}(x:AV):∀k∈(ny h x).2,k∈aD x:=by
 intro k hk;unfold ny at hk;grind[aD,F4,zL]
theorem zM {h:bg}:∀(xs:List AV),∀k∈(kv h xs).2,k∈aV xs
 | [],k,hk=>by grind[kv]
 |x::xs,k,hk=>by
  simp [kv,F!] at hk;simp [aV,F!];exact hk.imp (xS x k) (zM xs k)
theorem F5 {h:bg}:∀(ps:List (Nat×AV)),∀k∈(mO h ps).2,k∈aV (ps.map (·.2))
 | [],k,hk=>by grind[mO]
 |(i,x)::ps,k,hk=>by
  simp [mO,F!] at hk;simp [T?,aV,F!];exact hk.imp (xS x k) (F5 ps k)
theorem ja {h h':bg}:∀(ks:List Nat),(∀k∈ks,h' k=h k)->cJ h' ks=cJ h ks
 | [],_=>rfl
 |k::ks,hx=>by
  simp [cJ,hx k (R! ..),ja ks (fun j hj=>hx j (G! _ hj))]
theorem NH {h h':bg}(x:AV)(hx:∀k∈aD x,h' k=h k):Ce h' x=Ce h x:=by
 cases x<;>simp_all [Ce,aD]
theorem yy {h h':bg}(T:cA)(t:TypeId)(x i:AV)(hx:∀k∈aD x,h' k=h k):e6 T h' t x i=e6 T h t x i:=by
 cases x<;>cases i<;>simp_all [e6,aD]
theorem F6 {h h':bg}(T:cA)(t:TypeId)(x:AV)(hx:∀k∈aD x,h' k=h k):oG T h' t x=oG T h t x:=by
 cases x<;>simp_all [oG,aD]
theorem Eo {h h':bg}(T:cA)(t:TypeId)(x v:AV)(hx:∀k∈aD x,h' k=h k)(hv:∀k∈aD v,h' k=h k):iP T h' t x v=iP T h t x v:=by
 cases x;case ref k off=>grind[iP,aD]
 case elem k sz i j=>
  grind[iP,aD,uf,ja,ny,xS]
 all_goals rfl
theorem ug {h h':bg}(row:List Ty)(x:AV)(hx:∀k∈aD x,h' k=h k):lv h' row x=lv h row x:=by
 have :=wB x hx;cases x<;>simp_all [lv]
theorem CA {h h':bg}(T:cA)(d:Nat)(t t':TypeId)(s x:AV)(hs:∀k∈aD s,h' k=h k)(hx:∀k∈aD x,h' k=h k):nH T h' d t t' s x=nH T h d t t' s x:=by
 unfold nH;split
 . split
   . rename_i row j7;rw [ug row x hx];cases s;case own k=>simp [hs k (by simp [aD])]
     case pre k n=>simp [hs k (by simp [aD])]
     all_goals rfl
   . rfl
 . rfl
theorem F7 {h h':bg}(T:cA)(t t':TypeId)(s x:AV)(hs:∀k∈aD s,h' k=h k)(hx:∀k∈aD x,h' k=h k):oH T h' t t' s x=oH T h t t' s x:=by
 have fR:∀row,lv h' row x=lv h row x:=fun row=>ug row x hx;cases s;case own k=>grind[oH,aD]
 case view k sz off n=>grind[oH,aD]
 all_goals rfl
theorem Ep {h h':bg}(T:cA)(t:TypeId)(x:AV)(hx:∀k∈aD x,h' k=h k):nI T h' t x=nI T h t x:=by
 cases x;case view k sz off n=>grind[nI,aD]
 all_goals rfl
theorem Er {h h':bg}(T:cA)(t:TypeId)(x:AV)(lo hi mx:Option AV)(hx:∀k∈aD x,h' k=h k):pX T h' t x lo hi mx=pX T h t x lo hi mx:=by
 unfold pX;grind[oi,lo,hi,aD]
theorem Kc {h h':bg}(T:cA)(s d:TypeId)(k:Nat)(hx:h' k=h k):xH T h' s d k=xH T h s d k:=by grind[xH]
theorem Bh {h h':bg}(T:cA)(s d:TypeId)(x:AV)(hx:∀k∈aD x,h' k=h k):mz T h' s d x=mz T h s d x:=by
 have hs:∀row,lv h' row x=lv h row x:=fun row=>ug row x hx;grind[mz,Kc,aD]
theorem wD {h h':bg}(T:cA)(d:Nat)(t:TypeId)(len:Nat)(ps:List (Nat×AV))(hx:∀k∈aV (ps.map (·.2)),h' k=h k):iQ T h' d t len ps=iQ T h d t len ps:=by
 unfold iQ;simp [Dz ps hx,ja (mO h ps).2 (fun j hj=>hx j (F5 ps j hj))]
theorem F8 {h h':bg}(E:Env)(d f:Nat)(xs:List AV)(hx:∀k∈aV xs,h' k=h k):mQ E h' d f xs=mQ E h d f xs:=by
 grind[mQ,wC,ja,kv,zM]
theorem gk:∀(a b:List AV),aV (a++b)=aV a++aV b
 | [],_=>rfl
 |x::a,b=>by simp [c?,aV,gk a b,U!]
theorem k7 {x:AV}:∀ {xs:List AV},x∈xs->∀k∈aD x,k∈aV xs
 |y::ys,hx,k,hk=>by
  simp [aV,F!];rcases L!.1 hx with rfl|hx
  . exact .inl hk
  . exact .inr (k7 hx k hk)
theorem P6 {E:Env} {st cw:St} {o:Oper}(ht:∀x∈o.op.operands.toList,ev cw x=ev st x)(hh:∀k∈lM E st o,cw.h k=st.h k)(oO:cw.kb=st.kb):
  di E cw o=di E st o:=by
 have hk:∀x∈o.op.operands.toList,∀k∈aD (ev st x),cw.h k=st.h k:=by
  intro x hx k hk;exact hh k (G! _ (A? _ (k7 (b? hx) k hk)))
 have hd:∀d,o.dst=some d->cw.h (st.kb+d)=st.h (st.kb+d):=by
  intro d hd;exact hh _ (by simp [lM,hd])
 obtain⟨dst,op,type,pos,after,guard⟩:=o;simp only at ht hk hd
 have hfr:∀d,dst=some d->fresh cw.h (st.kb+d)=fresh st.h (st.kb+d):=by
  intro d h;simp only [fresh,hd d h]
 cases op with
 |move x=>simp only [di,ht x (by simp [Op.operands])]
 |assign x=>simp only [di,ht x (by simp [Op.operands])]
 |pick c x y=>simp only [di,ht c (by simp [Op.operands]),ht x (by simp [Op.operands]),ht y (by simp [Op.operands])]
 |alloc t=>simp only [di,oO]
 |box t x=>simp only [di,ht x (by simp [Op.operands]),oO]
 |build t parts=>
  have :(parts.toList.map fun p=>(p.1,ev cw p.2))=parts.toList.map fun p=>(p.1,ev st p.2):=by
   apply j?;intro p hp;rw [ht p.2 (by simp only [Op.operands];exact b? hp)]
  simp only [di,this]
 |buildSlice t len parts=>
  have :(parts.toList.map fun p=>(p.1,ev cw p.2))=parts.toList.map fun p=>(p.1,ev st p.2):=by
   apply j?;intro p hp;rw [ht p.2 (by simp only [Op.operands];exact b? hp)]
  simp only [di,this,oO];cases dst with
  |none=>rfl
  |some d=>
   simp only [hfr d rfl];rw [wD];intro k dJ;refine hh k (G! _ (A? _ ?_));simp only [Op.operands,List.map_map] at dJ |-;exact dJ
 |load t x=>simp only [di,ht x (by simp [Op.operands]),F6 _ t _ (hk x (by simp [Op.operands]))]
 |store t x y=>simp only [di,ht x (by simp [Op.operands]),ht y (by simp [Op.operands]),Eo _ t _ _ (hk x (by simp [Op.operands])) (hk y (by simp [Op.operands]))]
 |nilCheck x=>simp only [di,ht x (by simp [Op.operands])]
 |binOp op t x y yt=>simp only [di,ht x (by simp [Op.operands]),ht y (by simp [Op.operands])]
 |unOp op t x=>simp only [di,ht x (by simp [Op.operands])]
 |convert s d x=>grind[di,Op.operands,Bh]
 |makeFunc f first bB=>
  grind[ev,List.map_congr_left,Op.operands,di]
 |makeSlice t l c=>
  simp only [di,ht l (by simp [Op.operands]),ht c (by simp [Op.operands]),oO];grind
 |slice t x l hi mx=>
  have h1:l.map (ev cw)=l.map (ev st):=by cases l with|none=>rfl|some y=>simp only [Option.map_some,ht y (by simp [Op.operands])]
  have h2:hi.map (ev cw)=hi.map (ev st):=by cases hi with|none=>rfl|some y=>grind[Op.operands]
  have h3:mx.map (ev cw)=mx.map (ev st):=by cases mx with|none=>rfl|some y=>grind[Op.operands]
  grind[di,Op.operands,Er]
 |fieldAddr s x f=>simp only [di,ht x (by simp [Op.operands])]
 |field s x f=>simp only [di,ht x (by simp [Op.operands])]
 |indexAddr t x i=>simp only [di,rB,ht x (by simp [Op.operands]),ht i (by simp [Op.operands]),yy _ t _ _ (hk x (by simp [Op.operands]))]
 |index t x i=>simp only [di,ht x (by simp [Op.operands]),ht i (by simp [Op.operands])]
 |extract x i=>simp only [di,ht x (by simp [Op.operands])]
 |lookup t x i ok=>simp only [di,ht x (by simp [Op.operands]),ht i (by simp [Op.operands])]
 |call c=>
  obtain⟨callee,args,argTypes⟩:=c
  have bP:∀x∈args.toList,x∈(Op.call ⟨callee,args,argTypes⟩).operands.toList:=by
   grind[Op.operands,Call.operands,Array.toList_append]
  have wE:args.toList.map (ev cw)=args.toList.map (ev st):=j? fun x hx=>ht x (bP x hx);cases callee with
  |invoke r m=>rfl
  |builtin b=>
   simp only [di];cases hl:args.toList with
   |nil=>grind
   |cons x xs=>
    have hx:ev cw x=ev st x:=ht x (bP x (by grind));have kx:=hk x (bP x (by grind));cases xs with
    |nil=>
     cases b<;>first|rfl|(cases argTypes.toList with
      |nil=>rfl
      |cons t ts=>cases ts with
       |nil=>first|(simp only [hx,NH _ kx];done)|(simp only [hx,Ep _ t _ kx];done)
       |cons _ _=>rfl)
    |cons y ys=>
     have hy:ev cw y=ev st y:=ht y (bP y (by grind));have ky:=hk y (bP y (by grind));cases ys with
     |cons z zs=>cases b<;>rfl
     |nil=>
      cases b
      case append=>
       cases zC:argTypes.toList with
       |nil=>rfl
       |cons t ts=>cases ts with
        |nil=>rfl
        |cons t' ts'=>grind[CA]
      case copy=>
       grind[F7]
      all_goals first|rfl|simp only [hx,hy]
  |value f=>
   have SU:f∈(Op.call ⟨.value f,args,argTypes⟩).operands.toList:=by simp [Op.operands,Call.operands]
   have hf:ev cw f=ev st f:=ht f SU;have kf:=hk f SU;simp only [di,hf,wE,oO];cases qo:ev st f with
   |fn kB first bB=>
    cases kB with
    |func g=>
     have wF:∀d,mQ E cw.h d g (first++args.toList.map (ev st)++bB)=mQ E st.h d g (first++args.toList.map (ev st)++bB):=by
      intro d;refine F8 E d g _ fun k dJ=> ?_;simp only [gk,F!] at dJ;rw [qo] at kf;simp only [aD,F!] at kf;rcases dJ with(dJ|dJ)|dJ
      . grind
      . refine hh k (List.mem_cons_of_mem _ (List.mem_append_left _ ?_));grind[Op.operands,Call.operands,Array.toList_append,gk]
      grind
     grind
    |_=>rfl
   |_=>rfl
 |_=>rfl
theorem Es {h h':bg}(E:Env)(d f:Nat)(xs:List AV)(hx:∀k∈aV xs,h' k=h k):kW E h' d f xs=kW E h d f xs:=by
 grind[kW,wC,ja,kv,zM]
theorem P7 {E:Env} {st cw:St} {o:Oper}(ht:∀x∈o.op.operands.toList,ev cw x=ev st x)(hh:∀k∈lM E st o,cw.h k=st.h k)(oO:cw.kb=st.kb):
  yQ E cw o=yQ E st o:=by
 have hk:∀x∈o.op.operands.toList,∀k∈aD (ev st x),cw.h k=st.h k:=by
  intro x hx k hk;exact hh k (G! _ (A? _ (k7 (b? hx) k hk)))
 obtain⟨dst,op,type,pos,after,guard⟩:=o;cases op with
 |load t p=>
  grind[yQ,Op.operands,ev,aD]
 |store t p v=>
  grind[yQ,Op.operands,ev,aD]
 |slice t x l hi mx=>
  cases l with
  |none=>rfl
  |some l=>
   cases hi with
   |none=>rfl
   |some hi=>
    cases mx with
    |none=>rfl
    |some mx=>
     grind[yQ,Op.operands,hi,ev,aD]
 |indexAddr t x i=>
  grind[yQ,Op.operands,ev,aD]
 |call c=>
  obtain⟨callee,args,argTypes⟩:=c
  have bP:∀x∈args.toList,x∈(Op.call ⟨callee,args,argTypes⟩).operands.toList:=by
   grind[Op.operands,Call.operands,Array.toList_append]
  have wE:args.toList.map (ev cw)=args.toList.map (ev st):=j? fun x hx=>ht x (bP x hx);cases callee with
  |invoke r m=>rfl
  |builtin b=>
   simp only [yQ];grind[ev,aD]
  |value f=>
   have SU:f∈(Op.call ⟨.value f,args,argTypes⟩).operands.toList:=by simp [Op.operands,Call.operands]
   have hf:ev cw f=ev st f:=ht f SU;have kf:=hk f SU;simp only [yQ,hf,wE,oO];cases qo:ev st f with
   |fn kB first bB=>
    cases kB with
    |func g=>
     have wF:∀d,kW E cw.h d g (first++args.toList.map (ev st)++bB)=kW E st.h d g (first++args.toList.map (ev st)++bB):=by
      intro d;refine Es E d g _ fun k dJ=> ?_;simp only [gk,F!] at dJ;rw [qo] at kf;simp only [aD,F!] at kf;rcases dJ with(dJ|dJ)|dJ
      . grind
      . refine hh k (List.mem_cons_of_mem _ (List.mem_append_left _ ?_));grind[Op.operands,Call.operands,Array.toList_append,gk]
      grind
     grind
    |_=>rfl
   |_=>rfl
 |_=>rfl
theorem P8 {E:Env} {st cw:St} {o:Oper}(ht:∀x∈o.op.operands.toList,ev cw x=ev st x)(hh:∀k∈lM E st o,cw.h k=st.h k)(oO:cw.kb=st.kb):
  FJ E cw o=FJ E st o:=by
 have hk:∀x∈o.op.operands.toList,∀k∈aD (ev st x),cw.h k=st.h k:=by
  intro x hx k hk;exact hh k (G! _ (A? _ (k7 (b? hx) k hk)))
 obtain⟨dst,op,type,pos,after,guard⟩:=o;cases op with
 |alloc t=>simp_all[FJ]
 |load t p=>
  grind[FJ,Op.operands,ev,aD]
 |store t p v=>
  grind[FJ,Op.operands,ev,aD]
 |_=>rfl
theorem DA {h:bg}(x:AV):∀k∈aD (gu h x).1,k∈aD x:=by
 intro k hk;cases x with
 |own j=>grind[gu,aD]
 |pre j n=>grind[gu,aD]
 |view j sz off n=>
  grind[gu,Nat.beq,aD]
 |_=>exact hk
theorem DB {h:bg}:∀(xs:List AV),∀k∈aV (mN h xs).1,k∈aV xs
 | [],k,hk=>hk
 |x::xs,k,hk=>by
  simp [mN,aV,F!] at hk |-;rcases hk with hk|hk
  . exact .inl (DA x k hk)
  . exact .inr (DB xs k hk)
theorem SV {h:bg}(x:AV):∀k∈aD (ny h x).1,k∈aD x:=by
 intro k hk;unfold ny at hk;grind[aD,DB,DA]
theorem wG {h:bg}:∀(m:List Bool) (xs:List AV),(∀k∈aV (dm h m xs).1,k∈aV xs)/\∀k∈(dm h m xs).2,k∈aV xs
 |m,[]=>⟨fun k hk=>hk,fun k hk=>by cases hk⟩
 |m,x::xs=>by
  obtain⟨g1,g2⟩:=wG (h:=h) m.tail xs;cases hm:m.headD false with
  |true=>
   simp only [dm,hm,cond_true,aV,List.mem_append];grind
  |false=>
   simp only [dm,hm,cond_false,aV,List.mem_append];grind[SV,xS]
theorem vj {h h':bg}:∀(m:List Bool) (xs:List AV),(∀k∈aV xs,h' k=h k)->dm h' m xs=dm h m xs
 |m,[],_=>rfl
 |m,x::xs,hx=>by
  have h1:=vj (h:=h) (h':=h') m.tail xs (fun k hk=>hx k (by simp [aV,F!];exact .inr hk));have h2:=uf (h:=h) (h':=h') x (fun k hk=>hx k (by simp [aV,F!];exact .inl hk));simp [dm,h1,h2]
theorem sy {h h':bg}:∀(ks:List Nat),(∀k∈ks,h' k=h k)->behind h' ks=behind h ks
 | [],_=>rfl
 |k::ks,hk=>by
  simp [behind,hk k (R! ..),sy ks fun j hj=>hk j (G! _ hj)]
theorem wH {h:bg}:∀(ks ls:List Nat),(∀k∈ks,k∈ls)->∀j∈behind h ks,j∈behind h ls
 | [],ls,_,j,hj=>by cases hj
 |k::ks,ls,hk,j,hj=>by
  simp [behind,F!] at hj;rcases hj with hj|hj
  . have :∀(ls:List Nat),k∈ls->j∈behind h ls:=by
     intro ls;induction ls with
     |nil=>intro h;cases h
     |cons l ls ih=>
      intro hl;simp [behind,F!];rcases L!.1 hl with rfl|hl
      . exact .inl hj
      . exact .inr (ih hl)
    exact this ls (hk k (R! ..))
  . exact wH ks ls (fun i hi=>hk i (G! _ hi)) j hj
theorem zN:∀(l acc:List Nat) (k:Nat),k∈dedup acc l->k∈acc\/k∈l
 | [],acc,k,h=> .inl (by grind[dedup])
 |x::l,acc,k,h=>by
  simp [dedup] at h;cases hm:aI acc x with
  |true=>
   rw [hm] at h;rcases zN l acc k h with h|h
   . exact .inl h
   . exact .inr (G! _ h)
  |false=>
   rw [hm] at h;rcases zN l (x::acc) k h with h|h
   . rcases L!.1 h with rfl|h
     . exact .inr (R! ..)
     . exact .inl h
   . exact .inr (G! _ h)
theorem vk {h h':bg}:∀(K:List Nat),(∀k∈K,h' k=h k)->contents h' K=contents h K
 | [],_=>rfl
 |k::K,hk=>by simp [contents,hk k (R! ..),vk K fun j hj=>hk j (G! _ hj)]
theorem Et {h h':bg}(E:Env)(d f:Nat)(xs:List AV)(hx:∀k∈aV xs++behind h (aV xs),h' k=h k):acs E h' d f xs=acs E h d f xs:=by
 have Eh:∀k∈aV xs,h' k=h k:=fun k hk=>hx k (List.mem_append_left _ hk);unfold acs;split
 . rename_i m s hs;obtain⟨p1,p2⟩:=wG (h:=h) m xs;rw [vj m xs Eh,sy (h:=h) (h':=h') _ (fun k hk=>Eh k (p1 k hk))];unfold Nu
   rw [vk (h:=h) (h':=h') _ (fun k hk=>by
    rcases zN _ _ k hk with hk|hk
    . grind
    grind[List.mem_append_right,wH]),ja (h:=h) (h':=h') _ (fun k hk=>Eh k (p2 k hk))]
 . rfl
theorem P9 {E:Env} {st cw:St} {o:Oper}(ht:∀x∈o.op.operands.toList,ev cw x=ev st x)(hh:∀k∈lM E st o,cw.h k=st.h k)(oO:cw.kb=st.kb):
  PR E cw o=PR E st o:=by
 obtain⟨dst,op,type,pos,after,guard⟩:=o;cases op with
 |call c=>
  obtain⟨callee,args,argTypes⟩:=c;cases callee with
  |value f=>
   have bP:∀x∈args.toList,x∈(Op.call ⟨.value f,args,argTypes⟩).operands.toList:=by
    grind[Op.operands,Call.operands,Array.toList_append]
   have wE:args.toList.map (ev cw)=args.toList.map (ev st):=j? fun x hx=>ht x (bP x hx);have hf:ev cw f=ev st f:=ht f (by simp [Op.operands,Call.operands]);simp [PR,hf,wE,oO];cases qo:ev st f with
   |fn kB first bB=>
    cases kB with
    |func g=>
     have FM:∀k∈aV (first++args.toList.map (ev st)++bB),k∈aV ((Op.call ⟨.value f,args,argTypes⟩).operands.toList.map (ev st)):=by
      have SU:f∈(Op.call ⟨.value f,args,argTypes⟩).operands.toList:=by simp [Op.operands,Call.operands]
      have hfk:=k7 (List.mem_map_of_mem (f:=ev st) SU);grind[aD,gk,Op.operands,Call.operands,Array.toList_append]
     have wF:∀d,acs E cw.h d g (first++args.toList.map (ev st)++bB)=acs E st.h d g (first++args.toList.map (ev st)++bB):=by
      intro d;refine Et E d g _ fun k hk=> ?_;rcases F!.1 hk with hk|hk
      . exact hh k (G! _ (A? _ (FM k hk)))
      . exact hh k (G! _ (Z! _ (A? _ (wH _ _ FM k hk))))
     grind
    |_=>rfl
   |_=>rfl
  |_=>rfl
 |_=>rfl
theorem mZ {h:bg} {k e i j:Nat} {row:List Ty} {l:List (Row row)}(hk:h k=some (.gS e (some j) row l i)):∀ {ks:List Nat},k∈ks->j∈fS h ks
 |q::ks,hm=>by
  simp [fS];rcases L!.1 hm with rfl|hm
  . rw [hk];simp
  . split
    . exact G! _ (mZ hk hm)
    . exact mZ hk hm
theorem yU:∀ {cs:List AV} {xs:List AV} {k:Nat},oL cs=some (xs,k)->k∈aV cs
 | [],_,_,h=>by cases h
 |a::r,xs,k,h=>by
  unfold oL at h;simp [aV,List.mem_append];cases r with
  |nil=>
   cases a<;>first|(obtain⟨_,rfl⟩:=h;simp [aD])|cases h
  |cons b r=>
   simp at h;split at h
   . rename_i x k' hl;obtain⟨_,rfl⟩:=h;exact .inr (yU hl)
   . cases h
theorem Kd {E:Env} {h h':bg} {t:TypeId}(p v:AV)(hp:∀k∈aD p,h' k=h k)(hv:∀k∈aD v,h' k=h k):xK E h' t p v=xK E h t p v:=by
 unfold xK;grind[aD,oL,yU]
theorem Eu {E:Env} {h h':bg} {t:TypeId}(p:AV)(hp:∀k∈aD p,h' k=h k)(ho:∀k∈fS h (aD p),h' k=h k):p0 E h' t p=p0 E h t p:=by
 unfold p0;grind[aD,mZ]
theorem F9 {E:Env} {h h':bg} {t:TypeId}(x i:AV)(hp:∀k∈aD x,h' k=h k):sQ E h' t x i=sQ E h t x i:=by
 unfold sQ;grind[aD]
theorem Ga {h h':bg} {k:Nat}(hk:h' k=h k)(ho:∀j∈fS h [k],h' j=h j):closing h' k=closing h k:=by
 unfold closing;rw [hk];cases hh:h k with
 |none=>rfl
 |some ab=>
  cases ab with
  |gS e j row l i=>
   cases j with
   |none=>rfl
   |some k5=>simp [ho k5 (mZ hh (by simp))]
  |_=>rfl
theorem uh {h:bg}:∀ {a b:List Nat},(∀k∈a,k∈b)->∀j∈fS h a,j∈fS h b
 | [],_,_,j,hj=>by grind[fS]
 |k::a,b,hs,j,hj=>by
  simp [fS] at hj;split at hj
  . rename_i hk;rcases L!.1 hj with rfl|hj
    . exact mZ hk (hs k (R! ..))
    . exact uh (fun q hq=>hs q (G! _ hq)) j hj
  . exact uh (fun q hq=>hs q (G! _ hq)) j hj
theorem Qa {E:Env} {st cw:St} {o:Oper}(ht:∀x∈o.op.operands.toList,ev cw x=ev st x)(hh:∀k∈lM E st o,cw.h k=st.h k)(oO:cw.kb=st.kb):
  FO E cw o=FO E st o:=by
 grind[FO,UQ,UP,P6,P7,P8,P9]
theorem SX {E:Env} {st cw:St} {o:Oper}(ht:∀x∈o.op.operands.toList,ev cw x=ev st x)(hh:∀k∈lM E st o,cw.h k=st.h k)(oO:cw.kb=st.kb):
  act E cw o=act E st o:=by
 have hN:=Qa ht hh oO;have adY:∀x∈o.op.operands.toList,∀k∈aD (ev st x),k∈aV (o.op.operands.toList.map (ev st)):=fun x hx k hk=>k7 (b? hx) k hk
 have hk:∀x∈o.op.operands.toList,∀k∈aD (ev st x),cw.h k=st.h k:=fun x hx k hk=>
  hh k (G! _ (A? _ (adY x hx k hk)))
 have hk2:∀x∈o.op.operands.toList,∀k∈fS st.h (aD (ev st x)),cw.h k=st.h k:=fun x hx k hk=>
  hh k (G! _ (Z! _ (Z! _ (A? _ (uh (adY x hx) k hk)))))
 have hc:∀k∈oN E st.h o,cw.h k=st.h k:=fun k hk=>hh k (G! _ (Z! _ (Z! _ (Z! _ hk))))
 have hO:PT E cw o=PT E st o:=by
  unfold PT
  have iu:sR E cw.h o=sR E st.h o:=by
   grind[sR,oN,fS,Ga,List.mem_cons_self,List.mem_cons_of_mem]
  grind[guard,store,Op.operands,Kd,load,Eu,F9]
 grind[act]
end Go.Vg

end
section
namespace Go.Vg
open Go
theorem xT:∀(l:List Nat) (k:Nat),aI l k=true↔k∈l
 | [],k=>by simp [aI]
 |j::l,k=>by
  simp_all[aI,X?,L!,xT]
theorem fW {l:List Nat} {k:Nat}:aI l k=false↔k∉l:=by
 rw [<-xT,Bool.not_eq_true]
theorem qx {a b:List Nat}(h:qq a b=true):∀k∈a,k∉b:=by
 intro k hk;have :=(List.all_eq_true.1 h) k hk;grind[Bool.not_eq_true',fW]
mutual
theorem Gb(p:Nat->Bool):∀(a:AV),(∀k∈aD a,p k=false)->aP p a=a
 | .own k,h=>by simp [aP,h k (by simp [aD])]
 | .pre k _,h=>by simp [aP,h k (by simp [aD])]
 | .view k _ _ _,h=>by simp [aP,h k (by simp [aD])]
 | .ref k _,h=>by simp [aP,h k (by simp [aD])]
 | .elem k _ _ _,h=>by simp [aP,h k (by simp [aD])]
 | .agg cs,h=>by simp only [aP,kC p cs (by simpa [aD] using h)]
 | .b4 cs,h=>by simp only [aP,kC p cs (by simpa [aD] using h)]
 | .ia _ cs,h=>by simp only [aP,kC p cs (by simpa [aD] using h)]
 | .fn f first bB,h=>by
   simp only [aD,F!] at h;simp only [aP,kC p first (fun k hk=>h k (.inl hk)),kC p bB (fun k hk=>h k (.inr hk))]
 | .dz,_| .undef,_| .int _ _,_| .bool _,_| .tt,_| .ff,_| .str _,_| .nil,_| .jM,_| .pw _ _,_| .kq,_| .sl _ _,_| .full _ _,_| .gR _ _ _,_| .qd _ _,_=>by simp [aP]
theorem kC(p:Nat->Bool):∀(aK:List AV),(∀k∈aV aK,p k=false)->eO p aK=aK
 | [],_=>rfl
 |a::aK,h=>by
  simp only [aV,F!] at h;simp only [eO,Gb p a (fun k hk=>h k (.inl hk)),kC p aK (fun k hk=>h k (.inr hk))]
end
theorem wI(p:Nat->Bool)(b:AB)(h:∀k∈iK b,p k=false):dO p b=b:=by
 cases b with
 |cells cs=>grind[dO,kC,iK]
 |row _ _ _ _=>rfl
 |arr _ _=>rfl
 |views e j n m sz=>
  cases j with
  |none=>rfl
  |some j=>simp_all[dO,fb,iK,P!]
 |gS e j row l i=>
  cases j with
  |none=>rfl
  |some j=>simp_all[dO,fb,iK,P!]
theorem Bi {new:List (Nat×AB)} {k:Nat}(h:k∉new.map (·.1)):gD new k=false :=by
 grind[ue,gX,fW]
def Clean(e:Ev)(s:St):Prop :=(∀i,aP (gD e.dP.new) (s.t i)=s.t i)/\∀k,cK (gD e.dP.new) (s.h k)=s.h k
def ap(ops:List Oper)(e:Ev)(s:St):St:=ic (oM ops e.i) e.o.dst (s.put e.o.dst e.dP)
def adZ(g:Bool)(a:AV):AV:=bif g then agj a else a
def zO(e:Ev)(k:Nat):Option (Option AB):=match aw e.dP.new k with
 |some b=>some (some b)
 |none=>bif aI e.dP.del k then some none else match aw e.dP.ib k with
  |some b=>some (some (vG e.dP k b))
  |none=>none
section
variable {P:Program} {C:Ctx} {E:Env} {ops:List Oper}
theorem ad0 {g:Bool} {d:Option Nat} {s:St}:(ic g d s).g=s.g:=by
 cases d<;>cases g<;>rfl
theorem Gc {g:Bool} {d:Option Nat} {s:St}:(ic g d s).h=s.h/\(ic g d s).n=s.n/\(ic g d s).kb=s.kb:=by
 cases d<;>cases g<;>exact⟨rfl,rfl,rfl⟩
theorem KJ(e:Ev)(s:St):(ap ops e s).n=s.n:=Gc.2.1
theorem CB(e:Ev)(s:St):(ap ops e s).kb=s.kb:=Gc.2.2
theorem KK(e:Ev)(s:St):(ap ops e s).g=s.g:=ad0
theorem Gd {e:Ev} {s:St}(hc:Clean e s)(i:Nat):(ap ops e s).t i=if e.o.dst=some i then adZ (oM ops e.i) e.dP.res else s.t i:=by
 unfold ap;cases hd:e.o.dst with
 |none=>
  simp [ic,St.put,reduceCtorEq,Z?];rw [qu];exact hc.1 i
 |some d=>
  by_cases hi:i=d
  . subst hi;cases oM ops e.i<;>simp [ic,St.put,adZ]
  . have gU:¬(some d=some i):=fun h=>hi (u? h).symm;have :mR e.dP.new (s.t i)=s.t i:=by rw [qu];exact hc.1 i
    cases oM ops e.i<;>simp only [ic,St.put,bc hi,P!,K!,T! gU,this]
theorem Ge {e:Ev} {s:St}(hc:Clean e s)(k:Nat):(ap ops e s).h k=match zO e k with
  |some v=>v
  |none=>s.h k:=by
 unfold ap;rw [Gc.1];have hk:=hc.2 k;simp [St.put,Fb,zO];cases aw e.dP.new k with
 |some b=>rfl
 |none=>
  cases aI e.dP.del k with
  |true=>rfl
  |false=>
   grind[aw,cK,Option.some.injEq,wz]
theorem rN {e:Ev} {k:Nat}(h:k∉e.dP.wr):zO e k=none:=by
 simp only [Out.wr,F!,not_or] at h;simp [zO,gX _ k (fW.2 h.2.2),gX _ k (fW.2 h.1),fW.2 h.2.1,P!]
theorem sA:∀(l:List (Nat×AB)) (k:Nat) (c:AB),aw l k=some c->∀j∈iK c,j∈wj l
 |(j0,b0)::l,k,c,hc,j,hj=>by
  simp [aw] at hc;simp [wj,F!];cases hb:Nat.beq k j0 with
  |true=>grind
  |false=>rw [hb] at hc;exact .inr (sA l k c hc j hj)
theorem NI {e g:Ev} {k:Nat} {b:AB}(hp:qq e.dP.zI (g.dP.new.map (·.1))=true)(h:zO e k=some (some b)):dO (gD g.dP.new) b=b:=by
 have axT:∀j∈e.dP.zI,gD g.dP.new j=false :=fun j hj=>Bi (qx hp j hj);unfold zO at h;split at h
 . grind[Option.some.injEq,wI,Out.zI,sA]
 . cases hd:aI e.dP.del k with
   |true=>grind
   |false=>
    rw [hd] at h;split at h
    . rename_i c hc;simp at h;subst h;have iu:∀j∈iK c,gD g.dP.new j=false :=fun j hj=>axT j (by grind[Out.zI,sA]);unfold vG;cases aI e.dP.raw k with
      |true=>grind[wI]
      |false=>
      simp;rw [wz,gO];have comm:(fun k=>gD e.dP.new k || gD g.dP.new k)=fun k=>gD g.dP.new k || gD e.dP.new k:=by grind
      rw [comm,<-gO,wI _ c iu]
    grind
theorem Clean.ap {e g:Ev} {s:St}(hg:Clean g s)(he:Clean e s)(hp:qq e.dP.zI (g.dP.new.map (·.1))=true):Clean g (ap ops e s):=by
 refine⟨fun i=> ?_,fun k=> ?_⟩
 . rw [Gd he];split
   . have :aP (gD g.dP.new) e.dP.res=e.dP.res:=Gb _ _ fun k hk=>Bi (qx hp k (by grind[Out.zI]));cases hq:oM ops e.i with
     |false=>exact this
     |true=>
      cases hr:e.dP.res with
      |bool b=>cases b<;>rfl
      |_=>rw [hr] at this;exact this
   . exact hg.1 i
 . rw [Ge he];cases hw:zO e k with
   |none=>exact hg.2 k
   |some v=>
    cases v with
    |none=>rfl
    |some b=>grind[cK,NI]
theorem Bj {h h':bg}:∀(l:List (Nat×AB)),(∀k∈l.map (·.1),h' k=h k)->jy h' l=jy h l
 | [],_=>rfl
 |(k,b)::l,hx=>by
  simp [jy,hx k (by simp),Bj l (fun j hj=>hx j (by simp only [T?,L!];exact .inr hj))]
theorem Gf {t t':Nat->AV} {o:Oper}(h:∀x∈looks ops o,t' x=t x):PW ops t' o=PW ops t o:=by
 grind[PW,looks,Nx]
theorem Bk:∀(xs:List Operand) (i:Nat), .tmp i∈xs->i∈slotsOf xs
 |x::xs,i,h=>by
  rcases L!.1 h with rfl|h
  . simp [slotsOf]
  . have :=Bk xs i h;cases x<;>simp [slotsOf,this]
theorem qy {h h':bg}:∀(ks:List Nat),(∀k∈ks,h' k=h k)->fS h' ks=fS h ks
 | [],_=>rfl
 |k::ks,hk=>by simp [fS,hk k (R! ..),qy ks fun j hj=>hk j (G! _ hj)]
theorem abD {s s':St} {o:Oper}(h:∀x∈looks ops o,s'.t x=s.t x)(hg:s'.g=s.g):∀x∈o.op.operands.toList,ev s' x=ev s x:=by
 intro x hx;cases x with
 |global i=>grind[ev]
 |tmp i=>exact h i (by grind[looks,List.mem_append_right,Bk])
 |_=>rfl
theorem lA.EO {f:Ev} {s s1 s':St}(hf:lA E ops f s s1)(ht:∀x∈looks ops f.o,s'.t x=s.t x)(hk:∀k,k∈f.kr\/k∈f.dP.wr->s'.h k=s.h k)(hn:s'.n=s.n)(oO:s'.kb=s.kb)(hgg:s'.g=s.g):
  lA E ops f s' (ap ops f s'):=by
 have hev:=abD ht hgg
 have hkr:lM E s' f.o=lM E s f.o:=by
  have mc:∀k∈aV (f.o.op.operands.toList.map (ev s)),s'.h k=s.h k:=fun k dJ=>hk k (.inl (by rw [hf.kr];exact G! _ (A? _ dJ)))
  have hbc:rK s' f.o=rK s f.o:=by
   grind[rK,List.map_congr_left,sy]
  have iu:oN E s'.h f.o=oN E s.h f.o:=by
   have hm:∀q∈oN E s.h f.o,s'.h q=s.h q:=fun q hq=>hk q (.inl (by
    rw [hf.kr];exact G! _ (Z! _ (Z! _ (Z! _ hq)))))
   grind[oN,qy,List.mem_singleton,List.mem_cons_self]
  grind[lM,List.map_congr_left,qy]
 refine⟨hf.op,?_,hf.kr.trans hkr.symm,?_,iZ.refl _⟩
 . have :=hf.dst;grind[iX]
 . have lI:=hf.step;cases ho:f.out with
   |none=>
    grind[Gf]
   |some out=>
    rw [ho] at lI;obtain⟨h1,h2,h3,h4⟩:=lI;have he:f.dP=out:=by grind[Ev.dP]
    refine⟨by grind[Gf],?_,?_,h4⟩
    . rw [SX hev (fun k dJ=>hk k (.inl (by rw [hf.kr];omega))) oO];omega
    grind[Bj,Out.wr]
theorem lA.seq {f:Ev} {s s1 r r1:St}(hf:lA E ops f s s1)(h:iZ r s)(h1:iZ r1 s1):lA E ops f r r1:=by
 have :=hf.EO (s':=r) (fun x _=>by rw [h.1]) (fun k _=>by rw [h.2.1]) h.2.2.1 h.2.2.2.1 h.2.2.2.2;refine⟨this.op,this.dst,this.kr,this.step,?_⟩;refine h1.trans (hf.next.trans ?_);refine iZ.ic ?_ _ _;obtain⟨e1,e2,e3,e4,e5⟩:=h;refine⟨?_,?_,e3.symm,e4.symm,e5.symm⟩
 . simp_all[St.put]
 simp_all[St.put]
theorem sT.seq:∀(es:List Ev) (s r q q':St),sT E ops es s q->iZ r s->iZ q' q->sT E ops es r q'
 | [],s,r,q,q',h,h1,h2=>h2.trans (iZ.trans h h1.symm)
 |e::es,s,r,q,q',⟨s1,h,hx⟩,h1,h2=>⟨s1,h.seq h1 (iZ.refl _),sT.seq es s1 s1 q q' hx (iZ.refl _) h2⟩
theorem apart_spec {e f:Ev}(h:pH ops e f=true):(∀d,e.o.dst=some d->d∉looks ops f.o)/\(∀d,f.o.dst=some d->d∉looks ops e.o)/\(∀d,e.o.dst=some d->f.o.dst≠some d)/\
  (∀k∈e.dP.wr,k∉f.kr)/\(∀k∈f.dP.wr,k∉e.kr)/\(∀k∈e.dP.wr,k∉f.dP.wr)/\qq e.dP.zI (f.dP.new.map (·.1))=true/\qq f.dP.zI (e.dP.new.map (·.1))=true :=by
 unfold pH at h;grind[qx,A9,Bool.not_eq_true',fW,bZ,Bool.not_true]
theorem swap {e f:Ev} {s s1 s2:St}(he:lA E ops e s s1)(hf:lA E ops f s1 s2)(ha:pH ops e f=true)(ce:Clean e s)(cf:Clean f s):
  lA E ops f s (ap ops f s)/\lA E ops e (ap ops f s) (ap ops e (ap ops f s))/\iZ (ap ops e (ap ops f s)) s2:=by
 obtain⟨a1,a2,a3,a4,a5,a6,a7,a8⟩:=apart_spec ha;have n1:iZ s1 (ap ops e s):=he.next;have cf1:Clean f (ap ops e s):=cf.ap ce a7;have ce1:Clean e (ap ops f s):=ce.ap cf a8;have hf':lA E ops f (ap ops e s) s2:=hf.seq n1.symm (iZ.refl _)
 have hF:lA E ops f s (ap ops f s):=by
  refine hf'.EO (fun x hx=> ?_) (fun k hk=> ?_) (KJ _ _).symm (CB _ _).symm (KK _ _).symm
  . rw [Gd ce,T! (fun h=>a1 x h hx)]
  grind[Ge,rN]
 have hE:lA E ops e (ap ops f s) (ap ops e (ap ops f s)):=by
  refine he.EO (fun x hx=> ?_) (fun k hk=> ?_) (KJ _ _) (CB _ _) (KK _ _)
  . rw [Gd cf,T! (fun h=>a2 x h hx)]
  grind[Ge,rN]
 refine⟨hF,hE,iZ.trans ?_ hf'.next.symm⟩;show iZ (ap ops e (ap ops f s)) (ap ops f (ap ops e s));refine⟨?_,?_,by grind[KJ],by grind[CB],by grind[KK]⟩
 . grind[Gd]
 grind[Ge,rN]
def qz(ops:List Oper):List Ev->Prop
 | []=>True
 |e::es=>(∀f∈es,qq e.dP.zI (f.dP.new.map (·.1))=true/\(waits f e=true\/pH ops e f=true))/\qz ops es
theorem UX:∀(es1:List Ev) (f:Ev) (oP:List Ev) (s q:St),sT E ops (es1++f::oP) s q->(∀e∈es1,pH ops e f=true)->
  qz ops (es1++f::oP)->(∀g∈es1++f::oP,Clean g s)->lA E ops f s (ap ops f s)/\sT E ops (es1++oP) (ap ops f s) q
 | [],f,oP,s,q,hx,ha,_,hc=>by
   obtain⟨s1,h1,h2⟩:=hx;refine⟨h1.EO (fun _ _=>rfl) (fun _ _=>rfl) rfl rfl rfl,sT.seq _ _ _ _ _ h2 h1.next.symm (iZ.refl _)⟩
 |e::es1,f,oP,s,q,hx,ha,hP,hc=>by
  obtain⟨s1,h1,h2⟩:=hx;have ce:=hc e (by simp)
  have Su:∀g∈es1++f::oP,Clean g s1:=by
   intro g hg;have h:=(hc g (by grind)).ap (ops:=ops) ce (hP.1 g hg).1;have hn:iZ s1 (ap ops e s):=h1.next;exact⟨fun i=>by rw [hn.1];exact h.1 i,fun k=>by rw [hn.2.1];exact h.2 k⟩
  obtain⟨b1,b2⟩:=UX es1 f oP s1 q h2 (fun e' he'=>ha e' (G! _ he')) hP.2 Su;obtain⟨c1,c2,c3⟩:=swap h1 b1 (ha e (by simp)) ce (hc f (by simp));exact⟨c1,ap ops e (ap ops f s),c2,sT.seq _ _ _ _ _ b2 c3 (iZ.refl _)⟩
end
end Go.Vg

end
section
namespace Go.Vg
open Go
section
variable {P:Program} {C:Ctx} {E:Env}
theorem sU {l:Array Bool} {i:Nat}(h:i<l.size):l.getD i true=l.getD i false :=by
 grind
theorem qz.sub:∀ {es1:List Ev} {f:Ev} {oP:List Ev} {ops:List Oper},qz ops (es1++f::oP)->qz ops (es1++oP)
 | [],f,oP,ops,h=>h.2
 |e::es1,f,oP,ops,h=>by
  refine⟨fun g hg=>h.1 g ?_,qz.sub (es1:=es1) h.2⟩;have hg:g∈es1++oP:=hg;show g∈es1++f::oP;rw [F!] at hg |-;exact hg.imp id (G! _)
theorem qz.mid:∀ {es1:List Ev} {f:Ev} {oP:List Ev} {ops:List Oper},qz ops (es1++f::oP)->(∀e∈es1,qq e.dP.zI (f.dP.new.map (·.1))=true/\(waits f e=true\/pH ops e f=true))/\
  ∀g∈oP,qq f.dP.zI (g.dP.new.map (·.1))=true
 | [],f,oP,ops,h=>⟨fun e he=>(by grind),fun g hg=>(h.1 g hg).1⟩
 |e::es1,f,oP,ops,h=>by
  obtain⟨h1,h2⟩:=qz.mid (es1:=es1) h.2;refine⟨fun e' he'=> ?_,h2⟩;rcases L!.1 he' with rfl|he'
  . exact h.1 f (by simp)
  . exact h1 e' he'
def azA(all:List Ev):Prop :=∀f∈all,∀k∈f.pre,∃x∈f.o.after.toList,Region.binds .any x=true/\(x.on=k\/∃g∈all,g.i=x.on/\k∈g.pre)
theorem SY(hE:gi P C E) {ops:Array Oper} {Q:Exit->Act->World->Prop}:∀(fuel:Nat) (listed:Array Bool) (es:List Ev) (s q:St) (a:Act) (w:World),
  es.length<=fuel->sT E ops.toList es s q->qz ops.toList es->(∀g∈es,Clean g s)->(es.map (·.i)).Pairwise (· < ·)->(∀i,listed.getD i true=false↔∃e∈es,e.i=i)->
  (∀e∈es,∀x∈e.o.after.toList,Region.binds .any x=true->x.on<e.i)->(∀e∈es,ops[e.i]? =some e.o)->∀(all:List Ev),(∀e∈es,e∈all)->(∀g∈all,ops[g.i]? =some g.o)->azA all->(∀g∈all,listed.getD g.i true=true->∀k∈g.pre,listed.getD k false=true)->listed.size=ops.size->Rel C s a w->(∀a' w',Rel C q a' w'->Q .normal a' w')->wpAny P .any ops Q fuel listed a w:=by
 intro fuel;induction fuel with
 |zero=>
  intro listed es s q a w hl hx hP hc hi hm hb ho all jO hao ad3 iu cZ hR hQ;have :es= []:=M?.1 (Nat.le_zero.1 hl);subst this;obtain⟨A,β,hB⟩:=hR;refine⟨?_,hQ _ _ ⟨A,β,hB.seq hx⟩⟩;simp_all[List.eq_nil_iff_forall_not_mem,mem_ready]
 |succ fuel ih=>
  intro listed es s q a w hl hx hP hc hi hm hb ho all jO hao ad3 iu cZ hR hQ;refine⟨fun hr=> ?_,fun i gU=> ?_⟩
  . cases es with
    |nil=>
     obtain⟨A,β,hB⟩:=hR;exact hQ _ _ ⟨A,β,hB.seq hx⟩
    |cons e es=>
     exfalso;have hoe:=ho e (by simp);have fP:e.i<ops.size:=(G?.1 hoe).1
     have :e.i∈Region.ready .any ops listed:=by
      refine mem_ready.2 ⟨(hm e.i).2 ⟨e,by simp,rfl⟩,e.o,hoe,fun x AR hbx=> ?_⟩;have hon:=hb e (by simp) x (by simpa using AR) hbx;rw [<-sU (by rw [cZ];omega)];cases hq:listed.getD x.on true with
      |true=>rfl
      |false=>
       obtain⟨g,hg,hgi⟩:=(hm x.on).1 hq;exfalso;rcases L!.1 hg with rfl|hg
       . omega
       . have :e.i<g.i:=(W?.1 hi).1 g.i (b? hg);omega
     rw [hr] at this;cases this
  . obtain⟨h0,o,zP,SZ⟩:=mem_ready.1 gU;obtain⟨f,hf,hfi⟩:=(hm i).1 h0;obtain⟨es1,oP,rfl⟩:=List.append_of_mem hf;subst hfi;have hof:=ho f (by simp);rw [hof] at zP;simp only [A!] at zP;subst zP;obtain⟨m1,m2⟩:=hP.mid
    have axV:∀g∈all,ops[g.i]? =some f.o->∀k∈g.pre,listed.getD k false=true :=by
     intro g hg hgo k hk
     have hgf:g.o=f.o:=by
      have :=hao g hg;rw [hgo] at this;exact(u? this).symm
     obtain⟨x,Eh,hx2,hx3⟩:=ad3 g hg k hk;rw [hgf] at Eh;have Qb:=SZ x (by simpa using Eh) hx2;rcases hx3 with rfl|⟨g',yz,hgi,hkg⟩
     . exact Qb
     . refine iu g' yz ?_ k hkg;rw [hgi];rw [K?] at Qb |-;cases hq:listed[x.on]? with
       |none=>rfl
       |some b=>rw [hq] at Qb;exact Qb
    have CC:∀e∈es1,pH ops.toList e f=true :=by
     intro e he;rcases(m1 e he).2 with hw|hw
     . exfalso;have hmk:e.i∈f.pre:=(xT _ _).1 hw;have this :=axV f (jO f (by simp)) hof e.i hmk;have he0:=(hm e.i).2 ⟨e,by simp [he],rfl⟩
       have fP:e.i<listed.size:=by
        rw [cZ];exact(G?.1 (ho e (by simp [he]))).1
       rw [sU fP] at he0;rw [he0] at this;cases this
     . exact hw
    obtain⟨c1,c2⟩:=UX es1 f oP s q hx CC hP hc;refine Bd hE c1 hR fun a' w' mY=> ?_;have cf:=hc f (by simp)
    have iJ:∀e∈es1++oP,e∈es1++f::oP:=by
     intro e he;rw [F!] at he |-;exact he.imp id (G! _)
    have dR:∀e∈es1++oP,e.i≠f.i:=by
     intro e he;rw [v?,T?,List.pairwise_append] at hi;obtain⟨p1,p2,p3⟩:=hi;rcases F!.1 he with he|he
     . have :e.i<f.i:=p3 e.i (b? he) f.i (by simp);omega
     . have :f.i<e.i:=(W?.1 p2).1 e.i (b? he);omega
    have aHh:f.i<listed.size:=by rw [cZ];exact(G?.1 hof).1
    refine ih (listed.setIfInBounds f.i true) (es1++oP) (ap ops.toList f s) q a' w' ?_ c2 hP.sub ?_ ?_ ?_ (fun e he=>hb e (iJ e he)) (fun e he=>ho e (iJ e he)) all (fun e he=>jO e (iJ e he)) hao ad3 ?_ (by simpa using cZ) mY hQ
    . simp only [C!,D?] at hl |-;omega
    . intro g hg;refine(hc g (iJ g hg)).ap cf ?_;rcases F!.1 hg with hg|hg
      . exact(apart_spec (CC g hg)).2.2.2.2.2.2.2
      . exact m2 g hg
    . refine hi.sublist ?_;rw [v?,v?,T?];exact List.Sublist.append (List.Sublist.refl _) (List.sublist_cons_self _ _)
    . intro i;by_cases hif:i=f.i
      . subst hif
        have :(listed.setIfInBounds f.i true).getD f.i true=true :=by
         rw [K?,Array.getElem?_setIfInBounds_self_of_lt aHh];rfl
        rw [this];constructor
        . intro h;cases h
        . rintro⟨e,he,h⟩;exact absurd h (dR e he)
      . rw [getD_set_ne true (fun h=>hif h.symm),hm i];constructor
        . rintro⟨e,he,rfl⟩;refine⟨e,?_,rfl⟩;rw [F!,L!] at he;rw [F!];rcases he with he|rfl|he
          . exact .inl he
          . exact absurd rfl hif
          . exact .inr he
        . rintro⟨e,he,rfl⟩;exact⟨e,iJ e he,rfl⟩
    . intro g hg hlg k hk;by_cases hgf:g.i=f.i
      . exact getD_set_true (axV g hg (by rw [hgf];exact hof) k hk)
      . rw [getD_set_ne true (fun h=>hgf h.symm)] at hlg;exact getD_set_true (iu g hg hlg k hk)
theorem wJ:∀(a b:List Nat) (k:Nat),k∈A8 a b->k∈a\/k∈b
 | [],b,k,h=> .inr h
 |j::a,b,k,h=>by
  simp [A8] at h;cases hj:aI b j with
  |true=>
   rw [hj] at h;rcases wJ a b k h with h|h
   . exact .inl (G! _ h)
   . exact .inr h
  |false=>
   rw [hj] at h;rcases wJ a (j::b) k h with h|h
   . exact .inl (G! _ h)
   . rcases L!.1 h with rfl|h
     . exact .inl (R! ..)
     . exact .inr h
theorem Gg:∀(tr:List Ev) (i k:Nat),k∈Ny i tr->∃g∈tr,g.i=i/\k∈g.pre
 |e::tr,i,k,h=>by
  simp [Ny] at h;cases hb:Nat.beq e.i i with
  |true=>rw [hb] at h;exact⟨e,R! ..,E! hb,h⟩
  |false=>
   rw [hb] at h;obtain⟨g,h1,h2⟩:=Gg tr i k h;exact⟨g,G! _ h1,h2⟩
 | [],_,_,h=>by cases h
theorem zQ:∀(tr:List Ev) (xs:List Edge) (k:Nat),k∈mg tr xs->∃x∈xs,Region.binds .any x=true/\(x.on=k\/∃g∈tr,g.i=x.on/\k∈g.pre)
 |tr,x::xs,k,h=>by
  simp [mg] at h;cases hb:Region.binds .any x with
  |true=>
   rw [hb] at h;rcases wJ _ _ k h with h|h
   . grind[List.mem_cons_self,Gg]
   . obtain⟨y,h1,h2⟩:=zQ tr xs k h;exact⟨y,G! _ h1,h2⟩
  |false=>
   rw [hb] at h;obtain⟨y,h1,h2⟩:=zQ tr xs k h;exact⟨y,G! _ h1,h2⟩
 |_,[],_,h=>by cases h
theorem S0 {kb:Nat} {ops:List Oper}(es:List Ev):∀(tr:List Ev),ND kb ops tr es->∀f∈es,∀k∈f.pre,∃x∈f.o.after.toList,Region.binds .any x=true/\(x.on=k\/∃g,(g∈tr\/g∈es)/\g.i=x.on/\k∈g.pre):=by
 induction es with
 |nil=>grind
 |cons e es ih=>
  intro tr h f hf k hk;obtain⟨_,hp,hr⟩:=h;grind[zQ,List.mem_cons_self,List.mem_cons_of_mem]
theorem Bl {kb:Nat} {ops:List Oper}:∀(es tr:List Ev),ND kb ops tr es->(∀e∈tr,∀f∈es,qq e.dP.zI (f.dP.new.map (·.1))=true/\(waits f e=true\/pH ops e f=true))/\
  qz ops es/\(∀f∈es,∀x∈f.o.after.toList,Region.binds .any x=true->x.on<f.i)/\∀f∈es,∀x∈f.dP.new,cL kb ((lL ops).map .dst) x.1=true
 | [],tr,_=>⟨fun _ _ f hf=>(by grind),trivial,fun f hf=>(by grind),fun f hf=>(by grind)⟩
 |f::es,tr,⟨h,_,hr⟩=>by
  obtain⟨r1,r2,r3,r4⟩:=Bl es (f::tr) hr;simp only [yR,K!,B!,E?,X?] at h;obtain⟨⟨h1,h2⟩,h3⟩:=h;refine⟨fun e he g hg=> ?_,⟨fun g hg=>r1 f (by simp) g hg,r2⟩,fun g hg x hx hb=> ?_,fun g hg x hx=> ?_⟩
  . grind
  . rcases L!.1 hg with rfl|hg
    . rcases h2 x hx with h|h
      . grind
      simp_all
    grind
  grind
theorem aF.drew {A:Nat->Prop} {β:Nat->Value} {st:St} {a:Act} {w:World}(hB:aF C A β st a w)(n:Nat):aF C A β st a {w with drawn:=n}:=by
 have hK:dg w {w with drawn:=n} A A:=fun b hb=>⟨hb,rfl⟩;refine⟨hB.defers,hB.size,fun i=>jo hK _ _ (hB.tmps i),fun k ab h=> ?_,hB.apart,hB.bound,⟨hB.frame.os,hB.frame.tape,hB.frame.output,hB.frame.size,hB.frame.block⟩,hB.lx,hB.base,hB.oI,hB.sk,fun i d hd=>(hB.laid i d hd).mono hK,hB.held⟩;have :=vL (w:=w) (aO:=β) (new:= []) (w':= {w with drawn:=n}) (fun _ _=>rfl) rfl (fun b hb=>⟨rfl,id⟩) hK (hB.blocks k ab h);rwa [show c6 [] ab=ab from rfl] at this
theorem KL {ops:List Oper}(es:List Ev):∀(s q:St),sT E ops es s q->∀e∈es,ops[e.i]? =some e.o:=by
 induction es with
 |nil=>grind
 |cons e es ih=>
  intro s q hx f hf;obtain⟨s1,h1,h2⟩:=hx;rcases L!.1 hf with rfl|hf
  . exact h1.op
  grind
theorem Ke(hE:gi P C E)(hm:P.follows .mixedOrders=true) {id:Nat} {ops:Array Oper} {st:St} {a:Act} {w:World} {cs:List Prop} {m:St}(h:Ba E true ops.toList st=some (cs,m))(dy:∀p∈cs,p)
  (hR:Rel C st a w) {Q:Exit->Act->World->Prop} (hQ:∀a' w',Rel C m a' w'->Q .normal a' w'):(Code.region id ops true).wp P Q a w:=by
 obtain⟨es,sl,h1,h2,h3,h4⟩:=qw ops.toList 0 [] _ cs m h dy (fun k=>by simp);obtain⟨_,p1,p2,p3⟩:=Bl es [] (h3 rfl);obtain⟨A,β,hB⟩:=hR
 have hlen:es.length=ops.size:=by
  have :=congrArg List.length h2;grind
 have ad5:∀i,(∃e∈es,e.i=i)↔i<ops.size:=by
  intro i;have :(∃e∈es,e.i=i)↔i∈es.map (·.i):=by simp
  grind
 refine wp_region_any hm (SY (C:=C) hE ops.size _ es _ sl _ _ (by omega) h1 p1 (fun g hg=> ?_) ?_ (fun i=> ?_) p2 (fun e he=> ?_) es (fun _ h=>h) (fun e he=> ?_) ?_ ?_ (by simp) ⟨A,β,(hB.ahead _).drew _⟩ (fun a' w' ⟨A,β,hB⟩=>hQ _ _ ⟨A,β,h4 _ _ _ _ _ hB⟩))
 . have hp:∀k,gD g.dP.new k=true->cL st.kb ((lL ops.toList).map .dst) k=true :=by
    intro k hk
    have :∃x∈g.dP.new,x.1=k:=by
     rw [ue] at hk
     have :k∈g.dP.new.map (·.1):=by
      apply N?;intro hn;rw [gX _ k (fW.2 hn)] at hk;cases hk
     simpa using this
    obtain⟨x,hx,rfl⟩:=this;exact p3 g hg x hx
   have axW:∀k,(cL st.kb ((lL ops.toList).map .dst) k || gD g.dP.new k)=cL st.kb ((lL ops.toList).map .dst) k:=by
    intro k;cases hk:gD g.dP.new k with
    |false=>rw [Bool.or_false]
    |true=>rw [hp k hk];rfl
   refine⟨fun i=> ?_,fun k=> ?_⟩
   . simp only [St.ahead,eE,axW]
   . simp only [St.ahead,iY,axW]
 . rw [h2];exact List.pairwise_lt_range'
 . rw [ad5];constructor
   . intro h;by_cases hi:i<ops.size
     . exact hi
     . rw [K?,Array.getElem?_eq_none (by simpa using hi)] at h;cases h
   . intro hi;rw [K?,Array.getElem?_replicate,W! hi];rfl
 . have :=KL es _ _ h1 e he;simpa using this
 . have :=KL es _ _ h1 e he;simpa using this
 . intro f hf k hk;obtain⟨x,g1,g2,g3⟩:=S0 es [] (h3 rfl) f hf k hk;refine⟨x,g1,g2,g3.imp (fun h=>h) ?_⟩;rintro⟨g,hg,h⟩;rcases hg with hg|hg
   . cases hg
   . exact⟨g,hg,h⟩
 . intro g hg hlg;have hgi:g.i<ops.size:=(ad5 g.i).1 ⟨g,hg,rfl⟩;rw [K?,Array.getElem?_replicate,W! hgi] at hlg;cases hlg
theorem yV(hE:gi P C E)(hm:P.follows .mixedOrders=true) {id:Nat} {ops:Array Oper} {d:Bool} {st:St} {a:Act} {w:World} {cs:List Prop} {m:St}(h:Ba E d ops.toList st=some (cs,m))(dy:∀p∈cs,p)
  (hR:Rel C st a w) {Q:Exit->Act->World->Prop} (hQ:∀a' w',Rel C m a' w'->Q .normal a' w'):(Code.region id ops d).wp P Q a w:=by
 cases d
 . grind[NG]
 grind[Ke]
end
end Go.Vg

end
section
namespace Go.Vg
open Go
section
variable {P:Program} {C:Ctx} {E:Env} {A:Nat->Prop} {β:Nat->Value} {st:St} {a:Act} {w:World}
theorem fq.clear {W:List Nat} {s m:St}(h:fq W s.clear m):fq W s.clear m:=h
theorem aF.clear(hB:aF C A β st a w):aF C A β st.clear a w:=hB.seq ⟨rfl,rfl,rfl,rfl,rfl⟩
theorem ad6(hB:aF C A β st a w) {c:Operand}(h:ev st c= .tt):a.eval c= .bool true :=by
 have :=bl hB c;grind[aa]
theorem ad7(hB:aF C A β st a w) {c:Operand}(h:ev st c= .ff):a.eval c= .bool false :=by
 have :=bl hB c;grind[aa]
theorem Qc(hB:aF C A β st a w) {c:Operand} {b:Bool}(h:ev st c= .bool b):a.eval c= .bool b:=by
 have :=bl hB c;grind[aa]
theorem ad8(hB:aF C A β st a w) {c:Operand} {row:List Ty} {l:List (Row row)}(h:ev st c= .pw row l):∃b,a.eval c= .bool b/\(b=true->l= []):=by
 have :=bl hB c;grind[aa]
theorem qA {W W':List Nat}:∀i,aI (W++W') i=false->aI W i=false :=by
 grind[dn,Bool.or_eq_false_iff]
theorem wK {W W':List Nat}:∀i,aI (W++W') i=false->aI W' i=false :=by
 grind[dn,Bool.or_eq_false_iff]
theorem kD:∀(c:Code) (st:St) (cs:List Prop) (m:St),fH E c st=some (cs,m)->fq (vE c) st m
 | .skip,st,cs,m,h=>by
   grind[fH,Option.some.injEq,Prod.mk.injEq,fq.refl]
 | .region id ops d,st,cs,m,h=>by
   exact F3 h
 | .seq x y,st,cs,m,h=>by
   simp [fH] at h;split at h
   . rename_i c cw hx;obtain⟨c',hy,_⟩:=oz h;exact(kD x _ _ _ hx).trans (kD y _ _ _ hy)
   . cases h
 | .cond c x y,st,cs,m,h=>by
   simp [fH] at h;split at h
   . exact(kD x _ _ _ h).mono qA
   . exact(kD y _ _ _ h).mono wK
   . obtain⟨c1,s1,c2,s2,r1,r2,hm,rfl⟩:=xR h;exact fq.merge hm
   . cases h
 | .block id b,st,cs,m,h=>by
   exact kD b _ _ _ h
 | .loop _,st,cs,m,h=>by grind[fH]
 | .rangeFunc _ _ _ _,st,cs,m,h=>by grind[fH]
 | .exit _,st,cs,m,h=>by grind[fH]
 | .scope _,st,cs,m,h=>by grind[fH]
 | .label _,st,cs,m,h=>by grind[fH]
 | .goto _,st,cs,m,h=>by grind[fH]
 | .ret,st,cs,m,h=>by grind[fH]
 | .refuse _,st,cs,m,h=>by grind[fH]
theorem js(hE:gi P C E)(hm:P.follows .mixedOrders=true):∀(c:Code) (st:St) (cs:List Prop) (m:St) (a:Act) (w:World) (Q:Exit->Act->World->Prop),fH E c st=some (cs,m)->(∀p∈cs,p)->Rel C st a w->
  (∀a' w',Rel C m a' w'->Q .normal a' w')->c.wp P Q a w
 | .skip,st,cs,m,a,w,Q,h,dy,hR,hQ=>by
   grind[fH,Option.some.injEq,Prod.mk.injEq,wp_skip]
 | .region id ops d,st,cs,m,a,w,Q,h,dy,hR,hQ=>by
   grind[fH,yV]
 | .seq x y,st,cs,m,a,w,Q,h,dy,hR,hQ=>by
   simp [fH] at h;split at h
   . rename_i c cw hx;obtain⟨c',hy,rfl⟩:=oz h
     exact wp_seq (js hE hm x st _ _ a w _ hx (fun p hp=>dy p (A? _ hp)) hR fun a' w' mY=>
      js hE hm y cw _ _ a' w' Q hy (fun p hp=>dy p (Z! _ hp)) mY hQ)
   . cases h
 | .cond c x y,st,cs,m,a,w,Q,h,dy,hR,hQ=>by
   obtain⟨A,β,hB⟩:=hR;simp [fH] at h;split at h
   . rename_i hv;exact wp_cond_true (ad6 hB hv) (js hE hm x st _ _ a w Q h dy ⟨A,β,hB⟩ hQ)
   . rename_i hv;exact wp_cond_false (ad7 hB hv) (js hE hm y st _ _ a w Q h dy ⟨A,β,hB⟩ hQ)
   . rename_i b hv;obtain⟨c1,s1,c2,s2,r1,r2,hmg,rfl⟩:=xR h;have hc:=Du dy;have f1:=(kD x _ _ _ r1).mono (W':=vE x++vE y) qA;have f2:=(kD y _ _ _ r2).mono (W':=vE x++vE y) wK;refine wp_cond_split (Qc hB hv) (fun hb=> ?_) (fun hb=> ?_)
     . subst hb
       exact js hE hm x st.clear _ _ a w Q r1 (hc.1 rfl) ⟨A,β,hB.clear⟩ fun a' w' ⟨A',aO,SP⟩=>
        hQ _ _ ⟨A',aO,SP.merge (b:=true) hmg f1 (fun _ _=>rfl) rfl rfl rfl f2 (fun _ _=>rfl) rfl rfl rfl⟩
     . subst hb
       exact js hE hm y st.clear _ _ a w Q r2 (hc.2 rfl) ⟨A,β,hB.clear⟩ fun a' w' ⟨A',aO,SP⟩=>
        hQ _ _ ⟨A',aO,SP.merge (b:=false) hmg f1 (fun _ _=>rfl) rfl rfl rfl f2 (fun _ _=>rfl) rfl rfl rfl⟩
   grind
 | .block id b,st,cs,m,a,w,Q,h,dy,hR,hQ=>by
   exact wp_block (js hE hm b st _ _ a w _ h dy hR hQ)
 | .loop _,st,cs,m,a,w,Q,h,_,_,_=>by grind[fH]
 | .rangeFunc _ _ _ _,st,cs,m,a,w,Q,h,_,_,_=>by grind[fH]
 | .exit _,st,cs,m,a,w,Q,h,_,_,_=>by grind[fH]
 | .scope _,st,cs,m,a,w,Q,h,_,_,_=>by grind[fH]
 | .label _,st,cs,m,a,w,Q,h,_,_,_=>by grind[fH]
 | .goto _,st,cs,m,a,w,Q,h,_,_,_=>by grind[fH]
 | .ret,st,cs,m,a,w,Q,h,_,_,_=>by grind[fH]
 | .refuse _,st,cs,m,a,w,Q,h,_,_,_=>by grind[fH]
structure jY (W:List Nat) (base s:St):Prop where
 qv:∃p,(∀k,p k=true->cL base.kb s.news k=true)/\(∀i,aI W i=false->s.t i=aP p (base.t i))/\
  ∀k,aI s.cm k=false->cL base.kb s.news k=false->s.h k=cK p (base.h k)
 n:s.n=base.n
 kb:s.kb=base.kb
 cm:∀k,aI base.cm k=true->aI s.cm k=true
 news:∀k,cL base.kb base.news k=true->cL base.kb s.news k=true
 g:s.g=base.g
theorem fq.loose {W:List Nat} {s m:St}(h:fq W s m):jY W s m:=by
 obtain⟨p,h1,h2,h3⟩:=h.qv;exact⟨⟨p,h1,h2,fun k hk _=>h3 k hk⟩,h.n,h.kb,h.cm,h.news,h.g⟩
theorem jY.refl(W:List Nat)(s:St):jY W s s:=(fq.refl W s).loose
theorem jY.mono {W W':List Nat} {s0 s1:St}(h:jY W s0 s1)(hw:∀i,aI W' i=false->aI W i=false):jY W' s0 s1:=by
 obtain⟨p,a1,a2,a3⟩:=h.qv;exact⟨⟨p,a1,fun i hi=>a2 i (hw i hi),a3⟩,h.n,h.kb,h.cm,h.news,h.g⟩
theorem jY.trans {W W':List Nat} {s0 s1 s2:St}(h1:jY W s0 s1)(h2:jY W' s1 s2):jY (W++W') s0 s2:=by
 obtain⟨p,a1,a2,a3⟩:=h1.qv;obtain⟨q,b1,b2,b3⟩:=h2.qv
 have S1:∀k,cL s0.kb s1.news k=true->cL s0.kb s2.news k=true :=by
  intro k h;have :=h2.news k (by rw [h1.kb];exact h);rwa [h1.kb] at this
 refine⟨⟨fun k=>p k || q k,fun k hk=> ?_,fun i hi=> ?_,fun k hk hn=> ?_⟩,h2.n.trans h1.n,h2.kb.trans h1.kb,fun k h=>h2.cm k (h1.cm k h),fun k h=>S1 k (h1.news k h),h2.g.trans h1.g⟩
 . rcases X? _ _ |>.mp hk with h|h
   . grind
   . have :=b1 k h;rwa [h1.kb] at this
 . grind[dn,Bool.or_eq_false_iff,eE]
 . have Ej:aI s1.cm k=false :=by
    cases h:aI s1.cm k with
    |false=>rfl
    |true=>rw [h2.cm k h] at hk;omega
   have Fg:cL s0.kb s1.news k=false :=by
    grind
   rw [b3 k hk (by rw [h1.kb];omega),a3 k Ej Fg,iY]
def pz:Value:= .slice none 0 0
def jB(bad:Nat->Bool)(s:List (Nat×Option Nat))(β:Nat->Value)(k:Nat):Value:=bif bad k then(match cy s k with
 |some (some j)=>β j
 |some none=>pz
 |none=>β k) else β k
theorem kF {r r':List Ty} {l:List (Row r)} {m:List (Row r')}(h:fu r r' l=some m):∃e:r=r',m=e▸l:=by
 grind[fu,Option.some.injEq,Ty.ku]
theorem jC:∀ {a b:List Prop},(∀p∈a++b,p)->(∀p∈a,p)/\∀p∈b,p:=by
 intro a b h;exact⟨fun p hp=>h p (A? _ hp),fun p hp=>h p (Z! _ hp)⟩
theorem bm {p:Prop}(h:∀q∈ [p],q):p:=h p (by simp)
variable {bad:Nat->Bool} {s:List (Nat×Option Nat)}
structure Keyed (bad:Nat->Bool) (s:List (Nat×Option Nat)) (β aO:Nat->Value):Prop where
 src:∀K k,cy s K=some (some k)->aO K=β k
 nil:∀K,cy s K=some none->aO K=pz
 same:∀K,cy s K=none->bad K=false->aO K=β K
 aHj:∀K,bad K=false->aO K=β K
theorem ui {aO:Nat->Value}(hK:Keyed bad s β aO) {k K:Nat}(h:wv s bad k K=true):aO K=β k:=by
 unfold wv at h;split at h
 . rename_i j hj;rw [hK.src K j hj,E! h]
 . cases h
 . simp only [B!,L?] at h;have :=E! h.1;subst this;exact hK.aHj k h.2
mutual
theorem nS {aO:Nat->Value}(hK:Keyed bad s β aO):∀(x y:AV) (v:Value),(∀p∈FT s bad x y,p)->aa w A β v x->aa w A aO v y
 |x,y,v,h,hr=>by
  unfold FT at h;split at h
  . simp [aa]
  . simpa only [aa] using hr
  . rename_i k n k' m;split at h
    . rename_i hk;subst hk;have :=bm h;subst this;simpa only [aa] using hr
    . exact(bm h).elim
  . simpa only [aa] using hr
  . simpa only [aa] using hr
  . have :=bm h;subst this;simpa only [aa] using hr
  . have :=bm h;subst this;simpa only [aa] using hr
  . have :=bm h;subst this;simpa only [aa] using hr
  . have :=bm h;subst this;simpa only [aa] using hr
  . simpa only [aa] using hr
  . simpa only [aa] using hr
  . simpa only [aa] using hr
  . rename_i r l;have :=bm h;subst this;simp only [aa] at hr |-;subst hr;simp only [Rd];exact⟨none,0,[],rfl,by simp,by simp [maxLen],by simp [E2],by simp⟩
  . rename_i r l r' l';split at h
    . rename_i m hm;obtain⟨e,he⟩:=kF hm;subst e;have :=bm h;subst he;subst this;simpa only [aa] using hr
    . exact(bm h).elim
  . rename_i r l r' l';split at h
    . rename_i m hm;obtain⟨e,he⟩:=kF hm;subst e;have :=bm h;subst he;subst this;simp only [aa] at hr |-;exact hr.1
    . exact(bm h).elim
  . rename_i k K;simp only [aa] at hr |-;split at h
    . rename_i j hj;cases hb:Nat.beq k j with
      |false=>rw [hb] at h;exact(bm h).elim
      |true=>
       have :=E! hb;subst this;rw [hK.src K k hj];exact hr
    . exact(bm h).elim
    . rename_i hj;cases hb:(Nat.beq k K&& !bad K) with
      |false=>rw [hb] at h;exact(bm h).elim
      |true=>
       simp only [B!,L?] at hb;have :=E! hb.1;subst this;rw [hK.same k hj hb.2];exact hr
  . rename_i K;simp only [aa] at hr |-;split at h
    . rename_i hj;rw [hK.nil K hj];subst hr;exact⟨rfl,rfl⟩
    . exact(bm h).elim
  . rename_i k o k' o';simp only [aa] at hr |-;cases hb:wv s bad k k' with
    |false=>rw [hb] at h;exact(bm h).elim
    |true=>
     rw [hb] at h;have :=bm h;subst this;rw [ui hK hb];exact hr
  . rename_i xs ys;simp only [aa] at hr |-;obtain⟨arr,h1,h2⟩:=hr;exact⟨arr,h1,kG hK xs ys _ h h2⟩
  . rename_i xs ys;simp only [aa] at hr |-;obtain⟨arr,h1,h2⟩:=hr;exact⟨arr,h1,kG hK xs ys _ h h2⟩
  . rename_i f xs us f' ys vs;split at h
    . rename_i hf;subst hf;simp only [aa] at hr |-;obtain⟨a1,a2,h1,h2,h3⟩:=hr;obtain⟨g1,g2⟩:=jC h;exact⟨a1,a2,h1,kG hK xs ys _ g1 h2,kG hK us vs _ g2 h3⟩
    . exact(bm h).elim
  . rename_i ks xs ks' ys;split at h
    . rename_i mc;subst mc;simp only [aa] at hr |-;obtain⟨b,es,ck,h1,h2,h3,h4,h5⟩:=hr;exact⟨b,es,ck,h1,h2,h3,h4,kG hK xs ys _ h h5⟩
    . exact(bm h).elim
  . exact(bm h).elim
theorem kG {aO:Nat->Value}(hK:Keyed bad s β aO):∀(xs ys:List AV) (vs:List Value),(∀p∈wx s bad xs ys,p)->ai w A β vs xs->ai w A aO vs ys
 | [],[],vs,_,hr=>by simpa only [ai] using hr
 |x::xs,y::ys,vs,h,hr=>by
  simp only [wx] at h;obtain⟨g1,g2⟩:=jC h;simp only [ai] at hr |-;obtain⟨v,cg,h1,h2,h3⟩:=hr;exact⟨v,cg,h1,nS hK x y v g1 h2,kG hK xs ys cg g2 h3⟩
 | [],_::_,vs,h,_=>by simp only [wx] at h;exact(bm h).elim
 |_::_,[],vs,h,_=>by simp only [wx] at h;exact(bm h).elim
end
theorem uj {aO:Nat->Value}(hK:Keyed bad s β aO) {k K:Nat} {c b:AB}(hk:aO K=β k)(h:∀p∈FU s bad (some c) b,p)(hr:BR w A β k c):BR w A aO K b:=by
 unfold FU at h;split at h
 . rename_i xs ys heq;simp only [A!] at heq;subst heq;obtain⟨g,arr,e,h1,h2,h3,h4,h5⟩:=hr;exact⟨g,arr,e,hk.trans h1,h2,h3,kG hK xs ys _ h h4,h5⟩
 . rename_i e r l fr e' r' l' Cg heq;simp only [A!] at heq;subst heq;split at h
   . rename_i m hm;obtain⟨er,he⟩:=kF hm;subst er;subst he;cases hb:(Nat.beq e e'&&(fr==Cg)) with
     |false=>rw [hb] at h;exact(bm h).elim
     |true=>
      rw [hb] at h;simp only [B!,beq_iff_eq] at hb;have he:=E! hb.1;have hf:=hb.2;subst he;subst hf;have :=bm h;subst this;obtain⟨xs,h1,h2,h3⟩:=hr;simp only [BR,hk];exact⟨xs,h1,h2,h3⟩
   . exact(bm h).elim
 . rename_i r l r' l' heq;simp only [A!] at heq;subst heq;split at h
   . rename_i m hm;obtain⟨er,he⟩:=kF hm;subst er;subst he;have :=bm h;subst this;obtain⟨g,arr,e,h1,h2,h3,h4⟩:=hr;exact⟨g,arr,e,hk.trans h1,h2,h3,h4⟩
   . exact(bm h).elim
 . rename_i e j r l i e' j' r' l' i' heq;simp only [A!] at heq;subst heq;split at h
   . rename_i m hm;obtain⟨er,he⟩:=kF hm;subst er;subst he;cases hb:(Nat.beq e e'&&wv s bad j j') with
     |false=>rw [hb] at h;exact(bm h).elim
     |true=>
      rw [hb] at h;simp only [B!] at hb;have he:=E! hb.1;have hj:=ui hK hb.2;subst he;have hl:=h _ (R! ..);have hi:i=i':=h _ (G! _ (R! ..));subst hl;subst hi;obtain⟨xs,v0,h1,h2,h3,h4⟩:=hr;simp only [BR,hk];refine⟨xs,v0,h1,h2,h3,fun q hq=> ?_⟩;simp only [A!] at hq;subst hq;rw [hj];exact h4 j rfl
   . exact(bm h).elim
 . rename_i e r l e' jj n m sz heq;simp only [A!] at heq;subst heq;cases hb:(Nat.beq e e'&&Nat.beq r.length 1) with
   |false=>rw [hb] at h;exact(bm h).elim
   |true=>
    rw [hb] at h;simp only [B!] at hb;have he:=E! hb.1;have hr1:=E! hb.2;subst he;have hn:l.length=n:=h _ (R! ..);have hm:m=0:=h _ (G! _ (R! ..));subst hn;subst hm;obtain⟨xs,h1,h2,h3⟩:=hr;simp only [BR,hk];rw [hr1] at h1;exact⟨xs,h1,fun b hb=>by simpa using h3 b hb,fun j' _ i hi=>absurd hi (Nat.not_lt_zero _)⟩
 . rename_i e j n m sz e' j' n' m' sz' heq;simp only [A!] at heq;subst heq;cases hb:(Nat.beq e e'&&wv s bad j j') with
   |false=>rw [hb] at h;exact(bm h).elim
   |true=>
    rw [hb] at h;simp only [B!] at hb;have he:=E! hb.1;have hj:=ui hK hb.2;subst he;have hn:n=n':=h _ (R! ..);have hm:m=m':=h _ (G! _ (R! ..));have hs:sz=sz':=h _ (G! _ (G! _ (R! ..)));subst hn;subst hm;subst hs;obtain⟨xs,h1,h2,h3⟩:=hr;simp only [BR,hk];refine⟨xs,h1,h2,fun q hq i hi=> ?_⟩;simp only [A!] at hq;subst hq;obtain⟨v,e1,e2⟩:=h3 j rfl i hi;refine⟨v,e1,?_⟩;simp only [aa] at e2 |-;rw [hj];exact e2
 simp_all
end
end Go.Vg

end
section
namespace Go.Vg
open Go
section
variable {P:Program} {C:Ctx} {E:Env} {A:Nat->Prop} {β aO:Nat->Value} {st:St} {a:Act} {w:World}
theorem NJ(p:Nat->Bool)(cB:∀k,p k=false->aO k=β k) {k:Nat}(hk:aO k=β k) {ab:AB}(h:BR w A β k ab):BR w A aO k (dO p ab):=by
 cases ab with
 |cells cs=>
  obtain⟨b,arr,e,h1,h2,h3,h4,h5⟩:=h;exact⟨b,arr,e,hk.trans h1,h2,h3,fV p cB _ _ h4,h5⟩
 |row e row l fr=>
  grind[dO,BR]
 |arr row l=>
  obtain⟨b,arr,e,h1,h2,h3,h4⟩:=h;exact⟨b,arr,e,hk.trans h1,h2,h3,h4⟩
 |gS e j row l i=>
  obtain⟨xs,v0,h1,h2,h3,h4⟩:=h;simp [dO,BR,hk];cases j with
  |none=>grind[fb]
  |some j0=>
   grind[fb]
 |views e j n m sz=>
  obtain⟨xs,h1,h2,h3⟩:=h;simp [dO,BR,hk];refine⟨xs,h1,h2,fun j' eY i hi=> ?_⟩;cases j with
  |none=>grind[fb]
  |some j0=>
   simp [fb] at eY;cases hp:p j0 with
   |true=>grind
   |false=>
    grind[vK]
theorem lN:∀(bU:List (Loc×Nat)) (s:List (Nat×Option Nat)),sources st bU=some s->∀K r,cy s K=some r->∃l,(l,K)∈bU
 | [],s,h,K,r,hl=>by
   simp [sources,A!] at h;subst h;cases hl
 |(l,K0)::bU,s,h,K,r,hl=>by
  simp [sources] at h;split at h
  . rename_i k s' jA ie;simp at h;subst h;simp [cy] at hl;cases hb:Nat.beq K K0 with
    |true=>exact⟨l,by rw [E! hb];exact R! ..⟩
    |false=>
     rw [hb] at hl;obtain⟨l',h'⟩:=lN bU s' ie K r hl;exact⟨l',G! _ h'⟩
  . rename_i k o s' jA ie;simp at h;subst h;simp [cy] at hl;cases hb:Nat.beq K K0 with
    |true=>exact⟨l,by rw [E! hb];exact R! ..⟩
    |false=>
     rw [hb] at hl;obtain⟨l',h'⟩:=lN bU s' ie K r hl;exact⟨l',G! _ h'⟩
  . rename_i s' jA ie;simp at h;subst h;simp [cy] at hl;cases hb:Nat.beq K K0 with
    |true=>exact⟨l,by rw [E! hb];exact R! ..⟩
    |false=>
     rw [hb] at hl;obtain⟨l',h'⟩:=lN bU s' ie K r hl;exact⟨l',G! _ h'⟩
  . cases h
theorem Qd(kb:Nat):∀(bU:List (Loc×Nat)) (l:Loc) (K:Nat),(l,K)∈bU->cL kb (bU.map fun x=>KS.one x.2) K=true
 |(l0,K0)::bU,l,K,h=>by
  simp only [T?,cL,KS.has,X?];rcases L!.1 h with h|h
  . simp at h;rw [h.2];exact .inl (bZ _)
  . exact .inr (Qd kb bU l K h)
theorem DC {τ:Type} {s:List (Nat×Option Nat)} {bad:Nat->Bool} {x:τ}:∀(l:List (Nat×(τ->AV))) (i:Nat) (f:τ->AV),fT l i=some f->∀p∈FT s bad (st.t i) (f x),p∈EK s bad st x l
 |(j,g)::r,i,f,h,p,hp=>by
  simp [fT] at h;simp [EK,F!];cases hb:Nat.beq i j with
  |true=>
   simp_all
  |false=>
   rw [hb] at h;exact .inr (DC r i f h p hp)
def ad9 {τ:Type}(s:List (Nat×Option Nat))(bad:Nat->Bool)(st:St)(x:τ)(K:Nat)(f:τ->AB):List Prop :=match cy s K with
 |some (some k)=>FU s bad (st.h k) (f x)
 |some none=>match f x with
  | .row _ _ l false=> [[]=l]
  |_=> [False]
 |none=>bif bad K then [False] else FU s bad (st.h K) (f x)
theorem Gh {τ:Type} {s:List (Nat×Option Nat)} {bad:Nat->Bool} {x:τ}:∀(l:List (Nat×(τ->AB))) (i:Nat) (f:τ->AB),fT l i=some f->∀p∈ad9 s bad st x i f,p∈NB s bad st x l
 |(j,g)::r,i,f,h,p,hp=>by
  simp [fT] at h;simp only [NB,F!];cases hb:Nat.beq i j with
  |true=>
   rw [hb] at h;simp at h;have :=E! hb;subst this;subst h;exact .inl hp
  |false=>
   rw [hb] at h;exact .inr (Gh r i f h p hp)
theorem iw:∀(s:List (Nat×Option Nat)) (K k:Nat),cy s K=some (some k)->k∈eb s
 |(j,r)::s,K,k,h=>by
  simp [cy] at h;cases hb:Nat.beq K j with
  |true=>
   simp_all[K!,A!,eb]
  |false=>
   rw [hb] at h;have :=iw s K k h;cases r<;>simp [eb,this]
theorem uk:∀(s:List (Nat×Option Nat)),iL (eb s)=true->∀K K' k,cy s K=some (some k)->cy s K'=some (some k)->K=K'
 |(j,r)::s,hn,K,K',k,h,h'=>by
  have hn':iL (eb s)=true :=by
   cases r with
   |none=>exact hn
   |some j'=>simp_all[eb,iL,B!]
  simp [cy] at h h';cases hb:Nat.beq K j with
  |true=>
   cases bS:Nat.beq K' j with
   |true=>simp_all
   |false=>
    rw [bS] at h';have :=iw s K' k h';simp_all[eb,iL,B!,L?,absurd,fW]
  |false=>
   cases bS:Nat.beq K' j with
   |true=>
    rw [hb] at h;rw [bS] at h';have :=iw s K k h;simp_all[eb,iL,B!,L?,absurd,fW]
   |false=>
    rw [hb] at h;rw [bS] at h';exact uk s hn' K K' k h h'
theorem sV {s:List (Nat×Option Nat)} {bad:Nat->Bool} {o:Option AB} {b:AB}(h:∀p∈FU s bad o b,p):∃c,o=some c:=by
 cases o with
 |some c=>grind
 |none=>exact(bm h).elim
theorem NK {β:Nat->Value} {k e:Nat} {row:List Ty} {l:List (Row row)}(hk:β k=pz)(hl: []=l):BR w A β k (.row e row l false):=by
 subst hl;refine⟨[],⟨by simp, .inl ⟨hk,rfl⟩⟩,by rfl,fun b hb=> ?_⟩;grind[pz,aA]
theorem abE {L:ak} {W:List Nat} {base:St} {s:List (Nat×Option Nat)} {x:L.τ}(fR:sources st L.bU=some s)(Kf:xP L W base st s=true)(hm:∀p∈xQ L W base st s x,p)(hB:aF C A β st a w)
  (hT:∀i,aI W i=false->∃p,(∀k,p k=true->cL base.kb (cG L W) k=true)/\st.t i=aP p (base.t i))
  (hH:∀k,aI st.cm k=false->cL base.kb (cG L W) k=false->fT L.keys k=none->∃p,(∀k,p k=true->cL base.kb (cG L W) k=true)/\st.h k=cK p (base.h k))
  (hn:st.n=base.n) (hgg:st.g=base.g):aF C A (jB (cL base.kb (cG L W)) s β) (j9 L W base x) a w:=by
 generalize yW:cL base.kb (cG L W)=bad at *;simp only [xP,yW,B!] at Kf;obtain⟨⟨⟨⟨⟨⟨⟨o1,o2⟩,oP2⟩,o3⟩,o4⟩,o5⟩,o6⟩,o7⟩:=Kf;rw [E?] at oP2 o3 o4 o5 o6 o7
 have aea:∀K r,cy s K=some r->bad K=true :=by
  intro K r h;obtain⟨l,hl⟩:=lN _ _ fR K r h;rw [<-yW];simp only [cG,dG,Qd base.kb _ l K hl,Bool.true_or,Bool.or_true]
 have wL:∀K,bad K=false->jB bad s β K=β K:=by
  intro K h;simp only [jB,h,P!]
 have yA:Keyed bad s β (jB bad s β):=by
  refine⟨fun K k h=> ?_,fun K h=> ?_,fun K _ h=>wL K h,wL⟩
  . simp only [jB,aea K _ h,K!,h]
  . simp only [jB,aea K _ h,K!,h]
 have hm1:∀i f,fT L.aJ i=some f->∀p∈FT s bad (st.t i) (f x),p:=by
  intro i f hf p hp;refine hm p ?_;simp only [xQ,yW,F!];exact .inl (DC _ i f hf p hp)
 have hm2:∀K f,fT L.keys K=some f->∀p∈ad9 s bad st x K f,p:=by
  intro K f hf p hp;refine hm p ?_;simp only [xQ,yW,F!];exact .inr (Gh _ K f hf p hp)
 have fQ:∀K ab,(j9 L W base x).h K=some ab->BR w A (jB bad s β) K ab/\(jB bad s β K=pz\/∃j,jB bad s β K=β j/\(st.h j).isSome/\((bad K=false/\j=K)\/(bad K=true/\cy s K=some (some j)))):=by
  intro K ab h;simp only [j9,yW] at h;cases hf:fT L.keys K with
  |some f=>
   rw [hf] at h;simp at h;subst h;have hc:=hm2 K f hf;unfold ad9 at hc;split at hc
   . rename_i k hk;obtain⟨c,pj⟩:=sV hc;rw [pj] at hc;exact⟨uj yA (yA.src K k hk) hc (hB.blocks k c pj), .inr ⟨k,yA.src K k hk,by simp [pj], .inr ⟨aea K _ hk,hk⟩⟩⟩
   . rename_i hk;refine⟨?_, .inl (yA.nil K hk)⟩;split at hc
     . rename_i e row l hfx;rw [hfx];exact NK (yA.nil K hk) (bm hc)
     . exact(bm hc).elim
   . rename_i hk;cases hb:bad K with
     |true=>rw [hb] at hc;exact(bm hc).elim
     |false=>
      rw [hb] at hc;obtain⟨c,pj⟩:=sV hc;rw [pj] at hc;exact⟨uj yA (wL K hb) hc (hB.blocks K c pj), .inr ⟨K,wL K hb,by simp [pj], .inl ⟨rfl,rfl⟩⟩⟩
  |none=>
   rw [hf] at h;cases hb:bad K with
   |true=>rw [hb] at h;cases h
   |false=>
    rw [hb] at h;simp only [P!] at h
    have hd:aI st.cm K=false :=by
     cases hq:aI st.cm K with
     |false=>rfl
     |true=>
      have :=o7 K ((xT _ _).1 hq);rw [hf,hb] at this;cases this
    obtain⟨p,p1,p2⟩:=hH K hd hb hf;cases Eg:base.h K with
    |none=>rw [Eg] at h;cases h
    |some b0=>
     rw [Eg] at h p2;simp only [cK,A!] at h p2;subst h;have gw:=NJ (aO:=jB bad s β) bad wL (wL K hb) (hB.blocks K _ p2);rw [gO] at gw
     have hpq:(fun k=>p k || bad k)=bad:=by
      funext k;cases hp:p k with
      |false=>rfl
      |true=>rw [p1 k hp];rfl
     rw [hpq] at gw;exact⟨gw, .inr ⟨K,wL K hb,by simp [p2], .inl ⟨rfl,rfl⟩⟩⟩
 have J8:∀K,((j9 L W base x).h K).isSome->∀b,aA (jB bad s β K)=some b->∃j,jB bad s β K=β j/\(st.h j).isSome/\((bad K=false/\j=K)\/(bad K=true/\cy s K=some (some j))):=by
  intro K hK b hb;obtain⟨ab,gv⟩:=O!.1 hK;rcases(fQ K ab gv).2 with h|h
  . rw [h] at hb;simp [pz,aA] at hb
  . exact h
 have hsb:∀K j,cy s K=some (some j)->bad j=true :=fun K j h=>o6 j (iw s K j h)
 refine⟨hB.defers,hB.size.trans hn,fun i=> ?_,fun K ab h=>(fQ K ab h).1,fun K K' b h1 h2 g1 g2=> ?_,hB.bound,hB.frame,hB.lx,hB.base,fun K b h1 g1=> ?_,fun i d hd=>hB.sk i d ((congrFun hgg i).trans hd),hB.laid,fun K hK=>by
  have :jB bad s β K=β K:=by
   unfold jB;cases bad K with
   |false=>rfl
   |true=>
    cases hl:cy s K with
    |none=>rfl
    |some y=>
     obtain⟨l,hl⟩:=lN _ _ fR K y hl;have :=oP2 _ hl;rw [hK] at this;cases this
  exact this.trans (hB.held K hK)⟩
 . have hi:=hB.tmps i
   show aa w A _ _ (match fT L.aJ i with
    |some f=>f x
    |none=>bif aI W i then .dz else aP (cL base.kb (cG L W)) (base.t i))
   rw [yW];cases hf:fT L.aJ i with
   |some f=>exact nS yA _ _ _ (hm1 i f hf) hi
   |none=>
    simp only;cases hW:aI W i with
    |true=>simp [aa]
    |false=>
     obtain⟨p,p1,p2⟩:=hT i hW;rw [p2] at hi;have :=ow (aO:=jB bad s β) bad wL _ _ hi;rw [eE] at this
     have hpq:(fun k=>p k || bad k)=bad:=by
      funext k;cases hp:p k with
      |false=>rfl
      |true=>rw [p1 k hp];rfl
     rwa [hpq] at this
 . obtain⟨j,e1,l1,c1⟩:=J8 K h1 b g1;obtain⟨j',e2,l2,c2⟩:=J8 K' h2 b g2;rw [e1] at g1;rw [e2] at g2;have hj:j=j':=hB.apart j j' b l1 l2 g1 g2;subst hj;rcases c1 with⟨b1,rfl⟩|⟨b1,k1⟩<;>rcases c2 with⟨b2,h⟩|⟨b2,k2⟩
   . exact h
   . rw [hsb K' _ k2] at b1;cases b1
   . subst h;rw [hsb K _ k1] at b2;cases b2
   . exact uk s o2 K K' j k1 k2
 . obtain⟨j,e1,l1,c1⟩:=J8 K h1 b g1;rw [e1] at g1;exact hB.oI j b l1 g1
theorem yX {L:ak} {W:List Nat} {base:St} {Pp:L.τ->Prop}(h:Bb L W base st Pp)(hR:Rel C st a w)
  (hT:∀i,aI W i=false->∃p,(∀k,p k=true->cL base.kb (cG L W) k=true)/\st.t i=aP p (base.t i))
  (hH:∀k,aI st.cm k=false->cL base.kb (cG L W) k=false->fT L.keys k=none->∃p,(∀k,p k=true->cL base.kb (cG L W) k=true)/\st.h k=cK p (base.h k))
  (hn:st.n=base.n) (hgg:st.g=base.g):∃x,Pp x/\Rel C (j9 L W base x) a w:=by
 obtain⟨A,β,hB⟩:=hR;unfold Bb at h;split at h
 . grind
 . rename_i s hs;cases hk:xP L W base st s with
   |false=>grind
   |true=>
    rw [hk] at h;obtain⟨x,h1,h2⟩:=h;exact⟨x,h2,A,_,abE hs hk (p7 _ h1) hB hT hH hn hgg⟩
def aeb:Ex->Exit
 | .norm=> .normal
 | .exit i=> .exit i
 | .ret=> .ret
theorem zR:∀ {cs:List Prop} {k:Prop},NA cs k->(∀p∈cs,p)/\k
 | [],k,h=>⟨fun p hp=>(by grind),h⟩
 |p::ps,k,h=>by
  obtain⟨h1,h2⟩:=zR (cs:=ps) h.2;refine⟨fun q hq=> ?_,h2⟩;rcases L!.1 hq with rfl|hq
  . exact h.1
  . exact h1 q hq
theorem abF(kb:Nat) {W:List Nat} {d k:Nat}(h:(KS.dst d).has kb k=true):aI W d=true->cL kb (W.map .dst) k=true :=by
 induction W with
 |nil=>intro hd;cases hd
 |cons j W ih=>
  intro hd;simp [aI,Bool.or_eq_true] at hd;simp [List.map_cons,cL,Bool.or_eq_true];grind[Nat.eq_of_beq_eq_true]
theorem Bm {L:ak} {W:List Nat} {base:St}:∀ {news:List KS},EL L W base news=true->∀k,cL base.kb news k=true->cL base.kb (cG L W) k=true
 | [],_,k,hk=>by cases hk
 |x::news,h,k,hk=>by
  simp only [EL,List.all_cons,B!] at h;simp [cL,X?] at hk;rcases hk with hk|hk
  . cases x with
    |one j=>
     grind[KS.has,Nat.eq_of_beq_eq_true]
    |dst d=>
     simp [cG,dG,Bool.or_eq_true];grind[abF]
  . exact Bm (news:=news) h.2 k hk
theorem jY.back {L:ak} {W:List Nat} {base:St} {x:L.τ} {m:St}(h:jY W (j9 L W base x) m)(wc:∀y∈L.aJ,aI W y.1=true):jY W base (St.back L W base m):=by
 obtain⟨p,a1,a2,a3⟩:=h.qv;have oO:(j9 L W base x).kb=base.kb:=rfl;refine⟨⟨fun k=>cL base.kb (cG L W) k || p k,fun k hk=> ?_,fun i hi=> ?_,fun k hk Kb=> ?_⟩,h.n,h.kb,fun k hk=> ?_,fun k hk=> ?_,h.g⟩
 . simp only [St.back,dG,Bool.or_eq_true] at hk |-;grind
 . show m.t i=_;rw [a2 i hi,<-eE]
   have :(j9 L W base x).t i=aP (cL base.kb (cG L W)) (base.t i):=by
    show(match fT L.aJ i with
     |some f=>f x
     |none=>bif aI W i then .dz else aP (cL base.kb (cG L W)) (base.t i))=_
    have S2:∀(l:List (Nat×(L.τ->AV))),(∀y∈l,aI W y.1=true)->fT l i=none:=by
     intro l;induction l with
     |nil=>intro _;rfl
     |cons y l ih=>
      grind[g,fT,Nat.beq,bc,hi,List.mem_cons_of_mem]
    grind
   grind
 . have dJ:aI m.cm k=false/\aI (L.keys.map (·.1)) k=false :=by
    grind[St.back,dn,Bool.or_eq_false_iff]
   have hn':cL base.kb (cG L W) k=false/\cL base.kb m.news k=false :=by
    grind[St.back,dG,Bool.or_eq_false_iff]
   show m.h k=_;rw [a3 k dJ.1 hn'.2,<-iY]
   have :(j9 L W base x).h k=cK (cL base.kb (cG L W)) (base.h k):=by
    show(match fT L.keys k with
     |some f=>some (f x)
     |none=>bif cL base.kb (cG L W) k then none else cK (cL base.kb (cG L W)) (base.h k))=_
    have S2:∀(l:List (Nat×(L.τ->AB))),aI (l.map (·.1)) k=false->fT l k=none:=by
     intro l;induction l with
     |nil=>intro _;rfl
     |cons y l ih=>
      simp_all[g,T?,aI,R?,fT,P!]
    grind
   grind
 . simp_all[St.back,dn,Bool.or_true]
 simp_all[St.back,dG,Bool.true_or]
abbrev S3(C:Ctx)(W:List Nat)(st:St)(K:Ex->St->Prop)(Q:Exit->Act->World->Prop):Prop :=
 ∀e cw a' w',K e cw->jY W st cw->Rel C cw a' w'->Q (aeb e) a' w'
theorem Qe {L:ak} {W:List Nat} {b:Code} {K:Ex->St->Prop} {V:(Ex->St->Prop)->St->Prop} {Q:Exit->Act->World->Prop}
  (hV:∀K' cw a' w' Q',V K' cw->Rel C cw a' w'->S3 C W cw K' Q'->b.wp P Q' a' w')
  (h:US L W K V st) (hR:Rel C st a w) (hQ:S3 C W st K Q):(Code.loop b).wp P Q a w:=by
 obtain⟨h0,anS⟩:=h
 have wc:∀y∈L.aJ,aI W y.1=true :=by
  unfold Bb at h0;split at h0
  . grind
  . rename_i s hs;cases hk:xP L W st st.clear s with
    |false=>grind
    |true=>
     simp only [xP,Bool.and_eq_true] at hk;grind
 have hRc:Rel C st.clear a w:=by
  obtain⟨A,β,hB⟩:=hR;exact⟨A,β,hB.clear⟩
 obtain⟨x0,hi0,hr0⟩:=yX h0 hRc (fun i _=>⟨fun _=>false,by simp,(pJ _).symm⟩) (fun k _ _ _=>⟨fun _=>false,by simp,(yT _).symm⟩) rfl rfl;refine wp_loop_ghost (fun n a w=>∃x,L.inv x/\L.ag x=n/\Rel C (j9 L W st x) a w) (L.ag x0) ⟨x0,hi0,rfl,hr0⟩ ?_;intro n a w hI;obtain⟨x,hx,rfl,hRx⟩:=hI;refine hV _ _ _ _ _ (anS x hx) hRx ?_;intro e cw a' w' hk hF mY;cases e with
 |norm=>
  simp only [Bc] at hk;cases hn:EL L W st cw.news with
  |false=>grind
  |true=>
   rw [hn] at hk;obtain⟨p,a1,a2,a3⟩:=hF.qv;have oO:(j9 L W st x).kb=st.kb:=rfl;rw [oO] at a1 a3;have yW:∀k,cL st.kb cw.news k=true->cL st.kb (cG L W) k=true :=Bm hn;have hb:=hF.back wc
   obtain⟨x',AR,nz⟩:=yX hk mY (fun i hi=>by
     refine⟨fun k=>cL st.kb (cG L W) k || p k,fun k hk=> ?_,?_⟩
     . grind
     . rw [a2 i hi,<-eE]
       have :(j9 L W st x).t i=aP (cL st.kb (cG L W)) (st.t i):=by
        show(match fT L.aJ i with
         |some f=>f x
         |none=>bif aI W i then .dz else aP (cL st.kb (cG L W)) (st.t i))=_
        have S2:∀(l:List (Nat×(L.τ->AV))),(∀y∈l,aI W y.1=true)->fT l i=none:=by
         intro l;induction l with
         |nil=>intro _;rfl
         |cons y l ih=>
          grind[fT,Nat.beq,bc,hi,List.mem_cons_of_mem]
        grind
       grind)
    (fun k hd zt S2=>by
      grind[cL,cG,iY,j9,cK,fT]) hF.n hF.g
   exact⟨L.ag x',AR.2,x',AR.1,rfl,nz⟩
 |exit i=>
  obtain⟨A,β,hB⟩:=mY;exact hQ _ _ _ _ hk (hF.back wc) ⟨A,β,hB.seq ⟨rfl,rfl,rfl,rfl,rfl⟩⟩
 |ret=>
  obtain⟨A,β,hB⟩:=mY;exact hQ _ _ _ _ hk (hF.back wc) ⟨A,β,hB.seq ⟨rfl,rfl,rfl,rfl,rfl⟩⟩
end
end Go.Vg

end
section
namespace Go.Vg
open Go
section
variable {P:Program} {C:Ctx} {E:Env} {A:Nat->Prop} {β aO:Nat->Value} {st:St} {a:Act} {w:World}
theorem Gi {W:List Nat} {K:Ex->St->Prop} {Q:Exit->Act->World->Prop}(id:Nat)(hQ:S3 C W st K Q):S3 C W st (PX id K) (Exit.inBlock id Q):=by
 intro e cw a' w' hk hF hR;cases e with
 |norm=>exact hQ .norm _ _ _ hk hF hR
 |ret=>exact hQ .ret _ _ _ hk hF hR
 |exit j=>
  simp only [PX] at hk;by_cases hj:j=id
  . subst hj;simp at hk;simp [aeb,Exit.inBlock,H?];exact hQ .norm _ _ _ hk hF hR
  . simp [bc hj,P!] at hk;simp [aeb,Exit.inBlock,T! hj];exact hQ (.exit j) _ _ _ hk hF hR
theorem Qf(n:Int)(ks:List Int)(f:Nat->Prop)(h:EM n ks f 0 ks):∃j,f j:=by
 have :∀(r:List Int) (i:Nat),EM n ks f i r->(∃j,f j)\/(n∉r/\(tP n ks->∃j,f j)):=by
  intro r;induction r with
  |nil=>intro i h;exact .inr ⟨by simp,fun q=>⟨i,h q⟩⟩
  |cons k r ih=>
   intro i h;by_cases hk:n=k
   . exact .inl ⟨i,h.1 hk⟩
   . rcases ih (i+1) h.2 with g|⟨g1,g2⟩
     . grind
     grind
 grind[vR]
theorem fF(hE:gi P C E)(hm:P.follows .mixedOrders=true) {L:Nat->Option ak}:∀(c:Code) (K:Ex->St->Prop) (st:St) (a:Act) (w:World) (Q:Exit->Act->World->Prop),
  mX E L c K st->Rel C st a w->S3 C (vE c) st K Q->c.wp P Q a w
 | .skip,K,st,a,w,Q,h,hR,hQ=>by
   exact wp_skip (hQ .norm _ _ _ h (jY.refl _ _) hR)
 | .region id ops d,K,st,a,w,Q,h,hR,hQ=>by
   have fin:∀E',gi P C E'->NC E' K st ops.toList d->(Code.region id ops d).wp P Q a w:=by
    intro E' hE' h;unfold NC at h;split at h
    . rename_i cs m hr;obtain⟨h1,h2⟩:=zR h;exact yV hE' hm hr h1 hR fun a' w' mY=>hQ .norm _ _ _ h2 (F3 hr).loose mY
    grind
   simp only [mX] at h;split at h
   . rename_i n ks hw;obtain⟨i,hi⟩:=Qf n ks _ h;exact fin {E with JW:=i} ⟨⟨hE.ok.fE,hE.ok.sig,hE.ok.lq⟩,hE.g⟩ hi
   grind
 | .seq x y,K,st,a,w,Q,h,hR,hQ=>by
   refine wp_seq (fF hE hm x _ st a w _ h hR fun e cw a' w' hk hF mY=> ?_);cases e with
   |norm=>
    exact fF hE hm y K cw a' w' Q hk mY fun e aLl a'' P4 dJ hF' aHm=>hQ e _ _ _ dJ (hF.trans hF') aHm
   |exit i=>exact hQ (.exit i) _ _ _ hk (hF.mono qA) mY
   |ret=>exact hQ .ret _ _ _ hk (hF.mono qA) mY
 | .cond c x y,K,st,a,w,Q,h,hR,hQ=>by
   simp only [mX] at h;have hx:S3 C (vE x) st K Q:=fun e cw a' w' hk hF mY=>hQ e _ _ _ hk (hF.mono qA) mY;have hy:S3 C (vE y) st K Q:=fun e cw a' w' hk hF mY=>hQ e _ _ _ hk (hF.mono wK) mY;split at h
   . rename_i cs m hr;obtain⟨h1,h2⟩:=zR h;unfold axS at hr;cases hs:(!UT E c&&(kZ x&&kZ y)) with
     |false=>grind
     |true=>
      rw [hs] at hr;exact js hE hm _ st _ _ a w Q hr h1 hR fun a' w' mY=>hQ .norm _ _ _ h2 (kD _ _ _ _ hr).loose mY
   . obtain⟨A,β,hB⟩:=hR;split at h
     . rename_i hv;exact wp_cond_true (ad6 hB hv) (fF hE hm x K st a w Q h ⟨A,β,hB⟩ hx)
     . rename_i hv;exact wp_cond_false (ad7 hB hv) (fF hE hm y K st a w Q h ⟨A,β,hB⟩ hy)
     . rename_i b hv;exact wp_cond_split (Qc hB hv) (fun hb=>fF hE hm x K st a w Q (h.1 hb) ⟨A,β,hB⟩ hx) (fun hb=>fF hE hm y K st a w Q (h.2 hb) ⟨A,β,hB⟩ hy)
     . rename_i row l hv;obtain⟨b,hb,hl⟩:=ad8 hB hv;exact wp_cond_split hb (fun ht=>fF hE hm x K st a w Q (h.1 (hl ht)) ⟨A,β,hB⟩ hx) (fun _=>fF hE hm y K st a w Q h.2 ⟨A,β,hB⟩ hy)
     grind
 | .block id b,K,st,a,w,Q,h,hR,hQ=>by
   have aHn:mX E L b (PX id K) st->(Code.block id b).wp P Q a w:=fun h=>wp_block (fF hE hm b _ st a w _ h hR (Gi id hQ));cases b with
   |loop b=>
    simp only [mX] at h;split at h
    . rename_i An hA;exact wp_block (Qe (fun K' cw a' w' Q' hv mY hQ'=>fF hE hm b K' cw a' w' Q' hv mY hQ') h hR (Gi id hQ))
    . exact h.elim
   |_=>exact aHn (by first|exact h|(simp only [mX] at h |-))
 | .exit i,K,st,a,w,Q,h,hR,hQ=>by
   exact wp_exit (hQ (.exit i) _ _ _ h (jY.refl _ _) hR)
 | .ret,K,st,a,w,Q,h,hR,hQ=>by
   exact wp_ret (hQ .ret _ _ _ h (jY.refl _ _) hR)
 | .loop _,K,st,a,w,Q,h,_,_=>by grind[mX]
 | .rangeFunc _ _ _ _,K,st,a,w,Q,h,_,_=>by grind[mX]
 | .scope c,K,st,a,w,Q,h,hR,hQ=>by
   simp only [mX] at h;refine wp_scope_straight (fF hE hm c K st a w _ h hR fun e cw a' w' hk hF mY=> ?_);have :=hQ e cw a' w' hk hF mY;cases e<;>exact this
 | .label _,K,st,a,w,Q,h,hR,hQ=>by
   simp only [mX] at h;exact wp_label (hQ .norm _ _ _ h (jY.refl _ _) hR)
 | .goto _,K,st,a,w,Q,h,_,_=>by grind[mX]
 | .refuse _,K,st,a,w,Q,h,_,_=>by grind[mX]
termination_by c=>SizeOf.sizeOf c
end
end Go.Vg

end
section
namespace Go.Vg
open Go
section
variable {P:Program} {C:Ctx} {E:Env} {A A':Nat->Prop} {β aO:Nat->Value} {st:St} {a:Act} {w:World} {T:cA}
theorem Gj:Keyed (fun _=>true) [] β aO:=⟨fun K k h=>(by cases h),fun K h=>(by cases h),fun K _ h=>(by cases h),fun K h=>(by cases h)⟩
def EP(tmps:Array Value):ResultVar->Sem Value
 | .tmp t=>pure (tmps.getD t undef)
 | .cell x t=>do loadVar t (<-asAddr (tmps.getD x undef))
theorem DD(fn:Func)(tmps:Array Value):results fn tmps=(do
  let vs <-fn.results.mapM (EP tmps)
  pure (if h:vs.size=1 then vs[0] else .tuple vs)):=by
 rfl
theorem pK(hT:bO T P)(hB:aF C A β st a w):∀(rs:List ResultVar) (aK:List AV),k6 T st rs=some aK->
  ∃vs,(rs.mapM (EP a.tmps)).run P w= .ok vs w/\ai w A β vs aK
 | [],aK,h=>by
   simp_all[k6,A!,ai]
 | .tmp t::rs,aK,h=>by
   simp [k6] at h;split at h
   . rename_i l hl;simp at h;subst h;obtain⟨vs,h1,h2⟩:=pK hT hB rs l hl;refine⟨a.tmps.getD t undef::vs,?_,?_⟩
     . simp [List.mapM_cons,EP,Sem.run_bind,Sem.run_pure,Result.andThen_ok,h1]
     . exact⟨_,_,rfl,hB.tmps t,h2⟩
   . cases h
 | .cell x t::rs,aK,h=>by
   simp [k6] at h;split at h
   . rename_i k off hk;split at h
     . rename_i out l ho hl;obtain⟨vs,h1,h2⟩:=pK hT hB rs l hl;have hx:=hB.tmps x;rw [hk] at hx
       have nN:out.cond= []:=by
        grind[oG,Option.some.injEq]
       obtain⟨_,v,g1,g2⟩:=Dk hT hB hx ho (by grind);obtain⟨b,S4,hb2⟩:=hx;refine⟨v::vs,?_,?_⟩
       . simp only [Instr.loadAt,Instr.sureAddr,Sem.run_bind,Sem.run_pure,Result.andThen_ok] at g1;grind[asAddr,undef,Sem.run_pure,EP,Sem.run_bind,Result.andThen_ok]
       grind[ai]
     grind
   grind
theorem Qg {α:Type} {R:List Value->α->Prop}:∀(xs:List Value) (l:List α),xs.length=l.length->(∀(i:Nat) (v:Value) (x:α),xs[i]? =some v->l[i]? =some x->R [v] x)->E2 R xs l
 | [],[],_,_=>by rfl
 |v::xs,x::l,hl,h=>by
  exact⟨[v],xs,rfl,h 0 v x rfl rfl,Qg xs l (by simpa using hl) fun i v x h1 h2=>h (i+1) v x (by simpa using h1) (by simpa using h2)⟩
 | [],_::_,hl,_=>by grind
 |_::_,[],hl,_=>by grind
theorem Bn(hB:aF C A β st a w)(hA:∀b,A b->A' b)(r:List Ty)(l:List (Row r))(k:Nat)(v:Value)(h:∀p∈(zJ st.h r l k).1,p)(hF:∀k'∈(zJ st.h r l k).2,∀b,aA (β k')=some b->A' b)
  (hr:aa w A β v (.own k)):aa w A' aO v (.sl r l)/\∀k'∈(zJ st.h r l k).2,(st.h k').isSome:=by
 generalize he:zJ st.h r l k=g at h hF |-;unfold zJ at he;split at he
 . rename_i e j n m sz hk;split at he
   . rename_i e2 UU bytes fr hj;cases hb:Nat.beq UU.length 1 with
     |false=>rw [hb] at he;subst he;exact(bm h).elim
     |true=>
      rw [hb] at he;have hr2:=E! hb;split at he
      . rename_i g' hg;subst he;obtain⟨er,Ek⟩:=kF hg;subst er;subst Ek;have hmn:m=n:=h _ (R! ..);have hgl:rL sz n bytes=l:=h _ (G! _ (R! ..));subst hmn;subst hgl;have hFk:∀b,aA (β k)=some b->A' b:=hF k (by simp);have hFj:∀b,aA (β j)=some b->A' b:=hF j (by simp);refine⟨?_,fun k' dJ=> ?_⟩
        . obtain⟨rfl,_⟩:=hr;have hlen:(rL sz m bytes).length=m:=by simp [rL]
          rcases nP hB hk with⟨h1,h2⟩|⟨b,cap,cur,h1,h2,h3,h4,h5,h6,h7⟩
          . subst h2;exact⟨none,0,[],by rw [h1];simp [rL],by simp [rL],by simp,by simp [rL,E2],by simp⟩
          . refine⟨_,cap,cur.toList.take m,by rw [h1,hlen],by rw [hlen];exact h3,h4,?_,fun _=>⟨b,0,rfl,hFk b (by rw [h1];rfl),?_⟩⟩
            . refine Qg _ _ (by simp;omega) fun i u x hu hx=> ?_
              have hi:i<m:=by
               have :=(U?.1 hx).1;omega
              obtain⟨v',e1,e3⟩:=h7 j rfl i hi;rw [hu] at e1;simp at e1;subst e1
              have AR:x=(bytes.drop (i*sz)).take sz:=by
               simp [rL,J?,List.getElem?_range hi,Option.map_some,A!] at hx;exact hx.symm
              have hp:=(pZ (A':=A') hB e3 hA (fun q hq=>by
               have hq':=zL _ q hq;simp [aD,m?] at hq';subst hq';exact hFj)).1
              simp [gu,hj,hr2,bZ,K!,aa] at hp;refine⟨u,[],rfl,?_,rfl⟩;rw [AR];exact hp
            . intro q u hq;rw [i?] at hq;split at hq
              . simp [World.cell?,h2];simpa using hq
              . cases hq
        . simp at dJ;rcases dJ with rfl|rfl
          . simp [hk]
          . simp [hj]
      . subst he;exact(bm h).elim
   . subst he;exact(bm h).elim
 . subst he;obtain⟨g1,g2⟩:=pZ hB hr hA hF;exact⟨nS Gj _ _ _ h g1,fun k hk=>by obtain⟨e,row,l,fr,hr⟩:=g2 k hk;simp [hr]⟩
mutual
theorem DE(hB:aF C A β st a w) {s:List (Nat×Option Nat)}(hA:∀b,A b->A' b)(h1:∀i k,cy s i=some (some k)->aO i=β k)(h2:∀i,cy s i=some none->aO i=pz):∀(x y:AV) (v:Value),
  (∀p∈(wy st.h s x y).1,p)->(∀k∈(wy st.h s x y).2,∀b,aA (β k)=some b->A' b)->aa w A β v y->aa w A' aO v x/\∀k∈(wy st.h s x y).2,(st.h k).isSome
 |x,y,v,h,hF,hr=>by
  generalize he:wy st.h s x y=r at h hF |-;unfold wy at he;split at he
  . rename_i i k;subst he;simp only at h hF |-;refine⟨?_,fun k hk=>(by cases hk)⟩;simp only [aa] at hr |-;split at h
    . rename_i j hj;cases hb:Nat.beq k j with
      |false=>rw [hb] at h;exact(bm h).elim
      |true=>
       have :=E! hb;subst this;rw [h1 i k hj];exact hr
    . exact(bm h).elim
  . rename_i i;subst he;simp only at h hF |-;refine⟨?_,fun k hk=>(by cases hk)⟩;simp only [aa] at hr |-;split at h
    . rename_i hj;rw [h2 i hj];subst hr;exact⟨rfl,rfl⟩
    . exact(bm h).elim
  . rename_i r0 l0 k;subst he;exact Bn hB hA r0 l0 k v h hF hr
  . rename_i xs ys;subst he;simp only [aa] at hr |-;obtain⟨arr,e1,e2⟩:=hr;obtain⟨g1,g2⟩:=um hB hA h1 h2 xs ys _ h hF e2;exact⟨⟨arr,e1,g1⟩,g2⟩
  . rename_i xs ys;subst he;simp only [aa] at hr |-;obtain⟨arr,e1,e2⟩:=hr;obtain⟨g1,g2⟩:=um hB hA h1 h2 xs ys _ h hF e2;exact⟨⟨arr,e1,g1⟩,g2⟩
  . subst he;obtain⟨g1,g2⟩:=pZ hB hr hA hF;exact⟨nS Gj _ _ _ h g1,fun k hk=>by obtain⟨e,row,l,fr,hr⟩:=g2 k hk;simp [hr]⟩
theorem um(hB:aF C A β st a w) {s:List (Nat×Option Nat)}(hA:∀b,A b->A' b)(h1:∀i k,cy s i=some (some k)->aO i=β k)(h2:∀i,cy s i=some none->aO i=pz):∀(xs ys:List AV) (vs:List Value),
  (∀p∈(qt st.h s xs ys).1,p)->(∀k∈(qt st.h s xs ys).2,∀b,aA (β k)=some b->A' b)->ai w A β vs ys->ai w A' aO vs xs/\∀k∈(qt st.h s xs ys).2,(st.h k).isSome
 | [],[],vs,_,_,hr=>by
   simp only [ai] at hr |-;exact⟨hr,fun k hk=>by simp [qt] at hk⟩
 |x::xs,y::ys,vs,h,hF,hr=>by
  simp only [qt] at h hF |-;obtain⟨g1,g2⟩:=jC h;simp only [ai] at hr |-;obtain⟨v,cg,e,r1,r2⟩:=hr;obtain⟨q1,q2⟩:=DE hB hA h1 h2 x y v g1 (fun k hk=>hF k (A? _ hk)) r1;obtain⟨q3,q4⟩:=um hB hA h1 h2 xs ys cg g2 (fun k hk=>hF k (Z! _ hk)) r2;refine⟨⟨v,cg,e,q1,q3⟩,fun k hk=> ?_⟩;rcases F!.1 hk with hk|hk
  . exact q2 k hk
  . exact q4 k hk
 | [],_::_,vs,h,_,_=>by simp only [qt] at h;exact(bm h).elim
 |_::_,[],vs,h,_,_=>by simp only [qt] at h;exact(bm h).elim
end
def sW(h:bg)(s:List (Nat×Option Nat))(i:Nat)(b:AB):List Prop :=match cy s i with
 |some (some k)=>FU s (fun _=>true) (h k) b
 |some none=>match b with
  | .row _ _ l false=> [[]=l]
  |_=> [False]
 |none=> [False]
theorem Gk {h:bg} {s:List (Nat×Option Nat)}:∀(bs:List AB) (i j:Nat) (b:AB),bs[j]? =some b->∀p∈sW h s (i+j) b,p∈FV h s i bs
 |b0::bs,i,0,b,hb,p,hp=>by
  simp at hb;subst hb;simp only [FV,F!];exact .inl hp
 |b0::bs,i,j+1,b,hb,p,hp=>by
  simp [FV,F!];refine .inr (Gk bs (i+1) j b (by simpa using hb) p ?_);rw [show i+1+j=i+(j+1) by omega];exact hp
theorem aF.init {G:Nat->Option GD} {args:List Value} {cM:List AV} {n:Nat}(hA:∀b,A b->b<w.heap.size)(hG:∀i d,G i=some d->pe w A i d)(hr:ai w A β args cM)(hn:cM.length<=n):
  aF ⟨w,A,fun _=>False,G,β⟩ A β (St.init G n cM) {tmps:=args.toArray++Array.replicate (n-args.toArray.size) undef,defers:= []} w:=by
 have hlen:=dA cM args hr
 have nD:∀(aK:List AV) (vs:List Value) (i:Nat),ai w A β vs aK->aa w A β (vs.getD i undef) (aK.getD i .undef):=by
  intro aK;induction aK with
  |nil=>grind[ai,aa]
  |cons x aK ih=>
   intro vs i h;obtain⟨v,cg,rfl,h1,h2⟩:=h;cases i with
   |zero=>grind
   |succ i=>simp_all
 refine⟨rfl,?_,fun i=> ?_,fun k ab h=>(by cases h),fun k k' b h=>(by cases h),hA,⟨rfl,rfl,rfl,N! _,fun b _ _=>rfl⟩,fun b _ h=> .inl h,fun b h=>h,fun k b h=>(by cases h),fun i d h=>h,hG,fun k _=>rfl⟩
 . grind[St.init]
 . show aa w A β _ (cM.getD i .undef)
   have e:(args.toArray++Array.replicate (n-args.toArray.size) undef).getD i undef=args.getD i undef:=by
    rw [Array.getD_eq_getD_getElem?];grind
   grind
theorem S5(hT:bO T P) {fn:Func} {w0:World} {A0:Nat->Prop} {G:Nat->Option GD} {AI:Nat->Value}(hB:aF ⟨w0,A0,fun _=>False,G,AI⟩ A β st a w) {want:AV} {bs:List AB}(h:PY T st fn.results.toList want bs):
  ∃v,(results fn a.tmps).run P w= .ok v w/\∃A' aO,jS w0 A0 w v want bs A' aO:=by
 unfold PY at h;split at h
 . grind
 . rename_i aK has;cases hq:(iL (eb (pI st.h want (fU aK) bs))&&((wy st.h (pI st.h want (fU aK) bs) want (fU aK)).2.all fun k=> !aI (eb (pI st.h want (fU aK) bs)) k)&&gx bs.length bs) with
   |false=>grind
   |true=>
    rw [hq] at h;simp only [K!] at h;simp only [B!,E?] at hq;obtain⟨⟨q1,q2⟩,q3⟩:=hq;obtain⟨c1,c2⟩:=jC (p7 _ h);generalize hs:pI st.h want (fU aK) bs=s at *;obtain⟨vs,p1,p2⟩:=pK hT hB fn.results.toList aK has
    have hv:∃v,(results fn a.tmps).run P w= .ok v w/\aa w A β v (fU aK):=by
     have hl:=dA aK vs p2;refine⟨if h:vs.toArray.size=1 then vs.toArray[0] else .tuple vs.toArray,?_,?_⟩
     . grind[DD,Array.mapM_eq_mapM_toList,Sem.run_bind,map_eq_pure_bind,Result.andThen_ok,Sem.run_pure]
     . match aK,vs,hl,p2 with
       | [x],[v],_,p2=>
         grind[ai,List.cons.injEq,fU]
       | [],[],_,p2=>
         grind[fU,aa,ai]
       |x::y::l,v::u::m,_,p2=>
        have dR:¬(v::u::m).toArray.size=1:=by simp
        rw [dif_neg dR];simp only [fU,aa];grind
    obtain⟨v,Pu,JX⟩:=hv;let F:=(wy st.h s want (fU aK)).2
    let gW:Nat->Value:=fun i=>match cy s i with
     |some (some k)=>β k
     |_=>pz
    obtain⟨r1,r2⟩:=DE (A':=cq A β F) (aO:=gW) hB (fun b hb=> .inl hb) (fun i k hk=>by grind) (fun i hk=>by grind) want (fU aK) v c1 (fun k hk b hb=> .inr ⟨k,hk,hb⟩) JX;have hK:dg w w A (cq A β F):=fun b hb=>⟨.inl hb,rfl⟩
    have j7:∀i ab,bs[i]? =some ab->BR w (cq A β F) gW i ab/\(gW i=pz\/∃k,cy s i=some (some k)/\gW i=β k/\(st.h k).isSome):=by
     intro i ab hi;have hc:∀p∈sW st.h s i ab,p:=fun p hp=>c2 p (Gk bs 0 i ab hi p (by rw [Nat.zero_add];exact hp));unfold sW at hc;have anU:Keyed (fun _=>true) s β gW:=⟨fun K k h=>by simp only [gW,h],fun K h=>by simp only [gW,h],fun K _ h=>(by cases h),fun K h=>(by cases h)⟩
     have A5:∀k c,cy s i=some (some k)->st.h k=some c->BR w A gW i ab->BR w (cq A β F) gW i ab:=by
      intro k c hk pj gw;have Gl:gW i=β k:=by simp only [gW,hk]
      have zx:∀b,aA (gW i)=some b->¬A b->¬cq A β F b:=by
       rintro b hb iV (uo|⟨j,hj,vW⟩)
       . exact iV uo
       . rw [Gl] at hb;have :j=k:=hB.apart j k b (r2 j hj) (by simp [pj]) vW hb;subst this;have Kb:=q2 j hj;rw [L?] at Kb;exact fW.1 Kb (iw s i j hk)
      rcases pG bs i ab q3 hi with⟨e,row,l,rfl⟩|⟨e,j,n,m,sz,rfl,_⟩
      . obtain⟨xs,x1,x2,x3⟩:=gw;refine⟨xs,x1,bX (fun c x hx=>bY hK row c x hx) l xs x2,fun b hb=> ?_⟩;have :=x3 b hb;exact zx b hb this
      . obtain⟨xs,x1,x2,x3⟩:=gw;refine⟨xs,x1,fun b hb=>zx b hb (x2 b hb),fun j' eY i' gU=> ?_⟩;obtain⟨v,e1,e2⟩:=x3 j' eY i' gU;exact⟨v,e1,vK rfl e2⟩
     split at hc
     . rename_i k hk;obtain⟨c,pj⟩:=sV hc;rw [pj] at hc;have Gl:gW i=β k:=by simp only [gW,hk]
       have gw:=uj (aO:=gW) anU Gl hc (hB.blocks k c pj);exact⟨A5 k c hk pj gw, .inr ⟨k,hk,Gl,by simp [pj]⟩⟩
     . rename_i hk;have Gl:gW i=pz:=by simp only [gW,hk]
       split at hc
       . exact⟨NK Gl (bm hc), .inl Gl⟩
       . exact(bm hc).elim
     . exact(bm hc).elim
    have fQ:∀i ab b,bs[i]? =some ab->aA (gW i)=some b->∃k,cy s i=some (some k)/\aA (β k)=some b/\(st.h k).isSome:=by
     intro i ab b hi hb;rcases(j7 i ab hi).2 with hn|⟨k,h1,h2,h3⟩
     . rw [hn] at hb;simp [pz,aA] at hb
     . exact⟨k,h1,by rw [<-h2];exact hb,h3⟩
    refine⟨v,Pu,cq A β F,gW,⟨hB.frame.os,hB.frame.tape,hB.frame.output,hB.frame.size,fun b hb=>hB.frame.block b hb (fun h=>h),fun b hb=> .inl (hB.base b hb),fun b hb Fc=> ?_,fun b hb=> ?_,r1,fun i ab hi=>⟨(j7 i ab hi).1,fun b hb=> ?_⟩,fun i j b hi hj hb bS=> ?_⟩⟩
    . rcases Fc with Fc|⟨j,hj,vW⟩
      . rcases hB.lx b hb Fc with h|h
        . exact h
        . exact h.elim
      . rcases hB.oI j b (r2 j hj) vW with h|h
        . exact absurd hb (Nat.not_lt.2 h)
        . exact h.elim
    . rcases hb with hb|⟨j,hj,vW⟩
      . exact hB.bound b hb
      . exact lJ hB (r2 j hj) vW
    . obtain⟨k,_,g2,g3⟩:=fQ i ab b hi hb;rcases hB.oI k b g3 g2 with h|h
      . exact h
      . exact h.elim
    . obtain⟨x,hx⟩:∃x,bs[i]? =some x:=⟨_,D! hi⟩;obtain⟨y,hy⟩:∃y,bs[j]? =some y:=⟨_,D! hj⟩;obtain⟨k,g1,g2,g3⟩:=fQ i x b hx hb;obtain⟨k',g1',g2',g3'⟩:=fQ j y b hy bS;have :k=k':=hB.apart k k' b g3 g3' g2 g2';subst this;exact uk s q1 i j k g1 g1'
theorem NL(hE:af P E)(hm:P.follows .mixedOrders=true) {f:FuncId} {fn:Func} {c:Code} {s:bh}(L:List AV->Nat->Option ak)(hf:P.funcs[f]? =some fn)(hb:fn.body=some c)
  (h:∀cM pre res bs,s cM=some (pre,res,bs)->pre->adV E (L cM) c fn.ntmps fn.results.toList cM res bs):Valid P E.mP f s:=by
 intro w A β args cM pre res bs hA hG bP hs hp;have Gm:=h cM pre res bs hs hp;unfold adV at Gm;cases hn:Nat.ble cM.length fn.ntmps with
 |false=>grind
 |true=>
  rw [hn] at Gm;refine calls_of_wp hf hb (fF (C:=⟨w,A,fun _=>False,E.mP,β⟩) ⟨hE,rfl⟩ hm c _ _ _ w _ Gm ⟨A,β,aF.init hA hG bP (M! hn)⟩ ?_);intro e cw a' w' hk _ hR;obtain⟨A',aO,hB⟩:=hR
  have key:PY E.T cw fn.results.toList res bs->bodyPost P fn (fun e w'=>∃v,e= .returned v/\∃A' aO,jS w A w' v res bs A' aO) .ret a' w':=by
   intro hk;obtain⟨v,h1,A2,gW,h2⟩:=S5 hE.fE hB hk;exact⟨hB.defers,v,h1,v,rfl,A2,gW,h2⟩
  cases e with
  |norm=>exact key hk
  |ret=>exact key hk
  |exit i=>exact hk.elim
end
end Go.Vg

end
section
namespace Go.Vg
open Go
@[reducible] def cW (α:Type):List α:= []
mutual
def D.ok:(t:Ty)->D t->Prop
 | .int k,x=>lo k<=DI.toInt k x/\DI.toInt k x<=hi k
 | .bool,_=>True
 | .str,s=>s.length<=9223372036854775807
 | .slice row,l=>l.length<=9223372036854775807/\∀x,x∈l->Row.ok row x
def Row.ok:(ts:List Ty)->Row ts->Prop
 | [],_=>True
 |t::ts,x=>D.ok t (Row.hd x)/\Row.ok ts (Row.tl x)
end
mutual
def AV.facts:AV->Prop
 | .int k n=>lo k<=n/\n<=hi k
 | .str s=>s.length<=9223372036854775807
 | .sl row l=>D.ok (.slice row) l
 | .full row l=>D.ok (.slice row) l
 | .agg cs=>xU cs
 | .b4 cs=>xU cs
 |_=>True
def xU:List AV->Prop
 | []=>True
 |a::aK=>a.facts/\xU aK
end
section
variable {P:Program} {E:Env} {w:World} {A:Nat->Prop} {β:Nat->Value}
theorem NM {α:Type} {R:List Value->α->Prop} {p:α->Prop}(h:∀c x,R c x->p x):∀(l:List α) (cs:List Value),E2 R cs l->∀x,x∈l->p x
 | [],_,_,x,hx=>by grind
 |y::l,_,⟨c1,c2,hc,h1,h2⟩,x,hx=>by
  rcases L!.1 hx with rfl|hx
  . grind
  . exact NM h l c2 h2 x hx
mutual
theorem S6:∀(t:Ty) (v:Value) (x:D t),Rd w A t v x->D.ok t x
 | .int k,v,x,h=>by simp only [Rd] at h;simp only [D.ok];exact h.2
 | .bool,v,x,h=>by simp only [D.ok]
 | .str,v,s,h=>by simp only [Rd] at h;simp only [D.ok];exact h.2
 | .slice row,v,l,h=>by
   simp only [Rd] at h;obtain⟨a,cap,cs,h1,h2,h3,h4,h5⟩:=h;simp only [D.ok];exact⟨p? h2 h3,NM (fun c x hx=>Bo row c x hx) l cs h4⟩
theorem Bo:∀(ts:List Ty) (vs:List Value) (x:Row ts),bC w A ts vs x->Row.ok ts x
 | [],vs,x,h=>by simp only [Row.ok]
 |t::ts,vs,x,h=>by
  simp only [bC] at h;obtain⟨v,cg,h1,h2,h3⟩:=h;simp only [Row.ok];exact⟨S6 t v _ h2,Bo ts cg _ h3⟩
end
mutual
theorem NN:∀(a:AV) (v:Value),aa w A β v a->a.facts
 | .int k n,v,h=>by simp only [aa] at h;simp only [AV.facts];exact h.2
 | .str s,v,h=>by simp only [aa] at h;simp only [AV.facts];exact h.2
 | .sl row l,v,h=>by simp only [aa] at h;simp only [AV.facts];exact S6 _ _ _ h
 | .full row l,v,h=>by simp only [aa] at h;simp only [AV.facts];exact S6 _ _ _ h.1
 | .agg cs,v,h=>by
   simp only [aa] at h;obtain⟨arr,_,h2⟩:=h;simp only [AV.facts];exact sB cs _ h2
 | .b4 cs,v,h=>by
   simp only [aa] at h;obtain⟨arr,_,h2⟩:=h;simp only [AV.facts];exact sB cs _ h2
 | .dz,_,_| .undef,_,_| .bool _,_,_| .tt,_,_| .ff,_,_| .nil,_,_| .jM,_,_| .pw _ _,_,_| .kq,_,_| .gR _ _ _,_,_| .qd _ _,_,_| .own _,_,_| .pre _ _,_,_| .view _ _ _ _,_,_| .ref _ _,_,_| .elem _ _ _ _,_,_| .fn _ _ _,_,_| .ia _ _,_,_=>by simp only [AV.facts]
theorem sB:∀(aK:List AV) (vs:List Value),ai w A β vs aK->xU aK
 | [],_,_=>by simp only [xU]
 |a::aK,vs,h=>by
  simp only [ai] at h;obtain⟨v,cg,_,h1,h2⟩:=h;simp only [xU];exact⟨NN a v h1,sB aK cg h2⟩
end
end
def cA.Ok(P:Program):cA->Prop
 | .leaf=>True
 | .node l k v r=>l.Ok P/\r.Ok P/\P.underlying k=some v.desc/\Sm P k v.desc/\∃i,P.info? k=some i/\i.size=v.size/\i.bytes=v.bytes/\i.zero=some v.zero
theorem cA.Ok.at {P:Program} {T:cA}(h:T.Ok P):∀t te,T.find t=some te->(P.underlying t=some te.desc/\∃i,P.info? t=some i/\i.size=te.size/\i.bytes=te.bytes/\i.zero=some te.zero)/\Sm P t te.desc:=by
 induction T with
 |leaf=>intro t te ht;cases ht
 |node l k v r ihl ihr=>
  obtain⟨h1,h2,h3,h5,h4⟩:=h;intro t te ht;simp [cA.find] at ht;cases hb:Nat.beq t k with
  |true=>
   simp_all
  |false=>
   grind
theorem bO.of {P:Program} {T:cA}(h:T.Ok P):bO T P:=⟨fun t te ht=>(h.at t te ht).1,fun t te ht=>(h.at t te ht).2⟩
end Go.Vg

end
section
namespace Go.Vg
open Go
inductive PS where
 |one (t:Ty)
 |agg (ts:List Ty)
@[reducible] def PS.flat:List PS->List Ty
  | []=> []
  | .one t::ps=>t::PS.flat ps
  | .agg ts::ps=>ts++PS.flat ps
def PS.cells:List PS->List AV->Option (List AV)
 | [],[]=>some []
 | .one _::ps,a::aK=>match PS.cells ps aK with
   |some l=>some (a::l)
   |none=>none
 | .agg ts::ps, .agg cs::aK=>bif Nat.beq cs.length ts.length then match PS.cells ps aK with
   |some l=>some (cs++l)
   |none=>none
   else none
 |_,_=>none
def PS.group:List PS->List AV->List AV
 | [],_=> []
 | .one _::ps,cs=>cs.headD .dz::PS.group ps cs.tail
 | .agg ts::ps,cs=> .agg (cs.take ts.length)::PS.group ps (cs.drop ts.length)
def Gn(ps:List PS)(cM:List AV):Option (Row (PS.flat ps)):=match PS.cells ps cM with
 |some cs=>lu (PS.flat ps) cs
 |none=>none
def NO(ps:List PS)(x:Row (PS.flat ps)):List AV:=PS.group ps (gh (PS.flat ps) x)
def ao(ps:List PS)(f:Row (PS.flat ps)->Prop×AV×List AB):bh:=fun cM=>match Gn ps cM with
 |some x=>some (f x)
 |none=>none
def mB(ps:List PS)(μ:Row (PS.flat ps)->Nat)(m:Nat)(f:Row (PS.flat ps)->Prop×AV×List AB):bh:=
 ao ps fun x=>(μ x<m/\(f x).1,(f x).2)
section
variable {P:Program} {E:Env} {w:World} {A:Nat->Prop} {β:Nat->Value}
theorem ka:∀(aK bs:List AV) (us vs:List Value),ai w A β us aK->ai w A β vs bs->ai w A β (us++vs) (aK++bs)
 | [],bs,us,vs,h,g=>by
   simp only [ai] at h;subst h;simpa using g
 |a::aK,bs,us,vs,h,g=>by
  simp only [ai] at h;obtain⟨v,zu,rfl,h1,h2⟩:=h;simp only [c?,ai];exact⟨v,zu++vs,rfl,h1,ka aK bs zu vs h2 g⟩
theorem nT:∀(aK bs:List AV) (vs:List Value),ai w A β vs (aK++bs)->∃us ws,vs=us++ws/\ai w A β us aK/\ai w A β ws bs
 | [],bs,vs,h=>⟨[],vs,rfl,by simp [ai],h⟩
 |a::aK,bs,vs,h=>by
  simp only [c?,ai] at h;obtain⟨v,cg,rfl,h1,h2⟩:=h;obtain⟨us,ws,rfl,h3,h4⟩:=nT aK bs cg h2;exact⟨v::us,ws,rfl,by simp only [ai];exact⟨v,us,rfl,h1,h3⟩,h4⟩
theorem rO(aK:List AV)(vs:List Value)(h:ai w A β vs aK):vs.length=aK.length:=(dA aK vs h).symm▸rfl
theorem uq:∀(ps:List PS) (cM cs:List AV) (args:List Value),PS.cells ps cM=some cs->ai w A β args cM->
  cs.length=(PS.flat ps).length/\∃vs,ai w A β vs cs/\∀fD,fD.length=cs.length->ai w A β vs fD->ai w A β args (PS.group ps fD)
 | [],[],cs,args,h,hr=>by
   simp only [PS.cells,A!] at h;subst h;exact⟨rfl,[],by simp [ai],fun fD _ _=>by simpa only [PS.group] using hr⟩
 | .one t::ps,a::aK,cs,args,h,hr=>by
   simp only [PS.cells] at h;split at h
   . rename_i l hl;simp only [A!] at h;subst h;simp only [ai] at hr;obtain⟨v,Gp,rfl,h1,h2⟩:=hr;obtain⟨g1,vs,g2,g3⟩:=uq ps aK l Gp hl h2;refine⟨by simp [PS.flat,g1],v::vs,by simp only [ai];exact⟨v,vs,rfl,h1,g2⟩,fun fD jA nz=> ?_⟩;cases fD with
     |nil=>simp at jA
     |cons c fD=>
      simp only [ai] at nz;obtain⟨v',cg,e,r1,r2⟩:=nz;simp only [s?] at e;obtain⟨rfl,rfl⟩:=e;simp only [PS.group,List.headD,List.tail,ai];exact⟨v,Gp,rfl,r1,g3 fD (by simpa using jA) r2⟩
   . cases h
 | .agg ts::ps,a::aK,cs,args,h,hr=>by
   cases a with
   |agg Sy=>
    simp only [PS.cells] at h;cases hb:Nat.beq Sy.length ts.length with
    |false=>rw [hb] at h;cases h
    |true=>
     rw [hb] at h;have hlen:=E! hb;simp only [K!] at h;split at h
     . rename_i l hl;simp only [A!] at h;subst h;simp only [ai] at hr;obtain⟨v,Gp,rfl,h1,h2⟩:=hr;simp only [aa] at h1;obtain⟨arr,rfl,h1⟩:=h1;obtain⟨g1,vs,g2,g3⟩:=uq ps aK l Gp hl h2;refine⟨by simp [PS.flat,g1,hlen],arr.toList++vs,ka _ _ _ _ h1 g2,fun fD jA nz=> ?_⟩;have hk:(fD.take ts.length).length=ts.length:=by rw [X!];simp at jA;omega
       obtain⟨us,ws,e,r1,r2⟩:=nT (fD.take ts.length) (fD.drop ts.length) _ (by rw [O?];exact nz)
       have hu:us.length=arr.toList.length:=by
        rw [rO _ _ r1,hk,rO _ _ h1,hlen]
       obtain⟨e1,e2⟩:=List.append_inj e hu.symm;subst e1;subst e2;simp only [PS.group,ai,aa];exact⟨_,Gp,rfl,⟨arr,rfl,r1⟩,g3 _ (by simp at jA |-;omega) r2⟩
     . cases h
   |_=>simp [PS.cells] at h
 | [],_::_,cs,args,h,_=>by simp [PS.cells] at h
 | .one _::_,[],cs,args,h,_=>by simp [PS.cells] at h
 | .agg _::_,[],cs,args,h,_=>by simp [PS.cells] at h
theorem ur(ps:List PS) {cM:List AV} {args:List Value} {x:Row (PS.flat ps)}(h:Gn ps cM=some x)(hr:ai w A β args cM):
  ai w A β args (NO ps x)/\Row.ok (PS.flat ps) x:=by
 unfold Gn at h;split at h
 . rename_i cs dy;obtain⟨g1,vs,g2,g3⟩:=uq ps cM cs args dy hr;have hv:=ql _ _ _ _ g2 h;exact⟨g3 _ (by rw [mS,g1]) (kz _ _ _ hv),Bo _ _ _ hv⟩
 . cases h
theorem ah(hE:af P E)(hm:P.follows .mixedOrders=true) {f:FuncId} {fn:Func} {c:Code}(ps:List PS) {F:Row (PS.flat ps)->Prop×AV×List AB}
  (L:Row (PS.flat ps)->Nat->Option ak) (hf:P.funcs[f]? =some fn) (hb:fn.body=some c)
  (h:∀x,(F x).1->Row.ok (PS.flat ps) x->adV E (L x) c fn.ntmps fn.results.toList (NO ps x) (F x).2.1 (F x).2.2):Valid P E.mP f (ao ps F):=by
 intro w A β args cM pre res bs hA hG bP hs hp;unfold ao at hs;split at hs
 . rename_i x hx;simp only [A!] at hs;obtain⟨g1,g2⟩:=ur ps hx bP
   have hv:Valid P E.mP f (fun KM=>open Classical in if KM=NO ps x then some (F x) else none):=by
    refine NL hE hm (fun _=>L x) hf hb fun KM aLm aLn bs' ie sX=> ?_;split at ie
    . rename_i e;subst e;simp only [A!] at ie;have :=h x (by rw [ie];exact sX) g2;rw [ie] at this;exact this
    . cases ie
   exact hv w A β args (NO ps x) pre res bs hA hG g1 (by simp only [H?,hs]) hp
 . cases hs
theorem zS {G:Nat->Option GD} {f:FuncId}(ps:List PS)(μ:Row (PS.flat ps)->Nat) {F:Row (PS.flat ps)->Prop×AV×List AB}
  (h:∀m,Valid P G f (mB ps μ m F)->Valid P G f (mB ps μ (m+1) F)):Valid P G f (ao ps F):=by
 have jO:∀m,Valid P G f (mB ps μ m F):=by
  intro m;induction m with
  |zero=>
   intro w A β args cM pre res bs hA hG bP hs hp;unfold mB ao at hs;split at hs
   . simp only [A!] at hs;have :=congrArg Prod.fst hs;simp only at this;rw [<-this] at hp;exact absurd hp.1 (Nat.not_lt_zero _)
   . cases hs
  |succ m ih=>exact h m ih
 intro w A β args cM pre res bs hA hG bP hs hp;unfold ao at hs;split at hs
 . rename_i x hx;simp only [Option.some.injEq] at hs;refine jO (μ x+1) w A β args cM (μ x<μ x+1/\pre) res bs hA hG bP ?_ ⟨Nat.lt_succ_self _,hp⟩;unfold mB ao;simp only [hx,hs]
 . cases hs
theorem ar.of {f:FuncId} {fn:Func} {c:Code}(hf:P.funcs[f]? =some fn)(hb:fn.body=some c)(hn:(fn.name== "runtime.NumGoroutine")=false):ar P f:=by
 intro args w;have hp:Sem.run P program w= .ok P w:=rfl;simp only [callFunc,Sem.run_bind,hp,Result.andThen_ok,hf,hn,hb,Option.isNone_some];rfl
def Env.cons(f:Nat)(s:bh)(E:Env):Env:= {E with sig:=fun g=>bif Nat.beq g f then some s else E.sig g}
theorem af.cons(hE:af P E) {f:FuncId} {s:bh}(h:Valid P E.mP f s)(hf:ar P f):af P (E.cons f s):=by
 refine⟨hE.fE,fun g t hg=> ?_,hE.lq⟩;simp only [Env.cons] at hg;cases hb:Nat.beq g f with
 |true=>
  rw [hb] at hg;simp only [K!,A!] at hg;have :=E! hb;subst this;subst hg;exact⟨h,hf⟩
 |false=>
  rw [hb] at hg;exact hE.sig g t hg
theorem af.none {T:cA}(G:Nat->Option GD)(hT:bO T P):af P {T:=T,sig:=fun _=>none,mP:=G}:=⟨hT,fun f s h=>(by cases h),fun f m s h=>(by cases h)⟩
end
end Go.Vg

end
section
namespace Go.Vg
open Go
def Bp(T:cA)(off:Nat):List Field->Bool
 | []=>true
 |f::fs=>Nat.beq f.offset off&&(match T.find f.type with
  |some te=>Bp T (off+te.size) fs
  |none=>false)
def Qh(T:cA):List Field->Nat
 | []=>0
 |f::fs=>(match T.find f.type with
  |some te=>te.size
  |none=>0)+Qh T fs
def uu(T:cA):Nat->TypeId->Bool
 |0,_=>false
 |n+1,t=>match T.find t with
  |none=>false
  |some te=>match te.desc with
   | .slice e=>uu T n e&&(match T.find e with
     |some ee=>Nat.blt 0 ee.size
     |none=>false)
   | .struct fs=>Bp T 0 fs.toList&&Nat.beq te.size (Qh T fs.toList)&&fs.toList.all (fun f=>uu T n f.type)
   | .array k e=>uu T n e&&(match T.find e with
     |some ee=>Nat.beq te.size (k*ee.size)
     |none=>false)
   |_=>true
section
variable {P:Program} {E:Env} {w:World} {A:Nat->Prop} {T:cA} {H:Type} {enc:TypeId×Value->H} {sp:Nat->Bool} {held:Bool}
theorem bO.cells(hT:bO T P) {t:TypeId} {te:TE}(h:T.find t=some te):P.cellsOf t=te.size:=by
 obtain⟨_,i,h1,h2,_⟩:=hT.ok t te h;grind[Program.cellsOf]
theorem qB:∀(r1 r2:List Ty) (c1 c2:List Value) (x:Row r1) (y:Row r2),bC w A r1 c1 x->bC w A r2 c2 y->∃z:Row (r1++r2),bC w A (r1++r2) (c1++c2) z
 | [],r2,c1,c2,x,y,h1,h2=>by
   grind[bC]
 |t::ts,r2,c1,c2,x,y,h1,h2=>by
  obtain⟨v,vs,rfl,g1,g2⟩:=h1;obtain⟨z,hz⟩:=qB ts r2 vs c2 _ y g2 h2;refine⟨Row.mk (Row.hd x) z,?_⟩;show bC w A (t::(ts++r2)) (v::(vs++c2)) (Row.mk (Row.hd x) z);grind[bC,qk,vX]
theorem KN {row:List Ty} {sz:Nat} {a:Addr}(cZ:0<sz):∀(k:Nat),(∀i,i<k->∃fD r,fD.length=sz/\(∀j,j<sz->w.cell? ((a.add (i*sz)).add j)=fD[j]?)/\bC w A row fD r)->
  ∃(l:List (Row row)) (cs:List Value),l.length=k/\cs.length=k*sz/\E2 (bC w A row) cs l/\(∀j,j<k*sz->w.cell? (a.add j)=cs[j]?)
 |0,_=>⟨[],[],rfl,by simp,by rfl,fun j hj=>by omega⟩
 |k+1,h=>by
  obtain⟨l,cs,h1,h2,h3,h4⟩:=KN cZ k fun i hi=>h i (by omega);obtain⟨fD,r,g1,g2,g3⟩:=h k (by omega);refine⟨l++ [r],cs++fD,by grind,by grind,iq l [r] cs fD h3 ⟨fD,[],by simp,g3,by rfl⟩,fun j hj=> ?_⟩;grind[List.getElem?_append_right,Addr.add]
theorem Gq(hT:bO T P) {n m:Nat}(cs:List Value)
  (ih:∀t row (cs:List Value) x,rowOf T n t=some row->uu T n t=true->DataW.trod enc P w 0 sp held m t cs=some x->∃r:Row row,bC w A row cs r):
  ∀(fs:List Field) (off:Nat) (row:List Ty),fs.foldr (fun f acc=>yG (rowOf T n f.type) acc) (some [])=some row->Bp T off fs=true->(fs.all fun f=>uu T n f.type)=true->
   (∀f∈fs,∃x,DataW.trod enc P w 0 sp held m f.type ((cs.drop f.offset).take (P.cellsOf f.type))=some x)->cs.length=off+Qh T fs->
   ∃r:Row row,bC w A row (cs.drop off) r
 | [],off,row,hr,_,_,_,hl=>by
   simp at hr;subst hr;simp_all[bC,Qh,Q?]
 |f::fs,off,row,hr,hf,ha,hx,hl=>by
  simp at hr;generalize azG:fs.foldr (fun f acc=>yG (rowOf T n f.type) acc) (some [])=rest at hr;unfold yG at hr;split at hr
  . rename_i r1 r2 h1;simp at hr;subst hr;simp only [Bp,B!] at hf;obtain⟨S7,CD⟩:=hf;have ho:=E! S7;simp only [List.all_cons,B!] at ha;split at CD
    . rename_i te lz;have hc:=hT.cells lz;obtain⟨x,Eh⟩:=hx f (List.mem_cons_self ..);obtain⟨y,hy⟩:=ih _ _ _ _ h1 ha.1 Eh;simp only [Qh,lz] at hl;obtain⟨z,hz⟩:=Gq hT cs ih fs (off+te.size) r2 azG CD ha.2 (fun g hg=>hx g (List.mem_cons_of_mem _ hg)) (by omega);obtain⟨u,hu⟩:=qB _ _ _ _ _ _ hy hz;grind[List.drop_drop,List.take_append_drop]
    grind
  grind
theorem KO {r:List Ty}(cs:List Value)(sz:Nat):∀(k off:Nat),(∀i,i<k->∃x:Row r,bC w A r ((cs.drop (off+i*sz)).take sz) x)->cs.length=off+k*sz->
  ∃x:Row ((List.replicate k r).flatten),bC w A ((List.replicate k r).flatten) (cs.drop off) x
 |0,off,_,hl=>⟨(),by
  grind[bC,List.drop_eq_nil_of_le]⟩
 |k+1,off,h,hl=>by
  obtain⟨x,hx⟩:=h 0 (by omega)
  obtain⟨y,hy⟩:=KO cs sz k (off+sz) (fun i hi=>by
   obtain⟨z,hz⟩:=h (i+1) (by omega);refine⟨z,?_⟩;grind) (by grind)
  obtain⟨u,hu⟩:=qB _ _ _ _ _ _ hx hy;grind[List.drop_drop,List.take_append_drop]
theorem oQ {t:Ty} {v:Value} {x:D t}(h:Rd w A t v x):bC w A [t] [v] (Row.mk x ()):=by
 grind[bC,qk]
theorem xV(hT:bO T P)(hA:∀b,b<w.heap.size->A b):∀(n m:Nat) (t:TypeId) (row:List Ty) (cs:List Value) (x:DataW H×List MemPlace),rowOf T n t=some row->uu T n t=true->
  DataW.trod enc P w 0 sp held m t cs=some x->∃r:Row row,bC w A row cs r
 |0,m,t,row,cs,x,hr,_,_=>by grind[rowOf]
 |n+1,m,t,row,cs,x,hr,hf,h=>by
  unfold rowOf at hr;unfold uu at hf;split at hr
  . grind
  . rename_i te lz;rw [lz] at hf;obtain⟨hu,_⟩:=hT.ok t te lz;have dy:=hT.cells lz;simp only at hf;split at hr
    . rename_i k hd;simp only [A!] at hr;subst hr;rw [hd] at hu;obtain⟨z,rfl,_,hw⟩:=DataW.trod_int hu h
      have hz:lo k<=z/\z<=hi k:=by
       cases k<;>simpa [Lit.wf,IntKind.min,IntKind.max,IntKind.signed,IntKind.bits,lo,hi] using hw
      refine⟨Row.mk (DI.ofInt k z:D (.int k)) (),oQ ?_⟩;simp_all[Rd,KA,trivial]
    . rename_i hd;simp only [A!] at hr;subst hr;rw [hd] at hu;obtain⟨b,rfl,_⟩:=DataW.trod_bool hu h;exact⟨Row.mk (b:D .bool) (),oQ (by rfl)⟩
    . rename_i hd;simp only [A!] at hr;subst hr;rw [hd] at hu;obtain⟨s,rfl,_,hs⟩:=DataW.trod_string hu h;refine⟨Row.mk (s.data.toList:D .str) (),oQ ?_⟩;simp_all[Rd,trivial]
    . rename_i e hd;split at hr
      . rename_i r hre;simp only [A!] at hr;subst hr;rw [hd] at hu hf;simp only [B!] at hf;obtain⟨S7,CD⟩:=hf;split at CD
        . rename_i ee qg;have cZ:0<ee.size:=by simp_all
          have NP:=hT.cells qg;rcases DataW.trod_slice hu h with⟨rfl,_⟩|⟨a,len,cap,elems,rest,m',_,rfl,_,hb,hl,hm,hlen,Fw,_⟩
          . refine⟨Row.mk (([]:List (Row r)):D (.slice r)) (),oQ ?_⟩;simp only [Rd];exact⟨none,0,[],rfl,by simp,by simp,by rfl,by simp⟩
          . rw [NP] at Fw
            obtain⟨l,cs,g1,g2,g3,g4⟩:=KN (w:=w) (A:=A) (row:=r) (a:=a) cZ len fun i hi=>by
             have h1:=Fw i hi;rw [List.getElem?_eq_getElem (by omega),Option.bind_eq_some_iff] at h1;obtain⟨fD,c1,c2⟩:=h1;obtain⟨_,d1,d2⟩:=World.cells?_some c1;obtain⟨y,hy⟩:=xV hT hA n m' e r fD _ hre S7 c2;grind
            refine⟨Row.mk (l:D (.slice r)) (),oQ ?_⟩;simp only [Rd];refine⟨some a,cap,cs,by rw [g1],by omega,hm,g3,fun dR=> ?_⟩
            have iT:0<len*ee.size:=by
             grind
            have h0:=g4 0 iT;obtain⟨b,o,s⟩:=a;simp only [Addr.add,H?,World.cell?] at h0
            have hs:s=none:=by
             cases s with
             |none=>rfl
             |some q=>grind
            subst hs;refine⟨b,o,rfl,hA b ?_,fun j v hj=> ?_⟩
            . grind
            grind[List.getElem?_eq_some_iff,Addr.add]
        grind
      grind
    . rename_i fs hd;rw [hd] at hu hf;simp only [B!] at hf;obtain⟨⟨S7,CD⟩,hf3⟩:=hf;obtain⟨xs,m',_,_,hl,Qb,hx⟩:=DataW.trod_struct hu h
      have :=Gq (A:=A) hT cs (fun t row cs x h1 h2 h3=>xV hT hA n m' t row cs x h1 h2 h3) fs.toList 0 row hr S7 hf3 (fun f hf=>by
       grind[List.getElem?_of_mem,List.getElem?_eq_some_iff,List.getElem?_eq_getElem]) (by simp_all)
      grind
    . rename_i k e hd;rw [hd] at hu hf;split at hr
      . rename_i r hre;simp only [A!] at hr;subst hr;simp only [B!] at hf;obtain⟨S7,CD⟩:=hf;split at CD
        . rename_i ee qg;have NP:=hT.cells qg;obtain⟨xs,m',_,_,hl,Qb,hx⟩:=DataW.trod_array hu h
          have :=KO (w:=w) (A:=A) (r:=r) cs ee.size k 0 (fun i hi=>by
           have h1:=hx i hi;rw [List.getElem?_eq_getElem (by omega),NP] at h1;obtain⟨y,hy⟩:=xV hT hA n m' e r _ _ hre S7 h1;grind) (by simp_all)
          grind
        grind
      grind
    grind
end
end Go.Vg

end
section
namespace Go.Vg
open Go Go.ChangeShapes Go.WideShapes Go.ChangeAt Go.RowKit
def PS.of(T:cA)(t:TypeId):Option PS:=match T.find t,rowOf T ry t with
 |some te,some row=>bif uu T ry t then(bif te.desc.kQ then some (.agg row) else match row with
  | [u]=>some (.one u)
  |_=>none) else none
 |_,_=>none
def PS.ofs(T:cA):List TypeId->Option (List PS)
 | []=>some []
 |t::ts=>match PS.of T t,PS.ofs T ts with
  |some p,some ps=>some (p::ps)
  |_,_=>none
section
variable {P:Program} {E:Env} {w:World} {A:Nat->Prop} {β:Nat->Value} {T:cA} {H:Type} {enc:TypeId×Value->H} {sp:Nat->Bool} {held:Bool}
theorem aec:∀(t:Ty) (x:D t),∃y,Pt t (Av t x)=some y
 | .int k,x=>⟨_,by simp [Av,Pt];rfl⟩
 | .bool,b=>⟨b,rfl⟩
 | .str,s=>⟨s,rfl⟩
 | .slice row,l=>by
   simp only [Av,Pt,fu]
   have :Ty.vF row row=true :=by
    have :∀(r:List Ty),Ty.vF r r=true :=fun r=>wM r;exact this row
   rw [dif_pos this];exact⟨_,rfl⟩
where
 S8:∀(t:Ty),Ty.beq t t=true
  | .int k=>by simp [Ty.beq]
  | .bool=>rfl
  | .str=>rfl
  | .slice r=>by simp only [Ty.beq];exact wM r
 wM:∀(r:List Ty),Ty.vF r r=true
  | []=>rfl
  |t::ts=>by simp only [Ty.vF,S8 t,wM ts,Bool.and_self]
theorem sC:∀(ts:List Ty) (x:Row ts) (us:List Ty) (aK:List AV) (z:Row us),lu us aK=some z->∃y,lu (ts++us) (gh ts x++aK)=some y
 | [],x,us,aK,z,h=>⟨z,h⟩
 |t::ts,x,us,aK,z,h=>by
  obtain⟨d,hd⟩:=aec t (Row.hd x);obtain⟨y,hy⟩:=sC ts (Row.tl x) us aK z h;refine⟨Row.mk d y,?_⟩;show lu (t::(ts++us)) (Av t (Row.hd x)::(gh ts (Row.tl x)++aK))=_;simp only [lu,hd,hy]
theorem Gr(hT:bO T P)(hA:∀b,b<w.heap.size->A b):∀(ts:List TypeId) (ps:List PS) (vs:List Value) (ds:List (DataW H)) (q:List MemPlace),PS.ofs T ts=some ps->
  (∀(j:Nat) t v,ts[j]? =some t->vs[j]? =some v->∃b,Value.okWide P w .any b t v)->
  DataW.TrodAll enc P w 0 sp held ts vs ds q->ds.length=ts.length/\∃cM cs z,ai w A β vs cM/\PS.cells ps cM=some cs/\lu (PS.flat ps) cs=some z
 | [],ps,vs,ds,q,hp,_,h=>by
   simp only [PS.ofs,A!] at hp;subst hp;cases vs with
   |nil=>
    cases ds with
    |nil=>exact⟨rfl,[],[],(),by simp only [ai],rfl,rfl⟩
    |cons _ _=>simp [DataW.TrodAll] at h
   |cons _ _=>simp [DataW.TrodAll] at h
 |t::ts,ps,vs,ds,q,hp,Kf,h=>by
  simp only [PS.ofs] at hp;split at hp
  . rename_i p ps' h1 h2;simp only [A!] at hp;subst hp;match vs,ds,h with
    |v::vs,d::ds,h=>
     simp only [DataW.TrodAll] at h;obtain⟨q1,q2,g1,g2,_⟩:=h;obtain⟨k1,cM,cs,z,k2,k3,k4⟩:=Gr hT hA ts ps' vs ds q2 h2 (fun j t' v' hj hv=>Kf (j+1) t' v' (by simpa using hj) (by simpa using hv)) g2;refine⟨by simp [k1],?_⟩;obtain⟨b,hv⟩:=Kf 0 t v rfl rfl;obtain⟨m,hm⟩:=g1;unfold PS.of at h1;split at h1
     . rename_i te row lz j7;cases Fy:uu T ry t with
       |false=>rw [Fy] at h1;cases h1
       |true=>
        rw [Fy] at h1;simp only [K!] at h1;obtain⟨hu,_⟩:=hT.ok t te lz;obtain⟨r,hr⟩:=xV (A:=A) hT hA ry m t row _ _ j7 Fy hm;have hrel:=kz (β:=β) _ _ _ hr;cases JZ:te.desc.kQ with
        |true=>
         rw [JZ] at h1;simp only [K!,A!] at h1;subst h1
         have :∃arr:Array Value,v= .agg arr:=by
          unfold Value.okWide at hv;rw [hu] at hv;cases hd:te.desc with
          |struct fs=>rw [hd] at hv;obtain⟨arr,e,_⟩:=hv;exact⟨arr,e⟩
          |array k e=>rw [hd] at hv;obtain⟨arr,e,_⟩:=hv;exact⟨arr,e⟩
          |_=>rw [hd] at JZ;cases JZ
         obtain⟨arr,rfl⟩:=this;obtain⟨y,hy⟩:=sC row r _ _ z k4;refine⟨.agg (gh row r)::cM,gh row r++cs,y,?_,?_,hy⟩
         . simp only [ai,aa];exact⟨_,vs,rfl,⟨arr,rfl,hrel⟩,k2⟩
         . simp only [PS.cells,mS,k3,bZ,K!]
        |false=>
         rw [JZ] at h1;simp only [P!] at h1;split at h1
         . rename_i u;simp only [A!] at h1;subst h1;obtain⟨y,hy⟩:=sC [u] r _ _ z k4
           have hc:v.cells.toList= [v]:=by
            unfold Value.okWide at hv;rw [hu] at hv;cases v with
            |agg arr=>
             exfalso;cases hd:te.desc<;>rw [hd] at hu hv JZ<;>simp_all [Cell.okWide,Cell.ok,TypeDesc.kQ]
            |_=>rfl
           rw [hc] at hrel;simp only [gh,ai] at hrel;obtain⟨v',cg,e,e1,_⟩:=hrel;simp only [s?] at e;obtain⟨rfl,_⟩:=e;refine⟨Av u (Row.hd r)::cM,Av u (Row.hd r)::cs,y,?_,?_,hy⟩
           . simp only [ai];exact⟨_,vs,rfl,e1,k2⟩
           . simp only [PS.cells,k3]
         . cases h1
     . cases h1
    | [],_::_,h=>simp [DataW.TrodAll] at h
    | [],[],h=>simp [DataW.TrodAll] at h
    |_::_,[],h=>simp [DataW.TrodAll] at h
  . cases hp
theorem Gs(hl:laidOutB P=true) {W W':World}(hb:Below W.heap.size W W'):∀(ts:List TypeId) (vs:List Value) (ds:List (DataW H)) (q:List MemPlace),(∀t∈ts,P.readableRec t=true/\t<P.types.size)->
  DataW.TrodAll enc P W 0 (fun _=>true) true ts vs ds q->(∀x∈q,x.block<W.heap.size)->DataW.TrodAll enc P W' 0 (fun b=>decide (b<W.heap.size)) true ts vs ds q
 | [],[],[],q,_,h,_=>h
 |t::ts,v::vs,d::ds,q,ht,h,hq=>by
  simp only [DataW.TrodAll] at h |-;obtain⟨q1,q2,g1,g2,rfl⟩:=h
  exact⟨q1,q2,Below.trod hl (ht t (R! ..)).1 (ht t (R! ..)).2 g1 hb (fun x hx=>hq x (A? _ hx)),
   Gs hl hb ts vs ds q2 (fun u hu=>ht u (G! _ hu)) g2 (fun x hx=>hq x (Z! _ hx)),rfl⟩
 | [],_::_,_,_,_,h,_=>by simp [DataW.TrodAll] at h
 | [],[],_::_,_,_,h,_=>by simp [DataW.TrodAll] at h
 |_::_,[],_,_,_,h,_=>by simp [DataW.TrodAll] at h
 |_::_,_::_,[],_,_,h,_=>by simp [DataW.TrodAll] at h
theorem Kh(hT:bO T P)(hl:laidOutB P=true) {G:Nat->Option GD} {f:FuncId} {fn:Func} {s:ChangeSpec} {ps:List PS}(hv:Valid P G f (ao ps fun _=>(True, .bool true,[])))
  (hps:PS.ofs T fn.params.toList=some ps) (aed:(fn.params.toList.all fun t=>P.readableRec t&&decide (t<P.types.size))=true) {tb:TypeId} (sL:fn.resultTypes= #[tb]) (htb:P.underlying tb=some .bool)
  (hsv:s.vars= []) (hs:∀(H:Type) (ds:List (DataW H)),ds.length=fn.params.toList.length->s.fn H ds= {results:= [.lit (.bool true)],args:=ds})
  {W:World} {base:Nat} {args:Array Value} {ds gs:List (DataW H)} {before:List MemPlace} (hG:∀i d,G i=some d->pe W (fun b=>b<W.heap.size) i d)
  (FI:∀(j:Nat) t v,fn.params[j]? =some t->args[j]? =some v->Value.okWide P W .any base t v)
  (hW:DataW.Whole enc P fn.params.toList s.vars false W args.toList ds gs before):
  Calls P f args W fun e W'=>∃v,e= .returned v/\s.post enc P fn false true false false W args v W':=by
 have hW':=hW;obtain⟨p,q,hA,hV,rfl,zB,hnd⟩:=hW;rw [hsv] at hV
 have hV':gs= []/\q= []:=by
  cases gs with
  |nil=>exact⟨rfl,by simpa [DataW.TrodVars] using hV⟩
  |cons _ _=>simp [DataW.TrodVars] at hV
 obtain⟨rfl,rfl⟩:=hV';simp only [C?] at hW';obtain⟨hlen,cM,cs,z,k1,k2,k3⟩:=Gr (β:=fun _=>undef) (A:=fun b=>b<W.heap.size) hT (fun b hb=>hb) _ ps _ _ _ hps (fun j t v hj hv=>⟨base,FI j t v (by simpa using hj) (by simpa using hv)⟩) hA;have hc:=hv W (fun b=>b<W.heap.size) (fun _=>undef) args.toList cM True (.bool true) [] (fun b hb=>hb) hG k1 (by simp only [ao,Gn,k2,k3]) trivial;rw [Array.toArray_toList] at hc;refine hc.mono ?_;rintro e W' ⟨v,rfl,A',aO,hp⟩;have hvt:=hp.res;simp only [aa] at hvt;subst hvt;have hb:Below W.heap.size W W':=⟨hp.os,hp.tape,hp.output,hp.size,fun k hk=>hp.same k hk⟩;have fP:∀x∈p,x.block<W.heap.size:=fun x hx=>by simpa using hW'.lt x hx
 rw [E?] at aed
 have bP:=Gs hl hb fn.params.toList args.toList ds p (fun t ht=>by
  have :=aed t ht;simp only [B!,I!] at this;exact this) hA fP
 have tX:=hs H ds hlen;refine⟨_,rfl,ds,[],p,[],p,[],hW',?_,?_,?_,hb.frame _,fun h=>by cases h⟩
 . rw [sL];simp only [C?,tX,Value.resultList];exact trodAll_mk1 (shut_bool htb true)
 . simp only [C?,tX];exact bP
 . rw [hsv];simp only [C?,tX];rfl
end
end Go.Vg

end
section
namespace Go.V
theorem mM {a b:Bool}:((bif a then true else b)=true)=(a=true\/b=true):=by grind
theorem eT {a b:Bool}:((bif a then true else b)=false)=(a=false/\b=false):=by grind
theorem UY {a b:Bool}:((bif a then b else false)=true)=(a=true/\b=true):=by grind
theorem ER {a b:Bool}:((bif a then b else false)=false)=(a=false\/b=false):=by grind
end Go.V
namespace Go.S
theorem au {α:Type}(l:List α)(n:Nat)(d:α)(h:n<l.length):l.take (n+1)=l.take n++ [l.getD n d]:=by
 simp_all
theorem bu {α:Type}(l:List α)(n:Nat)(d:α)(h:n<l.length):l.getD n d∈l:=by
 grind
end Go.S
namespace Go.S
theorem abI {α:Type}(l:List α)(z x:α)(n m:Nat)(hl:l.length=n)(hn:n<m):(l++List.replicate (m-n) z).set n x=l++ [x]++List.replicate (m-(n+1)) z:=by
 rw [List.set_append_right _ _ (by omega),hl,Nat.sub_self,show m-n=(m-(n+1))+1 by omega,List.replicate_succ,List.set_cons_zero];simp
end Go.S

end
section
namespace Go.Vg
open Go
def St.zT(G:Nat->Option GD)(n:Nat)(cM:List AV)(hs:List AB):St:=
 {St.init G n cM with h:=fun k=>bif Nat.ble 50000 k&&Nat.blt k 60000 then hs[k-50000]? else none}
def uv:AB->Bool
 | .row _ _ _ true=>false
 |_=>true
def kindOk:AB->Bool
 | .row _ _ _ false=>true
 | .cells _=>true
 | .arr _ _=>true
 |_=>false
def aee:Option AB->Bool
 |some b=>kindOk b
 |none=>true
def S9(r:b9)(k:Nat):Bool:=pB k&&(match r.heap[k-50000]? with
 |some (some _)=>true
 |_=>false)
def jb(r:b9)(k:Nat):Bool:= !(S9 r k)
def qC(st:St)(k n e:Nat)(row:List Ty)(l:List (Row row)):St:=
 {st with
  t:=fun i=>dX 70000 (st.t i)
  h:=fun j=>bif Nat.beq j 70000 then some (.row e row (l.take n) false) else bif Nat.beq j k then none else match st.h j with
   |some b=>some (oh 70000 b)
   |none=>none}
def qD(st:St)(x:AV):St×AV:=match x with
 | .pre k n=>match st.h k with
   |some (.row e row l false)=>(qC st k n e row l, .own 70000)
   |_=>(st,x)
 |_=>(st,x)
mutual
def uw(h:bg)(s:List (Nat×Option Nat))(bad:Nat->Bool):AV->AV->List Prop×List Nat
 | .sl r l, .own k=>zJ h r l k
 | .agg xs, .agg ys=>lZ h s bad xs ys
 | .b4 xs, .b4 ys=>lZ h s bad xs ys
 | .own i,y=>(FT s bad y (.own i),[])
 |x,y=>(FT s bad (gu h y).1 x,(gu h y).2)
def lZ(h:bg)(s:List (Nat×Option Nat))(bad:Nat->Bool):List AV->List AV->List Prop×List Nat
 | [],[]=>([],[])
 |x::xs,y::ys=>((uw h s bad x y).1++(lZ h s bad xs ys).1,(uw h s bad x y).2++(lZ h s bad xs ys).2)
 |_,_=>([False],[])
end
def rP(h:bg)(s:List (Nat×Option Nat))(bad:Nat->Bool):Option AB->AB->List Prop×List Nat
 |some (.cells xs), .cells ys=>lZ h s bad ys xs
 |o,b=>(FU s bad o b,[])
def ke(h:bg)(s:List (Nat×Option Nat))(bad:Nat->Bool):Nat->List (Option AB)->List Prop×List Nat
 |_,[]=>([],[])
 |i,some b::bs=>((rP h s bad (h (50000+i)) b).1++(ke h s bad (i+1) bs).1,(rP h s bad (h (50000+i)) b).2++(ke h s bad (i+1) bs).2)
 |i,none::bs=>ke h s bad (i+1) bs
def vn(h:bg)(s:List (Nat×Option Nat))(bad:Nat->Bool)(K:Nat)(b:AB):List Prop×List Nat:=match cy s K with
 |some (some k)=>rP h s bad (h k) b
 |some none=>match b with
  | .row _ _ l false=>([[]=l],[])
  |_=>([False],[])
 |none=>([False],[])
def qE(h:bg)(s:List (Nat×Option Nat))(bad:Nat->Bool):Nat->List AB->List Prop×List Nat
 |_,[]=>([],[])
 |j,b::bs=>((vn h s bad (60000+j) b).1++(qE h s bad (j+1) bs).1,(vn h s bad (60000+j) b).2++(qE h s bad (j+1) bs).2)
def Gt(h:bg):Nat->List (Option AB)->List (Nat×Option Nat)
 |_,[]=> []
 |i,some (.cells ys)::bs=>(match h (50000+i) with
  |some (.cells xs)=>qs ys xs
  |_=> [])++Gt h (i+1) bs
 |i,_::bs=>Gt h (i+1) bs
def NQ(h:bg)(s:List (Nat×Option Nat)):Nat->List AB->List (Nat×Option Nat)
 |_,[]=> []
 |j, .cells ys::bs=>(match cy s (60000+j) with
  |some (some k)=>match h k with
   |some (.cells xs)=>qs ys xs
   |_=> []
  |_=> [])++NQ h s (j+1) bs
 |j,_::bs=>NQ h s (j+1) bs
def Bq(acc:List (Nat×Option Nat)):List (Nat×Option Nat)->List (Nat×Option Nat)
 | []=>acc
 |(k,x)::r=>bif Nat.ble 60000 k&&(match cy acc k with|none=>true|some _=>false) then Bq ((k,x)::acc) r else Bq acc r
def azJ(h:bg)(x:AV)(r:b9):List (Nat×Option Nat):=Bq [] (EN r.res x++Gt h 0 r.heap)
def axX(h:bg)(r:b9)(s:List (Nat×Option Nat)):List (Nat×Option Nat):=Bq s (NQ h s 0 r.new)
def aHq(h:bg)(x:AV)(r:b9):List (Nat×Option Nat):=axX h r (axX h r (azJ h x r))
def Gu(h:bg)(s:List (Nat×Option Nat))(x:AV)(r:b9):List Nat:=(uw h s (jb r) r.res x).2++((ke h s (jb r) 0 r.heap).2++(qE h s (jb r) 0 r.new).2)
def NR(h:bg)(x:AV)(r:b9)(s:List (Nat×Option Nat)):Prop :=
 bif iL (eb s)&&(((eb s).all (jb r))&&((s.all fun y=>Nat.ble 60000 y.1)&&(((Gu h s x r).all fun k=> !aI (eb s) k&&jb r k)&&(r.new.all kindOk&&r.heap.all aee)))) then
  Dh ((uw h s (jb r) r.res x).1++((ke h s (jb r) 0 r.heap).1++(qE h s (jb r) 0 r.new).1)) else False
def Gv(T:cA)(st:St)(rs:List ResultVar)(r:b9):Prop :=match k6 T st rs with
 |none=>False
 |some aK=>NR (qD st (fU aK)).1.h (qD st (fU aK)).2 r (aHq (qD st (fU aK)).1.h (qD st (fU aK)).2 r)
def anV(T:cA)(rs:List ResultVar)(r:b9)(e:Ex)(st:St):Prop :=match e with
 | .norm=>Gv T st rs r
 | .ret=>Gv T st rs r
 |_=>False
def Ta(E:Env)(L:Nat->Option ak)(c:Code)(n:Nat)(rs:List ResultVar)(cM:List AV)(hs:List AB)(r:b9):Prop :=
 bif Nat.ble cM.length n then mX E L c (anV E.T rs r) (St.zT E.mP n cM hs) else False
section
variable {P:Program} {C:Ctx} {E:Env} {A A':Nat->Prop} {β aO:Nat->Value} {st:St} {a:Act} {w:World} {T:cA}
theorem Gw {G:Nat->Option GD} {n:Nat} {cM:List AV} {hs:List AB} {k:Nat} {ab:AB}(h:(St.zT G n cM hs).h k=some ab):∃i,k=50000+i/\hs[i]? =some ab:=by
 simp [St.zT] at h;cases hb:(Nat.ble 50000 k&&Nat.blt k 60000) with
 |false=>grind
 |true=>
  simp only [Bool.and_eq_true] at hb;have :=Nat.le_of_ble_eq_true hb.1;grind
theorem aF.zT {G:Nat->Option GD} {args:List Value} {cM:List AV} {hs:List AB} {n:Nat}(hA:∀b,A b->b<w.heap.size)(hG:∀i d,G i=some d->pe w A i d)(hr:ai w A β args cM)(hn:cM.length<=n)
  (gw:∀i ab,hs[i]? =some ab->BR w A β (50000+i) ab) (CC:∀i j b,i<hs.length->j<hs.length->aA (β (50000+i))=some b->aA (β (50000+j))=some b->i=j):
  aF ⟨w,A,HM β hs.length,G,β⟩ A β (St.zT G n cM hs) {tmps:=args.toArray++Array.replicate (n-args.toArray.size) undef,defers:= []} w:=by
 have hI:=aF.init (β:=β) (G:=G) (n:=n) hA hG hr hn
 have hk:∀k,((St.zT G n cM hs).h k).isSome->∃i,k=50000+i/\i<hs.length:=by
  grind[Option.isSome_iff_exists,Gw,List.getElem?_eq_some_iff]
 refine⟨hI.defers,hI.size,hI.tmps,fun k ab h=> ?_,fun k k' b h h' hb bS=> ?_,hI.bound,⟨rfl,rfl,rfl,N! _,fun b _ _=>rfl⟩,fun b _ h=> .inl h,fun b h=>h,fun k b h hb=> ?_,fun i d h=>h,hG,fun k _=>rfl⟩
 . grind[Gw]
 . grind
 . obtain⟨i,rfl,h1⟩:=hk k h;exact .inr ⟨i,h1,hb⟩
theorem aef {hs:List AB}(hnf:∀ab∈hs,uv ab=true)(gw:∀i ab,hs[i]? =some ab->BR w A β (50000+i) ab):∀b,HM β hs.length b->¬A b:=by
 rintro b ⟨i,hi,hb⟩;have hg:=D! hi;have h:=gw i _ hg;have hn:=hnf _ (List.getElem_mem hi);generalize hs[i]=ab at h hn;cases ab with
 |cells cs=>
  obtain⟨b',arr,e,h1,h2,h3,_⟩:=h;grind[aA,Option.some.injEq]
 |arr row l=>
  obtain⟨b',arr,e,h1,h2,h3,_⟩:=h;grind[aA,Option.some.injEq]
 |views e j n m sz=>
  obtain⟨xs,h1,h2,_⟩:=h;grind
 |row e row l fr=>
  obtain⟨xs,h1,h2,h3⟩:=h;grind[uv]
 |gS e j row l i=>
  obtain⟨xs,v0,h1,h2,_⟩:=h;grind
theorem aF.shrink(hB:aF C A β st a w) {k n e:Nat} {row:List Ty} {l:List (Row row)} {v:Value}(hk:st.h k=some (.row e row l false))(hv:aa w A β v (.pre k n)):
  aF C A (b5 β 70000 v) (qC st k n e row l) a w/\aa w A (b5 β 70000 v) v (.own 70000):=by
 obtain⟨xs,o1,o2,o3⟩:=Fo hB hk;have tX:=eM l xs n o2
 have gN:w.ownsRow 0 e row.length v n (xs.take (n*row.length))/\n<=l.length/\aA v=aA (β k):=by
  simp only [aa] at hv;rcases hv with⟨h1,h2,h3⟩|⟨b,mm,cap,h1,h2,h3⟩
  . simp_all[World.ownsRow_nil]
  . rcases o1.2 with⟨g1,_⟩|⟨g,iS,cur,g1,g2,g3,g4,g5,g6,g7⟩
    . grind
    . rw [h1] at g1;obtain⟨rfl,rfl,rfl⟩:=g1;refine⟨⟨?_, .inr ⟨b,cap,cur,h2,by omega,g3,by omega,g5,g6,?_⟩⟩,h3,by rw [h1,h2];rfl⟩
      . grind[List.length_take,Nat.min_eq_left,Nat.mul_le_mul_right]
      grind[Nat.min_eq_left,Nat.mul_le_mul_right]
 obtain⟨gN,hnl,hbv⟩:=gN
 have iI:v.oneCell'=true :=by
  simp only [aa] at hv;rcases hv with⟨_,h2,_⟩|⟨b,mm,cap,_,h2,_⟩<;>subst h2<;>rfl
 have hs:∀j,((qC st k n e row l).h j).isSome->(j=70000/\b5 β 70000 v j=v)\/(j≠70000/\j≠k/\(st.h j).isSome/\b5 β 70000 v j=β j):=by
  intro j hj;by_cases h7:j=70000
  . subst h7;exact .inl ⟨rfl,by rfl⟩
  . simp only [qC,bc h7,cond_false] at hj;grind[bZ,bc,b5]
 have hb2:∀j b,((qC st k n e row l).h j).isSome->aA (b5 β 70000 v j)=some b->∃j',(st.h j').isSome/\aA (β j')=some b/\((j=70000/\j'=k)\/(j≠70000/\j'=j/\j≠k)):=by
  grind
 refine⟨⟨hB.defers,hB.size,fun i=>tQ 70000 v _ _ (hB.tmps i),fun j ab hj=> ?_,fun j j' b h1 h2 g1 g2=> ?_,hB.bound,hB.frame,hB.lx,hB.base,fun j b h1 g1=> ?_,hB.sk,hB.laid,fun j hj=> ?_⟩,?_⟩
 . by_cases h7:j=70000
   . subst h7;simp only [qC,bZ,cond_true,Option.some.injEq] at hj;grind[b5,BR,List.length_take,Nat.min_eq_left]
   . simp only [qC,bc h7,P!] at hj;by_cases AW:j=k
     . simp_all
     . rw [bc AW] at hj;cases hh:st.h j with
       |none=>grind
       |some x=>
        rw [hh] at hj;simp only [P!,A!] at hj;subst hj
        exact vL (new:= [(70000, .cells [])]) (w':=w) (A':=A) (aO:=b5 β 70000 v) (fun q hq=>by
         have :¬q=70000:=by rintro rfl;simp_all[aw]
         grind[b5]) (by grind[b5]) (fun b _=>⟨rfl,id⟩) (fun b hb=>⟨hb,rfl⟩) (hB.blocks j x hh)
 . obtain⟨i,a1,a2,a3⟩:=hb2 j b h1 g1;obtain⟨i',b1,b2,b3⟩:=hb2 j' b h2 g2;have :=hB.apart i i' b a1 b1 a2 b2;omega
 . obtain⟨i,a1,a2,_⟩:=hb2 j b h1 g1;exact hB.oI i b a1 a2
 . have :¬j=70000:=by rintro rfl;simp_all[pB]
   simp only [b5,T! this];exact hB.held j hj
 grind[aa,b5]
theorem NS(hB:aF C A β st a w) {x:AV} {v:Value}(hv:aa w A β v x):∃aO,aF C A aO (qD st x).1 a w/\aa w A aO v (qD st x).2:=by
 unfold qD;split
 . split
   . rename_i e row l hk;obtain⟨h1,h2⟩:=hB.shrink hk hv;grind
   grind
 grind
mutual
theorem ux(hB:aF C A β st a w) {s:List (Nat×Option Nat)} {bad:Nat->Bool}(hA:∀b,A b->A' b)(hK:Keyed bad s β aO):∀(x y:AV) (v:Value),
  (∀p∈(uw st.h s bad x y).1,p)->(∀k∈(uw st.h s bad x y).2,∀b,aA (β k)=some b->A' b)->aa w A β v y->aa w A' aO v x/\∀k∈(uw st.h s bad x y).2,(st.h k).isSome
 |x,y,v,h,hF,hr=>by
  generalize he:uw st.h s bad x y=r at h hF |-;unfold uw at he;split at he
  . rename_i r0 l0 k;subst he;exact Bn hB hA r0 l0 k v h hF hr
  . rename_i xs ys;subst he;simp only [aa] at hr |-;obtain⟨arr,e1,e2⟩:=hr;obtain⟨g1,g2⟩:=lO hB hA hK xs ys _ h hF e2;exact⟨⟨arr,e1,g1⟩,g2⟩
  . rename_i xs ys;subst he;simp only [aa] at hr |-;obtain⟨arr,e1,e2⟩:=hr;obtain⟨g1,g2⟩:=lO hB hA hK xs ys _ h hF e2;exact⟨⟨arr,e1,g1⟩,g2⟩
  . subst he;exact⟨jo (fun b hb=>⟨hA b hb,rfl⟩) _ _ (nS hK _ _ _ h hr),fun k hk=>by cases hk⟩
  . subst he;obtain⟨g1,g2⟩:=pZ hB hr hA hF;exact⟨nS hK _ _ _ h g1,fun k hk=>by obtain⟨e,row,l,fr,hr⟩:=g2 k hk;simp [hr]⟩
theorem lO(hB:aF C A β st a w) {s:List (Nat×Option Nat)} {bad:Nat->Bool}(hA:∀b,A b->A' b)(hK:Keyed bad s β aO):∀(xs ys:List AV) (vs:List Value),
  (∀p∈(lZ st.h s bad xs ys).1,p)->(∀k∈(lZ st.h s bad xs ys).2,∀b,aA (β k)=some b->A' b)->ai w A β vs ys->ai w A' aO vs xs/\∀k∈(lZ st.h s bad xs ys).2,(st.h k).isSome
 | [],[],vs,_,_,hr=>by
   simp only [ai] at hr |-;exact⟨hr,fun k hk=>by simp [lZ] at hk⟩
 |x::xs,y::ys,vs,h,hF,hr=>by
  simp only [lZ] at h hF |-;obtain⟨g1,g2⟩:=jC h;simp only [ai] at hr |-;obtain⟨v,cg,e,r1,r2⟩:=hr;obtain⟨q1,q2⟩:=ux hB hA hK x y v g1 (fun k hk=>hF k (A? _ hk)) r1;obtain⟨q3,q4⟩:=lO hB hA hK xs ys cg g2 (fun k hk=>hF k (Z! _ hk)) r2;refine⟨⟨v,cg,e,q1,q3⟩,fun k hk=> ?_⟩;rcases F!.1 hk with hk|hk
  . exact q2 k hk
  . exact q4 k hk
 | [],_::_,vs,h,_,_=>by simp only [lZ] at h;exact(bm h).elim
 |_::_,[],vs,h,_,_=>by simp only [lZ] at h;exact(bm h).elim
end
theorem azL {k:Nat} {b:AB}(hA:∀b,A b->A' b)(hk:kindOk b=true)(zx:∀g,aA (β k)=some g->¬A g->¬A' g)(h:BR w A β k b):BR w A' β k b:=by
 have hK:dg w w A A':=fun b hb=>⟨hA b hb,rfl⟩;cases b with
 |cells cs=>
  obtain⟨g,arr,e,h1,h2,h3,h4,h5⟩:=h;exact⟨g,arr,e,h1,h2,zx g (by rw [h1];rfl) h3,e7 hK _ _ h4,h5⟩
 |arr row l=>
  obtain⟨g,arr,e,h1,h2,h3,h4⟩:=h;exact⟨g,arr,e,h1,h2,zx g (by rw [h1];rfl) h3,bX (fun c x hx=>bY hK row c x hx) l _ h4⟩
 |views e j n m sz=>grind[kindOk]
 |gS _ _ _ _ _=>grind[kindOk]
 |row e row l fr=>
  cases fr with
  |true=>grind[kindOk]
  |false=>
   obtain⟨xs,x1,x2,x3⟩:=h;refine⟨xs,x1,bX (fun c x hx=>bY hK row c x hx) l xs x2,fun b hb=> ?_⟩;grind
theorem DF(hB:aF C A β st a w) {s:List (Nat×Option Nat)} {bad:Nat->Bool}(hA:∀b,A b->A' b)(hK:Keyed bad s β aO) {k K:Nat} {b:AB}(hk:aO K=β k)(Gx:kindOk b=true)
  (h:∀p∈(rP st.h s bad (st.h k) b).1,p) (hF:∀q∈(rP st.h s bad (st.h k) b).2,∀g,aA (β q)=some g->A' g) (zx:∀g,aA (β k)=some g->¬A g->¬A' g):BR w A' aO K b:=by
 generalize he:rP st.h s bad (st.h k) b=r at h hF;unfold rP at he;split at he
 . rename_i xs ys lI;subst he;obtain⟨g,arr,e,h1,h2,h3,h4,h5⟩:=hB.blocks k _ lI;obtain⟨q1,_⟩:=lO hB hA hK ys xs _ h hF h4;exact⟨g,arr,e,hk.trans h1,h2,zx g (by rw [h1];rfl) h3,q1,h5⟩
 . subst he;obtain⟨c,hc⟩:=sV h;rw [hc] at h;exact azL hA Gx (by grind) (uj hK hk h (hB.blocks k c hc))
theorem uy(hB:aF C A β st a w) {s:List (Nat×Option Nat)} {bad:Nat->Bool}(hK:Keyed bad s β aO) {k:Nat} {b:AB}
  (h:∀p∈(rP st.h s bad (st.h k) b).1,p):(st.h k).isSome/\∀q∈(rP st.h s bad (st.h k) b).2,(st.h q).isSome:=by
 generalize he:rP st.h s bad (st.h k) b=r at h |-;unfold rP at he;split at he
 . rename_i xs ys lI;subst he;obtain⟨g,arr,e,h1,h2,h3,h4,h5⟩:=hB.blocks k _ lI;exact⟨by grind,(lO (A':=fun _=>True) hB (fun _ _=>trivial) hK ys xs _ h (fun _ _ _ _=>trivial) h4).2⟩
 . subst he;obtain⟨c,hc⟩:=sV h;grind
theorem rQ {h:bg} {s:List (Nat×Option Nat)} {bad:Nat->Bool}:∀(bs:List (Option AB)) (i j:Nat) (b:AB),bs[j]? =some (some b)->
  (∀p∈(rP h s bad (h (50000+(i+j))) b).1,p∈(ke h s bad i bs).1)/\∀p∈(rP h s bad (h (50000+(i+j))) b).2,p∈(ke h s bad i bs).2
 |some b0::bs,i,0,b,hb=>by
  grind[List.getElem?_cons_zero,Option.some.injEq,ke,List.mem_append_left]
 |some b0::bs,i,j+1,b,hb=>by
  simp [ke];have :=rQ (h:=h) (s:=s) (bad:=bad) bs (i+1) j b (by grind);grind
 |none::bs,i,0,b,hb=>by grind
 |none::bs,i,j+1,b,hb=>by
  simp [ke];have :=rQ (h:=h) (s:=s) (bad:=bad) bs (i+1) j b (by grind);grind
theorem wN {h:bg} {s:List (Nat×Option Nat)} {bad:Nat->Bool}:∀(bs:List (Option AB)) (i:Nat) (q:Nat),q∈(ke h s bad i bs).2->
  ∃(j:Nat) (b:AB),bs[j]? =some (some b)/\q∈(rP h s bad (h (50000+(i+j))) b).2
 | [],i,q,hq=>by grind[ke]
 |some b0::bs,i,q,hq=>by
  simp [ke,F!] at hq;rcases hq with hq|hq
  . exact⟨0,b0,rfl,hq⟩
  . obtain⟨j,b,h1,h2⟩:=wN bs (i+1) q hq;exact⟨j+1,b,by simpa using h1,by rwa [show i+1+j=i+(j+1) by omega] at h2⟩
 |none::bs,i,q,hq=>by
  obtain⟨j,b,h1,h2⟩:=wN bs (i+1) q hq;exact⟨j+1,b,by simpa using h1,by rwa [show i+1+j=i+(j+1) by omega] at h2⟩
theorem zU {h:bg} {s:List (Nat×Option Nat)} {bad:Nat->Bool}:∀(bs:List AB) (i j:Nat) (b:AB),bs[j]? =some b->
  (∀p∈(vn h s bad (60000+(i+j)) b).1,p∈(qE h s bad i bs).1)/\∀p∈(vn h s bad (60000+(i+j)) b).2,p∈(qE h s bad i bs).2
 |b0::bs,i,0,b,hb=>by
  grind[List.getElem?_cons_zero,Option.some.injEq,qE,List.mem_append_left]
 |b0::bs,i,j+1,b,hb=>by
  simp [qE];have :=zU (h:=h) (s:=s) (bad:=bad) bs (i+1) j b (by grind);grind
theorem Gy {h:bg} {s:List (Nat×Option Nat)} {bad:Nat->Bool}:∀(bs:List AB) (i:Nat) (q:Nat),q∈(qE h s bad i bs).2->
  ∃(j:Nat) (b:AB),bs[j]? =some b/\q∈(vn h s bad (60000+(i+j)) b).2
 | [],i,q,hq=>by grind[qE]
 |b0::bs,i,q,hq=>by
  simp [qE,F!] at hq;rcases hq with hq|hq
  . exact⟨0,b0,rfl,hq⟩
  . obtain⟨j,b,h1,h2⟩:=Gy bs (i+1) q hq;exact⟨j+1,b,by simpa using h1,by rwa [show i+1+j=i+(j+1) by omega] at h2⟩
theorem NT(hT:bO T P) {fn:Func}(hB:aF C A β st a w) {aK:List AV}(h:k6 T st fn.results.toList=some aK):∃v,(results fn a.tmps).run P w= .ok v w/\aa w A β v (fU aK):=by
 obtain⟨vs,p1,p2⟩:=pK hT hB fn.results.toList aK h;have hl:=dA aK vs p2;refine⟨if h:vs.toArray.size=1 then vs.toArray[0] else .tuple vs.toArray,?_,?_⟩
 . grind[DD,Array.mapM_eq_mapM_toList,Sem.run_bind,map_eq_pure_bind,Result.andThen_ok,Sem.run_pure]
 . match aK,vs,hl,p2 with
   | [x],[v],_,p2=>
     grind[ai,List.cons.injEq,fU]
   | [],[],_,p2=>
     grind[fU,aa,ai]
   |x::y::l,v::u::m,_,p2=>
    simp_all[dif_neg,fU,aa]
theorem NU {w0:World} {A0:Nat->Prop} {G:Nat->Option GD} {AI me:Nat->Value} {n:Nat}(hB:aF ⟨w0,A0,HM AI n,G,AI⟩ A me st a w) {r:b9} {x:AV} {v:Value} {s:List (Nat×Option Nat)}
  (hn:r.heap.length=n) (SM:n<=100) (hA0:∀b,HM AI n b->¬A0 b) (uo:∀b,A0 b->b<w0.heap.size) (JX:aa w A me v x) (h:NR st.h x r s):
  ∃A' aO,FB w0 A0 AI n w v r A' aO:=by
 unfold NR at h;cases hq:(iL (eb s)&&(((eb s).all (jb r))&&((s.all fun y=>Nat.ble 60000 y.1)&&(((Gu st.h s x r).all fun k=> !aI (eb s) k&&jb r k)&&(r.new.all kindOk&&r.heap.all aee))))) with
 |false=>grind
 |true=>
  rw [hq] at h;simp only [K!] at h;simp only [B!,E?] at hq;obtain⟨q1,q2,q3,q4,q5,q6⟩:=hq;obtain⟨c1,c2⟩:=jC (p7 _ h);obtain⟨c2,c3⟩:=jC c2;let F:=Gu st.h s x r
  let gW:Nat->Value:=fun i=>match cy s i with
   |some (some k)=>me k
   |some none=>pz
   |none=>me i
  have h60:∀K y,cy s K=some y->60000<=K:=by
   have :∀(l:List (Nat×Option Nat)),(∀z∈l,Nat.ble 60000 z.1=true)->∀K y,cy l K=some y->60000<=K:=by
    intro l;induction l with
    |nil=>intro _ K y h;cases h
    |cons z l ih=>
     intro hl K y h;obtain⟨z1,z2⟩:=z;simp only [cy] at h;cases hb:Nat.beq K z1 with
     |true=>rw [E! hb];exact M! (hl _ (R! ..))
     |false=>rw [hb] at h;exact ih (fun z hz=>hl z (G! _ hz)) K y h
   exact this s q3
  have aeg:∀K,jb r K=false->pB K=true/\cy s K=none/\∃ab,r.heap[K-50000]? =some (some ab):=by
   intro K hK;simp only [jb,S9,Bool.not_eq_false',B!] at hK;obtain⟨k1,k2⟩:=hK;refine⟨k1,?_,?_⟩
   . cases hl:cy s K with
     |none=>rfl
     |some y=>
      have :=h60 K y hl;simp only [pB,B!] at k1;have :=M! k1.2;omega
   . split at k2
     . rename_i ab gv;exact⟨ab,gv⟩
     . cases k2
  have yA:Keyed (jb r) s me gW:=⟨fun K k h=>by simp only [gW,h],fun K h=>by simp only [gW,h],fun K h _=>by simp only [gW,h],fun K h=>by simp only [gW,(aeg K h).2.1]⟩
  have NV:∀i ab,r.heap[i]? =some (some ab)->i<100/\jb r (50000+i)=false/\gW (50000+i)=me (50000+i)/\me (50000+i)=AI (50000+i):=by
   intro i ab hi;have fP:=(U?.1 hi).1
   have hip:pB (50000+i)=true :=by
    simp only [pB,B!];exact⟨Nat.ble_eq_true_of_le (by omega),Nat.ble_eq_true_of_le (by omega)⟩
   have hb:jb r (50000+i)=false :=by
    simp only [jb,S9,hip,Bool.true_and,o?,hi,Bool.not_true]
   exact⟨by omega,hb,by simp only [gW,(aeg _ hb).2.1],hB.held _ hip⟩
  have NW:∀q∈F,(st.h q).isSome:=by
   intro q hq;simp only [F,Gu,F!] at hq;rcases hq with hq|hq|hq
   . exact(ux (A':=fun _=>True) hB (fun _ _=>trivial) yA r.res x v c1 (fun _ _ _ _=>trivial) JX).2 q hq
   . obtain⟨j,b,h1,h2⟩:=wN _ _ _ hq;have hm:=rQ (h:=st.h) (s:=s) (bad:=jb r) r.heap 0 j b h1;exact(uy hB yA (fun p hp=>c2 p (hm.1 p hp))).2 q h2
   . obtain⟨j,b,h1,h2⟩:=Gy _ _ _ hq;have hm:=zU (h:=st.h) (s:=s) (bad:=jb r) r.new 0 j b h1;have hc:∀p∈(vn st.h s (jb r) (60000+(0+j)) b).1,p:=fun p hp=>c3 p (hm.1 p hp);generalize hg:vn st.h s (jb r) (60000+(0+j)) b=g at hc h2;unfold vn at hg;split at hg
     . subst hg;exact(uy hB yA hc).2 q h2
     . split at hg<;>(subst hg;cases h2)
     . subst hg;cases h2
  have hFA:∀q∈F,∀b,aA (me q)=some b->cq A me F b:=fun q hq b hb=> .inr ⟨q,hq,hb⟩;have hAA:∀b,A b->cq A me F b:=fun b hb=> .inl hb
  have zx:∀k,(st.h k).isSome->k∉F->∀g,aA (me k)=some g->¬A g->¬cq A me F g:=by
   rintro k hk hkF g hg iV (hAg|⟨j,hj,hjg⟩)
   . exact iV hAg
   . have :=hB.apart j k g (NW j hj) hk hjg hg;subst this;exact hkF hj
  have aeh:∀k,(k∈eb s\/jb r k=false)->k∉F:=by
   rintro k hk hF;have h4:=q4 k hF;rcases hk with hk|hk
   . have :=kY.2 hk;rw [this] at h4;simp at h4
   . rw [hk] at h4;simp at h4
  have SB:∀i ab,r.heap[i]? =some (some ab)->BR w (cq A me F) gW (50000+i) ab/\(st.h (50000+i)).isSome:=by
   intro i ab hi;obtain⟨_,hb,cB,_⟩:=NV i ab hi;have hm:=rQ (h:=st.h) (s:=s) (bad:=jb r) r.heap 0 i ab hi;rw [r?] at hm;have hl:=uy (k:=50000+i) hB yA (fun p hp=>c2 p (hm.1 p hp));have Gx:kindOk ab=true :=q6 _ (List.mem_of_getElem? hi);exact⟨DF hB hAA yA cB Gx (fun p hp=>c2 p (hm.1 p hp)) (fun q hq=>hFA q (by simp only [F,Gu,F!];exact .inr (.inl (hm.2 q hq)))) (zx _ hl.1 (aeh _ (.inr hb))),hl.1⟩
  have hN1:∀j ab,r.new[j]? =some ab->BR w (cq A me F) gW (60000+j) ab/\(gW (60000+j)=pz\/∃k,cy s (60000+j)=some (some k)/\gW (60000+j)=me k/\(st.h k).isSome):=by
   intro j ab hj;have hm:=zU (h:=st.h) (s:=s) (bad:=jb r) r.new 0 j ab hj;rw [r?] at hm;have hc:∀p∈(vn st.h s (jb r) (60000+j) ab).1,p:=fun p hp=>c3 p (hm.1 p hp);have hf:∀q∈(vn st.h s (jb r) (60000+j) ab).2,q∈F:=fun q hq=>by simp only [F,Gu,F!];exact .inr (.inr (hm.2 q hq))
   have Gx:kindOk ab=true :=q5 _ (List.mem_of_getElem? hj);generalize hg:vn st.h s (jb r) (60000+j) ab=g at hc hf;unfold vn at hg;split at hg
   . rename_i k hk;subst hg;have cB:gW (60000+j)=me k:=by simp only [gW,hk]
     have hl:=uy (k:=k) hB yA hc;exact⟨DF hB hAA yA cB Gx hc (fun q hq=>hFA q (hf q hq)) (zx _ hl.1 (aeh _ (.inl (iw s _ _ hk)))), .inr ⟨k,hk,cB,hl.1⟩⟩
   . rename_i hk;have cB:gW (60000+j)=pz:=by simp only [gW,hk]
     split at hg
     . subst hg;exact⟨NK cB (bm hc), .inl cB⟩
     . subst hg;exact(bm hc).elim
   . subst hg;exact(bm hc).elim
  have sL:=(ux hB hAA yA r.res x v c1 (fun q hq=>hFA q (by simp only [F,Gu,F!];exact .inl hq)) JX).1
  have fQ:∀k b,SI r k->aA (gW k)=some b->∃k',(st.h k').isSome/\aA (me k')=some b/\((jb r k=false/\k'=k)\/cy s k=some (some k')):=by
   rintro k b (⟨i,ab,rfl,_,hi⟩|⟨j,rfl,hj⟩) hb
   . obtain⟨_,h1,h2,_⟩:=NV i ab hi;rw [h2] at hb;exact⟨_,(SB i ab hi).2,hb, .inl ⟨h1,rfl⟩⟩
   . rcases(hN1 j _ (D! hj)).2 with h|⟨k,h1,h2,h3⟩
     . rw [h] at hb;simp [pz,aA] at hb
     . rw [h2] at hb;exact⟨k,h3,hb, .inr h1⟩
  refine⟨cq A me F,gW,⟨hB.frame.os,hB.frame.tape,hB.frame.output,hB.frame.size,fun b hb hM=>hB.frame.block b hb hM,fun b hb=>⟨.inl (hB.base b hb),hB.frame.block b (uo b hb) fun hM=>hA0 b hM hb⟩,fun b hb Fc=> ?_,fun b hb=> ?_,sL,fun i ab hi=>⟨(SB i ab hi).1,(NV i ab hi).2.2.1.trans (NV i ab hi).2.2.2⟩,fun j ab hj=>⟨(hN1 j ab hj).1,fun b hb=> ?_⟩,fun k k' b h1 h2 g1 g2=> ?_⟩⟩
  . rcases Fc with Fc|⟨j,hj,vW⟩
    . exact hB.lx b hb Fc
    . rcases hB.oI j b (NW j hj) vW with h|h
      . exact absurd hb (Nat.not_lt.2 h)
      . exact .inr h
  . rcases hb with hb|⟨j,hj,vW⟩
    . exact hB.bound b hb
    . exact lJ hB (NW j hj) vW
  . obtain⟨k,g1,g2,_⟩:=fQ _ b (.inr ⟨j,rfl,(U?.1 hj).1⟩) hb;exact hB.oI k b g1 g2
  . obtain⟨j,a1,a2,a3⟩:=fQ k b h1 g1;obtain⟨j',b1,b2,b3⟩:=fQ k' b h2 g2;have :=hB.apart j j' b a1 b1 a2 b2;subst this;rcases a3 with⟨p1,p2⟩|p1<;>rcases b3 with⟨r1,r2⟩|r1
    . exact p2.symm.trans r2
    . have :=q2 j (iw s _ _ r1);rw [p2,p1] at this;cases this
    . have :=q2 j (iw s _ _ p1);rw [r2,r1] at this;cases this
    . exact uk s q1 k k' j p1 r1
theorem Qi(hT:bO T P) {fn:Func} {w0:World} {A0:Nat->Prop} {G:Nat->Option GD} {AI:Nat->Value} {n:Nat}(hB:aF ⟨w0,A0,HM AI n,G,AI⟩ A β st a w) {r:b9}
  (hn:r.heap.length=n) (SM:n<=100) (hA0:∀b,HM AI n b->¬A0 b) (uo:∀b,A0 b->b<w0.heap.size) (h:Gv T st fn.results.toList r):
  ∃v,(results fn a.tmps).run P w= .ok v w/\∃A' aO,FB w0 A0 AI n w v r A' aO:=by
 grind[Gv,NT,NS,NU]
theorem Ki(hE:af P E)(hm:P.follows .mixedOrders=true) {f:FuncId} {fn:Func} {c:Code} {s:bq}(L:List AV->List AB->Nat->Option ak)(hf:P.funcs[f]? =some fn)(hb:fn.body=some c)
  (hnf:∀cM hs r,s cM hs=some r->∀ab∈hs,uv ab=true)
  (h:∀cM hs r,s cM hs=some r->r.pre->Ta E (L cM hs) c fn.ntmps fn.results.toList cM hs r):az P E.mP f s:=by
 intro w A β args cM hs r hA hG bP gw CC k8 hp hlen DG;have Gm:=h cM hs r k8 hp;unfold Ta at Gm;cases hn:Nat.ble cM.length fn.ntmps with
 |false=>grind
 |true=>
  rw [hn] at Gm;refine calls_of_wp hf hb (fF (C:=⟨w,A,HM β hs.length,E.mP,β⟩) ⟨hE,rfl⟩ hm c _ _ _ w _ Gm ⟨A,β,aF.zT hA hG bP (M! hn) gw CC⟩ ?_);intro e cw a' w' hk _ hR;obtain⟨A',aO,hB⟩:=hR
  have key:Gv E.T cw fn.results.toList r->bodyPost P fn (fun e w'=>∃v,e= .returned v/\∃A' aO,FB w A β hs.length w' v r A' aO) .ret a' w':=by
   intro hk;obtain⟨v,h1,A2,gW,h2⟩:=Qi hE.fE hB hlen DG (aef (hnf cM hs r k8) gw) hA hk;exact⟨hB.defers,v,h1,v,rfl,A2,gW,h2⟩
  cases e with
  |norm=>exact key hk
  |ret=>exact key hk
  |exit i=>exact hk.elim
end
end Go.Vg

end
section
namespace Go.Vg
open Go
inductive TA where
 |aG (t:Ty)
 |own (k:Nat)
 |ref (k off:Nat)
 |nil
 |jM
 |kq
 |agg (l:List TA)
 |fn (f:Fn) (first bB:List TA)
mutual
@[reducible] def TA.tys:TA->List Ty
  | .aG t=> [t]
  | .agg l=>TA.ca l
  | .fn _ l m=>TA.ca l++TA.ca m
  |_=> []
@[reducible] def TA.ca:List TA->List Ty
  | []=> []
  |t::ts=>TA.tys t++TA.ca ts
end
mutual
def TA.get:TA->AV->Option (List AV)
 | .aG _,a=>some [a]
 | .own k, .own k'=>bif Nat.beq k k' then some [] else none
 | .ref k o, .ref k' o'=>bif Nat.beq k k'&&Nat.beq o o' then some [] else none
 | .nil, .nil=>some []
 | .jM, .jM=>some []
 | .kq, .kq=>some []
 | .agg l, .agg cs=>TA.vo l cs
 | .fn f l m, .fn f' cs ds=>if f=f' then yG (TA.vo l cs) (TA.vo m ds) else none
 |_,_=>none
def TA.vo:List TA->List AV->Option (List AV)
 | [],[]=>some []
 |t::ts,a::aK=>yG (TA.get t a) (TA.vo ts aK)
 |_,_=>none
end
mutual
def TA.put:TA->List AV->AV
 | .aG _,cs=>cs.headD .dz
 | .own k,_=> .own k
 | .ref k o,_=> .ref k o
 | .nil,_=> .nil
 | .jM,_=> .jM
 | .kq,_=> .kq
 | .agg l,cs=> .agg (TA.rR l cs)
 | .fn f l m,cs=> .fn f (TA.rR l (cs.take (TA.ca l).length)) (TA.rR m (cs.drop (TA.ca l).length))
def TA.rR:List TA->List AV->List AV
 | [],_=> []
 |t::ts,cs=>TA.put t (cs.take (TA.tys t).length)::TA.rR ts (cs.drop (TA.tys t).length)
end
inductive TB where
 |row (e:Nat) (row:List Ty)
 |cells (l:List TA)
 |arr (row:List Ty)
@[reducible] def TB.D:TB->Type
  | .row _ r=>List (Row r)
  | .cells l=>Row (TA.ca l)
  | .arr r=>List (Row r)
@[reducible] def dh:List TB->Type
  | []=>Unit
  |b::bs=>TB.D b×dh bs
def TB.get:(b:TB)->AB->Option (TB.D b)
 | .row e r, .row e' r' l false=>bif Nat.beq e e' then fu r' r l else none
 | .cells ts, .cells cs=>match TA.vo ts cs with
   |some aK=>lu (TA.ca ts) aK
   |none=>none
 | .arr r, .arr r' l=>fu r' r l
 |_,_=>none
def TB.put:(b:TB)->TB.D b->AB
 | .row e r,l=> .row e r l false
 | .cells ts,x=> .cells (TA.rR ts (gh (TA.ca ts) x))
 | .arr r,l=> .arr r l
def TB.ok:(b:TB)->TB.D b->Prop
 | .row _ r,l=>D.ok (.slice r) l
 | .cells ts,x=>Row.ok (TA.ca ts) x
 | .arr _,_=>True
def dh.get:(bs:List TB)->List AB->Option (dh bs)
 | [],[]=>some ()
 |b::bs,h::hs=>match TB.get b h,dh.get bs hs with
  |some x,some y=>some (x,y)
  |_,_=>none
 |_,_=>none
def dh.put:(bs:List TB)->dh bs->List AB
 | [],_=> []
 |b::bs,x=>TB.put b x.1::dh.put bs x.2
def dh.ok:(bs:List TB)->dh bs->Prop
 | [],_=>True
 |b::bs,x=>TB.ok b x.1/\dh.ok bs x.2
def bx(ts:List TA)(bs:List TB)(F:Row (TA.ca ts)->dh bs->b9):bq:=fun cM hs=>match TA.vo ts cM with
 |some cs=>match lu (TA.ca ts) cs,dh.get bs hs with
  |some x,some y=>some (F x y)
  |_,_=>none
 |none=>none
def xW(s t:bq):bq:=fun cM hs=>match s cM hs with
 |some r=>some r
 |none=>t cM hs
section
variable {P:Program} {E:Env} {w:World} {A:Nat->Prop} {β:Nat->Value}
theorem Gz {α:Type} {a b:Option (List α)} {c:List α}(h:yG a b=some c):∃x y,a=some x/\b=some y/\c=x++y:=by
 cases a with
 |none=>grind[yG]
 |some x=>
  cases b with
  |none=>grind[yG]
  |some y=>grind[yG,Option.some.injEq]
theorem DH {aK bs fD:List AV} {us vs:List Value}(h1:ai w A β us aK)(hl:fD.length=(aK++bs).length)(h:ai w A β (us++vs) fD):
  ai w A β us (fD.take aK.length)/\ai w A β vs (fD.drop aK.length):=by
 grind[nT,List.take_append_drop,rO,List.length_take,List.append_inj]
mutual
theorem anX:∀(t:TA) (a:AV) (cs:List AV) (v:Value),TA.get t a=some cs->aa w A β v a->
  cs.length=(TA.tys t).length/\∃vs,ai w A β vs cs/\∀fD,fD.length=cs.length->ai w A β vs fD->aa w A β v (TA.put t fD)
 |t,a,cs,v,h,hr=>by
  unfold TA.get at h;split at h
  . simp only [A!] at h;subst h;refine⟨rfl,[v],by simp only [ai];exact⟨v,[],rfl,hr,rfl⟩,fun fD hl nz=> ?_⟩;match fD,hl with
    | [c],_=>
      simp only [ai] at nz;obtain⟨v',cg,e,r1,r2⟩:=nz;simp only [s?] at e;obtain⟨rfl,rfl⟩:=e;simpa only [TA.put,List.headD] using r1
  . rename_i k k';cases hb:Nat.beq k k' with
    |false=>rw [hb] at h;cases h
    |true=>
     rw [hb] at h;simp only [K!,A!] at h;subst h;have :=E! hb;subst this;exact⟨rfl,[],by simp [ai],fun fD _ _=>by simpa only [TA.put] using hr⟩
  . rename_i k o k' o';cases hb:(Nat.beq k k'&&Nat.beq o o') with
    |false=>rw [hb] at h;cases h
    |true=>
     rw [hb] at h;simp only [K!,A!] at h;subst h;simp only [B!] at hb;have h1:=E! hb.1;have h2:=E! hb.2;subst h1;subst h2;exact⟨rfl,[],by simp [ai],fun fD _ _=>by simpa only [TA.put] using hr⟩
  . simp only [A!] at h;subst h;exact⟨rfl,[],by simp [ai],fun fD _ _=>by simpa only [TA.put] using hr⟩
  . simp only [A!] at h;subst h;exact⟨rfl,[],by simp [ai],fun fD _ _=>by simpa only [TA.put] using hr⟩
  . simp only [A!] at h;subst h;exact⟨rfl,[],by simp [ai],fun fD _ _=>by simpa only [TA.put] using hr⟩
  . rename_i l ds;simp only [aa] at hr;obtain⟨arr,rfl,hr⟩:=hr;obtain⟨g1,vs,g2,g3⟩:=wO l ds cs _ h hr;exact⟨g1,vs,g2,fun fD hl nz=>by simp only [TA.put,aa];exact⟨arr,rfl,g3 fD hl nz⟩⟩
  . rename_i f l m f' ds es;split at h
    . rename_i hf;subst hf;obtain⟨x,y,hx,hy,rfl⟩:=Gz h;simp only [aa] at hr;obtain⟨a1,a2,rfl,r1,r2⟩:=hr;obtain⟨g1,us,g2,g3⟩:=wO l ds x _ hx r1;obtain⟨q1,vs,q2,q3⟩:=wO m es y _ hy r2;refine⟨by simp [g1,q1],us++vs,ka _ _ _ _ g2 q2,fun fD hl nz=> ?_⟩;obtain⟨p1,p2⟩:=DH g2 hl nz;simp only [TA.put,aa];rw [<-g1];refine⟨a1,a2,rfl,g3 _ ?_ p1,q3 _ ?_ p2⟩
      . simp at hl |-;omega
      . simp at hl |-;omega
    . cases h
  . cases h
theorem wO:∀(ts:List TA) (aK cs:List AV) (Fx:List Value),TA.vo ts aK=some cs->ai w A β Fx aK->
  cs.length=(TA.ca ts).length/\∃vs,ai w A β vs cs/\∀fD,fD.length=cs.length->ai w A β vs fD->ai w A β Fx (TA.rR ts fD)
 | [],[],cs,Fx,h,hr=>by
   simp only [TA.vo,A!] at h;subst h;exact⟨rfl,[],by simp [ai],fun fD _ _=>by simpa only [TA.rR] using hr⟩
 |t::ts,a::aK,cs,Fx,h,hr=>by
  simp only [TA.vo] at h;obtain⟨x,y,hx,hy,rfl⟩:=Gz h;simp only [ai] at hr;obtain⟨v,vs1,rfl,r1,r2⟩:=hr;obtain⟨g1,us,g2,g3⟩:=anX t a x v hx r1;obtain⟨q1,vs,q2,q3⟩:=wO ts aK y vs1 hy r2;refine⟨by simp [g1,q1],us++vs,ka _ _ _ _ g2 q2,fun fD hl nz=> ?_⟩;obtain⟨p1,p2⟩:=DH g2 hl nz;simp only [TA.rR,ai];rw [<-g1];refine⟨v,vs1,rfl,g3 _ ?_ p1,q3 _ ?_ p2⟩
  . simp at hl |-;omega
  . simp at hl |-;omega
 | [],_::_,cs,Fx,h,_=>by simp [TA.vo] at h
 |_::_,[],cs,Fx,h,_=>by simp [TA.vo] at h
end
theorem xX {ts:List TA} {aK cs:List AV} {Fx:List Value} {x:Row (TA.ca ts)}(h:TA.vo ts aK=some cs)(hx:lu (TA.ca ts) cs=some x)(hr:ai w A β Fx aK):
  ai w A β Fx (TA.rR ts (gh (TA.ca ts) x))/\Row.ok (TA.ca ts) x:=by
 obtain⟨g1,vs,g2,g3⟩:=wO ts aK cs Fx h hr;grind[ql,mS,kz,Bo]
theorem anY:∀(b:TB) (ab:AB) (k:Nat) (y:TB.D b),TB.get b ab=some y->BR w A β k ab->BR w A β k (TB.put b y)/\TB.ok b y
 |b,ab,k,y,h,hr=>by
  unfold TB.get at h;split at h
  . rename_i e r e' r' l;cases hb:Nat.beq e e' with
    |false=>grind
    |true=>
     rw [hb] at h;have :=E! hb;subst this;obtain⟨er,hl⟩:=kF h;subst er;subst hl;refine⟨hr,?_⟩;obtain⟨xs,h1,h2,h3⟩:=hr;refine⟨?_,NM (fun c x hx=>Bo _ c x hx) _ xs h2⟩;rcases h1.2 with⟨_,h⟩|⟨g,cap,cur,_,_,_,g4,g5,_⟩
     . omega
     . exact p? g4 g5
  . split at h
    . rename_i aK has;obtain⟨g,arr,e,h1,h2,h3,h4,h5⟩:=hr;obtain⟨q1,q2⟩:=xX has h h4;exact⟨⟨g,arr,e,h1,h2,h3,q1,h5⟩,q2⟩
    . cases h
  . obtain⟨er,hl⟩:=kF h;subst er;subst hl;exact⟨hr,trivial⟩
  grind
theorem Br:∀(bs:List TB) (hs:List AB) (y:dh bs) (n:Nat),dh.get bs hs=some y->(∀i ab,hs[i]? =some ab->BR w A β (n+i) ab)->
  (dh.put bs y).length=hs.length/\(∀i ab,(dh.put bs y)[i]? =some ab->BR w A β (n+i) ab)/\dh.ok bs y
 | [],[],y,n,_,_=>⟨rfl,fun i ab h=>by grind[dh.put],trivial⟩
 |b::bs,h::hs,y,n,hg,hr=>by
  simp [dh.get] at hg;split at hg
  . rename_i x z hx hz;simp at hg;subst hg;obtain⟨g1,g2⟩:=anY b h n x hx (hr 0 h rfl)
    obtain⟨q1,q2,q3⟩:=Br bs hs z (n+1) hz fun i ab hi=>by
     have :=hr (i+1) ab (by grind);grind
    refine⟨by grind[dh.put],fun i ab hi=> ?_,g2,q3⟩;grind[dh.put,List.getElem?_cons_zero,Option.some.injEq,hi]
  grind
 | [],_::_,y,n,h,_=>by grind[dh.get]
 |_::_,[],y,n,h,_=>by grind[dh.get]
theorem UZ:∀(bs:List TB) (y:dh bs),∀ab∈dh.put bs y,uv ab=true
 | [],_,ab,h=>by grind[dh.put]
 |b::bs,y,ab,h=>by
  simp [dh.put,L!] at h;rcases h with rfl|h
  . cases b<;>rfl
  . exact UZ bs y.2 ab h
theorem aE(hE:af P E)(hm:P.follows .mixedOrders=true) {f:FuncId} {fn:Func} {c:Code}(ts:List TA)(bs:List TB) {F:Row (TA.ca ts)->dh bs->b9}
  (L:Row (TA.ca ts)->dh bs->Nat->Option ak) (hf:P.funcs[f]? =some fn) (hb:fn.body=some c)
  (h:∀x y,(F x y).pre->Row.ok (TA.ca ts) x->dh.ok bs y->Ta E (L x y) c fn.ntmps fn.results.toList (TA.rR ts (gh (TA.ca ts) x)) (dh.put bs y) (F x y)):az P E.mP f (bx ts bs F):=by
 intro w A β args cM hs r hA hG bP gw CC k8 hp hlen DG;unfold bx at k8;split at k8
 . rename_i cs dy;split at k8
   . rename_i x y hx hy;simp only [A!] at k8;obtain⟨g1,g2⟩:=xX dy hx bP;obtain⟨q1,q2,q3⟩:=Br bs hs y 50000 hy gw
     have hv:az P E.mP f (fun KM ie=>open Classical in if KM=TA.rR ts (gh (TA.ca ts) x)/\ie=dh.put bs y then some (F x y) else none):=by
      refine Ki hE hm (fun _ _=>L x y) hf hb (fun KM ie r' GA=> ?_) fun KM ie r' GA sX=> ?_
      . grind[UZ]
      grind
     have :=hv w A β args _ _ r hA hG g1 q2 (fun i j b hi hj=>CC i j b (by omega) (by omega)) (by grind) hp (by omega) (by omega);grind
   grind
 grind
theorem az.or {G:Nat->Option GD} {f:FuncId} {s t:bq}(h1:az P G f s)(h2:az P G f t):az P G f (xW s t):=by
 intro w A β args cM hs r hA hG bP gw CC k8 hp hlen DG;unfold xW at k8;split at k8
 . rename_i r' nz;simp at k8;subst k8;exact h1 w A β args cM hs _ hA hG bP gw CC nz hp hlen DG
 . exact h2 w A β args cM hs r hA hG bP gw CC k8 hp hlen DG
def Env.aR(f:Nat)(m:List Bool)(s:bq)(E:Env):Env:= {E with lq:=fun g=>bif Nat.beq g f then some (m,s) else E.lq g}
theorem af.aR(hE:af P E) {f:FuncId} {m:List Bool} {s:bq}(h:az P E.mP f s)(hf:ar P f):af P (E.aR f m s):=by
 refine⟨hE.fE,hE.sig,fun g m' t hg=> ?_⟩;simp [Env.aR] at hg;cases hb:Nat.beq g f with
 |true=>
  rw [hb] at hg;have :=E! hb;obtain⟨_,rfl⟩:=hg;subst this;exact⟨h,hf⟩
 |false=>
  rw [hb] at hg;exact hE.lq g m' t hg
end
end Go.Vg

end
section
namespace Go.Vg
open Go
theorem Valid.cases {P:Program} {G:Nat->Option GD} {f:FuncId} {ps:List PS} {F F1 F2:Row (PS.flat ps)->Prop×AV×List AB}(h1:Valid P G f (ao ps F1))(h2:Valid P G f (ao ps F2))
  (h:∀x,(F x).1->((F1 x).1/\(F x).2=(F1 x).2)\/((F2 x).1/\(F x).2=(F2 x).2)):Valid P G f (ao ps F):=by
 intro w A β args cM pre res bs hA hG ha hs hp;unfold ao at hs;split at hs
 . rename_i x hx
   have key:∀F':Row (PS.flat ps)->Prop×AV×List AB,Valid P G f (ao ps F')->(F' x).1->(F x).2=(F' x).2->Calls P f args.toArray w fun e w'=>∃v,e= .returned v/\∃A' aO,jS w A w' v res bs A' aO:=by
    intro F' hv p1 e1;refine hv w A β args cM (F' x).1 res bs hA hG ha ?_ p1;unfold ao;grind
   grind
 grind
end Go.Vg

end
section
namespace Go.Vg
open Go
def abx(f:Func):Code:=f.body.getD .skip
def cS(f:Nat)(p:List PS)(F:Row (PS.flat p)->Prop×AV×List AB)(E:Env):Env:=Env.cons f (ao p F) E
def cH(f:Nat)(m:List Bool)(p:List TA)(q:List TB)(F:Row (TA.ca p)->dh q->b9)(E:Env):Env:=Env.aR f m (bx p q F) E
def nL {α:Type}:α->Nat->Option ak:=fun _ _=>none
def y4 {α β:Type}:α->β->Nat->Option ak:=fun _ _ _=>none
def fOk(f:Func):Bool:=f.body.isSome&& !(f.name== "runtime.NumGoroutine")
section
variable {P:Program} {E:Env} {f:FuncId} {fn:Func}
abbrev byV(p:Prop):Prop :=∃V:Prop,V/\V=p
theorem byV.go {p:Prop}(h:byV p):p:=h.elim fun _ h=>h.2▸h.1
theorem adw(h:fOk fn=true):fn.body=some (abx fn)/\(fn.name== "runtime.NumGoroutine")=false :=by
 unfold fOk at h;unfold abx;cases hb:fn.body with
 |none=>rw [hb] at h;cases h
 |some c=>rw [hb] at h;simpa using h
theorem ar.k(hf:P.funcs[f]? =some fn)(hb:fOk fn=true):ar P f:=ar.of hf (adw hb).1 (adw hb).2
theorem vS(hE:af P E)(hm:P.follows .mixedOrders=true)(p:List PS) {F:Row (PS.flat p)->Prop×AV×List AB}(L:Row (PS.flat p)->Nat->Option ak)
  (hf:P.funcs[f]? =some fn) (hb:fOk fn=true)
  (h:∀x,(F x).1->Row.ok (PS.flat p) x->byV (adV E (L x) (abx fn) fn.ntmps fn.results.toList (NO p x) (F x).2.1 (F x).2.2)):Valid P E.mP f (ao p F):=
 ah hE hm p L hf (adw hb).1 fun x a b=>(h x a b).go
theorem vH(hE:af P E)(hm:P.follows .mixedOrders=true)(p:List TA)(q:List TB) {F:Row (TA.ca p)->dh q->b9}(L:Row (TA.ca p)->dh q->Nat->Option ak)
  (hf:P.funcs[f]? =some fn) (hb:fOk fn=true)
  (h:∀x y,(F x y).pre->Row.ok (TA.ca p) x->dh.ok q y->byV (Ta E (L x y) (abx fn) fn.ntmps fn.results.toList (TA.rR p (gh (TA.ca p) x)) (dh.put q y) (F x y))):az P E.mP f (bx p q F):=
 aE hE hm p q L hf (adw hb).1 fun x y a b c=>(h x y a b c).go
theorem vH2(hE:af P E)(o:Nat->Bool)(cl:Nat->Option Nat)(sp:Nat->Bool)(hm:P.follows .mixedOrders=true)(p:List TA)(q:List TB) {F:Row (TA.ca p)->dh q->b9}(L:Row (TA.ca p)->dh q->Nat->Option ak)
  (hf:P.funcs[f]? =some fn) (hb:fOk fn=true)
  (h:∀x y,(F x y).pre->Row.ok (TA.ca p) x->dh.ok q y->byV (Ta {E with gS:=o,cls:=cl,spl:=sp} (L x y) (abx fn) fn.ntmps fn.results.toList (TA.rR p (gh (TA.ca p) x)) (dh.put q y) (F x y))):az P E.mP f (bx p q F):=
 vH (E:= {E with gS:=o,cls:=cl,spl:=sp}) ⟨hE.fE,hE.sig,hE.lq⟩ hm p q L hf hb h
theorem kS2(hm:P.follows .mixedOrders=true)(hE:af P E)(o:Nat->Bool)(cl:Nat->Option Nat)(sp:Nat->Bool) {p:List PS} {F:Row (PS.flat p)->Prop×AV×List AB}(L:Row (PS.flat p)->Nat->Option ak)
  (hf:P.funcs[f]? =some fn) (hb:fOk fn=true)
  (h:∀x,(F x).1->Row.ok (PS.flat p) x->byV (adV {E with gS:=o,cls:=cl,spl:=sp} (L x) (abx fn) fn.ntmps fn.results.toList (NO p x) (F x).2.1 (F x).2.2)):af P (cS f p F E):=
 af.cons hE (vS (E:= {E with gS:=o,cls:=cl,spl:=sp}) ⟨hE.fE,hE.sig,hE.lq⟩ hm p L hf hb h) (ar.k hf hb)
theorem kS(hm:P.follows .mixedOrders=true)(hE:af P E) {p:List PS} {F:Row (PS.flat p)->Prop×AV×List AB}(L:Row (PS.flat p)->Nat->Option ak)
  (hf:P.funcs[f]? =some fn) (hb:fOk fn=true)
  (h:∀x,(F x).1->Row.ok (PS.flat p) x->byV (adV E (L x) (abx fn) fn.ntmps fn.results.toList (NO p x) (F x).2.1 (F x).2.2)):af P (cS f p F E):=
 af.cons hE (vS hE hm p L hf hb h) (ar.k hf hb)
theorem kR(hm:P.follows .mixedOrders=true)(hE:af P E) {p:List PS} {F:Row (PS.flat p)->Prop×AV×List AB}(μ:Row (PS.flat p)->Nat)(L:Row (PS.flat p)->Nat->Option ak)
  (hf:P.funcs[f]? =some fn) (hb:fOk fn=true)
  (h:∀m x,μ x<m+1->(F x).1->Row.ok (PS.flat p) x->byV (adV (Env.cons f (mB p μ m F) E) (L x) (abx fn) fn.ntmps fn.results.toList (NO p x) (F x).2.1 (F x).2.2)):af P (cS f p F E):=
 af.cons hE (zS p μ fun m ih=>ah (E:=Env.cons f (mB p μ m F) E) (af.cons hE ih (ar.k hf hb)) hm p L hf (adw hb).1 fun x hp hx=>(h m x hp.1 hp.2 hx).go) (ar.k hf hb)
theorem kH2(hm:P.follows .mixedOrders=true)(hE:af P E)(o:Nat->Bool)(cl:Nat->Option Nat)(sp:Nat->Bool) {m:List Bool} {p:List TA} {q:List TB} {F:Row (TA.ca p)->dh q->b9}(L:Row (TA.ca p)->dh q->Nat->Option ak)
  (hf:P.funcs[f]? =some fn) (hb:fOk fn=true)
  (h:∀x y,(F x y).pre->Row.ok (TA.ca p) x->dh.ok q y->byV (Ta {E with gS:=o,cls:=cl,spl:=sp} (L x y) (abx fn) fn.ntmps fn.results.toList (TA.rR p (gh (TA.ca p) x)) (dh.put q y) (F x y))):af P (cH f m p q F E):=
 af.aR hE (vH (E:= {E with gS:=o,cls:=cl,spl:=sp}) ⟨hE.fE,hE.sig,hE.lq⟩ hm p q L hf hb h) (ar.k hf hb)
theorem kH(hm:P.follows .mixedOrders=true)(hE:af P E) {m:List Bool} {p:List TA} {q:List TB} {F:Row (TA.ca p)->dh q->b9}(L:Row (TA.ca p)->dh q->Nat->Option ak)
  (hf:P.funcs[f]? =some fn) (hb:fOk fn=true)
  (h:∀x y,(F x y).pre->Row.ok (TA.ca p) x->dh.ok q y->byV (Ta E (L x y) (abx fn) fn.ntmps fn.results.toList (TA.rR p (gh (TA.ca p) x)) (dh.put q y) (F x y))):af P (cH f m p q F E):=
 af.aR hE (vH hE hm p q L hf hb h) (ar.k hf hb)
theorem kX(hE:af P E) {p:List PS} {F:Row (PS.flat p)->Prop×AV×List AB}(hf:P.funcs[f]? =some fn)(hb:fOk fn=true)(h:Valid P E.mP f (ao p F)):af P (cS f p F E):=af.cons hE h (ar.k hf hb)
theorem kXH(hE:af P E) {m:List Bool} {p:List TA} {q:List TB} {F:Row (TA.ca p)->dh q->b9}(hf:P.funcs[f]? =some fn)(hb:fOk fn=true)(h:az P E.mP f (bx p q F)):af P (cH f m p q F E):=af.aR hE h (ar.k hf hb)
theorem kV {F:bh}(h:af P E)(hs:E.sig f=some F):Valid P E.mP f F:=(h.sig f F hs).1
end
abbrev kO(p:List PS)(x:Row (PS.flat p)):Prop :=Row.ok (PS.flat p) x
abbrev abq(p:List TA)(x:Row (TA.ca p)):Prop :=Row.ok (TA.ca p) x
abbrev hlen {α:Type}(l:List α):Prop :=l.length<=9223372036854775807
abbrev hint(x:Int):Prop := -9223372036854775808<=x/\x<=9223372036854775807
end Go.Vg

end
section
namespace Go.S
def len {α:Type}(l:List α):Nat:=l.length
def ag(m n:Nat):Nat:=m-n
def fy {α:Type}(l:List α)(n:Nat):Prop :=n<=l.length
def bN(n m:Nat):Prop :=n<=m
def lr {α:Type}(l:List α):Int:=l.length
def small {α:Type}(l:List α):Prop :=l.length<=1099511627776
theorem na(n:Int)(k:Nat)(h:0<=n):Vg.aM n ((2:Int)^k-1)=n%2^k:=by
 obtain⟨m,rfl⟩:=n? h
 have h1:((2:Int)^k-1).toNat=2^k-1:=by
  have :(1:Nat)<=2^k:=Nat.one_le_two_pow;have e:((2:Int)^k-1)=((2^k-1:Nat):Int):=by rw [Int.natCast_sub this];simp
  rw [e];rfl
 simp only [Vg.aM,Q!,h1,Nat.and_two_pow_sub_one_eq_mod];simp
theorem abJ(n:Int)(h:0<=n):Vg.aM n 7=n%8:=by simpa using na n 3 h
theorem Tb(n:Int)(h:0<=n):Vg.aM n 15=n%16:=by simpa using na n 4 h
theorem zV(n:Int)(h:0<=n):Vg.aM n 31=n%32:=by simpa using na n 5 h
theorem GB(n:Int)(h:0<=n):Vg.aM n 63=n%64:=by simpa using na n 6 h
theorem ix(n:Int)(h:0<=n):Vg.aM n 127=n%128:=by simpa using na n 7 h
theorem fJ(a b:Int)(k:Nat)(ha:0<=a)(h0:0<=b)(h:b<2^k):Vg.cn (a*2^k) b=a*2^k+b:=by
 obtain⟨m,rfl⟩:=n? ha
 have h1:((m:Int)*2^k).toNat=m*2^k:=by
  rfl
 grind[Vg.cn,Int.toNat_natCast,Nat.mul_comm,Nat.two_pow_add_eq_or_of_lt,Int.mul_comm]
theorem wP(a b:Int):Vg.cn a b=Vg.cn b a:=by grind[Vg.cn]
theorem GC(n:Int)(h:0<=n)(h1:n<128):Vg.cn n 128=n+128:=by
 rw [wP,show(128:Int)=1*2^7 by rfl,fJ 1 n 7 (by omega) h h1];omega
theorem Kj {α:Type}(p:α->Bool)(l:List α):(l.takeWhile p).length<=l.length:=by
 induction l with
 |nil=>simp
 |cons x l ih=>grind[List.takeWhile_cons]
theorem aei(b:List UInt8)(x:Nat)(h:x<b.length):b.take x++ [UInt8.ofNat (Int.toNat ((b.getD (Int.toNat (x:Int)) 0).toNat:Int))]=b.take (x+1):=by
 simp_all
end Go.S

end
section
namespace Go.S
abbrev H8:=Int×Int×Int×Int×Int×Int×Int×Int
def right(x n:Int):Int:=(x/2^n.toNat+x*2^(32-n).toNat%4294967296)%4294967296
def rotl(x k:Int):Int:=right x (-k)
def hU(x k:Int):Prop := -32<k/\k<0/\0<=x/\x<4294967296
def ej(n:Int):Prop :=0<n/\n<32
def uz(p:List UInt8)(i:Nat):Int:=(p.getD i 0).toNat
def word(p:List UInt8)(i:Nat):Int:=uz p (4*i)*16777216+uz p (4*i+1)*65536+uz p (4*i+2)*256+uz p (4*i+3)
def aHu(x:Int):Int:=Vg.bT (Vg.bT (right x 7) (right x 18)) (x/2^Int.toNat 3)
def aHv(y:Int):Int:=Vg.bT (Vg.bT (right y 17) (right y 19)) (y/2^Int.toNat 10)
def aej(w:List Int)(n:Nat):Int:=(((w.getD (n-16) 0+aHu (w.getD (n-15) 0))%4294967296+w.getD (n-7) 0)%4294967296+aHv (w.getD (n-2) 0))%4294967296
def uA(p:List UInt8)(w:List Int)(n:Nat):Int:=if n<16 then word p n else aej w n
def sched(p:List UInt8):Nat->List Int
 |0=> []
 |n+1=>sched p n++ [uA p (sched p n) n]
def ba(p:List UInt8)(n:Nat):List Int:=sched p n++List.replicate (64-n) 0
def vq:List Int:= [1116352408,1899447441,3049323471,3921009573,961987163,1508970993,2453635748,2870763221,3624381080,310598401,607225278,1426881987,1925078388,2162078206,2614888103,3248222580,3835390401,4022224774,264347078,604807628,770255983,1249150122,1555081692,1996064986,2554220882,2821834349,2952996808,3210313671,3336571891,3584528711,113926993,338241895,666307205,773529912,1294757372,1396182291,1695183700,1986661051,2177026350,2456956037,2730485921,2820302411,3259730800,3345764771,3516065817,3600352804,4094571909,275423344,430227734,506948616,659060556,883997877,958139571,1322822218,1537002063,1747873779,1955562222,2024104815,2227730452,2361852424,2428436474,2756734187,3204031479,3329325298]
def H0:H8:=(1779033703,3144134277,1013904242,2773480762,1359893119,2600822924,528734635,1541459225)
def aHw(a:Int):Int:=Vg.bT (Vg.bT (right a 2) (right a 13)) (right a 22)
def aHx(e:Int):Int:=Vg.bT (Vg.bT (right e 6) (right e 11)) (right e 25)
def ch(e f g:Int):Int:=Vg.bT (Vg.aM e f) (Vg.aM (4294967296-1-e) g)
def maj(a b c:Int):Int:=Vg.bT (Vg.bT (Vg.aM a b) (Vg.aM a c)) (Vg.aM b c)
def one(k w e f g h:Int):Int:=((((h+aHx e)%4294967296+ch e f g)%4294967296+k)%4294967296+w)%4294967296
def two(a b c:Int):Int:=(aHw a+maj a b c)%4294967296
def rnd(k w:Int)(s:H8):H8:=((one k w s.2.2.2.2.1 s.2.2.2.2.2.1 s.2.2.2.2.2.2.1 s.2.2.2.2.2.2.2+two s.1 s.2.1 s.2.2.1)%4294967296,s.1,s.2.1,s.2.2.1,
 (s.2.2.2.1+one k w s.2.2.2.2.1 s.2.2.2.2.2.1 s.2.2.2.2.2.2.1 s.2.2.2.2.2.2.2)%4294967296,s.2.2.2.2.1,s.2.2.2.2.2.1,s.2.2.2.2.2.2.1)
def eA(w:List Int)(s:H8):Nat->H8
 |0=>s
 |n+1=>rnd (vq.getD n 0) (w.getD n 0) (eA w s n)
def Qj(s t:H8):H8:=((s.1+t.1)%4294967296,(s.2.1+t.2.1)%4294967296,(s.2.2.1+t.2.2.1)%4294967296,(s.2.2.2.1+t.2.2.2.1)%4294967296,
 (s.2.2.2.2.1+t.2.2.2.2.1)%4294967296,(s.2.2.2.2.2.1+t.2.2.2.2.2.1)%4294967296,(s.2.2.2.2.2.2.1+t.2.2.2.2.2.2.1)%4294967296,(s.2.2.2.2.2.2.2+t.2.2.2.2.2.2.2)%4294967296)
def block(s:H8)(p:List UInt8):H8:=Qj s (eA (sched p 64) s 64)
def proc(s:H8)(b:List UInt8):Nat->H8
 |0=>s
 |n+1=>block (proc s b n) ((b.drop (64*n)).take 64)
def ek(s:H8):List Int:= [s.1,s.2.1,s.2.2.1,s.2.2.2.1,s.2.2.2.2.1,s.2.2.2.2.2.1,s.2.2.2.2.2.2.1,s.2.2.2.2.2.2.2]
def sY(l:List Int):H8:=(l.getD 0 0,l.getD 1 0,l.getD 2 0,l.getD 3 0,l.getD 4 0,l.getD 5 0,l.getD 6 0,l.getD 7 0)
def b32(w:Int):List UInt8:= [UInt8.ofNat (w/16777216%256).toNat,UInt8.ofNat (w/65536%256).toNat,UInt8.ofNat (w/256%256).toNat,UInt8.ofNat (w%256).toNat]
def lP(s:H8)(n:Nat):List UInt8:=((ek s).take n).flatMap b32
def dig(s:H8):List UInt8:=lP s 8
def fc(n:Nat):Nat:=(119-n%64)%64
def len8(n:Int)(k:Nat):List UInt8:=(List.range k).map fun i=>UInt8.ofNat (n/2^(56-8*i)%256).toNat
def eN(rest:List UInt8)(k:Nat):List UInt8:=rest++ [128]++List.replicate k 0
def mi(rest:List UInt8)(n:Int)(k:Nat):List UInt8:=eN rest (fc rest.length)++len8 (n*8) k
def tail(rest:List UInt8)(n:Int):List UInt8:=mi rest n 8
def blocks(b:List UInt8):Nat:=b.length/64
def bn(s:H8)(b:List UInt8):H8:=proc s b (blocks b)
def eR(b:List UInt8):List UInt8:=b.drop (64*blocks b)
def sum(b:List UInt8):List UInt8:=dig (bn H0 (tail b b.length))
def sD(s:H8):Prop :=∀x∈ek s,0<=x/\x<4294967296
def okW(l:List Int):Prop :=∀x∈l,0<=x/\x<4294967296
def cr(rest:List UInt8)(k:Nat):Prop :=k<=fc rest.length
def bo(r:List UInt8)(n:Int):Bool:=decide (0<=n)&&decide (n<=1099511627776)&&decide ((r.length:Int)=n%64)
def NX(s:H8)(r:List UInt8)(n:Int)(b:List UInt8):Prop :=sD s/\r= []/\n=0/\small b
def ES(s:H8)(r:List UInt8)(n:Int):Prop :=sD s/\0<=n/\n<=1099511627776/\(r.length:Int)=n%64
def NY(s:H8)(p:List UInt8):Prop :=sD s/\p.length=64
def GF(l:List Int)(p:List UInt8):Prop :=okW l/\l.length=8/\p.length=64
end Go.S
namespace Go.S
def fe(b:List UInt8)(k:Nat):List UInt8:=b.drop (64*k)
def kg(b:List UInt8)(k:Nat):Int:=(b.length:Int)*8/256^k
def jc(b:List UInt8)(k:Nat):List UInt8:=(len8 ((b.length:Int)*8) 8).drop (8-k)
end Go.S
namespace Go.S
theorem aek(a b c d:UInt8):Vg.cn (Vg.cn (Vg.cn ((a.toNat:Int)*2^Int.toNat 24%4294967296) ((b.toNat:Int)*2^Int.toNat 16%4294967296)) ((c.toNat:Int)*2^Int.toNat 8%4294967296)) (d.toNat:Int)=
  (a.toNat:Int)*16777216+(b.toNat:Int)*65536+(c.toNat:Int)*256+(d.toNat:Int):=by
 have ha:=a.toNat_lt;have hb:=b.toNat_lt;have hc:=c.toNat_lt;have hd:=d.toNat_lt
 have e1:(a.toNat:Int)*2^Int.toNat 24%4294967296=((a.toNat:Int))*2^24:=by grind
 have e2:(b.toNat:Int)*2^Int.toNat 16%4294967296=(b.toNat:Int)*2^16:=by grind
 have e3:(c.toNat:Int)*2^Int.toNat 8%4294967296=(c.toNat:Int)*2^8:=by grind
 rw [e1,e2,e3,fJ _ _ 24 (by omega) (by omega) (by omega)];rw [show(a.toNat:Int)*2^24+(b.toNat:Int)*2^16=((a.toNat:Int)*256+b.toNat)*2^16 by omega,fJ _ _ 16 (by omega) (by omega) (by omega)];rw [show((a.toNat:Int)*256+b.toNat)*2^16+(c.toNat:Int)*2^8=((a.toNat:Int)*65536+b.toNat*256+c.toNat)*2^8 by omega,fJ _ _ 8 (by omega) (by omega) (by omega)];omega
theorem abp(p:List UInt8):∀n,(sched p n).length=n
 |0=>rfl
 |n+1=>by simp [sched,abp p n]
theorem qF(p:List UInt8)(n:Nat)(h:n<=64):(ba p n).length=64:=by grind[ba,abp]
theorem U0(p:List UInt8):ba p 64=sched p 64:=by simp [ba]
theorem ael(p:List UInt8)(n:Nat):0<=word p n/\word p n<4294967296:=by
 simp only [word,uz];have h1:=(p.getD (4*n) 0).toNat_lt;have h2:=(p.getD (4*n+1) 0).toNat_lt;have h3:=(p.getD (4*n+2) 0).toNat_lt;have h4:=(p.getD (4*n+3) 0).toNat_lt
 omega
theorem KP(p:List UInt8):∀n,okW (sched p n)
 |0=>by simp [sched,okW]
 |n+1=>by
  intro x hx;simp [sched,F!,m?] at hx;rcases hx with hx|rfl
  . exact KP p n x hx
  . simp [uA];split
    . exact ael p n
    . simp [aej];omega
theorem Qk {l:List Int}(h:okW l)(i:Nat):0<=l.getD i 0/\l.getD i 0<4294967296:=by
 rw [H!];cases hg:l[i]? with
 |none=>simp
 |some x=>simpa using h x (List.mem_of_getElem? hg)
theorem anZ(p:List UInt8)(n i:Nat):0<=(ba p n).getD i 0/\(ba p n).getD i 0<4294967296:=by
 refine Qk ?_ i;intro x hx;simp [ba,F!] at hx;rcases hx with hx|hx
 . exact KP p n x hx
 grind
theorem Ql(p:List UInt8)(n i:Nat)(k:Int)(h: -32<k/\k<0):hU ((ba p n).getD i 0) k:=⟨h.1,h.2,anZ p n i⟩
theorem xY(p:List UInt8)(n i:Nat)(h:i<n):(ba p n).getD i 0=(sched p n).getD i 0:=by
 grind[ba,List.getElem?_append_left,abp]
theorem Qm(p:List UInt8)(n:Nat)(v:Int)(h:n<64)(hv:v=uA p (sched p n) n):(ba p n).set n v=ba p (n+1):=by
 grind[ba,sched,abI,abp]
theorem an0(p:List UInt8)(x:Nat)(h:x<16):List.set (ba p x) (0+Int.toNat (x:Int)*1)
  (Vg.cn (Vg.cn (Vg.cn (((List.getD p (Int.toNat (4*(x:Int))) 0).toNat:Int)*2^Int.toNat 24%4294967296) (((List.getD p (Int.toNat (4*(x:Int)+1)) 0).toNat:Int)*2^Int.toNat 16%4294967296))
    (((List.getD p (Int.toNat (4*(x:Int)+2)) 0).toNat:Int)*2^Int.toNat 8%4294967296)) ((List.getD p (Int.toNat (4*(x:Int)+3)) 0).toNat:Int))=ba p (x+1):=by
 rw [aek,show 0+Int.toNat (x:Int)*1=x by omega];refine Qm p x _ (by omega) ?_;simp [uA,W! h,word,uz,show Int.toNat (4*(x:Int))=4*x by omega,show Int.toNat (4*(x:Int)+1)=4*x+1 by omega,show Int.toNat (4*(x:Int)+2)=4*x+2 by omega,show Int.toNat (4*(x:Int)+3)=4*x+3 by omega]
theorem an1(p:List UInt8)(x:Nat)(h:16<=x)(h1:x<64):List.set (ba p x) (0+Int.toNat (x:Int)*1)
  ((((List.getD (ba p x) (0+Int.toNat ((x:Int)-16)*1) 0+
    Vg.bT (Vg.bT (rotl (List.getD (ba p x) (0+Int.toNat ((x:Int)-15)*1) 0) (-7)) (rotl (List.getD (ba p x) (0+Int.toNat ((x:Int)-15)*1) 0) (-18))) (List.getD (ba p x) (0+Int.toNat ((x:Int)-15)*1) 0/2^Int.toNat 3))%4294967296+
    List.getD (ba p x) (0+Int.toNat ((x:Int)-7)*1) 0)%4294967296+
    Vg.bT (Vg.bT (rotl (List.getD (ba p x) (0+Int.toNat ((x:Int)-2)*1) 0) (-17)) (rotl (List.getD (ba p x) (0+Int.toNat ((x:Int)-2)*1) 0) (-19))) (List.getD (ba p x) (0+Int.toNat ((x:Int)-2)*1) 0/2^Int.toNat 10))%4294967296)=ba p (x+1):=by
 simp only [show 0+Int.toNat (x:Int)*1=x by omega,show 0+Int.toNat ((x:Int)-16)*1=x-16 by omega,show 0+Int.toNat ((x:Int)-15)*1=x-15 by omega,show 0+Int.toNat ((x:Int)-7)*1=x-7 by omega,show 0+Int.toNat ((x:Int)-2)*1=x-2 by omega,
  xY p x (x-16) (by omega),xY p x (x-15) (by omega),xY p x (x-7) (by omega),xY p x (x-2) (by omega)]
 refine Qm p x _ (by omega) ?_;simp only [uA,T! (by omega :¬x<16)];rfl
theorem an2(k w:Int)(s:H8)(h:sD s):sD (rnd k w s):=by
 simp [sD,ek,L!,List.not_mem_nil,or_false,forall_eq_or_imp,forall_eq,rnd] at h |-;omega
theorem wQ(w:List Int)(s:H8)(h:sD s):∀n,sD (eA w s n)
 |0=>h
 |n+1=>an2 _ _ _ (wQ w s h n)
theorem abL(s:H8)(p:List UInt8):sD (block s p):=by
 simp [block,Qj,sD,ek,L!,List.not_mem_nil,or_false,forall_eq_or_imp,forall_eq];omega
theorem GG(s:H8)(b:List UInt8)(h:sD s):∀n,sD (proc s b n)
 |0=>h
 |n+1=>abL _ _
theorem azR {s:H8}(h:sD s)(k:Int)(hk: -32<k/\k<0):hU s.1 k:=⟨hk.1,hk.2,h _ (by simp [ek])⟩
theorem azS {s:H8}(h:sD s)(k:Int)(hk: -32<k/\k<0):hU s.2.2.2.2.1 k:=⟨hk.1,hk.2,h _ (by simp [ek])⟩
theorem CE:(64:Nat)=vq.length:=by decide
theorem Tc:sD H0:=by simp [sD,ek,H0]
end Go.S
namespace Go.S
theorem an3 {x k:Int}(h:hU x k):Vg.cn (x*2^Int.toNat (Vg.aM (k%18446744073709551616) 31)%4294967296) (x/2^Int.toNat ((32-Vg.aM (k%18446744073709551616) 31)%18446744073709551616))=rotl x k:=by
 obtain⟨h1,h2,h3,h4⟩:=h;have e1:Vg.aM (k%18446744073709551616) 31=32+k:=by grind[zV]
 rw [e1,show(32-(32+k))%18446744073709551616= -k by omega];obtain⟨n,hn⟩:∃n:Nat,n=(-k).toNat:=⟨_,rfl⟩;rw [show Int.toNat (32+k)=32-n by omega,<-hn];simp [rotl,right,<-hn,show(32- -k).toNat=32-n by omega];obtain⟨m,rfl⟩:=n? h3;have hm:m<2^32:=by omega
 have aem:(2:Nat)^(32-n)*2^n=2^32:=by rw [<-Nat.pow_add];grind
 have hq:m/2^n<2^(32-n):=by
  simp_all[Nat.div_lt_iff_lt_mul,Nat.two_pow_pos]
 have aHy:m*2^(32-n)%4294967296=(m%2^n)*2^(32-n):=by
  grind[Nat.mul_comm,Nat.mul_mod_mul_right]
 have c1:((m:Int)*2^(32-n)%4294967296)=(((m%2^n:Nat):Int))*2^(32-n):=by
  have :=congrArg (Nat.cast (R:=Int)) aHy;grind
 have c2:((m:Int)/2^n)=((m/2^n:Nat):Int):=by simp
 rw [c1,c2,fJ _ _ (32-n) (Int.natCast_nonneg _) (Int.natCast_nonneg _) (by grind)]
 have fP:(m%2^n)*2^(32-n)+m/2^n<4294967296:=by
  have h1:m%2^n<2^n:=Nat.mod_lt _ (Nat.two_pow_pos n);have h2:(m%2^n+1)*2^(32-n)<=2^n*2^(32-n):=Nat.mul_le_mul_right _ h1;grind
 grind
theorem an4 {x k:Int}(h:hU x k):Vg.aM (k%18446744073709551616) 31=32+k:=by
 obtain⟨h1,h2,h3,h4⟩:=h;grind[zV]
end Go.S
namespace Go.S
theorem abM {s:H8} {r:List UInt8} {n:Int}(h:ES s r n):bo r n=true :=by
 obtain⟨_,h1,h2,h3⟩:=h;grind[bo]
theorem cC(r:List UInt8)(k:Nat):(eN r k).length=r.length+1+k:=by grind[eN]
theorem Qn(r:List UInt8):r++ [UInt8.ofNat (Int.toNat 128)]=eN r 0:=by simp [eN]
theorem DJ(r:List UInt8)(k:Nat):eN r k++ [UInt8.ofNat (Int.toNat 0)]=eN r (k+1):=by
 grind[eN,List.append_assoc,List.replicate_succ']
theorem GH(n:Nat):fc n<64:=Nat.mod_lt _ (by omega)
theorem GI {r:List UInt8} {k:Nat}(h:cr r k)(h1:¬((eN r k).length:Int)%64=56):cr r (k+1):=by
 grind[cr,fc,cC]
theorem KQ {r:List UInt8} {k:Nat}(h:cr r k)(h1:((eN r k).length:Int)%64=56):k=fc r.length:=by
 grind[cr,fc,cC]
theorem CF(n:Int)(k:Nat):(len8 n k).length=k:=by simp [len8]
theorem gl(r:List UInt8)(n:Int)(k:Nat):(mi r n k).length=r.length+1+fc r.length+k:=by simp [mi,cC,CF]
theorem aen(r:List UInt8)(n:Int):mi r n 0=eN r (fc r.length):=by simp [mi,len8]
theorem Qo(r:List UInt8)(n:Int)(x:Nat)(h0:0<=n)(h1:n<=1099511627776)(hx:x<8):
  mi r n x++ [UInt8.ofNat (Int.toNat (n%18446744073709551616*8%18446744073709551616/2^Int.toNat (56-8*(x:Int))%256))]=mi r n (x+1):=by
 rw [show n%18446744073709551616*8%18446744073709551616=n*8 by omega,show Int.toNat (56-8*(x:Int))=56-8*x by omega];grind[mi,len8,List.range_succ,List.append_assoc]
theorem CG(s:H8)(k:Nat)(hk:k<=8):(lP s k).length=4*k:=by
 match k,hk with
 |0,_|1,_|2,_|3,_|4,_|5,_|6,_|7,_|8,_=>rfl
theorem GJ(s:H8)(x:Nat)(hx:x<8):lP s x++b32 ((ek s).getD x 0)=lP s (x+1):=by
 have hl:x<(ek s).length:=by simp_all[ek]
 grind[lP,au,ek]
theorem aeo(s:H8):(dig s).length=32:=CG s 8 (by omega)
theorem Bs(b:List UInt8):(sum b).length=32:=aeo _
theorem CH(s:H8)(x y:List UInt8):∀n,64*n<=x.length->proc s (x++y) n=proc s x n
 |0,_=>rfl
 |n+1,h=>by
  simp [proc];rw [CH s x y n (by omega),List.drop_append_of_le_length (by omega),List.take_append_of_le_length (by rw [V!];omega)]
theorem GK(s:H8)(x y:List UInt8)(a:Nat)(h:x.length=64*a):∀n,proc s (x++y) (a+n)=proc (proc s x a) y n
 |0=>CH s x y a (by omega)
 |n+1=>by
  simp [proc];rw [GK s x y a h n,show 64*(a+n)=x.length+64*n by omega,List.drop_append,Q? (by omega),t?,o?]
theorem oR(b:List UInt8):(eR b).length=b.length%64:=by grind[eR,blocks]
theorem abN(n:Nat):fc (n%64)=fc n:=by simp [fc]
theorem Td(b:List UInt8)(n:Int):bn (bn H0 b) (tail (eR b) n)=bn H0 (tail b n):=by
 have hb:b=b.take (64*blocks b)++eR b:=(O? _ b).symm;have hl:(b.take (64*blocks b)).length=64*blocks b:=by simp [blocks];omega
 have ht:tail b n=b.take (64*blocks b)++tail (eR b) n:=by
  have :fc (eR b).length=fc b.length:=by rw [oR,abN]
  simp [tail,mi,eN,this];conv=>lhs;rw [hb]
  simp only [U!,C!];rw [<-C!,<-hb]
 have hk:blocks (tail b n)=blocks b+blocks (tail (eR b) n):=by
  rw [ht];simp [blocks,C!] at *;omega
 simp [bn];rw [hk,ht,GK H0 _ _ (blocks b) hl,<-CH H0 (b.take (64*blocks b)) (eR b) (blocks b) (by omega),<-hb]
theorem an5(s:H8)(x:Nat)(hx:x<8):lP s x++ [UInt8.ofNat (Int.toNat (List.getD (ek s) (Int.toNat (x:Int)) 0/2^Int.toNat 24%256)),UInt8.ofNat (Int.toNat (List.getD (ek s) (Int.toNat (x:Int)) 0/2^Int.toNat 16%256)),
 UInt8.ofNat (Int.toNat (List.getD (ek s) (Int.toNat (x:Int)) 0/2^Int.toNat 8%256)),UInt8.ofNat (Int.toNat (List.getD (ek s) (Int.toNat (x:Int)) 0%256))]=lP s (x+1):=GJ s x hx
theorem an6(s:H8)(b:List UInt8)(n:Nat):block ((proc s b n).1,(proc s b n).2.1,(proc s b n).2.2.1,(proc s b n).2.2.2.1,(proc s b n).2.2.2.2.1,(proc s b n).2.2.2.2.2.1,(proc s b n).2.2.2.2.2.2.1,(proc s b n).2.2.2.2.2.2.2) (List.take (Int.toNat 64) (fe b n))=proc s b (n+1):=rfl
theorem abO(b:List UInt8)(x:Nat)(h:x<16):sched b x++ [(((((b.getD (Int.toNat ((4*x:Nat):Int)) 0).toNat:Int)*16777216%4294967296+((b.getD (Int.toNat (((4*x:Nat):Int)+1)) 0).toNat:Int)*65536%4294967296)%4294967296+
  ((b.getD (Int.toNat (((4*x:Nat):Int)+2)) 0).toNat:Int)*256%4294967296)%4294967296+((b.getD (Int.toNat (((4*x:Nat):Int)+3)) 0).toNat:Int))%4294967296]=sched b (x+1):=by
 simp [sched,uA,W! h,word,uz,show Int.toNat ((4*x:Nat):Int)=4*x by omega,show Int.toNat (((4*x:Nat):Int)+1)=4*x+1 by omega,show Int.toNat (((4*x:Nat):Int)+2)=4*x+2 by omega,show Int.toNat (((4*x:Nat):Int)+3)=4*x+3 by omega];have h1:=(b.getD (4*x) 0).toNat_lt;have h2:=(b.getD (4*x+1) 0).toNat_lt;have h3:=(b.getD (4*x+2) 0).toNat_lt;have h4:=(b.getD (4*x+3) 0).toNat_lt
 grind
theorem abP(b:List UInt8)(x:Nat)(h:16<=x):sched b x++ [(((List.getD (sched b x) (Int.toNat ((x:Int)-16)) 0+
  Vg.bT (Vg.bT (right (List.getD (sched b x) (Int.toNat ((x:Int)-15)) 0) 7) (right (List.getD (sched b x) (Int.toNat ((x:Int)-15)) 0) 18)) (List.getD (sched b x) (Int.toNat ((x:Int)-15)) 0/2^Int.toNat 3))%4294967296+
  List.getD (sched b x) (Int.toNat ((x:Int)-7)) 0)%4294967296+
  Vg.bT (Vg.bT (right (List.getD (sched b x) (Int.toNat ((x:Int)-2)) 0) 17) (right (List.getD (sched b x) (Int.toNat ((x:Int)-2)) 0) 19)) (List.getD (sched b x) (Int.toNat ((x:Int)-2)) 0/2^Int.toNat 10))%4294967296]=sched b (x+1):=by
 simp only [show Int.toNat ((x:Int)-16)=x-16 by omega,show Int.toNat ((x:Int)-15)=x-15 by omega,show Int.toNat ((x:Int)-7)=x-7 by omega,show Int.toNat ((x:Int)-2)=x-2 by omega];simp only [sched,uA,T! (by omega :¬x<16)];rfl
theorem xor_not {e:Int}(h:0<=e/\e<4294967296):Vg.bT 4294967295 e=4294967296-1-e:=by
 obtain⟨n,rfl⟩:=n? h.1;have hn:n<2^32:=by omega
 have :(4294967295:Nat)^^^n=2^32-1-n:=by
  apply Nat.eq_of_testBit_eq;intro i;rw [show 2^32-1-n=2^32-(n+1) by omega,Nat.testBit_two_pow_sub_succ hn,Nat.testBit_xor,show(4294967295:Nat)=2^32-1 by rfl,Nat.testBit_two_pow_sub_one];by_cases hi:i<32
  . grind
  . have hz:n.testBit i=false :=Nat.testBit_lt_two_pow (Nat.lt_of_lt_of_le hn (Nat.pow_le_pow_right (by omega) (by omega)));grind
 grind[Vg.bT,Int.toNat_natCast,Int.toNat]
theorem an7 {l:List Int}(h:okW l):sD (sY l):=by
 intro x hx;simp [ek,sY,L!,List.not_mem_nil,or_false] at hx;rcases hx with rfl|rfl|rfl|rfl|rfl|rfl|rfl|rfl<;>exact Qk h _
theorem KR(b:List UInt8)(n:Int):(tail b n).length=b.length+1+fc b.length+8:=gl b n 8
theorem aep(b:List UInt8)(n:Int):(tail b n).length=64*blocks (tail b n):=by
 grind[blocks,KR,fc]
theorem abQ(b:List UInt8)(h:small b):(b.length:Int)%18446744073709551616*8%18446744073709551616=kg b 0:=by
 grind[small,kg]
theorem NZ(b:List UInt8)(x:Nat):kg b x/256=kg b (x+1):=by
 grind[kg,Int.pow_succ,Int.ediv_ediv_of_nonneg,Int.le_of_lt,Int.pow_pos]
theorem Kk(b:List UInt8)(x:Nat)(hx:x<8): [UInt8.ofNat (Int.toNat (kg b x%256%256))]++jc b x=jc b (x+1):=by
 have hl:7-x<(len8 ((b.length:Int)*8) 8).length:=by grind[CF]
 have hd:=l? hl;simp [jc]
 have he:(len8 ((b.length:Int)*8) 8)[7-x]=UInt8.ofNat (Int.toNat (kg b x%256%256)):=by
  simp [len8,List.getElem_map,List.getElem_range,kg,Int.emod_emod];rw [show 56-8*(7-x)=8*x by omega,Int.pow_mul];rfl
 grind
theorem Te(b:List UInt8):jc b 8=len8 (lr b*8) 8:=rfl
theorem Bt(b:List UInt8)(k:Nat)(h:k<=8):(jc b k).length=k:=by grind[jc,CF]
theorem aeq(T:List UInt8)(x:Nat):List.take (Int.toNat (((64*x:Nat):Int)+64)-Int.toNat ((64*x:Nat):Int)) (List.drop (Int.toNat ((64*x:Nat):Int)) T)=(T.drop (64*x)).take 64:=by
 grind
theorem an8(s:H8)(x:Nat)(hx:x<8):lP s x++ [UInt8.ofNat (Int.toNat (List.getD (ek s) (Int.toNat (x:Int)) 0/16777216%256)),UInt8.ofNat (Int.toNat (List.getD (ek s) (Int.toNat (x:Int)) 0/65536%256%256)),
  UInt8.ofNat (Int.toNat (List.getD (ek s) (Int.toNat (x:Int)) 0/256%256%256)),UInt8.ofNat (Int.toNat (List.getD (ek s) (Int.toNat (x:Int)) 0%256%256))]=lP s (x+1):=by
 grind[GJ,b32,Int.toNat_natCast,Int.emod_emod]
end Go.S

end
section
namespace Go.S
def mC:Nat->Nat->List UInt8
 |0,_=> []
 |f+1,v=>if v<128 then [UInt8.ofNat v] else UInt8.ofNat (v%128+128)::mC f (v/128)
def num(v:Int):List UInt8:=mC 9 v.toNat
def text(s:List UInt8):List UInt8:=num s.length++s
def c5(v:Int):Bool:=decide (v<0) || decide (4611686018427387904<v)
def jd(b:List UInt8)(v:Int):List UInt8:=if c5 v then [] else b++num v
def rS(v:Int):Int:=if c5 v then 1 else 0
def pM(l:List UInt8)(v:Int)(m:List UInt8)(u:Int):Prop :=0<=u/\u<=v/\m++num u=l++num v
def Bu(l:List UInt8)(v:Int):Prop :=0<=v/\l.length<=70368744177664
def lQ(l s:List UInt8):Prop :=l.length<=35184372088832/\s.length<=35184372088832
def lead(b:List UInt8):Nat:=(b.takeWhile fun x=>decide (128<=x.toNat)).length
def cT:List UInt8->Nat
 | []=>0
 |x::l=>x.toNat%128+128*cT l
def first(b:List UInt8):Int×Int×Int:=
 if 9<=lead b then(0,0,2)
 else if lead b=b.length then(0,0,4)
 else if cT (b.take (lead b+1))>4611686018427387904\/num (cT (b.take (lead b+1)))≠b.take (lead b+1) then(0,0,2)
 else(cT (b.take (lead b+1)),lead b+1,0)
def aU(b:List UInt8)(cd:Int):List UInt8×Int×Int:=
 if(first b).2.2≠0 then([],0,(first b).2.2)
 else if(first b).1>cd then([],0,2)
 else if(first b).1>b.length-(first b).2.1 then([],0,4)
 else((b.drop (first b).2.1.toNat).take (first b).1.toNat,(first b).2.1+(first b).1,0)
def dp(b:List UInt8)(at':Int):Prop :=0<=at'/\at'<=b.length
def KT(at':Int)(x:Int×Int×Int):Int×Int×Int:=(x.1,if x.2.2=0 then at'+x.2.1 else 0,x.2.2)
def aX(b:List UInt8)(at':Int):Int×Int×Int:=KT at' (first (b.drop at'.toNat))
def cz(b:List UInt8)(p cd:Int):List UInt8×Int×Int:=
 if(aX b p).2.2≠0 then([],0,(aX b p).2.2)
 else if cd<(aX b p).1 then([],0,2)
 else if(b.length:Int)-(aX b p).2.1<(aX b p).1 then([],0,4)
 else((b.take ((aX b p).2.1+(aX b p).1).toNat).drop (aX b p).2.1.toNat,(aX b p).2.1+(aX b p).1,0)
def inside(b:List UInt8)(a:Int):Bool:=decide (0<=a)&&decide (a<=b.length)
def bI(b:List UInt8)(a e:Int):Int:=if e=0/\inside b a=false then 1 else e
abbrev Rd:=List UInt8×Int×Int
def ax(b:List UInt8)(a e cd:Int):Rd×List UInt8:=
 if bI b a e≠0 then((b,a,bI b a e),[])
 else if(cz b a cd).2.2≠0 then((b,a,(cz b a cd).2.2),[])
 else((b,(cz b a cd).2.1,0),(cz b a cd).1)
def an(b:List UInt8)(a e:Int):Rd×Int:=
 if bI b a e≠0 then((b,a,bI b a e),0)
 else if(aX b a).2.2≠0 then((b,a,(aX b a).2.2),0)
 else((b,(aX b a).2.1,0),(aX b a).1)
def aC(b:List UInt8)(a e:Int):Rd×List UInt8:=
 if bI b a e≠0 then((b,a,bI b a e),[])
 else if(b.length:Int)-a<32 then((b,a,4),[])
 else((b,a+32,0),(b.drop a.toNat).take 32)
def done(b:List UInt8)(a e:Int):Int:=if e≠0 then e else if inside b a=false then 1 else if a<b.length then 2 else 0
def iy(b:List UInt8)(a:Int)(n:Nat):Prop :=n<=9/\a+n<=b.length/\∀x∈(b.drop a.toNat).take n,128<=x.toNat
def fg(b:List UInt8)(a:Int)(n:Nat):Int:=(cT ((b.drop a.toNat).take n):Int)
def Bv(b:List UInt8)(n:Nat):Prop :=n<=9/\n<=b.length/\∀x∈b.take n,128<=x.toNat
def aAJ(b:List UInt8)(n:Nat)(i:Int):Prop :=Bv b n/\n<9/\n<b.length/\ -1<=i/\i<=n
def anO(b:List UInt8)(n:Nat)(i:Int):Int:=(cT ((b.take (n+1)).drop (i+1).toNat):Int)
theorem CI:∀(f v:Nat),(mC f v).length<=f
 |0,_=>by simp [mC]
 |f+1,v=>by
  have :=CI f (v/128);simp [mC];split<;>simp<;>omega
theorem bG(v:Int):(num v).length<=9:=CI 9 _
theorem GL:∀(f g v:Nat),v<128^f->1<=f->f<=g->mC g v=mC f v
 |0,g,v,_,h,_=>by omega
 |f+1,0,v,_,_,h=>by omega
 |f+1,g+1,v,h,_,hg=>by
  simp [mC];split
  . rfl
  . by_cases hf:f=0
    . subst hf;omega
    . rw [GL f g (v/128) (by omega) (by omega) (by omega)]
theorem Bw(v:Int)(h:v<128):num v= [UInt8.ofNat v.toNat]:=by
 simp_all[num,mC,W!]
theorem U1(v:Int)(h:128<=v)(h1:v<=9223372036854775807):num v=UInt8.ofNat (v%128+128).toNat::num (v/128):=by
 simp [num];rw [mC,if_neg (by omega)];grind[GL]
theorem DK:∀(l:List UInt8) (h:l≠ []),cT l=0->(l.getLast h).toNat<128->(l.getLast h).toNat=0
 | [x],_,h,hx=>by grind[cT]
 |x::y::l,_,h,hx=>by
  simp [cT] at h;exact DK (y::l) (by simp) (by simp [cT];omega) hx
theorem KU:∀(f:Nat) (l:List UInt8) (h:l≠ []),l.length<=f->(∀x∈l.dropLast,128<=x.toNat)->(l.getLast h).toNat<128->(mC f (cT l)=l↔(l.length=1\/(l.getLast h).toNat≠0))
 |0,l,h,hl,_,_=>by
  grind
 |f+1,[x],_,_,_,hx=>by
  have hv:cT [x]=x.toNat:=by grind[cT]
  simp_all[mC,W!]
 |f+1,x::y::l,_,hl,hd,hx=>by
  have Eh:128<=x.toNat:=hd x (by simp);have hx2:=x.toNat_lt;have ih:=KU f (y::l) (by simp) (by grind) (fun z hz=>hd z (by grind)) hx;have e:cT (x::y::l)=x.toNat%128+128*cT (y::l):=rfl;rw [mC,e];by_cases hV:cT (y::l)=0
  . grind[DK]
  . have e1:(x.toNat%128+128*cT (y::l))%128+128=x.toNat:=by omega
    have e2:(x.toNat%128+128*cT (y::l))/128=cT (y::l):=by omega
    rw [e1,e2,UInt8.ofNat_toNat];grind[cT]
theorem CJ:∀(l:List UInt8),cT l<128^l.length
 | []=>by simp [cT]
 |x::l=>by
  have :=CJ l;simp [cT,D?,Nat.pow_succ];omega
theorem yY:∀(l m:List UInt8),cT (l++m)=cT l+128^l.length*cT m
 | [],m=>by simp [cT]
 |x::l,m=>by
  simp [List.cons_append,cT,yY l m,List.length_cons,Nat.pow_succ];grind
theorem Qp(b:List UInt8)(n:Nat)(h:∀x∈b.take n,128<=x.toNat)(hn:n<=b.length)(he:n=b.length\/(b.getD n 0).toNat<128):lead b=n:=by
 induction b generalizing n with
 |nil=>simp at hn;subst hn;rfl
 |cons x b ih=>
  cases n with
  |zero=>
   simp_all[List.getD_cons_zero,lead,List.takeWhile_cons,T!]
  |succ n=>
   have hx:=h x (by simp);have :=ih n (fun y hy=>h y (by simp [hy])) (by simpa using hn) (by simpa using he);simp [lead,List.takeWhile_cons] at this |-;rw [W! (by simpa using hx),D?,this]
theorem aer(b:List UInt8)(n:Nat)(h:∀x∈b.take n,128<=x.toNat)(hn:n<=b.length):n<=lead b:=by
 induction b generalizing n with
 |nil=>grind
 |cons x b ih=>
  cases n with
  |zero=>omega
  |succ n=>
   simp_all[lead,List.takeWhile_cons,W!,D?]
theorem Tf(b:List UInt8)(n:Nat)(hn:n<b.length):∃h,(b.take (n+1)).getLast h=b.getD n 0:=by
 refine⟨by intro h;simp_all,?_⟩;grind
theorem KV(b:List UInt8)(n:Nat)(h:∀x∈b.take n,128<=x.toNat)(hn:n<b.length)(h9:n<9)(he:(b.getD n 0).toNat<128):
  first b=if((1<=n/\(b.getD n 0).toNat=0)\/cT (b.take (n+1))>4611686018427387904) then(0,0,2) else((cT (b.take (n+1)):Int),(n:Int)+1,0):=by
 have hl:=Qp b n h (by omega) (.inr he);obtain⟨dR,Nw⟩:=Tf b n hn;have hlen:(b.take (n+1)).length=n+1:=by grind
 have hc:=KU 9 (b.take (n+1)) dR (by omega) (by
  grind[List.dropLast_eq_take]) (by grind)
 simp [first,hl,num,Int.toNat_natCast];grind
theorem aes(b:List UInt8)(h:∀x∈b.take 9,128<=x.toNat)(hn:9<=b.length):first b=(0,0,2):=by
 simp_all[aer,first,W!]
theorem Tg(b:List UInt8)(n:Nat)(h:∀x∈b.take n,128<=x.toNat)(hn:n=b.length)(h9:n<9):first b=(0,0,4):=by
 have :=Qp b n h (by omega) (.inl hn);simp_all[first,T!,W!]
theorem il(b:List UInt8):0<=(first b).1/\(first b).1<=4611686018427387904/\0<=(first b).2.1/\(first b).2.1<=b.length/\((first b).2.2=0\/(first b).2.2=2\/(first b).2.2=4):=by
 have hl:=Kj (fun x:UInt8=>decide (128<=x.toNat)) b;unfold first
 split
 . simp
 . split
   . simp
   . split
     . simp
     . simp [lead,not_or,Nat.not_lt] at *;grind
theorem aSo(b:List UInt8):Bv b 0:=by simp [Bv]
theorem abR {b:List UInt8} {x:Nat}(h:Bv b x)(h1:x<b.length)(h2:x<9)(h3:128<=(b.getD x 0).toNat):Bv b (x+1):=by
 refine⟨by omega,by omega,fun y hy=> ?_⟩;rw [au b x 0 h1] at hy;rcases F!.1 hy with hy|hy
 . exact h.2.2 y hy
 grind
theorem aPz {b:List UInt8} {x:Nat}(h:Bv b x):x<=9/\x<=b.length:=⟨h.1,h.2.1⟩
theorem azT {b:List UInt8}(h:Bv b 9):first b=(0,0,2):=aes b h.2.2 h.2.1
theorem aet {b:List UInt8} {x:Nat}(h:Bv b x)(h1:x=b.length)(h2:x≠9):first b=(0,0,4):=Tg b x h.2.2 h1 (by have :=h.1;omega)
theorem aNV {b:List UInt8} {x:Nat}(h:Bv b x)(h1:x<b.length)(h3:(b.getD x 0).toNat<128):lead b=x:=Qp b x h.2.2 h.2.1 (.inr h3)
theorem aLv(b:List UInt8)(n:Nat):anO b n n=0:=by
 have :(b.take (n+1)).drop (n+1)= []:=List.drop_eq_nil_of_le (by grind);simp [anO,show((n:Int)+1).toNat=n+1 by omega,this];rfl
theorem aKn(b:List UInt8)(n:Nat)(i:Int)(h0:0<=i)(h1:i<=n)(h2:n<b.length):anO b n (i-1)=anO b n i*128+((b.getD i.toNat 0).toNat:Int)%128:=by
 obtain⟨j,rfl⟩:=n? h0;have hj:j<(b.take (n+1)).length:=by rw [X!];omega
 simp only [anO,show((j:Int)-1+1).toNat=j by omega,show((j:Int)+1).toNat=j+1 by omega,Q!];rw [l? hj];simp only [cT,List.getElem_take];rw [H!,D! (by omega),Option.getD_some];omega
theorem aL6(b:List UInt8)(n:Nat)(i:Int)(h1: -1<=i)(h2:i<=n)(h3:n<9):0<=anO b n i/\anO b n i<=9223372036854775807/\(0<=i->anO b n i<=72057594037927935):=by
 have h:=CJ ((b.take (n+1)).drop (i+1).toNat);have hl:((b.take (n+1)).drop (i+1).toNat).length<=n+1-(i+1).toNat:=by grind
 have e:(128:Nat)^((b.take (n+1)).drop (i+1).toNat).length<=128^9:=Nat.pow_le_pow_right (by omega) (by omega);refine⟨by grind[anO],by grind[anO],fun h0=> ?_⟩;have e:(128:Nat)^((b.take (n+1)).drop (i+1).toNat).length<=128^8:=Nat.pow_le_pow_right (by omega) (by omega);grind[anO]
theorem aOA {b:List UInt8}(h1:lead b<b.length)(h2:lead b<9):first b=if anO b (lead b) (-1)>4611686018427387904\/num (anO b (lead b) (-1))≠b.take (lead b+1) then(0,0,2) else(anO b (lead b) (-1),(lead b:Int)+1,0):=by
 grind[anO,lead,cT,first]
theorem aSp {b:List UInt8}(h:Bv b (lead b))(h1:lead b<b.length)(h2:lead b<9) {i:Int}(h3: -1<=i)(h4:i<=lead b):aAJ b (lead b) i:=⟨h,h2,h1,h3,h4⟩
theorem aOB {b:List UInt8} {n:Nat} {i:Int}(h:aAJ b n i):n<9/\n<b.length/\ -1<=i/\i<=n:=h.2
theorem aHz {b:List UInt8} {p:Int}(h:dp b p):iy b p 0:=by grind[dp,iy]
theorem fK {b:List UInt8} {p:Int} {x:Nat}(h:iy b p x):x<=9/\p+x<=b.length:=⟨h.1,h.2.1⟩
theorem xZ(b:List UInt8)(p:Int)(x:Nat)(hp:0<=p):(b.drop p.toNat).getD x 0=b.getD (p+x).toNat 0:=by
 grind
theorem GM {b:List UInt8} {p:Int} {x:Nat}(hp:dp b p)(h:iy b p x):Bv (b.drop p.toNat) x:=by
 simp [dp] at hp;exact⟨h.1,by rw [V!];have :=h.2.1;omega,h.2.2⟩
theorem abS {b:List UInt8} {p:Int} {x:Nat}(hp:dp b p)(h:iy b p x)(h1:p+x<b.length)(h2:x≠9)(h3:128<=(b.getD (p+x).toNat 0).toNat):iy b p (x+1):=by
 have sX:=hp;simp [dp] at sX;have :=abR (GM hp h) (by grind) (by have :=h.1;omega) (by grind);exact⟨this.1,by omega,this.2.2⟩
theorem aeu {b:List UInt8} {p:Int}(hp:dp b p)(h:iy b p 9):aX b p=(0,0,2):=by
 grind[aX,azT,GM,KT]
theorem Qq {b:List UInt8} {p:Int} {x:Nat}(hp:dp b p)(h:iy b p x)(h1:(x:Int)=b.length-p)(h2:x≠9):aX b p=(0,0,4):=by
 have sX:=hp;simp [dp] at sX;have :=aet (GM hp h) (by grind) h2;grind[aX,KT]
theorem U2 {b:List UInt8} {p:Int} {x:Nat}(hp:dp b p)(h:iy b p x)(h1:p+x<b.length):
  Vg.cn (fg b p x) (Vg.aM ((b.getD (p+x).toNat 0).toNat:Int) 127*2^(7*(x:Int)).toNat)=fg b p (x+1):=by
 have sX:=hp;simp [dp] at sX;have hx:x<(b.drop p.toNat).length:=by grind
 rw [ix _ (by omega),wP,fJ _ _ _ (by omega) (by simp [fg])]
 . simp [fg];rw [au _ x 0 hx,yY,xZ _ _ _ sX.1,X!,y? (by omega)];simp [cT,show(7*(x:Int)).toNat=7*x by omega,Nat.mul_zero,Nat.add_zero];simp_all[Int.natCast_add,Int.natCast_mul,Int.natCast_pow,Int.natCast_emod,Int.pow_mul,Int.mul_comm,Int.add_comm]
 . simp [fg,show(7*(x:Int)).toNat=7*x by omega];grind[CJ,Nat.pow_le_pow_right,List.length_take,Int.natCast_pow,Int.pow_mul]
theorem aHA(b:List UInt8)(p:Int):fg b p 0=0:=by rfl
theorem ya {b:List UInt8} {p:Int} {x:Nat}(h:x<=9):0<=fg b p x/\fg b p x<=9223372036854775807:=by
 have :=CJ ((b.drop p.toNat).take x);have e:(128:Nat)^((b.drop p.toNat).take x).length<=128^9:=Nat.pow_le_pow_right (by omega) (by grind);grind[fg]
theorem uB(c:Int)(x:Nat)(h0:0<=c)(h1:c<=127)(hx:x<=8):0<=c*2^(7*(x:Int)).toNat/\c*2^(7*(x:Int)).toNat<=9223372036854775807:=by
 have eB:(2:Nat)^(7*(x:Int)).toNat<=2^56:=Nat.pow_le_pow_right (by omega) (by omega);have e:(2:Int)^(7*(x:Int)).toNat=((2^(7*(x:Int)).toNat:Nat):Int):=by simp
 have hp:(2:Int)^(7*(x:Int)).toNat<=72057594037927936:=by omega
 have hq:(0:Int)<2^(7*(x:Int)).toNat:=Int.pow_pos (by omega);constructor
 . exact Int.mul_nonneg h0 (by omega)
 . have :=Int.mul_le_mul h1 hp (by omega) (by omega);omega
theorem aev {b:List UInt8} {p:Int} {x:Nat}(hp:dp b p)(h:iy b p x)(h1:p+x<b.length)(h2:x≠9)(h3:(b.getD (p+x).toNat 0).toNat<128):
  aX b p=if((1<=x/\(b.getD (p+x).toNat 0).toNat=0)\/fg b p (x+1)>4611686018427387904) then(0,0,2) else(fg b p (x+1),p+(x+1),0):=by
 have sX:=hp;simp [dp] at sX;have :=KV (b.drop p.toNat) x h.2.2 (by grind) (by have :=h.1;omega) (by grind);rw [xZ _ _ _ sX.1] at this;simp [aX,this,fg];have e:(cT ((b.drop p.toNat).take (x+1))>4611686018427387904)↔((cT ((b.drop p.toNat).take (x+1)):Int)>4611686018427387904):=by omega
 simp [e];rw [apply_ite (KT p)];rfl
theorem aew(v:Int):1<=(num v).length:=by
 grind[num,mC]
theorem wR {l m:List UInt8} {v u:Int}(h:pM l v m u):m.length+1<=l.length+9:=by
 have :=congrArg List.length h.2.2;grind[bG,aew,List.length_append]
theorem abT {l m:List UInt8} {v u:Int}(h:pM l v m u)(h1:127<u)(h2:v<=9223372036854775807):
  pM l v (m++ [UInt8.ofNat (Vg.cn (Vg.aM u 127%256) 128).toNat]) (u/2^(7:Int).toNat):=by
 have h4:=h.2.1;have e:=U1 u (by omega) (by omega)
 have e2:Vg.cn (Vg.aM u 127%256) 128=u%128+128:=by
  grind[ix,GC]
 have h3:=h.2.2;refine⟨by grind,by grind,?_⟩;grind
theorem aex {l m:List UInt8} {v u:Int}(h:pM l v m u)(h1:¬127<u):m++ [UInt8.ofNat (u%256).toNat]=l++num v:=by
 have e:=Bw u (by omega);rw [<-h.2.2,e];have :=h.1;grind
theorem Bx {l m:List UInt8} {v u:Int}(h:pM l v m u):0<=u:=h.1
theorem Qr {b:List UInt8} {p:Int} {x:Nat}(hp:dp b p)(h:iy b p x)(h1:p+x<b.length)(h2:x≠9)(h3:(b.getD (p+x).toNat 0).toNat<128) {c:Bool}
  (hc:(bif decide (1<(x:Int)+1) then bif decide (((b.getD (p+((x:Int)+1)-1).toNat 0).toNat:Int)=0) then true else decide (4611686018427387904<Vg.cn (fg b p x) (Vg.aM ((b.getD (p+x).toNat 0).toNat:Int) 127*2^(7*(x:Int)).toNat)) else decide (4611686018427387904<Vg.cn (fg b p x) (Vg.aM ((b.getD (p+x).toNat 0).toNat:Int) 127*2^(7*(x:Int)).toNat)))=c):
  aX b p=if c=true then(0,0,2) else(Vg.cn (fg b p x) (Vg.aM ((b.getD (p+x).toNat 0).toNat:Int) 127*2^(7*(x:Int)).toNat),p+(x+1),0):=by
 have hf:=aev hp h h1 h2 h3;rw [<-hc,hf];rw [U2 hp h h1,show p+((x:Int)+1)-1=p+x by omega];grind
theorem CK {b:List UInt8} {p:Int} {x:Nat}(hp:dp b p)(h:iy b p x)(h1:p+x<b.length)(h2:x≠9)(h3:(b.getD (p+x).toNat 0).toNat<128)
  (hc:(bif decide (1<(x:Int)+1) then bif decide (((b.getD (p+((x:Int)+1)-1).toNat 0).toNat:Int)=0) then true else decide (4611686018427387904<Vg.cn (fg b p x) (Vg.aM ((b.getD (p+x).toNat 0).toNat:Int) 127*2^(7*(x:Int)).toNat)) else decide (4611686018427387904<Vg.cn (fg b p x) (Vg.aM ((b.getD (p+x).toNat 0).toNat:Int) 127*2^(7*(x:Int)).toNat)))=true):
  0=(aX b p).1/\0=(aX b p).2.1/\2=(aX b p).2.2:=by
 rw [Qr hp h h1 h2 h3 hc];grind
theorem CL {b:List UInt8} {p:Int} {x:Nat}(hp:dp b p)(h:iy b p x)(h1:p+x<b.length)(h2:x≠9)(h3:(b.getD (p+x).toNat 0).toNat<128)
  (hc:(bif decide (1<(x:Int)+1) then bif decide (((b.getD (p+((x:Int)+1)-1).toNat 0).toNat:Int)=0) then true else decide (4611686018427387904<Vg.cn (fg b p x) (Vg.aM ((b.getD (p+x).toNat 0).toNat:Int) 127*2^(7*(x:Int)).toNat)) else decide (4611686018427387904<Vg.cn (fg b p x) (Vg.aM ((b.getD (p+x).toNat 0).toNat:Int) 127*2^(7*(x:Int)).toNat)))=false):
  Vg.cn (fg b p x) (Vg.aM ((b.getD (p+x).toNat 0).toNat:Int) 127*2^(7*(x:Int)).toNat)=(aX b p).1/\p+(x+1)=(aX b p).2.1/\0=(aX b p).2.2:=by
 rw [Qr hp h h1 h2 h3 hc];grind
theorem Th {b:List UInt8} {p:Int}(hp:dp b p):0<=(aX b p).1/\(aX b p).1<=4611686018427387904/\0<=(aX b p).2.1/\(aX b p).2.1<=b.length/\((aX b p).2.2=0\/(aX b p).2.2=2\/(aX b p).2.2=4):=by
 have h:=il (b.drop p.toNat);grind[dp,List.length_drop,aX,KT]
theorem abU {b:List UInt8} {a e:Int}(h:bI b a e=0):0<=a/\a<=b.length/\e=0:=by
 grind[bI,inside]
end Go.S

end
