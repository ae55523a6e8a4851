import Derived.Test.YtfaedenbhlgnpaaGreatDoorPartB
set_option linter.unusedVariables false
set_option linter.unusedSimpArgs false
section
namespace Go.V
theorem pQ {a b:Bool}:((bif a then true else b)=true)=(a=true∨b=true):=by cases a<;>simp
theorem gm {a b:Bool}:((bif a then true else b)=false)=(a=false∧b=false):=by cases a<;>simp
theorem Ha {a b:Bool}:((bif a then b else false)=true)=(a=true∧b=true):=by cases a<;>simp
theorem vI {a b:Bool}:((bif a then b else false)=false)=(a=false∨b=false):=by cases a<;>simp
end Go.V
namespace Go.S
theorem aG {α:Type}(l:List α)(n:Nat)(d:α)(h:n<l.length):l.take (n+1)=l.take n++ [l.getD n d]:=by
 rw [List.take_add_one,List.getElem?_eq_getElem h];simp [List.getD,List.getElem?_eq_getElem h]
theorem bo {α:Type}(l:List α)(n:Nat)(d:α)(h:n<l.length):l.getD n d∈l:=by
 simp [List.getD,List.getElem?_eq_getElem h]
theorem z7 {α β:Type} {P:α→Prop} {f:α→β→α}:∀(l:List β) (a:α),P a→(∀a x,x∈l→P a→P (f a x))→P (l.foldl f a)
 | [],_,h,_=>h
 |x::l,a,h,hs=>z7 l (f a x) (hs a x (List.mem_cons_self ..) h) fun a y hy=>hs a y (List.mem_cons_of_mem _ hy)
theorem mem_set {α:Type} {l:List α} {i:Nat} {a b:α}(h:b∈l.set i a):b=a∨b∈l:=by
 rcases List.mem_or_eq_of_mem_set h with h|h
 · exact .inr h
 · exact .inl h
theorem DW {α:Type} {f:α→α}:∀ {l:List α},(∀x∈l,f x=x)→l.map f=l
 | [],_=>rfl
 |x::l,h=>by rw [List.map_cons,h x (List.mem_cons_self ..),DW fun y hy=>h y (List.mem_cons_of_mem _ hy)]
end Go.S
namespace Go.S
end Go.S

end
section
namespace Go.Vg
open Go
def St.xA(G:Nat→Option GD)(n:Nat)(cC:List AV)(hs:List AB):St:=
 {St.init G n cC with h:=fun k=>bif Nat.ble 50000 k&&Nat.blt k 60000 then hs[k-50000]? else none}
def sm:AB→Bool
 | .row _ _ _ true=>false
 |_=>true
def kindOk:AB→Bool
 | .row _ _ _ false=>true
 | .cells _=>true
 | .arr _ _=>true
 |_=>false
def V4:Option AB→Bool
 |some b=>kindOk b
 |none=>true
def NU(r:fv)(k:Nat):Bool:=n3 k&&(match r.heap[k-50000]? with
 |some (some _)=>true
 |_=>false)
def ig(r:fv)(k:Nat):Bool:= !(NU r k)
def pn(st:St)(k n e:Nat)(row:List Ty)(l:List (Row row)):St:=
 {st with
  t:=fun i=>dp 70000 (st.t i)
  h:=fun j=>bif Nat.beq j 70000 then some (.row e row (l.take n) false) else bif Nat.beq j k then none else match st.h j with
   |some b=>some (mP 70000 b)
   |none=>none}
def po(st:St)(x:AV):St×AV:=match x with
 | .pre k n=>match st.h k with
   |some (.row e row l false)=>(pn st k n e row l, .own 70000)
   |_=>(st,x)
 |_=>(st,x)
mutual
def sn(h:aP)(s:List (Nat×Option Nat))(bad:Nat→Bool):AV→AV→List Prop×List Nat
 | .sl r l, .own k=>xq h r l k
 | .agg xs, .agg ys=>kP h s bad xs ys
 | .cB xs, .cB ys=>kP h s bad xs ys
 | .own i,y=>(Dm s bad y (.own i),[])
 |x,y=>(Dm s bad (fq h y).1 x,(fq h y).2)
def kP(h:aP)(s:List (Nat×Option Nat))(bad:Nat→Bool):List AV→List AV→List Prop×List Nat
 | [],[]=>([],[])
 |x::xs,y::ys=>((sn h s bad x y).1++(kP h s bad xs ys).1,(sn h s bad x y).2++(kP h s bad xs ys).2)
 |_,_=>([False],[])
end
def qf(h:aP)(s:List (Nat×Option Nat))(bad:Nat→Bool):Option AB→AB→List Prop×List Nat
 |some (.cells xs), .cells ys=>kP h s bad ys xs
 |o,b=>(Dn s bad o b,[])
def jc(h:aP)(s:List (Nat×Option Nat))(bad:Nat→Bool):Nat→List (Option AB)→List Prop×List Nat
 |_,[]=>([],[])
 |i,some b::bs=>((qf h s bad (h (50000+i)) b).1++(jc h s bad (i+1) bs).1,(qf h s bad (h (50000+i)) b).2++(jc h s bad (i+1) bs).2)
 |i,none::bs=>jc h s bad (i+1) bs
def sV(h:aP)(s:List (Nat×Option Nat))(bad:Nat→Bool)(K:Nat)(b:AB):List Prop×List Nat:=match bQ s K with
 |some (some k)=>qf h s bad (h k) b
 |some none=>match b with
  | .row _ _ l false=>([[]=l],[])
  |_=>([False],[])
 |none=>([False],[])
def pq(h:aP)(s:List (Nat×Option Nat))(bad:Nat→Bool):Nat→List AB→List Prop×List Nat
 |_,[]=>([],[])
 |j,b::bs=>((sV h s bad (60000+j) b).1++(pq h s bad (j+1) bs).1,(sV h s bad (60000+j) b).2++(pq h s bad (j+1) bs).2)
def DX(h:aP):Nat→List (Option AB)→List (Nat×Option Nat)
 |_,[]=> []
 |i,some (.cells ys)::bs=>(match h (50000+i) with
  |some (.cells xs)=>o8 ys xs
  |_=> [])++DX h (i+1) bs
 |i,_::bs=>DX h (i+1) bs
def Js(h:aP)(s:List (Nat×Option Nat)):Nat→List AB→List (Nat×Option Nat)
 |_,[]=> []
 |j, .cells ys::bs=>(match bQ s (60000+j) with
  |some (some k)=>match h k with
   |some (.cells xs)=>o8 ys xs
   |_=> []
  |_=> [])++Js h s (j+1) bs
 |j,_::bs=>Js h s (j+1) bs
def yS(acc:List (Nat×Option Nat)):List (Nat×Option Nat)→List (Nat×Option Nat)
 | []=>acc
 |(k,x)::r=>bif Nat.ble 60000 k&&(match bQ acc k with|none=>true|some _=>false) then yS ((k,x)::acc) r else yS acc r
def agI(h:aP)(x:AV)(r:fv):List (Nat×Option Nat):=yS [] (Cp r.res x++DX h 0 r.heap)
def aeK(h:aP)(r:fv)(s:List (Nat×Option Nat)):List (Nat×Option Nat):=yS s (Js h s 0 r.new)
def amQ(h:aP)(x:AV)(r:fv):List (Nat×Option Nat):=aeK h r (aeK h r (agI h x r))
def DY(h:aP)(s:List (Nat×Option Nat))(x:AV)(r:fv):List Nat:=(sn h s (ig r) r.res x).2++((jc h s (ig r) 0 r.heap).2++(pq h s (ig r) 0 r.new).2)
def Jt(h:aP)(x:AV)(r:fv)(s:List (Nat×Option Nat)):Prop :=
 bif gW (dy s)&&(((dy s).all (ig r))&&((s.all fun y=>Nat.ble 60000 y.1)&&(((DY h s x r).all fun k=> !aE (dy s) k&&ig r k)&&(r.new.all kindOk&&r.heap.all V4)))) then
  AN ((sn h s (ig r) r.res x).1++((jc h s (ig r) 0 r.heap).1++(pq h s (ig r) 0 r.new).1)) else False
def DZ(T:bT)(st:St)(rs:List ResultVar)(r:fv):Prop :=match jS T st rs with
 |none=>False
 |some aF=>Jt (po st (e8 aF)).1.h (po st (e8 aF)).2 r (amQ (po st (e8 aF)).1.h (po st (e8 aF)).2 r)
def ŧ(T:bT)(rs:List ResultVar)(r:fv)(e:Ex)(st:St):Prop :=match e with
 | .norm=>DZ T st rs r
 | .ret=>DZ T st rs r
 |_=>False
def NV(E:Env)(L:Nat→Option an)(c:Code)(n:Nat)(rs:List ResultVar)(cC:List AV)(hs:List AB)(r:fv):Prop :=
 bif Nat.ble cC.length n then lA E L c (ŧ E.T rs r) (St.xA E.lq n cC hs) else False
section
variable {P:Program} {C:Ctx} {E:Env} {A A':Nat→Prop} {β aI:Nat→Value} {st:St} {a:Act} {w:World} {T:bT}
theorem D1 {G:Nat→Option GD} {n:Nat} {cC:List AV} {hs:List AB} {k:Nat} {ab:AB}(h:(St.xA G n cC hs).h k=some ab):∃i,k=50000+i∧hs[i]? =some ab:=by
 simp only [St.xA] at h
 cases hb:(Nat.ble 50000 k&&Nat.blt k 60000) with
 |false=>rw [hb] at h;cases h
 |true=>
  rw [hb] at h
  simp only [Bool.and_eq_true] at hb
  have :=Nat.le_of_ble_eq_true hb.1
  exact⟨k-50000,by omega,h⟩
theorem aD.xA {G:Nat→Option GD} {args:List Value} {cC:List AV} {hs:List AB} {n:Nat}(hA:∀b,A b→b<w.heap.size)(hG:∀i d,G i=some d→oM w A i d)(hr:ae w A β args cC)(hn:cC.length≤n)
  (fO:∀i ab,hs[i]? =some ab→BR w A β (50000+i) ab) (B6:∀i j b,i<hs.length→j<hs.length→aw (β (50000+i))=some b→aw (β (50000+j))=some b→i=j):
  aD ⟨w,A,HM β hs.length,G,β⟩ A β (St.xA G n cC hs) {tmps:=args.toArray++Array.replicate (n-args.toArray.size) undef,defers:= []} w:=by
 have hI:=aD.init (β:=β) (G:=G) (n:=n) hA hG hr hn
 have hk:∀k,((St.xA G n cC hs).h k).isSome→∃i,k=50000+i∧i<hs.length:=by
  intro k hk
  obtain⟨ab,fw⟩:=Option.isSome_iff_exists.1 hk
  obtain⟨i,h1,h2⟩:=D1 fw
  exact⟨i,h1,(List.getElem?_eq_some_iff.1 h2).1⟩
 refine⟨hI.defers,hI.size,hI.tmps,fun k ab h=> ?_,fun k k' b h h' hb bw=> ?_,hI.bound,⟨rfl,rfl,rfl,Nat.le_refl _,fun b _ _=>rfl⟩,fun b _ h=> .inl h,fun b h=>h,fun k b h hb=> ?_,fun i d h=>h,hG,fun k _=>rfl⟩
 · obtain⟨i,rfl,h2⟩:=D1 h
   exact fO i ab h2
 · obtain⟨i,rfl,h1⟩:=hk k h
   obtain⟨j,rfl,h2⟩:=hk k' h'
   rw [B6 i j b h1 h2 hb bw]
 · obtain⟨i,rfl,h1⟩:=hk k h
   exact .inr ⟨i,h1,hb⟩
theorem V5 {hs:List AB}(hnf:∀ab∈hs,sm ab=true)(fO:∀i ab,hs[i]? =some ab→BR w A β (50000+i) ab):∀b,HM β hs.length b→¬A b:=by
 rintro b ⟨i,hi,hb⟩
 have hg:=List.getElem?_eq_getElem hi
 have h:=fO i _ hg
 have hn:=hnf _ (List.getElem_mem hi)
 generalize hs[i]=ab at h hn
 cases ab with
 |cells cs=>
  obtain⟨b',arr,e,h1,h2,h3,_⟩:=h
  rw [h1] at hb;simp only [aw,Option.some.injEq] at hb;subst hb;exact h3
 |arr row l=>
  obtain⟨b',arr,e,h1,h2,h3,_⟩:=h
  rw [h1] at hb;simp only [aw,Option.some.injEq] at hb;subst hb;exact h3
 |views e j n m sz=>
  obtain⟨xs,h1,h2,_⟩:=h
  exact h2 b hb
 |row e row l fr=>
  obtain⟨xs,h1,h2,h3⟩:=h
  cases fr with
  |true=>simp [sm] at hn
  |false=>simpa using h3 b hb
 |gw e j row l i=>
  obtain⟨xs,v0,h1,h2,_⟩:=h
  exact h2 b hb
theorem aD.shrink(hB:aD C A β st a w) {k n e:Nat} {row:List Ty} {l:List (Row row)} {v:Value}(hk:st.h k=some (.row e row l false))(hv:aa w A β v (.pre k n)):
  aD C A (bD β 70000 v) (pn st k n e row l) a w∧aa w A (bD β 70000 v) v (.own 70000):=by
 obtain⟨xs,o1,o2,o3⟩:=CX hB hk
 have CY:=dV l xs n o2
 have fM:w.ownsRow 0 e row.length v n (xs.take (n*row.length))∧n≤l.length∧aw v=aw (β k):=by
  simp only [aa] at hv
  rcases hv with⟨h1,h2,h3⟩|⟨b,mm,cap,h1,h2,h3⟩
  · subst h3;subst h2;rw [h1]
    exact⟨by simpa using World.ownsRow_nil w 0 e row.length,by omega,rfl⟩
  · rcases o1.2 with⟨g1,_⟩|⟨g,hX,cur,g1,g2,g3,g4,g5,g6,g7⟩
    · rw [h1] at g1;cases g1
    · rw [h1] at g1
      simp only [Value.slice.injEq,Option.some.injEq,Addr.mk.injEq,and_true] at g1
      obtain⟨rfl,rfl,rfl⟩:=g1
      refine⟨⟨?_, .inr ⟨b,cap,cur,h2,by omega,g3,by omega,g5,g6,?_⟩⟩,h3,by rw [h1,h2];rfl⟩
      · rw [List.length_take,o1.1]
        exact Nat.min_eq_left (Nat.mul_le_mul_right _ h3)
      · rw [←g7,List.take_take,Nat.min_eq_left (Nat.mul_le_mul_right _ h3)]
 obtain⟨fM,Vq,Vr⟩:=fM
 have gR:v.oneCell'=true :=by
  simp only [aa] at hv
  rcases hv with⟨_,h2,_⟩|⟨b,mm,cap,_,h2,_⟩<;>subst h2<;>rfl
 have hs:∀j,((pn st k n e row l).h j).isSome→(j=70000∧bD β 70000 v j=v)∨(j≠70000∧j≠k∧(st.h j).isSome∧bD β 70000 v j=β j):=by
  intro j hj
  by_cases h7:j=70000
  · subst h7;exact .inl ⟨rfl,by simp [bD]⟩
  · simp only [pn,aO h7,cond_false] at hj
    by_cases yp:j=k
    · subst yp;simp [bC] at hj
    · rw [aO yp] at hj
      refine .inr ⟨h7,yp,?_,by simp [bD,h7]⟩
      cases hh:st.h j with
      |none=>rw [hh] at hj;cases hj
      |some x=>rfl
 have T0:∀j b,((pn st k n e row l).h j).isSome→aw (bD β 70000 v j)=some b→∃j',(st.h j').isSome∧aw (β j')=some b∧((j=70000∧j'=k)∨(j≠70000∧j'=j∧j≠k)):=by
  intro j b hj hb
  rcases hs j hj with⟨h1,h2⟩|⟨h1,h2,h3,h4⟩
  · rw [h2,Vr] at hb;exact⟨k,by simp [hk],hb, .inl ⟨h1,rfl⟩⟩
  · rw [h4] at hb;exact⟨j,h3,hb, .inr ⟨h1,rfl,h2⟩⟩
 refine⟨⟨hB.defers,hB.size,fun i=>rP 70000 v _ _ (hB.tmps i),fun j ab hj=> ?_,fun j j' b h1 h2 g1 g2=> ?_,hB.bound,hB.frame,hB.kg,hB.base,fun j b h1 g1=> ?_,hB.qz,hB.laid,fun j hj=> ?_⟩,?_⟩
 · by_cases h7:j=70000
   · subst h7
     simp only [pn,bC,cond_true,Option.some.injEq] at hj
     subst hj
     have e1:bD β 70000 v 70000=v:=by simp [bD]
     simp only [BR,e1]
     refine⟨_,?_,CY.1,fun b hb=> ?_⟩
     · rw [List.length_take,Nat.min_eq_left Vq];exact fM
     · rw [Vr] at hb;simpa using o3 b hb
   · simp only [pn,aO h7,cond_false] at hj
     by_cases yp:j=k
     · subst yp;simp [bC] at hj
     · rw [aO yp] at hj
       cases hh:st.h j with
       |none=>rw [hh] at hj;cases hj
       |some x=>
        rw [hh] at hj
        simp only [cond_false,Option.some.injEq] at hj
        subst hj
        exact tp (new:= [(70000, .cells [])]) (w':=w) (A':=A) (aI:=bD β 70000 v) (fun q hq=>by
         have :¬q=70000:=by rintro rfl;simp [aq] at hq
         simp [bD,this]) (by simp [bD,h7]) (fun b _=>⟨rfl,id⟩) (fun b hb=>⟨hb,rfl⟩) (hB.blocks j x hh)
 · obtain⟨i,a1,a2,a3⟩:=T0 j b h1 g1
   obtain⟨i',b1,b2,b3⟩:=T0 j' b h2 g2
   have :=hB.apart i i' b a1 b1 a2 b2
   subst this
   rcases a3 with⟨p1,p2⟩|⟨p1,p2,p3⟩<;>rcases b3 with⟨q1,q2⟩|⟨q1,q2,q3⟩
   · rw [p1,q1]
   · exact absurd (q2.symm.trans p2) q3
   · exact absurd (p2.symm.trans q2) p3
   · exact p2.symm.trans q2
 · obtain⟨i,a1,a2,_⟩:=T0 j b h1 g1
   exact hB.nr i b a1 a2
 · have :¬j=70000:=by rintro rfl;simp [n3] at hj
   simp only [bD,if_neg this]
   exact hB.held j hj
 · simp only [aa]
   exact⟨by simp [bD],gR⟩
theorem Ju(hB:aD C A β st a w) {x:AV} {v:Value}(hv:aa w A β v x):∃aI,aD C A aI (po st x).1 a w∧aa w A aI v (po st x).2:=by
 unfold po
 split
 · rename_i k n
   split
   · rename_i e row l hk
     obtain⟨h1,h2⟩:=hB.shrink hk hv
     exact⟨_,h1,h2⟩
   · exact⟨β,hB,hv⟩
 · exact⟨β,hB,hv⟩
mutual
theorem so(hB:aD C A β st a w) {s:List (Nat×Option Nat)} {bad:Nat→Bool}(hA:∀b,A b→A' b)(hK:Keyed bad s β aI):∀(x y:AV) (v:Value),
  (∀p∈(sn st.h s bad x y).1,p)→(∀k∈(sn st.h s bad x y).2,∀b,aw (β k)=some b→A' b)→aa w A β v y→aa w A' aI v x∧∀k∈(sn st.h s bad x y).2,(st.h k).isSome
 |x,y,v,h,hF,hr=>by
  generalize he:sn st.h s bad x y=r at h hF ⊢
  unfold sn at he
  split at he
  · rename_i r0 l0 k
    subst he
    exact yP hB hA r0 l0 k v h hF hr
  · rename_i xs ys
    subst he
    simp only [aa] at hr ⊢
    obtain⟨arr,e1,e2⟩:=hr
    obtain⟨g1,g2⟩:=kz hB hA hK xs ys _ h hF e2
    exact⟨⟨arr,e1,g1⟩,g2⟩
  · rename_i xs ys
    subst he
    simp only [aa] at hr ⊢
    obtain⟨arr,e1,e2⟩:=hr
    obtain⟨g1,g2⟩:=kz hB hA hK xs ys _ h hF e2
    exact⟨⟨arr,e1,g1⟩,g2⟩
  · subst he
    exact⟨ix (fun b hb=>⟨hA b hb,rfl⟩) _ _ (mB hK _ _ _ h hr),fun k hk=>by cases hk⟩
  · subst he
    obtain⟨g1,g2⟩:=oD hB hr hA hF
    exact⟨mB hK _ _ _ h g1,fun k hk=>by obtain⟨e,row,l,fr,hr⟩:=g2 k hk;simp [hr]⟩
theorem kz(hB:aD C A β st a w) {s:List (Nat×Option Nat)} {bad:Nat→Bool}(hA:∀b,A b→A' b)(hK:Keyed bad s β aI):∀(xs ys:List AV) (vs:List Value),
  (∀p∈(kP st.h s bad xs ys).1,p)→(∀k∈(kP st.h s bad xs ys).2,∀b,aw (β k)=some b→A' b)→ae w A β vs ys→ae w A' aI vs xs∧∀k∈(kP st.h s bad xs ys).2,(st.h k).isSome
 | [],[],vs,_,_,hr=>by
   simp only [ae] at hr ⊢
   exact⟨hr,fun k hk=>by simp [kP] at hk⟩
 |x::xs,y::ys,vs,h,hF,hr=>by
  simp only [kP] at h hF ⊢
  obtain⟨g1,g2⟩:=iK h
  simp only [ae] at hr ⊢
  obtain⟨v,bG,e,r1,r2⟩:=hr
  obtain⟨q1,q2⟩:=so hB hA hK x y v g1 (fun k hk=>hF k (List.mem_append_left _ hk)) r1
  obtain⟨q3,q4⟩:=kz hB hA hK xs ys bG g2 (fun k hk=>hF k (List.mem_append_right _ hk)) r2
  refine⟨⟨v,bG,e,q1,q3⟩,fun k hk=> ?_⟩
  rcases List.mem_append.1 hk with hk|hk
  · exact q2 k hk
  · exact q4 k hk
 | [],_::_,vs,h,_,_=>by simp only [kP] at h;exact(aT h).elim
 |_::_,[],vs,h,_,_=>by simp only [kP] at h;exact(aT h).elim
end
theorem agK {k:Nat} {b:AB}(hA:∀b,A b→A' b)(hk:kindOk b=true)(xg:∀g,aw (β k)=some g→¬A g→¬A' g)(h:BR w A β k b):BR w A' β k b:=by
 have hK:cL w w A A':=fun b hb=>⟨hA b hb,rfl⟩
 cases b with
 |cells cs=>
  obtain⟨g,arr,e,h1,h2,h3,h4,h5⟩:=h
  exact⟨g,arr,e,h1,h2,xg g (by rw [h1];rfl) h3,en hK _ _ h4,h5⟩
 |arr row l=>
  obtain⟨g,arr,e,h1,h2,h3,h4⟩:=h
  exact⟨g,arr,e,h1,h2,xg g (by rw [h1];rfl) h3,bA (fun c x hx=>bB hK row c x hx) l _ h4⟩
 |views e j n m sz=>simp [kindOk] at hk
 |gw _ _ _ _ _=>simp [kindOk] at hk
 |row e row l fr=>
  cases fr with
  |true=>simp [kindOk] at hk
  |false=>
   obtain⟨xs,x1,x2,x3⟩:=h
   refine⟨xs,x1,bA (fun c x hx=>bB hK row c x hx) l xs x2,fun b hb=> ?_⟩
   have :=x3 b hb
   simp only [Bool.false_eq_true,if_false] at this ⊢
   exact xg b hb this
theorem Be(hB:aD C A β st a w) {s:List (Nat×Option Nat)} {bad:Nat→Bool}(hA:∀b,A b→A' b)(hK:Keyed bad s β aI) {k K:Nat} {b:AB}(hk:aI K=β k)(D3:kindOk b=true)
  (h:∀p∈(qf st.h s bad (st.h k) b).1,p) (hF:∀q∈(qf st.h s bad (st.h k) b).2,∀g,aw (β q)=some g→A' g) (xg:∀g,aw (β k)=some g→¬A g→¬A' g):BR w A' aI K b:=by
 generalize he:qf st.h s bad (st.h k) b=r at h hF
 unfold qf at he
 split at he
 · rename_i xs ys kn
   subst he
   obtain⟨g,arr,e,h1,h2,h3,h4,h5⟩:=hB.blocks k _ kn
   obtain⟨q1,_⟩:=kz hB hA hK ys xs _ h hF h4
   exact⟨g,arr,e,hk.trans h1,h2,xg g (by rw [h1];rfl) h3,q1,h5⟩
 · subst he
   obtain⟨c,hc⟩:=rp h
   rw [hc] at h
   exact agK hA D3 (by rw [hk];exact xg) (sd hK hk h (hB.blocks k c hc))
theorem sq(hB:aD C A β st a w) {s:List (Nat×Option Nat)} {bad:Nat→Bool}(hK:Keyed bad s β aI) {k:Nat} {b:AB}
  (h:∀p∈(qf st.h s bad (st.h k) b).1,p):(st.h k).isSome∧∀q∈(qf st.h s bad (st.h k) b).2,(st.h q).isSome:=by
 generalize he:qf st.h s bad (st.h k) b=r at h ⊢
 unfold qf at he
 split at he
 · rename_i xs ys kn
   subst he
   obtain⟨g,arr,e,h1,h2,h3,h4,h5⟩:=hB.blocks k _ kn
   exact⟨by simp [kn],(kz (A':=fun _=>True) hB (fun _ _=>trivial) hK ys xs _ h (fun _ _ _ _=>trivial) h4).2⟩
 · subst he
   obtain⟨c,hc⟩:=rp h
   exact⟨by simp [hc],fun q hq=>by cases hq⟩
theorem qg {h:aP} {s:List (Nat×Option Nat)} {bad:Nat→Bool}:∀(bs:List (Option AB)) (i j:Nat) (b:AB),bs[j]? =some (some b)→
  (∀p∈(qf h s bad (h (50000+(i+j))) b).1,p∈(jc h s bad i bs).1)∧∀p∈(qf h s bad (h (50000+(i+j))) b).2,p∈(jc h s bad i bs).2
 |some b0::bs,i,0,b,hb=>by
  simp only [List.getElem?_cons_zero,Option.some.injEq] at hb
  subst hb
  simp only [jc]
  exact⟨fun p hp=>List.mem_append_left _ hp,fun p hp=>List.mem_append_left _ hp⟩
 |some b0::bs,i,j+1,b,hb=>by
  simp only [jc]
  have :=qg (h:=h) (s:=s) (bad:=bad) bs (i+1) j b (by simpa using hb)
  rw [show i+1+j=i+(j+1) by omega] at this
  exact⟨fun p hp=>List.mem_append_right _ (this.1 p hp),fun p hp=>List.mem_append_right _ (this.2 p hp)⟩
 |none::bs,i,0,b,hb=>by simp at hb
 |none::bs,i,j+1,b,hb=>by
  simp only [jc]
  have :=qg (h:=h) (s:=s) (bad:=bad) bs (i+1) j b (by simpa using hb)
  rwa [show i+1+j=i+(j+1) by omega] at this
theorem uq {h:aP} {s:List (Nat×Option Nat)} {bad:Nat→Bool}:∀(bs:List (Option AB)) (i:Nat) (q:Nat),q∈(jc h s bad i bs).2→
  ∃(j:Nat) (b:AB),bs[j]? =some (some b)∧q∈(qf h s bad (h (50000+(i+j))) b).2
 | [],i,q,hq=>by simp [jc] at hq
 |some b0::bs,i,q,hq=>by
  simp only [jc,List.mem_append] at hq
  rcases hq with hq|hq
  · exact⟨0,b0,rfl,hq⟩
  · obtain⟨j,b,h1,h2⟩:=uq bs (i+1) q hq
    exact⟨j+1,b,by simpa using h1,by rwa [show i+1+j=i+(j+1) by omega] at h2⟩
 |none::bs,i,q,hq=>by
  simp only [jc] at hq
  obtain⟨j,b,h1,h2⟩:=uq bs (i+1) q hq
  exact⟨j+1,b,by simpa using h1,by rwa [show i+1+j=i+(j+1) by omega] at h2⟩
theorem xB {h:aP} {s:List (Nat×Option Nat)} {bad:Nat→Bool}:∀(bs:List AB) (i j:Nat) (b:AB),bs[j]? =some b→
  (∀p∈(sV h s bad (60000+(i+j)) b).1,p∈(pq h s bad i bs).1)∧∀p∈(sV h s bad (60000+(i+j)) b).2,p∈(pq h s bad i bs).2
 |b0::bs,i,0,b,hb=>by
  simp only [List.getElem?_cons_zero,Option.some.injEq] at hb
  subst hb
  simp only [pq]
  exact⟨fun p hp=>List.mem_append_left _ hp,fun p hp=>List.mem_append_left _ hp⟩
 |b0::bs,i,j+1,b,hb=>by
  simp only [pq]
  have :=xB (h:=h) (s:=s) (bad:=bad) bs (i+1) j b (by simpa using hb)
  rw [show i+1+j=i+(j+1) by omega] at this
  exact⟨fun p hp=>List.mem_append_right _ (this.1 p hp),fun p hp=>List.mem_append_right _ (this.2 p hp)⟩
theorem D4 {h:aP} {s:List (Nat×Option Nat)} {bad:Nat→Bool}:∀(bs:List AB) (i:Nat) (q:Nat),q∈(pq h s bad i bs).2→
  ∃(j:Nat) (b:AB),bs[j]? =some b∧q∈(sV h s bad (60000+(i+j)) b).2
 | [],i,q,hq=>by simp [pq] at hq
 |b0::bs,i,q,hq=>by
  simp only [pq,List.mem_append] at hq
  rcases hq with hq|hq
  · exact⟨0,b0,rfl,hq⟩
  · obtain⟨j,b,h1,h2⟩:=D4 bs (i+1) q hq
    exact⟨j+1,b,by simpa using h1,by rwa [show i+1+j=i+(j+1) by omega] at h2⟩
theorem Jv(hT:bt T P) {fn:Func}(hB:aD C A β st a w) {aF:List AV}(h:jS T st fn.results.toList=some aF):∃v,(results fn a.tmps).run P w= .ok v w∧aa w A β v (e8 aF):=by
 obtain⟨vs,p1,p2⟩:=og hT hB fn.results.toList aF h
 have hl:=cY aF vs p2
 refine⟨if h:vs.toArray.size=1 then vs.toArray[0] else .tuple vs.toArray,?_,?_⟩
 · rw [Bc,Array.mapM_eq_mapM_toList]
   simp only [Sem.run_bind,map_eq_pure_bind,p1,Result.andThen_ok,Sem.run_pure]
 · match aF,vs,hl,p2 with
   | [x],[v],_,p2=>
     simp only [ae] at p2
     obtain⟨v',bG,e,g1,_⟩:=p2
     simp only [List.cons.injEq] at e
     rw [e.1]
     simpa [e8] using g1
   | [],[],_,p2=>
     simp only [e8]
     simp [aa,ae]
   |x::y::l,v::u::m,_,p2=>
    have dJ:¬(v::u::m).toArray.size=1:=by simp
    rw [dif_neg dJ]
    simp only [e8,aa]
    exact⟨_,rfl,by simpa using p2⟩
theorem Jw {w0:World} {A0:Nat→Prop} {G:Nat→Option GD} {yc kU:Nat→Value} {n:Nat}(hB:aD ⟨w0,A0,HM yc n,G,yc⟩ A kU st a w) {r:fv} {x:AV} {v:Value} {s:List (Nat×Option Nat)}
  (hn:r.heap.length=n) (Nv:n≤100) (hA0:∀b,HM yc n b→¬A0 b) (wh:∀b,A0 b→b<w0.heap.size) (Gc:aa w A kU v x) (h:Jt st.h x r s):
  ∃A' aI,I2 w0 A0 yc n w v r A' aI:=by
 unfold Jt at h
 cases hq:(gW (dy s)&&(((dy s).all (ig r))&&((s.all fun y=>Nat.ble 60000 y.1)&&(((DY st.h s x r).all fun k=> !aE (dy s) k&&ig r k)&&(r.new.all kindOk&&r.heap.all V4))))) with
 |false=>rw [hq] at h;exact h.elim
 |true=>
  rw [hq] at h
  simp only [cond_true] at h
  simp only [Bool.and_eq_true,List.all_eq_true] at hq
  obtain⟨q1,q2,q3,q4,q5,q6⟩:=hq
  obtain⟨c1,c2⟩:=iK (oF _ h)
  obtain⟨c2,c3⟩:=iK c2
  let F:=DY st.h s x r
  let fW:Nat→Value:=fun i=>match bQ s i with
   |some (some k)=>kU k
   |some none=>nX
   |none=>kU i
  have h60:∀K y,bQ s K=some y→60000≤K:=by
   have :∀(l:List (Nat×Option Nat)),(∀z∈l,Nat.ble 60000 z.1=true)→∀K y,bQ l K=some y→60000≤K:=by
    intro l
    induction l with
    |nil=>intro _ K y h;cases h
    |cons z l ih=>
     intro hl K y h
     obtain⟨z1,z2⟩:=z
     simp only [bQ] at h
     cases hb:Nat.beq K z1 with
     |true=>rw [Nat.eq_of_beq_eq_true hb];exact Nat.le_of_ble_eq_true (hl _ (List.mem_cons_self ..))
     |false=>rw [hb] at h;exact ih (fun z hz=>hl z (List.mem_cons_of_mem _ hz)) K y h
   exact this s q3
  have V6:∀K,ig r K=false→n3 K=true∧bQ s K=none∧∃ab,r.heap[K-50000]? =some (some ab):=by
   intro K hK
   simp only [ig,NU,Bool.not_eq_false',Bool.and_eq_true] at hK
   obtain⟨k1,k2⟩:=hK
   refine⟨k1,?_,?_⟩
   · cases hl:bQ s K with
     |none=>rfl
     |some y=>
      have :=h60 K y hl
      simp only [n3,Bool.and_eq_true] at k1
      have :=Nat.le_of_ble_eq_true k1.2
      omega
   · split at k2
     · rename_i ab fw;exact⟨ab,fw⟩
     · cases k2
  have wg:Keyed (ig r) s kU fW:=⟨fun K k h=>by simp only [fW,h],fun K h=>by simp only [fW,h],fun K h _=>by simp only [fW,h],fun K h=>by simp only [fW,(V6 K h).2.1]⟩
  have Jx:∀i ab,r.heap[i]? =some (some ab)→i<100∧ig r (50000+i)=false∧fW (50000+i)=kU (50000+i)∧kU (50000+i)=yc (50000+i):=by
   intro i ab hi
   have eD:=(List.getElem?_eq_some_iff.1 hi).1
   have hip:n3 (50000+i)=true :=by
    simp only [n3,Bool.and_eq_true]
    exact⟨Nat.ble_eq_true_of_le (by omega),Nat.ble_eq_true_of_le (by omega)⟩
   have hb:ig r (50000+i)=false :=by
    simp only [ig,NU,hip,Bool.true_and,Nat.add_sub_cancel_left,hi,Bool.not_true]
   exact⟨by omega,hb,by simp only [fW,(V6 _ hb).2.1],hB.held _ hip⟩
  have Jy:∀q∈F,(st.h q).isSome:=by
   intro q hq
   simp only [F,DY,List.mem_append] at hq
   rcases hq with hq|hq|hq
   · exact(so (A':=fun _=>True) hB (fun _ _=>trivial) wg r.res x v c1 (fun _ _ _ _=>trivial) Gc).2 q hq
   · obtain⟨j,b,h1,h2⟩:=uq _ _ _ hq
     have hm:=qg (h:=st.h) (s:=s) (bad:=ig r) r.heap 0 j b h1
     exact(sq hB wg (fun p hp=>c2 p (hm.1 p hp))).2 q h2
   · obtain⟨j,b,h1,h2⟩:=D4 _ _ _ hq
     have hm:=xB (h:=st.h) (s:=s) (bad:=ig r) r.new 0 j b h1
     have hc:∀p∈(sV st.h s (ig r) (60000+(0+j)) b).1,p:=fun p hp=>c3 p (hm.1 p hp)
     generalize hg:sV st.h s (ig r) (60000+(0+j)) b=g at hc h2
     unfold sV at hg
     split at hg
     · subst hg;exact(sq hB wg hc).2 q h2
     · split at hg<;>(subst hg;cases h2)
     · subst hg;cases h2
  have hFA:∀q∈F,∀b,aw (kU q)=some b→bK A kU F b:=fun q hq b hb=> .inr ⟨q,hq,hb⟩
  have hAA:∀b,A b→bK A kU F b:=fun b hb=> .inl hb
  have xg:∀k,(st.h k).isSome→k∉F→∀g,aw (kU k)=some g→¬A g→¬bK A kU F g:=by
   rintro k hk hkF g hg jg (hAg|⟨j,hj,hjg⟩)
   · exact jg hAg
   · have :=hB.apart j k g (Jy j hj) hk hjg hg
     subst this
     exact hkF hj
  have V7:∀k,(k∈dy s∨ig r k=false)→k∉F:=by
   rintro k hk hF
   have h4:=q4 k hF
   rcases hk with hk|hk
   · have :=jP.2 hk
     rw [this] at h4;simp at h4
   · rw [hk] at h4;simp at h4
  have Nh:∀i ab,r.heap[i]? =some (some ab)→BR w (bK A kU F) fW (50000+i) ab∧(st.h (50000+i)).isSome:=by
   intro i ab hi
   obtain⟨_,hb,bU,_⟩:=Jx i ab hi
   have hm:=qg (h:=st.h) (s:=s) (bad:=ig r) r.heap 0 i ab hi
   rw [Nat.zero_add] at hm
   have hl:=sq (k:=50000+i) hB wg (fun p hp=>c2 p (hm.1 p hp))
   have D3:kindOk ab=true :=q6 _ (List.mem_of_getElem? hi)
   exact⟨Be hB hAA wg bU D3 (fun p hp=>c2 p (hm.1 p hp)) (fun q hq=>hFA q (by simp only [F,DY,List.mem_append];exact .inr (.inl (hm.2 q hq)))) (xg _ hl.1 (V7 _ (.inr hb))),hl.1⟩
  have hN1:∀j ab,r.new[j]? =some ab→BR w (bK A kU F) fW (60000+j) ab∧(fW (60000+j)=nX∨∃k,bQ s (60000+j)=some (some k)∧fW (60000+j)=kU k∧(st.h k).isSome):=by
   intro j ab hj
   have hm:=xB (h:=st.h) (s:=s) (bad:=ig r) r.new 0 j ab hj
   rw [Nat.zero_add] at hm
   have hc:∀p∈(sV st.h s (ig r) (60000+j) ab).1,p:=fun p hp=>c3 p (hm.1 p hp)
   have hf:∀q∈(sV st.h s (ig r) (60000+j) ab).2,q∈F:=fun q hq=>by simp only [F,DY,List.mem_append];exact .inr (.inr (hm.2 q hq))
   have D3:kindOk ab=true :=q5 _ (List.mem_of_getElem? hj)
   generalize hg:sV st.h s (ig r) (60000+j) ab=g at hc hf
   unfold sV at hg
   split at hg
   · rename_i k hk
     subst hg
     have bU:fW (60000+j)=kU k:=by simp only [fW,hk]
     have hl:=sq (k:=k) hB wg hc
     exact⟨Be hB hAA wg bU D3 hc (fun q hq=>hFA q (hf q hq)) (xg _ hl.1 (V7 _ (.inl (gC s _ _ hk)))), .inr ⟨k,hk,bU,hl.1⟩⟩
   · rename_i hk
     have bU:fW (60000+j)=nX:=by simp only [fW,hk]
     split at hg
     · subst hg
       exact⟨Jn bU (aT hc), .inl bU⟩
     · subst hg;exact(aT hc).elim
   · subst hg;exact(aT hc).elim
  have ra:=(so hB hAA wg r.res x v c1 (fun q hq=>hFA q (by simp only [F,DY,List.mem_append];exact .inl hq)) Gc).1
  have eY:∀k b,Nq r k→aw (fW k)=some b→∃k',(st.h k').isSome∧aw (kU k')=some b∧((ig r k=false∧k'=k)∨bQ s k=some (some k')):=by
   rintro k b (⟨i,ab,rfl,_,hi⟩|⟨j,rfl,hj⟩) hb
   · obtain⟨_,h1,h2,_⟩:=Jx i ab hi
     rw [h2] at hb
     exact⟨_,(Nh i ab hi).2,hb, .inl ⟨h1,rfl⟩⟩
   · rcases(hN1 j _ (List.getElem?_eq_getElem hj)).2 with h|⟨k,h1,h2,h3⟩
     · rw [h] at hb;simp [nX,aw] at hb
     · rw [h2] at hb;exact⟨k,h3,hb, .inr h1⟩
  refine⟨bK A kU F,fW,⟨hB.frame.os,hB.frame.tape,hB.frame.output,hB.frame.size,fun b hb hM=>hB.frame.block b hb hM,fun b hb=>⟨.inl (hB.base b hb),hB.frame.block b (wh b hb) fun hM=>hA0 b hM hb⟩,fun b hb CO=> ?_,fun b hb=> ?_,ra,fun i ab hi=>⟨(Nh i ab hi).1,(Jx i ab hi).2.2.1.trans (Jx i ab hi).2.2.2⟩,fun j ab hj=>⟨(hN1 j ab hj).1,fun b hb=> ?_⟩,fun k k' b h1 h2 g1 g2=> ?_⟩⟩
  · rcases CO with CO|⟨j,hj,tF⟩
    · exact hB.kg b hb CO
    · rcases hB.nr j b (Jy j hj) tF with h|h
      · exact absurd hb (Nat.not_lt.2 h)
      · exact .inr h
  · rcases hb with hb|⟨j,hj,tF⟩
    · exact hB.bound b hb
    · exact ko hB (Jy j hj) tF
  · obtain⟨k,g1,g2,_⟩:=eY _ b (.inr ⟨j,rfl,(List.getElem?_eq_some_iff.1 hj).1⟩) hb
    exact hB.nr k b g1 g2
  · obtain⟨j,a1,a2,a3⟩:=eY k b h1 g1
    obtain⟨j',b1,b2,b3⟩:=eY k' b h2 g2
    have :=hB.apart j j' b a1 b1 a2 b2
    subst this
    rcases a3 with⟨p1,p2⟩|p1<;>rcases b3 with⟨r1,r2⟩|r1
    · exact p2.symm.trans r2
    · have :=q2 j (gC s _ _ r1)
      rw [p2,p1] at this;cases this
    · have :=q2 j (gC s _ _ p1)
      rw [r2,r1] at this;cases this
    · exact se s q1 k k' j p1 r1
theorem Lm(hT:bt T P) {fn:Func} {w0:World} {A0:Nat→Prop} {G:Nat→Option GD} {yc:Nat→Value} {n:Nat}(hB:aD ⟨w0,A0,HM yc n,G,yc⟩ A β st a w) {r:fv}
  (hn:r.heap.length=n) (Nv:n≤100) (hA0:∀b,HM yc n b→¬A0 b) (wh:∀b,A0 b→b<w0.heap.size) (h:DZ T st fn.results.toList r):
  ∃v,(results fn a.tmps).run P w= .ok v w∧∃A' aI,I2 w0 A0 yc n w v r A' aI:=by
 unfold DZ at h
 split at h
 · exact h.elim
 · rename_i aF has
   obtain⟨v,Kt,Gc⟩:=Jv hT hB has
   obtain⟨kU,hB,Gc⟩:=Ju hB Gc
   exact⟨v,Kt,Jw hB hn Nv hA0 wh Gc h⟩
theorem Gx(hE:ak P E)(hm:P.follows .mixedOrders=true) {f:FuncId} {fn:Func} {c:Code} {s:eX}(L:List AV→List AB→Nat→Option an)(hf:P.funcs[f]? =some fn)(hb:fn.body=some c)
  (hnf:∀cC hs r,s cC hs=some r→∀ab∈hs,sm ab=true)
  (h:∀cC hs r,s cC hs=some r→r.pre→NV E (L cC hs) c fn.ntmps fn.results.toList cC hs r):bZ P E.lq f s:=by
 intro w A β args cC hs r hA hG bx fO B6 nR hp hlen D5
 have DQ:=h cC hs r nR hp
 unfold NV at DQ
 cases hn:Nat.ble cC.length fn.ntmps with
 |false=>rw [hn] at DQ;exact DQ.elim
 |true=>
  rw [hn] at DQ
  refine calls_of_wp hf hb (eP (C:=⟨w,A,HM β hs.length,E.lq,β⟩) ⟨hE,rfl⟩ hm c _ _ _ w _ DQ ⟨A,β,aD.xA hA hG bx (Nat.le_of_ble_eq_true hn) fO B6⟩ ?_)
  intro e bO a' w' hk _ hR
  obtain⟨A',aI,hB⟩:=hR
  have key:DZ E.T bO fn.results.toList r→bodyPost P fn (fun e w'=>∃v,e= .returned v∧∃A' aI,I2 w A β hs.length w' v r A' aI) .ret a' w':=by
   intro hk
   obtain⟨v,h1,A2,fW,h2⟩:=Lm hE.fB hB hlen D5 (V5 (hnf cC hs r nR) fO) hA hk
   exact⟨hB.defers,v,h1,v,rfl,A2,fW,h2⟩
  cases e with
  |norm=>exact key hk
  |ret=>exact key hk
  |exit i=>exact hk.elim
end
end Go.Vg

end
section
namespace Go.Vg
open Go
inductive TA where
 |cD (t:Ty)
 |own (k:Nat)
 |ref (k off:Nat)
 |nil
 |iX
 |jh
 |agg (l:List TA)
 |fn (f:Fn) (first bk:List TA)
mutual
@[reducible] def TA.Ũ:TA→List Ty
  | .cD t=> [t]
  | .agg l=>TA.fc l
  | .fn _ l m=>TA.fc l++TA.fc m
  |_=> []
@[reducible] def TA.fc:List TA→List Ty
  | []=> []
  |t::ts=>TA.Ũ t++TA.fc ts
end
mutual
def TA.get:TA→AV→Option (List AV)
 | .cD _,a=>some [a]
 | .own k, .own k'=>bif Nat.beq k k' then some [] else none
 | .ref k o, .ref k' o'=>bif Nat.beq k k'&&Nat.beq o o' then some [] else none
 | .nil, .nil=>some []
 | .iX, .iX=>some []
 | .jh, .jh=>some []
 | .agg l, .agg cs=>TA.sW l cs
 | .fn f l m, .fn f' cs ds=>if f=f' then wx (TA.sW l cs) (TA.sW m ds) else none
 |_,_=>none
def TA.sW:List TA→List AV→Option (List AV)
 | [],[]=>some []
 |t::ts,a::aF=>wx (TA.get t a) (TA.sW ts aF)
 |_,_=>none
end
mutual
def TA.put:TA→List AV→AV
 | .cD _,cs=>cs.headD .cX
 | .own k,_=> .own k
 | .ref k o,_=> .ref k o
 | .nil,_=> .nil
 | .iX,_=> .iX
 | .jh,_=> .jh
 | .agg l,cs=> .agg (TA.rq l cs)
 | .fn f l m,cs=> .fn f (TA.rq l (cs.take (TA.fc l).length)) (TA.rq m (cs.drop (TA.fc l).length))
def TA.rq:List TA→List AV→List AV
 | [],_=> []
 |t::ts,cs=>TA.put t (cs.take (TA.Ũ t).length)::TA.rq ts (cs.drop (TA.Ũ t).length)
end
inductive TB where
 |row (e:Nat) (row:List Ty)
 |cells (l:List TA)
 |arr (row:List Ty)
@[reducible] def TB.D:TB→Type
  | .row _ r=>List (Row r)
  | .cells l=>Row (TA.fc l)
  | .arr r=>List (Row r)
@[reducible] def gg:List TB→Type
  | []=>Unit
  |b::bs=>TB.D b×gg bs
def TB.get:(b:TB)→AB→Option (TB.D b)
 | .row e r, .row e' r' l false=>bif Nat.beq e e' then eH r' r l else none
 | .cells ts, .cells cs=>match TA.sW ts cs with
   |some aF=>j2 (TA.fc ts) aF
   |none=>none
 | .arr r, .arr r' l=>eH r' r l
 |_,_=>none
def TB.put:(b:TB)→TB.D b→AB
 | .row e r,l=> .row e r l false
 | .cells ts,x=> .cells (TA.rq ts (fk (TA.fc ts) x))
 | .arr r,l=> .arr r l
def TB.ok:(b:TB)→TB.D b→Prop
 | .row _ r,l=>D.ok (.slice r) l
 | .cells ts,x=>Row.ok (TA.fc ts) x
 | .arr _,_=>True
def gg.get:(bs:List TB)→List AB→Option (gg bs)
 | [],[]=>some ()
 |b::bs,h::hs=>match TB.get b h,gg.get bs hs with
  |some x,some y=>some (x,y)
  |_,_=>none
 |_,_=>none
def gg.put:(bs:List TB)→gg bs→List AB
 | [],_=> []
 |b::bs,x=>TB.put b x.1::gg.put bs x.2
def gg.ok:(bs:List TB)→gg bs→Prop
 | [],_=>True
 |b::bs,x=>TB.ok b x.1∧gg.ok bs x.2
def gD(ts:List TA)(bs:List TB)(F:Row (TA.fc ts)→gg bs→fv):eX:=fun cC hs=>match TA.sW ts cC with
 |some cs=>match j2 (TA.fc ts) cs,gg.get bs hs with
  |some x,some y=>some (F x y)
  |_,_=>none
 |none=>none
def PR(s t:eX):eX:=fun cC hs=>match s cC hs with
 |some r=>some r
 |none=>t cC hs
section
variable {P:Program} {E:Env} {w:World} {A:Nat→Prop} {β:Nat→Value}
theorem D6 {α:Type} {a b:Option (List α)} {c:List α}(h:wx a b=some c):∃x y,a=some x∧b=some y∧c=x++y:=by
 cases a with
 |none=>simp [wx] at h
 |some x=>
  cases b with
  |none=>simp [wx] at h
  |some y=>simp only [wx,Option.some.injEq] at h;exact⟨x,y,rfl,rfl,h.symm⟩
theorem Bf {aF bs eO:List AV} {us vs:List Value}(h1:ae w A β us aF)(hl:eO.length=(aF++bs).length)(h:ae w A β (us++vs) eO):
  ae w A β us (eO.take aF.length)∧ae w A β vs (eO.drop aF.length):=by
 obtain⟨xd,ws,e,r1,r2⟩:=mC (eO.take aF.length) (eO.drop aF.length) _ (by rw [List.take_append_drop];exact h)
 have hu:xd.length=us.length:=by
  rw [qe _ _ r1,qe _ _ h1,List.length_take]
  simp at hl;omega
 obtain⟨e1,e2⟩:=List.append_inj e hu.symm
 subst e1;subst e2
 exact⟨r1,r2⟩
mutual
theorem ũ:∀(t:TA) (a:AV) (cs:List AV) (v:Value),TA.get t a=some cs→aa w A β v a→
  cs.length=(TA.Ũ t).length∧∃vs,ae w A β vs cs∧∀eO,eO.length=cs.length→ae w A β vs eO→aa w A β v (TA.put t eO)
 |t,a,cs,v,h,hr=>by
  unfold TA.get at h
  split at h
  · simp only [Option.some.injEq] at h
    subst h
    refine⟨rfl,[v],by simp only [ae];exact⟨v,[],rfl,hr,rfl⟩,fun eO hl lb=> ?_⟩
    match eO,hl with
    | [c],_=>
      simp only [ae] at lb
      obtain⟨v',bG,e,r1,r2⟩:=lb
      simp only [List.cons.injEq] at e
      obtain⟨rfl,rfl⟩:=e
      simpa only [TA.put,List.headD] using r1
  · rename_i k k'
    cases hb:Nat.beq k k' with
    |false=>rw [hb] at h;cases h
    |true=>
     rw [hb] at h
     simp only [cond_true,Option.some.injEq] at h
     subst h
     have :=Nat.eq_of_beq_eq_true hb
     subst this
     exact⟨rfl,[],by simp [ae],fun eO _ _=>by simpa only [TA.put] using hr⟩
  · rename_i k o k' o'
    cases hb:(Nat.beq k k'&&Nat.beq o o') with
    |false=>rw [hb] at h;cases h
    |true=>
     rw [hb] at h
     simp only [cond_true,Option.some.injEq] at h
     subst h
     simp only [Bool.and_eq_true] at hb
     have h1:=Nat.eq_of_beq_eq_true hb.1
     have h2:=Nat.eq_of_beq_eq_true hb.2
     subst h1;subst h2
     exact⟨rfl,[],by simp [ae],fun eO _ _=>by simpa only [TA.put] using hr⟩
  · simp only [Option.some.injEq] at h
    subst h
    exact⟨rfl,[],by simp [ae],fun eO _ _=>by simpa only [TA.put] using hr⟩
  · simp only [Option.some.injEq] at h
    subst h
    exact⟨rfl,[],by simp [ae],fun eO _ _=>by simpa only [TA.put] using hr⟩
  · simp only [Option.some.injEq] at h
    subst h
    exact⟨rfl,[],by simp [ae],fun eO _ _=>by simpa only [TA.put] using hr⟩
  · rename_i l ds
    simp only [aa] at hr
    obtain⟨arr,rfl,hr⟩:=hr
    obtain⟨g1,vs,g2,g3⟩:=ur l ds cs _ h hr
    exact⟨g1,vs,g2,fun eO hl lb=>by simp only [TA.put,aa];exact⟨arr,rfl,g3 eO hl lb⟩⟩
  · rename_i f l m f' ds es
    split at h
    · rename_i hf
      subst hf
      obtain⟨x,y,hx,hy,rfl⟩:=D6 h
      simp only [aa] at hr
      obtain⟨a1,a2,rfl,r1,r2⟩:=hr
      obtain⟨g1,us,g2,g3⟩:=ur l ds x _ hx r1
      obtain⟨q1,vs,q2,q3⟩:=ur m es y _ hy r2
      refine⟨by simp [g1,q1],us++vs,jb _ _ _ _ g2 q2,fun eO hl lb=> ?_⟩
      obtain⟨p1,p2⟩:=Bf g2 hl lb
      simp only [TA.put,aa]
      rw [←g1]
      refine⟨a1,a2,rfl,g3 _ ?_ p1,q3 _ ?_ p2⟩
      · simp at hl ⊢;omega
      · simp at hl ⊢;omega
    · cases h
  · cases h
theorem ur:∀(ts:List TA) (aF cs:List AV) (C4:List Value),TA.sW ts aF=some cs→ae w A β C4 aF→
  cs.length=(TA.fc ts).length∧∃vs,ae w A β vs cs∧∀eO,eO.length=cs.length→ae w A β vs eO→ae w A β C4 (TA.rq ts eO)
 | [],[],cs,C4,h,hr=>by
   simp only [TA.sW,Option.some.injEq] at h
   subst h
   exact⟨rfl,[],by simp [ae],fun eO _ _=>by simpa only [TA.rq] using hr⟩
 |t::ts,a::aF,cs,C4,h,hr=>by
  simp only [TA.sW] at h
  obtain⟨x,y,hx,hy,rfl⟩:=D6 h
  simp only [ae] at hr
  obtain⟨v,vs1,rfl,r1,r2⟩:=hr
  obtain⟨g1,us,g2,g3⟩:=ũ t a x v hx r1
  obtain⟨q1,vs,q2,q3⟩:=ur ts aF y vs1 hy r2
  refine⟨by simp [g1,q1],us++vs,jb _ _ _ _ g2 q2,fun eO hl lb=> ?_⟩
  obtain⟨p1,p2⟩:=Bf g2 hl lb
  simp only [TA.rq,ae]
  rw [←g1]
  refine⟨v,vs1,rfl,g3 _ ?_ p1,q3 _ ?_ p2⟩
  · simp at hl ⊢;omega
  · simp at hl ⊢;omega
 | [],_::_,cs,C4,h,_=>by simp [TA.sW] at h
 |_::_,[],cs,C4,h,_=>by simp [TA.sW] at h
end
theorem z8 {ts:List TA} {aF cs:List AV} {C4:List Value} {x:Row (TA.fc ts)}(h:TA.sW ts aF=some cs)(hx:j2 (TA.fc ts) cs=some x)(hr:ae w A β C4 aF):
  ae w A β C4 (TA.rq ts (fk (TA.fc ts) x))∧Row.ok (TA.fc ts) x:=by
 obtain⟨g1,vs,g2,g3⟩:=ur ts aF cs C4 h hr
 have hv:=oU _ _ _ _ g2 hx
 exact⟨g3 _ (by rw [lv,g1]) (jl _ _ _ hv),yQ _ _ _ hv⟩
theorem Ū:∀(b:TB) (ab:AB) (k:Nat) (y:TB.D b),TB.get b ab=some y→BR w A β k ab→BR w A β k (TB.put b y)∧TB.ok b y
 |b,ab,k,y,h,hr=>by
  unfold TB.get at h
  split at h
  · rename_i e r e' r' l
    cases hb:Nat.beq e e' with
    |false=>rw [hb] at h;cases h
    |true=>
     rw [hb] at h
     simp only [cond_true] at h
     have :=Nat.eq_of_beq_eq_true hb
     subst this
     obtain⟨er,hl⟩:=jr h
     subst er
     subst hl
     refine⟨hr,?_⟩
     obtain⟨xs,h1,h2,h3⟩:=hr
     simp only [TB.ok,D.ok]
     refine⟨?_,Jp (fun c x hx=>yQ _ c x hx) _ xs h2⟩
     rcases h1.2 with⟨_,h⟩|⟨g,cap,cur,_,_,_,g4,g5,_⟩
     · omega
     · exact Nat.le_trans g4 g5
  · rename_i ts cs
    split at h
    · rename_i aF has
      obtain⟨g,arr,e,h1,h2,h3,h4,h5⟩:=hr
      obtain⟨q1,q2⟩:=z8 has h h4
      exact⟨⟨g,arr,e,h1,h2,h3,q1,h5⟩,q2⟩
    · cases h
  · rename_i r r' l
    obtain⟨er,hl⟩:=jr h
    subst er
    subst hl
    exact⟨hr,trivial⟩
  · cases h
theorem D7:∀(bs:List TB) (hs:List AB) (y:gg bs) (n:Nat),gg.get bs hs=some y→(∀i ab,hs[i]? =some ab→BR w A β (n+i) ab)→
  (gg.put bs y).length=hs.length∧(∀i ab,(gg.put bs y)[i]? =some ab→BR w A β (n+i) ab)∧gg.ok bs y
 | [],[],y,n,_,_=>⟨rfl,fun i ab h=>by simp [gg.put] at h,trivial⟩
 |b::bs,h::hs,y,n,hg,hr=>by
  simp only [gg.get] at hg
  split at hg
  · rename_i x z hx hz
    simp only [Option.some.injEq] at hg
    subst hg
    obtain⟨g1,g2⟩:=Ū b h n x hx (hr 0 h rfl)
    obtain⟨q1,q2,q3⟩:=D7 bs hs z (n+1) hz fun i ab hi=>by
     have :=hr (i+1) ab (by simpa using hi)
     rwa [show n+(i+1)=n+1+i by omega] at this
    refine⟨by simp [gg.put,q1],fun i ab hi=> ?_,g2,q3⟩
    cases i with
    |zero=>simp only [gg.put,List.getElem?_cons_zero,Option.some.injEq] at hi;subst hi;exact g1
    |succ i=>
     have :=q2 i ab (by simpa [gg.put] using hi)
     rwa [show n+1+i=n+(i+1) by omega] at this
  · cases hg
 | [],_::_,y,n,h,_=>by simp [gg.get] at h
 |_::_,[],y,n,h,_=>by simp [gg.get] at h
theorem PT:∀(bs:List TB) (y:gg bs),∀ab∈gg.put bs y,sm ab=true
 | [],_,ab,h=>by simp [gg.put] at h
 |b::bs,y,ab,h=>by
  simp only [gg.put,List.mem_cons] at h
  rcases h with rfl|h
  · cases b<;>rfl
  · exact PT bs y.2 ab h
theorem dN(hE:ak P E)(hm:P.follows .mixedOrders=true) {f:FuncId} {fn:Func} {c:Code}(ts:List TA)(bs:List TB) {F:Row (TA.fc ts)→gg bs→fv}
  (L:Row (TA.fc ts)→gg bs→Nat→Option an) (hf:P.funcs[f]? =some fn) (hb:fn.body=some c)
  (h:∀x y,(F x y).pre→Row.ok (TA.fc ts) x→gg.ok bs y→NV E (L x y) c fn.ntmps fn.results.toList (TA.rq ts (fk (TA.fc ts) x)) (gg.put bs y) (F x y)):bZ P E.lq f (gD ts bs F):=by
 intro w A β args cC hs r hA hG bx fO B6 nR hp hlen D5
 unfold gD at nR
 split at nR
 · rename_i cs c8
   split at nR
   · rename_i x y hx hy
     simp only [Option.some.injEq] at nR
     obtain⟨g1,g2⟩:=z8 c8 hx bx
     obtain⟨q1,q2,q3⟩:=D7 bs hs y 50000 hy fO
     have hv:bZ P E.lq f (fun G7 gQ=>open Classical in if G7=TA.rq ts (fk (TA.fc ts) x)∧gQ=gg.put bs y then some (F x y) else none):=by
      refine Gx hE hm (fun _ _=>L x y) hf hb (fun G7 gQ r' D8=> ?_) fun G7 gQ r' D8 s8=> ?_
      · split at D8
        · rename_i e
          obtain⟨_,rfl⟩:=e
          exact PT bs y
        · cases D8
      · split at D8
        · rename_i e
          obtain⟨rfl,rfl⟩:=e
          simp only [Option.some.injEq] at D8
          subst D8
          exact h x y s8 g2 q3
        · cases D8
     have :=hv w A β args _ _ r hA hG g1 q2 (fun i j b hi hj=>B6 i j b (by rw [←q1];exact hi) (by rw [←q1];exact hj)) (by simp only [and_self,if_true,nR]) hp (by rw [q1];exact hlen) (by rw [q1];exact D5)
     rwa [q1] at this
   · cases nR
 · cases nR
theorem bZ.or {G:Nat→Option GD} {f:FuncId} {s t:eX}(h1:bZ P G f s)(h2:bZ P G f t):bZ P G f (PR s t):=by
 intro w A β args cC hs r hA hG bx fO B6 nR hp hlen D5
 unfold PR at nR
 split at nR
 · rename_i r' lb
   simp only [Option.some.injEq] at nR
   subst nR
   exact h1 w A β args cC hs _ hA hG bx fO B6 lb hp hlen D5
 · exact h2 w A β args cC hs r hA hG bx fO B6 nR hp hlen D5
def Env.eQ(f:Nat)(m:List Bool)(s:eX)(E:Env):Env:= {E with nV:=fun g=>bif Nat.beq g f then some (m,s) else E.nV g}
theorem ak.eQ(hE:ak P E) {f:FuncId} {m:List Bool} {s:eX}(h:bZ P E.lq f s)(hf:aN P f):ak P (E.eQ f m s):=by
 refine⟨hE.fB,hE.sig,fun g m' t hg=> ?_⟩
 simp only [Env.eQ] at hg
 cases hb:Nat.beq g f with
 |true=>
  rw [hb] at hg
  simp only [cond_true,Option.some.injEq,Prod.mk.injEq] at hg
  have :=Nat.eq_of_beq_eq_true hb
  obtain⟨_,rfl⟩:=hg
  subst this
  exact⟨h,hf⟩
 |false=>
  rw [hb] at hg
  exact hE.nV g m' t hg
end
end Go.Vg

end
section
namespace Go.S
def len {α:Type}(l:List α):Nat:=l.length
def ah(m n:Nat):Nat:=m-n
def fe {α:Type}(l:List α)(n:Nat):Prop :=n≤l.length
def oh(n m:Nat):Prop :=n≤m
def kA {α:Type}(l:List α):Int:=l.length
def small {α:Type}(l:List α):Prop :=l.length≤1099511627776
theorem lD(n:Int)(k:Nat)(h:0≤n):Vg.bf n ((2:Int)^k-1)=n%2^k:=by
 obtain⟨m,rfl⟩:=Int.eq_ofNat_of_zero_le h
 have h1:((2:Int)^k-1).toNat=2^k-1:=by
  have :(1:Nat)≤2^k:=Nat.one_le_two_pow
  have e:((2:Int)^k-1)=((2^k-1:Nat):Int):=by rw [Int.natCast_sub this];simp
  rw [e];rfl
 simp only [Vg.bf,Int.toNat_natCast,h1,Nat.and_two_pow_sub_one_eq_mod]
 rw [Int.natCast_emod];simp
theorem T2(n:Int)(h:0≤n):Vg.bf n 7=n%8:=by simpa using lD n 3 h
theorem NW(n:Int)(h:0≤n):Vg.bf n 15=n%16:=by simpa using lD n 4 h
theorem NX(n:Int)(h:0≤n):Vg.bf n 31=n%32:=by simpa using lD n 5 h
theorem D9(n:Int)(h:0≤n):Vg.bf n 63=n%64:=by simpa using lD n 6 h
theorem gE(n:Int)(h:0≤n):Vg.bf n 127=n%128:=by simpa using lD n 7 h
theorem iL(a b:Int)(k:Nat)(ha:0≤a)(h0:0≤b)(h:b<2^k):Vg.cG (a*2^k) b=a*2^k+b:=by
 obtain⟨m,rfl⟩:=Int.eq_ofNat_of_zero_le ha
 obtain⟨n,rfl⟩:=Int.eq_ofNat_of_zero_le h0
 have h1:((m:Int)*2^k).toNat=m*2^k:=by
  rw [show((m:Int)*2^k)=((m*2^k:Nat):Int) by simp];rfl
 have h2:n<2^k:=by exact_mod_cast h
 simp only [Vg.cG,h1,Int.toNat_natCast]
 rw [Nat.mul_comm,←Nat.two_pow_add_eq_or_of_lt h2]
 simp [Int.mul_comm]
theorem uu(a b:Int):Vg.cG a b=Vg.cG b a:=by simp only [Vg.cG,Nat.or_comm]
theorem Ea(n:Int)(h:0≤n)(h1:n<128):Vg.cG n 128=n+128:=by
 rw [uu,show(128:Int)=1*2^7 by rfl,iL 1 n 7 (by omega) h h1];omega
theorem Gy {α:Type}(p:α→Bool)(l:List α):(l.takeWhile p).length≤l.length:=by
 induction l with
 |nil=>simp
 |cons x l ih=>simp only [List.takeWhile_cons];split<;>simp<;>omega
end Go.S

end
section
namespace Go.S
abbrev H8:=Int×Int×Int×Int×Int×Int×Int×Int
def right(x n:Int):Int:=(x/2^n.toNat+x*2^(32-n).toNat%4294967296)%4294967296
def Cs(p:List UInt8)(i:Nat):Int:=(p.getD i 0).toNat
def word(p:List UInt8)(i:Nat):Int:=Cs p (4*i)*16777216+Cs p (4*i+1)*65536+Cs p (4*i+2)*256+Cs p (4*i+3)
def amU(x:Int):Int:=Vg.kN (Vg.kN (right x 7) (right x 18)) (x/2^Int.toNat 3)
def amV(y:Int):Int:=Vg.kN (Vg.kN (right y 17) (right y 19)) (y/2^Int.toNat 10)
def agO(w:List Int)(n:Nat):Int:=(((w.getD (n-16) 0+amU (w.getD (n-15) 0))%4294967296+w.getD (n-7) 0)%4294967296+amV (w.getD (n-2) 0))%4294967296
def ū(p:List UInt8)(w:List Int)(n:Nat):Int:=if n<16 then word p n else agO w n
def sched(p:List UInt8):Nat→List Int
 |0=> []
 |n+1=>sched p n++ [ū p (sched p n) n]
def amW:List Int:= [1116352408,1899447441,3049323471,3921009573,961987163,1508970993,2453635748,2870763221,3624381080,310598401,607225278,1426881987,1925078388,2162078206,2614888103,3248222580,3835390401,4022224774,264347078,604807628,770255983,1249150122,1555081692,1996064986,2554220882,2821834349,2952996808,3210313671,3336571891,3584528711,113926993,338241895,666307205,773529912,1294757372,1396182291,1695183700,1986661051,2177026350,2456956037,2730485921,2820302411,3259730800,3345764771,3516065817,3600352804,4094571909,275423344,430227734,506948616,659060556,883997877,958139571,1322822218,1537002063,1747873779,1955562222,2024104815,2227730452,2361852424,2428436474,2756734187,3204031479,3329325298]
def H0:H8:=(1779033703,3144134277,1013904242,2773480762,1359893119,2600822924,528734635,1541459225)
def amX(a:Int):Int:=Vg.kN (Vg.kN (right a 2) (right a 13)) (right a 22)
def amY(e:Int):Int:=Vg.kN (Vg.kN (right e 6) (right e 11)) (right e 25)
def ch(e f g:Int):Int:=Vg.kN (Vg.bf e f) (Vg.bf (4294967296-1-e) g)
def maj(a b c:Int):Int:=Vg.kN (Vg.kN (Vg.bf a b) (Vg.bf a c)) (Vg.bf b c)
def one(k w e f g h:Int):Int:=((((h+amY e)%4294967296+ch e f g)%4294967296+k)%4294967296+w)%4294967296
def two(a b c:Int):Int:=(amX a+maj a b c)%4294967296
def rnd(k w:Int)(s:H8):H8:=((one k w s.2.2.2.2.1 s.2.2.2.2.2.1 s.2.2.2.2.2.2.1 s.2.2.2.2.2.2.2+two s.1 s.2.1 s.2.2.1)%4294967296,s.1,s.2.1,s.2.2.1,
 (s.2.2.2.1+one k w s.2.2.2.2.1 s.2.2.2.2.2.1 s.2.2.2.2.2.2.1 s.2.2.2.2.2.2.2)%4294967296,s.2.2.2.2.1,s.2.2.2.2.2.1,s.2.2.2.2.2.2.1)
def aeL(w:List Int)(s:H8):Nat→H8
 |0=>s
 |n+1=>rnd (amW.getD n 0) (w.getD n 0) (aeL w s n)
def amZ(s t:H8):H8:=((s.1+t.1)%4294967296,(s.2.1+t.2.1)%4294967296,(s.2.2.1+t.2.2.1)%4294967296,(s.2.2.2.1+t.2.2.2.1)%4294967296,
 (s.2.2.2.2.1+t.2.2.2.2.1)%4294967296,(s.2.2.2.2.2.1+t.2.2.2.2.2.1)%4294967296,(s.2.2.2.2.2.2.1+t.2.2.2.2.2.2.1)%4294967296,(s.2.2.2.2.2.2.2+t.2.2.2.2.2.2.2)%4294967296)
def block(s:H8)(p:List UInt8):H8:=amZ s (aeL (sched p 64) s 64)
def proc(s:H8)(b:List UInt8):Nat→H8
 |0=>s
 |n+1=>block (proc s b n) ((b.drop (64*n)).take 64)
def agP(s:H8):List Int:= [s.1,s.2.1,s.2.2.1,s.2.2.2.1,s.2.2.2.2.1,s.2.2.2.2.2.1,s.2.2.2.2.2.2.1,s.2.2.2.2.2.2.2]
def b32(w:Int):List UInt8:= [UInt8.ofNat (w/16777216%256).toNat,UInt8.ofNat (w/65536%256).toNat,UInt8.ofNat (w/256%256).toNat,UInt8.ofNat (w%256).toNat]
def am0(s:H8)(n:Nat):List UInt8:=((agP s).take n).flatMap b32
def dig(s:H8):List UInt8:=am0 s 8
def am1(n:Nat):Nat:=(119-n%64)%64
def len8(n:Int)(k:Nat):List UInt8:=(List.range k).map fun i=>UInt8.ofNat (n/2^(56-8*i)%256).toNat
def agQ(rest:List UInt8)(k:Nat):List UInt8:=rest++ [128]++List.replicate k 0
def agR(rest:List UInt8)(n:Int)(k:Nat):List UInt8:=agQ rest (am1 rest.length)++len8 (n*8) k
def tail(rest:List UInt8)(n:Int):List UInt8:=agR rest n 8
def blocks(b:List UInt8):Nat:=b.length/64
def V8(s:H8)(b:List UInt8):H8:=proc s b (blocks b)
def sum(b:List UInt8):List UInt8:=dig (V8 H0 (tail b b.length))
end Go.S
namespace Go.S
end Go.S
namespace Go.S
end Go.S
namespace Go.S
end Go.S
namespace Go.S
end Go.S

end
section
namespace Go.S
def mf:Nat→Nat→List UInt8
 |0,_=> []
 |f+1,v=>if v<128 then [UInt8.ofNat v] else UInt8.ofNat (v%128+128)::mf f (v/128)
def num(v:Int):List UInt8:=mf 9 v.toNat
def text(s:List UInt8):List UInt8:=num s.length++s
def iM(v:Int):Bool:=decide (v<0) || decide (4611686018427387904<v)
def iS(b:List UInt8)(v:Int):List UInt8:=if iM v then [] else b++num v
def ij(v:Int):Int:=if iM v then 1 else 0
def oi(l:List UInt8)(v:Int)(m:List UInt8)(u:Int):Prop :=0≤u∧u≤v∧m++num u=l++num v
def yT(l:List UInt8)(v:Int):Prop :=0≤v∧l.length≤70368744177664
def lE(l s:List UInt8):Prop :=l.length≤35184372088832∧s.length≤35184372088832
def lead(b:List UInt8):Nat:=(b.takeWhile fun x=>decide (128≤x.toNat)).length
def cJ:List UInt8→Nat
 | []=>0
 |x::l=>x.toNat%128+128*cJ l
def first(b:List UInt8):Int×Int×Int:=
 if 9≤lead b then(0,0,2)
 else if lead b=b.length then(0,0,4)
 else if cJ (b.take (lead b+1))>4611686018427387904∨num (cJ (b.take (lead b+1)))≠b.take (lead b+1) then(0,0,2)
 else(cJ (b.take (lead b+1)),lead b+1,0)
def dC(b:List UInt8)(at':Int):Prop :=0≤at'∧at'≤b.length
def Bg(at':Int)(x:Int×Int×Int):Int×Int×Int:=(x.1,if x.2.2=0 then at'+x.2.1 else 0,x.2.2)
def aK(b:List UInt8)(at':Int):Int×Int×Int:=Bg at' (first (b.drop at'.toNat))
def bS(b:List UInt8)(p b9:Int):List UInt8×Int×Int:=
 if(aK b p).2.2≠0 then([],0,(aK b p).2.2)
 else if b9<(aK b p).1 then([],0,2)
 else if(b.length:Int)-(aK b p).2.1<(aK b p).1 then([],0,4)
 else((b.take ((aK b p).2.1+(aK b p).1).toNat).drop (aK b p).2.1.toNat,(aK b p).2.1+(aK b p).1,0)
def inside(b:List UInt8)(a:Int):Bool:=decide (0≤a)&&decide (a≤b.length)
def cT(b:List UInt8)(a e:Int):Int:=if e=0∧inside b a=false then 1 else e
abbrev Rd:=List UInt8×Int×Int
def bj(b:List UInt8)(a e b9:Int):Rd×List UInt8:=
 if cT b a e≠0 then((b,a,cT b a e),[])
 else if(bS b a b9).2.2≠0 then((b,a,(bS b a b9).2.2),[])
 else((b,(bS b a b9).2.1,0),(bS b a b9).1)
def ag(b:List UInt8)(a e:Int):Rd×Int:=
 if cT b a e≠0 then((b,a,cT b a e),0)
 else if(aK b a).2.2≠0 then((b,a,(aK b a).2.2),0)
 else((b,(aK b a).2.1,0),(aK b a).1)
def Bh(b:List UInt8)(a e:Int):Rd×List UInt8:=
 if cT b a e≠0 then((b,a,cT b a e),[])
 else if(b.length:Int)-a<32 then((b,a,4),[])
 else((b,a+32,0),(b.drop a.toNat).take 32)
def done(b:List UInt8)(a e:Int):Int:=if e≠0 then e else if inside b a=false then 1 else if a<b.length then 2 else 0
def gF(b:List UInt8)(a:Int)(n:Nat):Prop :=n≤9∧a+n≤b.length∧∀x∈(b.drop a.toNat).take n,128≤x.toNat
def eA(b:List UInt8)(a:Int)(n:Nat):Int:=(cJ ((b.drop a.toNat).take n):Int)
def yU(b:List UInt8)(n:Nat):Prop :=n≤9∧n≤b.length∧∀x∈b.take n,128≤x.toNat
theorem Aa:∀(f v:Nat),(mf f v).length≤f
 |0,_=>by simp [mf]
 |f+1,v=>by
  have :=Aa f (v/128)
  simp only [mf];split<;>simp<;>omega
theorem kC(v:Int):(num v).length≤9:=Aa 9 _
theorem Eb:∀(f g v:Nat),v<128^f→1≤f→f≤g→mf g v=mf f v
 |0,g,v,_,h,_=>by omega
 |f+1,0,v,_,_,h=>by omega
 |f+1,g+1,v,h,_,hg=>by
  simp only [mf]
  split
  · rfl
  · rename_i hv
    by_cases hf:f=0
    · subst hf;simp at h;omega
    · rw [Eb f g (v/128) (by rw [Nat.pow_succ] at h;omega) (by omega) (by omega)]
theorem Ŭ(v:Int)(h:v<128):num v= [UInt8.ofNat v.toNat]:=by
 simp only [num,mf];rw [if_pos (by omega)]
theorem ŭ(v:Int)(h:128≤v)(h1:v≤9223372036854775807):num v=UInt8.ofNat (v%128+128).toNat::num (v/128):=by
 simp only [num]
 rw [mf,if_neg (by omega)]
 have e:(v/128).toNat=v.toNat/128:=by omega
 rw [e,Eb 8 9 (v.toNat/128) (by omega) (by omega) (by omega)]
 congr 2;omega
theorem Bi:∀(l:List UInt8) (h:l≠ []),cJ l=0→(l.getLast h).toNat<128→(l.getLast h).toNat=0
 | [x],_,h,hx=>by simp [cJ] at h hx ⊢;omega
 |x::y::l,_,h,hx=>by
  simp only [cJ] at h
  rw [List.getLast_cons (by simp)] at hx ⊢
  exact Bi (y::l) (by simp) (by simp only [cJ];omega) hx
theorem Hb:∀(f:Nat) (l:List UInt8) (h:l≠ []),l.length≤f→(∀x∈l.dropLast,128≤x.toNat)→(l.getLast h).toNat<128→(mf f (cJ l)=l↔(l.length=1∨(l.getLast h).toNat≠0))
 |0,l,h,hl,_,_=>by
  have :l.length=0:=by omega
  exact absurd (List.eq_nil_of_length_eq_zero this) h
 |f+1,[x],_,_,_,hx=>by
  simp only [List.getLast_singleton] at hx
  have hv:cJ [x]=x.toNat:=by simp only [cJ];omega
  rw [mf,hv,if_pos hx]
  simp
 |f+1,x::y::l,_,hl,hd,hx=>by
  rw [List.getLast_cons (by simp)] at hx ⊢
  have BP:128≤x.toNat:=hd x (by simp)
  have hx2:=x.toNat_lt
  have ih:=Hb f (y::l) (by simp) (by simpa using hl) (fun z hz=>hd z (by simp only [List.dropLast_cons_cons,List.mem_cons];exact .inr hz)) hx
  have e:cJ (x::y::l)=x.toNat%128+128*cJ (y::l):=rfl
  rw [mf,e]
  by_cases hV:cJ (y::l)=0
  · have h0:=Bi (y::l) (by simp) hV hx
    rw [hV,if_pos (by omega)]
    simp [h0]
  · rw [if_neg (by omega)]
    have e1:(x.toNat%128+128*cJ (y::l))%128+128=x.toNat:=by omega
    have e2:(x.toNat%128+128*cJ (y::l))/128=cJ (y::l):=by omega
    rw [e1,e2,UInt8.ofNat_toNat]
    simp only [List.cons.injEq,true_and,ih]
    constructor
    · rintro(h|h)
      · refine .inr fun h0=> ?_
        have :l= []:=by simpa using h
        subst this
        simp [cJ] at hV h0
        omega
      · exact .inr h
    · rintro(h|h)
      · simp at h
      · exact .inr h
theorem Ab:∀(l:List UInt8),cJ l<128^l.length
 | []=>by simp [cJ]
 |x::l=>by
  have :=Ab l
  simp only [cJ,List.length_cons,Nat.pow_succ];omega
theorem wQ:∀(l m:List UInt8),cJ (l++m)=cJ l+128^l.length*cJ m
 | [],m=>by simp [cJ]
 |x::l,m=>by
  simp only [List.cons_append,cJ,wQ l m,List.length_cons,Nat.pow_succ]
  rw [Nat.mul_add,←Nat.mul_assoc,Nat.mul_comm 128 (128^l.length)];omega
theorem Ln(b:List UInt8)(n:Nat)(h:∀x∈b.take n,128≤x.toNat)(hn:n≤b.length)(he:n=b.length∨(b.getD n 0).toNat<128):lead b=n:=by
 induction b generalizing n with
 |nil=>simp at hn;subst hn;rfl
 |cons x b ih=>
  cases n with
  |zero=>
   rcases he with he|he
   · simp at he
   · simp only [List.getD_cons_zero] at he
     simp only [lead,List.takeWhile_cons]
     rw [if_neg (by simp;omega)];rfl
  |succ n=>
   have hx:=h x (by simp)
   have :=ih n (fun y hy=>h y (by simp [hy])) (by simpa using hn) (by simpa using he)
   simp only [lead,List.takeWhile_cons] at this ⊢
   rw [if_pos (by simpa using hx),List.length_cons,this]
theorem V9(b:List UInt8)(n:Nat)(h:∀x∈b.take n,128≤x.toNat)(hn:n≤b.length):n≤lead b:=by
 induction b generalizing n with
 |nil=>simp at hn;omega
 |cons x b ih=>
  cases n with
  |zero=>omega
  |succ n=>
   have hx:=h x (by simp)
   have :=ih n (fun y hy=>h y (by simp [hy])) (by simpa using hn)
   simp only [lead,List.takeWhile_cons] at this ⊢
   rw [if_pos (by simpa using hx),List.length_cons];omega
theorem NY(b:List UInt8)(n:Nat)(hn:n<b.length):∃h,(b.take (n+1)).getLast h=b.getD n 0:=by
 refine⟨by intro h;have :=congrArg List.length h;rw [List.length_take,List.length_nil] at this;omega,?_⟩
 rw [List.getLast_eq_getElem]
 simp only [List.length_take,List.getElem_take]
 rw [List.getD_eq_getElem?_getD,List.getElem?_eq_getElem hn,Option.getD_some]
 congr 1;omega
theorem Hc(b:List UInt8)(n:Nat)(h:∀x∈b.take n,128≤x.toNat)(hn:n<b.length)(h9:n<9)(he:(b.getD n 0).toNat<128):
  first b=if((1≤n∧(b.getD n 0).toNat=0)∨cJ (b.take (n+1))>4611686018427387904) then(0,0,2) else((cJ (b.take (n+1)):Int),(n:Int)+1,0):=by
 have hl:=Ln b n h (by omega) (.inr he)
 obtain⟨dJ,I9⟩:=NY b n hn
 have hlen:(b.take (n+1)).length=n+1:=by rw [List.length_take];omega
 have hc:=Hb 9 (b.take (n+1)) dJ (by omega) (by
  intro x hx
  rw [List.dropLast_eq_take,hlen,List.take_take] at hx
  exact h x (by rwa [show min (n+1-1) (n+1)=n by omega] at hx)) (by rw [I9];exact he)
 simp only [first,hl,num,Int.toNat_natCast]
 rw [if_neg (by omega),if_neg (by omega)]
 rw [I9,hlen] at hc
 have e:((cJ (b.take (n+1))>4611686018427387904∨¬mf 9 (cJ (b.take (n+1)))=b.take (n+1))↔((1≤n∧(b.getD n 0).toNat=0)∨cJ (b.take (n+1))>4611686018427387904)):=by
  rw [hc]
  constructor
  · rintro(h|h)
    · exact .inr h
    · by_cases h0:1≤n∧(b.getD n 0).toNat=0
      · exact .inl h0
      · exact absurd (by omega) h
  · rintro(h|h)
    · exact .inr (by omega)
    · exact .inl h
 simp only [ne_eq,e]
theorem Wa(b:List UInt8)(h:∀x∈b.take 9,128≤x.toNat)(hn:9≤b.length):first b=(0,0,2):=by
 have :=V9 b 9 h hn
 simp only [first];rw [if_pos this]
theorem NZ(b:List UInt8)(n:Nat)(h:∀x∈b.take n,128≤x.toNat)(hn:n=b.length)(h9:n<9):first b=(0,0,4):=by
 have :=Ln b n h (by omega) (.inl hn)
 simp only [first];rw [if_neg (by omega),if_pos (by omega)]
theorem vJ(b:List UInt8):0≤(first b).1∧(first b).1≤4611686018427387904∧0≤(first b).2.1∧(first b).2.1≤b.length∧((first b).2.2=0∨(first b).2.2=2∨(first b).2.2=4):=by
 have hl:=Gy (fun x:UInt8=>decide (128≤x.toNat)) b
 unfold first
 split
 · simp
 · split
   · simp
   · split
     · simp
     · simp only [lead,not_or,Nat.not_lt] at *;simp only [true_or,and_true];omega
theorem T3 {b:List UInt8} {x:Nat}(h:yU b x)(h1:x<b.length)(h2:x<9)(h3:128≤(b.getD x 0).toNat):yU b (x+1):=by
 refine⟨by omega,by omega,fun y hy=> ?_⟩
 rw [aG b x 0 h1] at hy
 rcases List.mem_append.1 hy with hy|hy
 · exact h.2.2 y hy
 · simp only [List.mem_singleton] at hy;subst hy;exact h3
theorem agS {b:List UInt8}(h:yU b 9):first b=(0,0,2):=Wa b h.2.2 h.2.1
theorem Wb {b:List UInt8} {x:Nat}(h:yU b x)(h1:x=b.length)(h2:x≠9):first b=(0,0,4):=NZ b x h.2.2 h1 (by have :=h.1;omega)
theorem am2 {b:List UInt8} {p:Int}(h:dC b p):gF b p 0:=by simp only [dC] at h;simp [gF];omega
theorem eW {b:List UInt8} {p:Int} {x:Nat}(h:gF b p x):x≤9∧p+x≤b.length:=⟨h.1,h.2.1⟩
theorem vK(b:List UInt8)(p:Int)(x:Nat)(hp:0≤p):(b.drop p.toNat).getD x 0=b.getD (p+x).toNat 0:=by
 simp only [List.getD_eq_getElem?_getD,List.getElem?_drop];congr 2;omega
theorem Ec {b:List UInt8} {p:Int} {x:Nat}(hp:dC b p)(h:gF b p x):yU (b.drop p.toNat) x:=by
 simp only [dC] at hp
 exact⟨h.1,by rw [List.length_drop];have :=h.2.1;omega,h.2.2⟩
theorem T4 {b:List UInt8} {p:Int} {x:Nat}(hp:dC b p)(h:gF b p x)(h1:p+x<b.length)(h2:x≠9)(h3:128≤(b.getD (p+x).toNat 0).toNat):gF b p (x+1):=by
 have s8:=hp
 simp only [dC] at s8
 have :=T3 (Ec hp h) (by rw [List.length_drop];omega) (by have :=h.1;omega) (by rw [vK _ _ _ s8.1];exact h3)
 exact⟨this.1,by omega,this.2.2⟩
theorem Wc {b:List UInt8} {p:Int}(hp:dC b p)(h:gF b p 9):aK b p=(0,0,2):=by
 simp [aK,agS (Ec hp h),Bg]
theorem Lo {b:List UInt8} {p:Int} {x:Nat}(hp:dC b p)(h:gF b p x)(h1:(x:Int)=b.length-p)(h2:x≠9):aK b p=(0,0,4):=by
 have s8:=hp
 simp only [dC] at s8
 have :=Wb (Ec hp h) (by rw [List.length_drop];omega) h2
 simp [aK,this,Bg]
theorem PU {b:List UInt8} {p:Int} {x:Nat}(hp:dC b p)(h:gF b p x)(h1:p+x<b.length):
  Vg.cG (eA b p x) (Vg.bf ((b.getD (p+x).toNat 0).toNat:Int) 127*2^(7*(x:Int)).toNat)=eA b p (x+1):=by
 have s8:=hp
 simp only [dC] at s8
 have hx:x<(b.drop p.toNat).length:=by rw [List.length_drop];omega
 rw [gE _ (by omega),uu,iL _ _ _ (by omega) (by simp [eA])]
 · simp only [eA]
   rw [aG _ x 0 hx,wQ,vK _ _ _ s8.1,List.length_take,Nat.min_eq_left (by omega)]
   simp only [cJ,show(7*(x:Int)).toNat=7*x by omega,Nat.mul_zero,Nat.add_zero]
   rw [Int.natCast_add,Int.natCast_mul,Int.natCast_pow,Int.natCast_emod]
   rw [show((128:Nat):Int)=2^7 by rfl,←Int.pow_mul,Int.mul_comm (2^(7*x)),Int.add_comm]
   rfl
 · simp only [eA,show(7*(x:Int)).toNat=7*x by omega]
   have :=Ab ((b.drop p.toNat).take x)
   have e:(128:Nat)^((b.drop p.toNat).take x).length≤128^x:=Nat.pow_le_pow_right (by omega) (by rw [List.length_take];omega)
   have e2:((2:Int)^(7*x))=((128^x:Nat):Int):=by rw [Int.natCast_pow,show((128:Nat):Int)=2^7 by rfl,←Int.pow_mul]
   rw [e2];omega
theorem am3(b:List UInt8)(p:Int):eA b p 0=0:=by simp [eA,cJ]
theorem vL {b:List UInt8} {p:Int} {x:Nat}(h:x≤9):0≤eA b p x∧eA b p x≤9223372036854775807:=by
 have :=Ab ((b.drop p.toNat).take x)
 have e:(128:Nat)^((b.drop p.toNat).take x).length≤128^9:=Nat.pow_le_pow_right (by omega) (by rw [List.length_take];omega)
 simp only [eA];omega
theorem sr(c:Int)(x:Nat)(h0:0≤c)(h1:c≤127)(hx:x≤8):0≤c*2^(7*(x:Int)).toNat∧c*2^(7*(x:Int)).toNat≤9223372036854775807:=by
 have s9:(2:Nat)^(7*(x:Int)).toNat≤2^56:=Nat.pow_le_pow_right (by omega) (by omega)
 have e:(2:Int)^(7*(x:Int)).toNat=((2^(7*(x:Int)).toNat:Nat):Int):=by simp
 have hp:(2:Int)^(7*(x:Int)).toNat≤72057594037927936:=by rw [e];omega
 have hq:(0:Int)<2^(7*(x:Int)).toNat:=Int.pow_pos (by omega)
 constructor
 · exact Int.mul_nonneg h0 (by omega)
 · have :=Int.mul_le_mul h1 hp (by omega) (by omega)
   omega
theorem Wd {b:List UInt8} {p:Int} {x:Nat}(hp:dC b p)(h:gF b p x)(h1:p+x<b.length)(h2:x≠9)(h3:(b.getD (p+x).toNat 0).toNat<128):
  aK b p=if((1≤x∧(b.getD (p+x).toNat 0).toNat=0)∨eA b p (x+1)>4611686018427387904) then(0,0,2) else(eA b p (x+1),p+(x+1),0):=by
 have s8:=hp
 simp only [dC] at s8
 have :=Hc (b.drop p.toNat) x h.2.2 (by rw [List.length_drop];omega) (by have :=h.1;omega) (by rw [vK _ _ _ s8.1];exact h3)
 rw [vK _ _ _ s8.1] at this
 simp only [aK,this,eA]
 have e:(cJ ((b.drop p.toNat).take (x+1))>4611686018427387904)↔((cJ ((b.drop p.toNat).take (x+1)):Int)>4611686018427387904):=by omega
 simp only [e]
 rw [apply_ite (Bg p)]
 rfl
theorem yV(v:Int):1≤(num v).length:=by
 simp only [num,mf];split<;>simp
theorem uv {l m:List UInt8} {v u:Int}(h:oi l v m u):m.length+1≤l.length+9:=by
 have :=congrArg List.length h.2.2
 have h1:=kC v
 have h2:=yV u
 simp only [List.length_append] at this;omega
theorem T5 {l m:List UInt8} {v u:Int}(h:oi l v m u)(h1:127<u)(h2:v≤9223372036854775807):
  oi l v (m++ [UInt8.ofNat (Vg.cG (Vg.bf u 127%256) 128).toNat]) (u/2^(7:Int).toNat):=by
 have h4:=h.2.1
 have e:=ŭ u (by omega) (by omega)
 have e2:Vg.cG (Vg.bf u 127%256) 128=u%128+128:=by
  rw [gE _ (by omega),Ea _ (by omega) (by omega)];omega
 have h3:=h.2.2
 rw [e] at h3
 refine⟨by simp;omega,by simp;omega,?_⟩
 rw [e2,List.append_assoc,←h3];rfl
theorem We {l m:List UInt8} {v u:Int}(h:oi l v m u)(h1:¬127<u):m++ [UInt8.ofNat (u%256).toNat]=l++num v:=by
 have e:=Ŭ u (by omega)
 rw [←h.2.2,e]
 have :=h.1
 rw [show u%256=u by omega]
theorem yW {l m:List UInt8} {v u:Int}(h:oi l v m u):0≤u:=h.1
theorem agT(x:Int)(h:0≤x)(P Q:Prop) [Decidable P] [Decidable Q]:((bif decide (1<x+1) then bif decide P then true else decide Q else decide Q)=true)↔((1≤x∧P)∨Q):=by
 by_cases h1:1<x+1<;>by_cases h2:P<;>by_cases h3:Q<;>simp [h1,h2,h3]<;>omega
theorem Lp {b:List UInt8} {p:Int} {x:Nat}(hp:dC b p)(h:gF b p x)(h1:p+x<b.length)(h2:x≠9)(h3:(b.getD (p+x).toNat 0).toNat<128) {c:Bool}
  (hc:(bif decide (1<(x:Int)+1) then bif decide (((b.getD (p+((x:Int)+1)-1).toNat 0).toNat:Int)=0) then true else decide (4611686018427387904<Vg.cG (eA b p x) (Vg.bf ((b.getD (p+x).toNat 0).toNat:Int) 127*2^(7*(x:Int)).toNat)) else decide (4611686018427387904<Vg.cG (eA b p x) (Vg.bf ((b.getD (p+x).toNat 0).toNat:Int) 127*2^(7*(x:Int)).toNat)))=c):
  aK b p=if c=true then(0,0,2) else(Vg.cG (eA b p x) (Vg.bf ((b.getD (p+x).toNat 0).toNat:Int) 127*2^(7*(x:Int)).toNat),p+(x+1),0):=by
 have hf:=Wd hp h h1 h2 h3
 rw [←hc,hf]
 rw [PU hp h h1,show p+((x:Int)+1)-1=p+x by omega]
 simp only [agT _ (by omega :0≤(x:Int))]
 have e:(1≤x∧(b.getD (p+x).toNat 0).toNat=0)↔(1≤(x:Int)∧((b.getD (p+x).toNat 0).toNat:Int)=0):=by omega
 simp only [e,gt_iff_lt]
theorem Ac {b:List UInt8} {p:Int} {x:Nat}(hp:dC b p)(h:gF b p x)(h1:p+x<b.length)(h2:x≠9)(h3:(b.getD (p+x).toNat 0).toNat<128)
  (hc:(bif decide (1<(x:Int)+1) then bif decide (((b.getD (p+((x:Int)+1)-1).toNat 0).toNat:Int)=0) then true else decide (4611686018427387904<Vg.cG (eA b p x) (Vg.bf ((b.getD (p+x).toNat 0).toNat:Int) 127*2^(7*(x:Int)).toNat)) else decide (4611686018427387904<Vg.cG (eA b p x) (Vg.bf ((b.getD (p+x).toNat 0).toNat:Int) 127*2^(7*(x:Int)).toNat)))=true):
  0=(aK b p).1∧0=(aK b p).2.1∧2=(aK b p).2.2:=by
 rw [Lp hp h h1 h2 h3 hc];exact⟨rfl,rfl,rfl⟩
theorem Ad {b:List UInt8} {p:Int} {x:Nat}(hp:dC b p)(h:gF b p x)(h1:p+x<b.length)(h2:x≠9)(h3:(b.getD (p+x).toNat 0).toNat<128)
  (hc:(bif decide (1<(x:Int)+1) then bif decide (((b.getD (p+((x:Int)+1)-1).toNat 0).toNat:Int)=0) then true else decide (4611686018427387904<Vg.cG (eA b p x) (Vg.bf ((b.getD (p+x).toNat 0).toNat:Int) 127*2^(7*(x:Int)).toNat)) else decide (4611686018427387904<Vg.cG (eA b p x) (Vg.bf ((b.getD (p+x).toNat 0).toNat:Int) 127*2^(7*(x:Int)).toNat)))=false):
  Vg.cG (eA b p x) (Vg.bf ((b.getD (p+x).toNat 0).toNat:Int) 127*2^(7*(x:Int)).toNat)=(aK b p).1∧p+(x+1)=(aK b p).2.1∧0=(aK b p).2.2:=by
 rw [Lp hp h h1 h2 h3 hc];exact⟨rfl,rfl,rfl⟩
theorem N0 {b:List UInt8} {p:Int}(hp:dC b p):0≤(aK b p).1∧(aK b p).1≤4611686018427387904∧0≤(aK b p).2.1∧(aK b p).2.1≤b.length∧((aK b p).2.2=0∨(aK b p).2.2=2∨(aK b p).2.2=4):=by
 have h:=vJ (b.drop p.toNat)
 simp only [dC] at hp
 rw [List.length_drop] at h
 simp only [aK,Bg]
 refine⟨h.1,h.2.1,?_,?_,h.2.2.2.2⟩<;>split<;>omega
end Go.S

end
section
namespace Go.S
def agU(kind:Nat)(b:List UInt8):List UInt8:=UInt8.ofNat kind::b
def N1(kind:Nat)(b:List UInt8):List UInt8:=sum (agU kind b)
def leaf(b:List UInt8):List UInt8:=N1 0 b
def agV(l r:List UInt8):List UInt8:=N1 1 (l++r)
def am4(l r:List UInt8):Bool:=decide (l.length=32)&&decide (r.length=32)
def T6(l r:List UInt8):List UInt8:=if am4 l r then agV l r else []
end Go.S

end
section
namespace Go.S
def bm(c:Int):Bool:=decide (0≤c)&&(decide (c≤1114111)&&(decide (c<55296) || decide (57343<c)))
def cZ(c:Int):Int:=if c<128 then 1 else if c<2048 then 2 else if c<65536 then 3 else 4
def u8(c:Int):UInt8:=UInt8.ofNat c.toNat
def more(c:Int):UInt8:=u8 (128+c%64)
def enc(c:Int):List UInt8:=if c<128 then [u8 c] else if c<2048 then [u8 (192+c/64),more c] else if c<65536 then [u8 (224+c/4096),more (c/64),more c]
 else [u8 (240+c/262144),more (c/4096),more (c/64),more c]
def fg(c:Int):List UInt8:=if bm c then enc c else []
def sX(c:Int):Int:=if bm c then 0 else 1
def cb(b:List UInt8):Int:=((b.getD 0 0).toNat:Int)
def uN(b:List UInt8):Nat:=if cb b<128 then 1 else if cb b/32=6 then 2 else if cb b/16=14 then 3 else if cb b/8=30 then 4 else 0
def uC(b:List UInt8):Int:=if cb b/32=6 then cb b%32 else if cb b/16=14 then cb b%16 else cb b%8
def bz(b:List UInt8):Nat→Int
 |0=>uC b
 |k+1=>bz b k*64+((b.getD (k+1) 0).toNat:Int)%64
def pr(b:List UInt8)(n:Nat):Bool:=((b.drop 1).take (n-1)).all fun x=>x.toNat/64==2
def aM(b:List UInt8):Int×Int:=
 if uN b=1 then(cb b,1)
 else if uN b=0∨b.length<uN b∨pr b (uN b)=false∨bm (bz b (uN b-1))=false∨cZ (bz b (uN b-1))≠uN b then(65533,1)
 else(bz b (uN b-1),uN b)
def qh:Nat→List UInt8→List Int
 |0,_=> []
 |f+1,b=>if b.isEmpty then [] else(aM b).1::qh f (b.drop (aM b).2.toNat)
def decode(b:List UInt8):List Int:=qh b.length b
def kD:List (Int×Int):= [(65,90),(97,122),(192,214),(216,246),(248,255),(913,929),(931,937),(945,969),(1024,1119)]
def jd:List (Int×Int×Int):= [(65,90,32),(192,214,32),(216,222,32),(913,929,32),(931,937,32),(1024,1039,80),(1040,1071,32)]
def jU(c:Int)(s:Int×Int):Bool:=decide (s.1≤c)&&decide (c≤s.2)
def letter(c:Int):Bool:=kD.any (jU c)
def digit(c:Int):Bool:=decide (48≤c)&&decide (c≤57)
def br(c:Int):Int:=match jd.find? (fun s=>jU c (s.1,s.2.1)) with
 |some s=>c+s.2.2
 |none=>c
def k7(c:Int)(k:Nat):Prop :=k≤9∧∀s∈kD.take k,jU c s=false
def lF(c:Int)(k:Nat):Prop :=k≤7∧∀s∈jd.take k,jU c (s.1,s.2.1)=false
def k8(b:List UInt8)(k:Nat):Prop :=(2≤uN b∧k+1≤uN b∧uN b≤b.length)∧∀x∈(b.drop 1).take k,x.toNat/64=2
def om(b:List UInt8)(r:List UInt8)(l:List Int):Prop :=l++decode r=decode b∧r.length+l.length≤b.length
theorem bL(b:List UInt8)(m:Int)(h1:1≤m)(h:m≤b.length):(List.drop (Int.toNat 1) (List.take (Int.toNat m) b)).length=m.toNat-1:=by
 rw [List.length_drop,List.length_take];omega
theorem ik(b:List UInt8)(m:Int)(x:Nat)(h:(x:Int)+1<m):List.getD (List.drop (Int.toNat 1) (List.take (Int.toNat m) b)) (Int.toNat (x:Int)) 0=b.getD (x+1) 0:=by
 simp only [List.getD_eq_getElem?_getD,List.getElem?_drop,List.getElem?_take,Int.toNat_natCast,show Int.toNat 1=1 by rfl]
 rw [if_pos (by omega),Nat.add_comm]
theorem jV(b:List UInt8)(m:Int)(x:Nat)(h:(x:Int)+1<m):List.getD (List.drop (Int.toNat 1) (List.take (Int.toNat m) b)) x 0=b.getD (x+1) 0:=ik b m x h
section
variable {b:List UInt8} {n x:Nat}
theorem pt(h1:¬((b.getD (Int.toNat 0) 0).toNat:Int)<128)(h2:((b.getD (Int.toNat 0) 0).toNat:Int)/2^Int.toNat 5=6):uN b=2:=by
 have e:((b.getD (Int.toNat 0) 0).toNat:Int)=cb b:=rfl
 simp only [e,show Int.toNat 5=5 by rfl,show Int.toNat 4=4 by rfl,show Int.toNat 3=3 by rfl] at *
 unfold uN
 (repeat' split)<;>omega
theorem pv(h1:¬((b.getD (Int.toNat 0) 0).toNat:Int)<128)(h2:¬((b.getD (Int.toNat 0) 0).toNat:Int)/2^Int.toNat 5=6)(h3:((b.getD (Int.toNat 0) 0).toNat:Int)/2^Int.toNat 4=14):uN b=3:=by
 have e:((b.getD (Int.toNat 0) 0).toNat:Int)=cb b:=rfl
 simp only [e,show Int.toNat 5=5 by rfl,show Int.toNat 4=4 by rfl,show Int.toNat 3=3 by rfl] at *
 unfold uN
 (repeat' split)<;>omega
theorem pw(h1:¬((b.getD (Int.toNat 0) 0).toNat:Int)<128)(h2:¬((b.getD (Int.toNat 0) 0).toNat:Int)/2^Int.toNat 5=6)(h3:¬((b.getD (Int.toNat 0) 0).toNat:Int)/2^Int.toNat 4=14)
  (h4:((b.getD (Int.toNat 0) 0).toNat:Int)/2^Int.toNat 3=30):uN b=4:=by
 have e:((b.getD (Int.toNat 0) 0).toNat:Int)=cb b:=rfl
 simp only [e,show Int.toNat 5=5 by rfl,show Int.toNat 4=4 by rfl,show Int.toNat 3=3 by rfl] at *
 unfold uN
 (repeat' split)<;>omega
theorem uf1(h1:((b.getD (Int.toNat 0) 0).toNat:Int)<128):aM b=(((b.getD (Int.toNat 0) 0).toNat:Int),1):=by
 have hn:uN b=1:=by
  unfold uN;exact if_pos h1
 simp only [aM,hn,if_true];rfl
theorem uf0(h1:¬((b.getD (Int.toNat 0) 0).toNat:Int)<128)(h2:¬((b.getD (Int.toNat 0) 0).toNat:Int)/2^Int.toNat 5=6)(h3:¬((b.getD (Int.toNat 0) 0).toNat:Int)/2^Int.toNat 4=14)
  (h4:¬((b.getD (Int.toNat 0) 0).toNat:Int)/2^Int.toNat 3=30):aM b=(65533,1):=by
 have hn:uN b=0:=by
  have e:((b.getD (Int.toNat 0) 0).toNat:Int)=cb b:=rfl
  simp only [e,show Int.toNat 5=5 by rfl,show Int.toNat 4=4 by rfl,show Int.toNat 3=3 by rfl] at *
  unfold uN
  (repeat' split)<;>omega
 simp [aM,hn]
theorem Jz(hn:uN b=n)(h2:2≤n)(h:b.length<n∨pr b n=false∨bm (bz b (n-1))=false∨cZ (bz b (n-1))≠n):aM b=(65533,1):=by
 subst hn
 simp only [aM]
 rw [if_neg (by omega),if_pos (.inr h)]
theorem oG(hn:uN b=n)(h2:2≤n)(h:(b.length:Int)<n):aM b=(65533,1):=Jz hn h2 (.inl (by omega))
theorem N2(hn:uN b=n)(h2:2≤n)(h:¬(b.length:Int)<n):k8 b 0:=⟨by omega,by simp⟩
theorem am7(h2:((b.getD (Int.toNat 0) 0).toNat:Int)/2^Int.toNat 5=6):Vg.bf ((b.getD (Int.toNat 0) 0).toNat:Int) 31=bz b 0:=by
 rw [NX _ (by omega)]
 have e:((b.getD (Int.toNat 0) 0).toNat:Int)=cb b:=rfl
 simp only [e,show Int.toNat 5=5 by rfl,show Int.toNat 4=4 by rfl,show Int.toNat 3=3 by rfl] at *
 unfold bz uC
 (repeat' split)<;>omega
theorem am8(h2:¬((b.getD (Int.toNat 0) 0).toNat:Int)/2^Int.toNat 5=6)(h3:((b.getD (Int.toNat 0) 0).toNat:Int)/2^Int.toNat 4=14):Vg.bf ((b.getD (Int.toNat 0) 0).toNat:Int) 15=bz b 0:=by
 rw [NW _ (by omega)]
 have e:((b.getD (Int.toNat 0) 0).toNat:Int)=cb b:=rfl
 simp only [e,show Int.toNat 5=5 by rfl,show Int.toNat 4=4 by rfl,show Int.toNat 3=3 by rfl] at *
 unfold bz uC
 (repeat' split)<;>omega
theorem am9(h2:¬((b.getD (Int.toNat 0) 0).toNat:Int)/2^Int.toNat 5=6)(h3:¬((b.getD (Int.toNat 0) 0).toNat:Int)/2^Int.toNat 4=14):Vg.bf ((b.getD (Int.toNat 0) 0).toNat:Int) 7=bz b 0:=by
 rw [T2 _ (by omega)]
 have e:((b.getD (Int.toNat 0) 0).toNat:Int)=cb b:=rfl
 simp only [e,show Int.toNat 5=5 by rfl,show Int.toNat 4=4 by rfl,show Int.toNat 3=3 by rfl] at *
 unfold bz uC
 (repeat' split)<;>omega
theorem Lq(b:List UInt8):∀k,k≤4→0≤bz b k∧bz b k*64^(4-k)≤536870911
 |0,_=>by simp only [bz,uC];split<;>(try split)<;>omega
 |k+1,h=>by
  have ih:=Lq b k (by omega)
  simp only [bz]
  refine⟨by omega,?_⟩
  rw [show 4-k=(4-(k+1))+1 by omega,Int.pow_succ] at ih
  have :k=0∨k=1∨k=2∨k=3:=by omega
  rcases this with rfl|rfl|rfl|rfl<;>simp at ih ⊢ <;>omega
theorem bu(h:k8 b x):x≤3∧0≤bz b x∧bz b x≤536870911∧2≤uN b∧uN b≤4∧x+1≤uN b∧uN b≤b.length:=by
 have h4:uN b≤4:=by simp only [uN];repeat' split<;>try omega
 have hx:x≤3:=by have :=h.1;omega
 have :=Lq b x (by omega)
 have hp:(1:Int)≤64^(4-x):=by
  have :x=0∨x=1∨x=2∨x=3:=by omega
  rcases this with rfl|rfl|rfl|rfl<;>decide
 have hm:bz b x*1≤bz b x*64^(4-x):=Int.mul_le_mul_of_nonneg_left hp this.1
 exact⟨hx,this.1,by omega,h.1.1,h4,h.1.2.1,h.1.2.2⟩
theorem N3(h1:1≤x)(h:x<b.length)(m:Nat)(hm:x≤m):b.getD x 0∈(b.drop 1).take m:=by
 have eD:x-1<((b.drop 1).take m).length:=by rw [List.length_take,List.length_drop];omega
 have :((b.drop 1).take m)[x-1]=b.getD x 0:=by
  rw [List.getElem_take,List.getElem_drop,List.getD_eq_getElem?_getD]
  rw [List.getElem?_eq_getElem h,Option.getD_some]
  congr 1;omega
 rw [←this];exact List.getElem_mem eD
theorem ru(hn:uN b=n)(h:k8 b x)(hx:x+1<n)(hb:¬((b.getD (x+1) 0).toNat:Int)/2^Int.toNat 6=2):aM b=(65533,1):=by
 have bw:=bu h
 refine Jz hn (by omega) (.inr (.inl ?_))
 cases hc:pr b n with
 |false=>rfl
 |true=>
  simp only [pr,List.all_eq_true] at hc
  have :=hc _ (N3 (b:=b) (x:=x+1) (by omega) (by omega) (n-1) (by omega))
  simp only [beq_iff_eq] at this
  simp only [show Int.toNat 6=6 by rfl] at hb
  omega
theorem JA(h:k8 b x)(hb:((b.getD (x+1) 0).toNat:Int)/2^Int.toNat 6=2)(hx:x+1<uN b):k8 b (x+1):=by
 refine⟨by have :=h.1;omega,fun y hy=> ?_⟩
 have bw:=bu h
 have hl:x<(b.drop 1).length:=by rw [List.length_drop];omega
 rw [aG _ x 0 hl] at hy
 rcases List.mem_append.1 hy with hy|hy
 · exact h.2 y hy
 · simp only [List.mem_singleton,List.getD_eq_getElem?_getD,List.getElem?_drop] at hy
   subst hy
   simp only [List.getD_eq_getElem?_getD,show Int.toNat 6=6 by rfl,Nat.add_comm x 1] at hb
   omega
theorem N4(h:k8 b x)(hx:x+1<uN b):Vg.cG (bz b x*2^Int.toNat 6) (Vg.bf ((b.getD (x+1) 0).toNat:Int) 63)=bz b (x+1):=by
 have :=bu h
 rw [D9 _ (by omega),show Int.toNat 6=6 by rfl,iL _ _ 6 this.2.1 (by omega) (by omega)]
 rfl
theorem Lr(h:k8 b x)(hx:x+1=uN b):pr b (uN b)=true :=by
 simp only [pr,List.all_eq_true,←hx,Nat.add_sub_cancel]
 intro y hy
 simpa using h.2 y hy
theorem Ů {c:Bool}(hn:uN b=n)(h:k8 b x)(hx:x+1=n)(hc:(bif !bm (bz b x) then true else !decide (cZ (bz b x)=(n:Int)))=c):aM b=if c=true then(65533,1) else(bz b x,(n:Int)):=by
 have hb:=bu h
 have agW:=Lr h (by omega)
 subst hn
 simp only [aM,←hx,Nat.add_sub_cancel]
 rw [hx,agW]
 rw [if_neg (by omega)]
 rw [hx] at *
 cases hr:bm (bz b x)<;>by_cases hs:cZ (bz b x)=(uN b:Int)<;>simp [hr,hs] at hc ⊢ <;>subst hc<;>simp<;>omega
end
theorem ů(c:Int):Vg.cG (c%64) 128=((more c).toNat:Int):=by
 rw [Ea _ (by omega) (by omega)]
 simp only [more,u8]
 rw [UInt8.toNat_ofNat'];omega
theorem dF {c:Int}(h:bm c=true):0≤c∧c≤1114111:=by
 simp only [bm,Bool.and_eq_true,decide_eq_true_eq] at h;exact⟨h.1,h.2.1⟩
theorem N5(x:UInt8):UInt8.ofNat (Int.toNat (x.toNat:Int))=x:=by simp
theorem Ű(c:Int)(h0:0≤c)(h:c<128): [UInt8.ofNat (Int.toNat (c%256))]=enc c:=by
 simp only [enc,if_pos h,u8,show c%256=c by omega]
theorem ű(d:Int)(h0:0≤d)(h:d<32):Vg.cG 192 d=192+d:=by
 rw [show(192:Int)=6*2^5 by rfl,iL 6 d 5 (by omega) h0 h]
theorem Ų(d:Int)(h0:0≤d)(h:d<16):Vg.cG 224 d=224+d:=by
 rw [show(224:Int)=14*2^4 by rfl,iL 14 d 4 (by omega) h0 h]
theorem ų(d:Int)(h0:0≤d)(h:d<8):Vg.cG 240 d=240+d:=by
 rw [show(240:Int)=30*2^3 by rfl,iL 30 d 3 (by omega) h0 h]
theorem Ŵ(c:Int)(h0:0≤c)(h:128≤c∧c<2048): [UInt8.ofNat (Int.toNat (Vg.cG 192 (c/2^Int.toNat 6%256))),UInt8.ofNat (Int.toNat ((more c).toNat:Int))]=enc c:=by
 simp only [enc,if_neg (by omega :¬c<128),if_pos h.2,N5,u8,show Int.toNat 6=6 by rfl]
 rw [show c/2^6%256=c/64 by omega,ű _ (by omega) (by omega)]
theorem ŵ(c:Int)(h0:0≤c)(h:2048≤c∧c<65536): [UInt8.ofNat (Int.toNat (Vg.cG 224 (c/2^Int.toNat 12%256))),UInt8.ofNat (Int.toNat ((more (c/2^Int.toNat 6)).toNat:Int)),UInt8.ofNat (Int.toNat ((more c).toNat:Int))]=enc c:=by
 simp only [enc,if_neg (by omega :¬c<128),if_neg (by omega :¬c<2048),if_pos h.2,N5,u8,show Int.toNat 6=6 by rfl,show Int.toNat 12=12 by rfl]
 rw [show c/2^12%256=c/4096 by omega,Ų _ (by omega) (by omega),show c/2^6=c/64 by omega]
theorem Ŷ(c:Int)(h0:0≤c)(h1:c≤1114111)(h:65536≤c): [UInt8.ofNat (Int.toNat (Vg.cG 240 (c/2^Int.toNat 18%256))),UInt8.ofNat (Int.toNat ((more (c/2^Int.toNat 12)).toNat:Int)),UInt8.ofNat (Int.toNat ((more (c/2^Int.toNat 6)).toNat:Int)),UInt8.ofNat (Int.toNat ((more c).toNat:Int))]=enc c:=by
 simp only [enc,if_neg (by omega :¬c<128),if_neg (by omega :¬c<2048),if_neg (by omega :¬c<65536),N5,u8,show Int.toNat 6=6 by rfl,show Int.toNat 12=12 by rfl,show Int.toNat 18=18 by rfl]
 rw [show c/2^18%256=c/262144 by omega,ų _ (by omega) (by omega),show c/2^6=c/64 by omega,show c/2^12=c/4096 by omega]
theorem py(b:List UInt8)(h:0<b.length):1≤(aM b).2∧(aM b).2≤b.length∧0≤(aM b).1∧(aM b).1≤1114111:=by
 unfold aM
 split
 · have :=(b.getD 0 0).toNat_lt
   simp only [cb];omega
 · split
   · simp only;omega
   · rename_i h1 h2
     simp only [not_or,Bool.not_eq_false] at h2
     have :=dF h2.2.2.2.1
     simp only;omega
theorem yX:∀(f g:Nat) (b:List UInt8),b.length≤f→b.length≤g→qh f b=qh g b
 |0,0,b,_,_=>rfl
 |0,g+1,b,h,_=>by
  have :b= []:=List.eq_nil_of_length_eq_zero (by omega)
  subst this;simp [qh]
 |f+1,0,b,_,h=>by
  have :b= []:=List.eq_nil_of_length_eq_zero (by omega)
  subst this;simp [qh]
 |f+1,g+1,b,h1,h2=>by
  simp only [qh]
  cases hb:b.isEmpty with
  |true=>rfl
  |false=>
   have hl:0<b.length:=by
    rw [List.isEmpty_eq_false_iff] at hb
    exact List.length_pos_iff.2 hb
   have :=py b hl
   simp only [Bool.false_eq_true,if_false]
   rw [yX f g _ (by rw [List.length_drop];omega) (by rw [List.length_drop];omega)]
theorem Ls:decode []= []:=rfl
theorem su(b:List UInt8)(h:0<b.length):decode b=(aM b).1::decode (b.drop (aM b).2.toNat):=by
 have hb:=py b h
 unfold decode
 obtain⟨n,hn⟩:∃n,b.length=n+1:=⟨b.length-1,by omega⟩
 rw [hn]
 simp only [qh]
 have :b.isEmpty=false :=by rw [List.isEmpty_eq_false_iff];exact List.length_pos_iff.1 h
 rw [this]
 simp only [Bool.false_eq_true,if_false]
 rw [yX n _ _ (by rw [List.length_drop];omega) (Nat.le_refl _)]
theorem agX(b:List UInt8):om b b []:=⟨rfl,by simp⟩
theorem JB {b r:List UInt8} {l:List Int}(h:om b r l)(hr:0<(r.length:Int)):1≤(aM r).2∧(aM r).2≤r.length∧r.length+l.length≤b.length:=by
 have :=py r (by omega)
 exact⟨this.1,this.2.1,h.2⟩
theorem T7 {b r:List UInt8} {l:List Int}(h:om b r l)(hr:0<(r.length:Int)):om b (r.drop (aM r).2.toNat) (l++ [(aM r).1]):=by
 have hb:=py r (by omega)
 refine⟨?_,?_⟩
 · rw [List.append_assoc,List.singleton_append,←su r (by omega)];exact h.1
 · have :=h.2
   rw [List.length_drop,List.length_append];simp;omega
theorem Wf {b r:List UInt8} {l:List Int}(h:om b r l)(hr:¬0<(r.length:Int)):l=decode b:=by
 have :r= []:=List.eq_nil_of_length_eq_zero (by omega)
 subst this
 have :=h.1
 rw [Ls,List.append_nil] at this;exact this
theorem uw(b:List UInt8):(decode b).length≤b.length:=by
 have :∀f (c:List UInt8),(qh f c).length≤f:=by
  intro f
  induction f with
  |zero=>intro c;simp [qh]
  |succ f ih=>intro c;simp only [qh];split;simp;have :=ih (c.drop (aM c).2.toNat);simp;omega
 exact this _ _
theorem Ed(a b:Bool):(bif a then b else false)=(a&&b):=by cases a<;>rfl
theorem nine {x:Nat}(h:(x:Int)<9):x=0∨x=1∨x=2∨x=3∨x=4∨x=5∨x=6∨x=7∨x=8:=by omega
theorem Ee {c:Int} {x:Nat}(h:(x:Int)<9):(bif decide (List.getD [65,97,192,216,248,913,931,945,1024] (Int.toNat (x:Int)) 0≤c) then decide (c≤List.getD [90,122,214,246,255,929,937,969,1119] (Int.toNat (x:Int)) 0) else false)=jU c (kD.getD x (0,0)):=by
 rcases nine h with rfl|rfl|rfl|rfl|rfl|rfl|rfl|rfl|rfl<;>simp only [jU,kD,Int.toNat_natCast,List.getD_cons_zero,List.getD_cons_succ,Ed]
theorem N6 {c:Int} {x:Nat}(h:(x:Int)<9)(hc:(bif decide (List.getD [65,97,192,216,248,913,931,945,1024] (Int.toNat (x:Int)) 0≤c) then decide (c≤List.getD [90,122,214,246,255,929,937,969,1119] (Int.toNat (x:Int)) 0) else false)=true):true=letter c:=by
 rw [Ee h] at hc
 symm
 simp only [letter,List.any_eq_true]
 exact⟨_,bo kD x (0,0) (by simp only [kD,List.length_cons,List.length_nil];omega),hc⟩
theorem N7 {c:Int} {x:Nat}(hi:k7 c x)(h:(x:Int)<9)(hc:(bif decide (List.getD [65,97,192,216,248,913,931,945,1024] (Int.toNat (x:Int)) 0≤c) then decide (c≤List.getD [90,122,214,246,255,929,937,969,1119] (Int.toNat (x:Int)) 0) else false)=false):k7 c (x+1):=by
 rw [Ee h] at hc
 refine⟨by omega,fun s hs=> ?_⟩
 rw [aG kD x (0,0) (by simp only [kD,List.length_cons,List.length_nil];omega)] at hs
 rcases List.mem_append.1 hs with hs|hs
 · exact hi.2 s hs
 · rw [List.mem_singleton.1 hs];exact hc
theorem N8 {c:Int} {x:Nat}(hi:k7 c x)(h:¬(x:Int)<9):false=letter c:=by
 symm
 have hx:x=9:=by have :=hi.1;omega
 subst hx
 simp only [letter,List.any_eq_false]
 intro s hs
 have :=hi.2 s (by simpa [kD] using hs)
 rw [this];simp
theorem seven {x:Nat}(h:(x:Int)<7):x=0∨x=1∨x=2∨x=3∨x=4∨x=5∨x=6:=by omega
theorem He {c:Int} {x:Nat}(h:(x:Int)<7):(bif decide (List.getD [65,192,216,913,931,1024,1040] (Int.toNat (x:Int)) 0≤c) then decide (c≤List.getD [90,214,222,929,937,1039,1071] (Int.toNat (x:Int)) 0) else false)=jU c ((jd.getD x (0,0,0)).1,(jd.getD x (0,0,0)).2.1)∧
  List.getD ([32,32,32,32,32,80,32]:List Int) (Int.toNat (x:Int)) 0=(jd.getD x (0,0,0)).2.2:=by
 rcases seven h with rfl|rfl|rfl|rfl|rfl|rfl|rfl<;>simp only [jU,jd,Int.toNat_natCast,List.getD_cons_zero,List.getD_cons_succ,Ed,and_self]
theorem Bj {α:Type}(p:α→Bool)(d:α):∀(l:List α) (x:Nat),x<l.length→(∀s∈l.take x,p s=false)→p (l.getD x d)=true→l.find? p=some (l.getD x d)
 | [],x,h,_,_=>by simp at h
 |a::l,0,_,_,h=>by simp only [List.getD_cons_zero] at h ⊢;simp [List.find?_cons,h]
 |a::l,x+1,hx,h1,h=>by
  have ha:=h1 a (by simp)
  simp only [List.getD_cons_succ] at h ⊢
  rw [List.find?_cons,ha]
  exact Bj p d l x (by simpa using hx) (fun s hs=>h1 s (by simp [hs])) h
theorem Hf {c:Int} {x:Nat}(hi:lF c x)(h:(x:Int)<7)(hc:(bif decide (List.getD [65,192,216,913,931,1024,1040] (Int.toNat (x:Int)) 0≤c) then decide (c≤List.getD [90,214,222,929,937,1039,1071] (Int.toNat (x:Int)) 0) else false)=true):
  c+List.getD ([32,32,32,32,32,80,32]:List Int) (Int.toNat (x:Int)) 0=br c∧(c≤1071∧65≤c∧List.getD ([32,32,32,32,32,80,32]:List Int) (Int.toNat (x:Int)) 0≤80∧0≤List.getD ([32,32,32,32,32,80,32]:List Int) (Int.toNat (x:Int)) 0):=by
 have Lt:=He (c:=c) h
 refine⟨?_,?_⟩
 · rw [Lt.1] at hc
   rw [Lt.2]
   simp only [br]
   rw [Bj (fun s=>jU c (s.1,s.2.1)) (0,0,0) jd x (by simp only [jd,List.length_cons,List.length_nil];omega) hi.2 hc]
 · rcases seven h with rfl|rfl|rfl|rfl|rfl|rfl|rfl<;>simp [List.getD] at hc ⊢ <;>omega
theorem T8 {c:Int} {x:Nat}(hi:lF c x)(h:(x:Int)<7)(hc:(bif decide (List.getD [65,192,216,913,931,1024,1040] (Int.toNat (x:Int)) 0≤c) then decide (c≤List.getD [90,214,222,929,937,1039,1071] (Int.toNat (x:Int)) 0) else false)=false):lF c (x+1):=by
 rw [(He h).1] at hc
 refine⟨by omega,fun s hs=> ?_⟩
 rw [aG jd x (0,0,0) (by simp only [jd,List.length_cons,List.length_nil];omega)] at hs
 rcases List.mem_append.1 hs with hs|hs
 · exact hi.2 s hs
 · rw [List.mem_singleton.1 hs];exact hc
theorem T9 {c:Int} {x:Nat}(hi:lF c x)(h:¬(x:Int)<7):c=br c:=by
 have hx:x=7:=by have :=hi.1;omega
 subst hx
 simp only [br]
 rw [List.find?_eq_none.2 (fun s hs=>by rw [hi.2 s (by simpa [jd] using hs)];simp)]
theorem rv {b:List UInt8} {n x:Nat} {m:Int}(hn:uN b=n)(h:k8 b x)(hx:x+1=n)(hc:bm (bz b x)=false∨¬cZ (bz b x)=m)(hm:(n:Int)=m):aM b=(65533,1):=by
 subst hm
 have hb:=bu h
 refine Jz hn (by omega) ?_
 rw [show n-1=x by omega]
 rcases hc with hc|hc
 · exact .inr (.inr (.inl hc))
 · exact .inr (.inr (.inr hc))
theorem ry {b:List UInt8} {n x:Nat} {m:Int}(hn:uN b=n)(h:k8 b x)(hx:x+1=n)(hc:bm (bz b x)=true∧cZ (bz b x)=m)(hm:(n:Int)=m):aM b=(bz b x,m):=by
 subst hm
 have :=Ů (c:=false) hn h hx (by simp [hc.1,hc.2])
 simpa using this
theorem N9 {A B:Prop} [Decidable A] [Decidable B](h:A∧B):(bif decide A then decide B else false)=true :=by simp [h.1,h.2]
theorem Wg {A B:Prop} [Decidable A] [Decidable B](h:¬A∨¬B):(bif decide A then decide B else false)=false :=by
 by_cases ha:A<;>by_cases hb:B<;>simp_all
end Go.S
namespace Go.S
def Ct(c:Int):Bool:=(decide (0≤c)&&decide (c<55296)) || (decide (57343<c)&&decide (c<1114112))
def ej(c a b:Int):Bool:=decide (a≤c)&&decide (c≤b)
def PV(n:Int):Int:= [0,0,192,224,240].getD n.toNat 0
def Wh(b:List UInt8)(n:Int):Nat→Int
 |0=>cb b-PV n
 |k+1=>Wh b n k*64+((b.getD (k+1) 0).toNat:Int)-128
def bE(b:List UInt8)(n:Int):Int:=if(b.length:Int)<n then -1 else Wh b n (n.toNat-1)
def nY(b:List UInt8)(k:Nat):Bool:=Ct (bE b k)&&decide (enc (bE b k)=b.take k)
def qO(b:List UInt8):Nat→Int×Int
 |0=>(65533,1)
 |k+1=>if nY b (k+1) then(bE b (k+1:Nat),((k+1:Nat):Int)) else qO b k
theorem Oa(c:Int):Ct c=bm c:=by
 simp only [Ct,bm]
 by_cases h1:0≤c<;>by_cases h2:c<55296<;>by_cases h3:57343<c<;>by_cases h4:c≤1114111<;>simp [h1,h2,h3,h4]<;>omega
theorem Ae {c:Int} {y:UInt8}(h0:0≤c)(h1:c<256):u8 c=y↔c=(y.toNat:Int):=by
 have hy:=y.toNat_lt
 constructor
 · intro h
   have :=congrArg UInt8.toNat h
   simp only [u8] at this
   rw [UInt8.toNat_ofNat'] at this
   omega
 · intro h
   subst h;simp [u8]
theorem Ef {c:Int} {y:UInt8}:more c=y↔128+c%64=(y.toNat:Int):=Ae (by omega) (by omega)
theorem agY {c:Int} {y0:UInt8}(h0:0≤c)(h1:c≤1114111):enc c= [y0]↔c<128∧c=(y0.toNat:Int):=by
 unfold enc
 split
 · simp only [List.cons.injEq,and_true,Ae h0 (by omega), *,true_and]
 · (repeat' split)<;>simp<;>omega
theorem Wi {c:Int} {y0 y1:UInt8}(h0:0≤c)(h1:c≤1114111):enc c= [y0,y1]↔128≤c∧c<2048∧192+c/64=(y0.toNat:Int)∧128+c%64=(y1.toNat:Int):=by
 unfold enc
 split
 · simp;omega
 · split
   · simp only [List.cons.injEq,and_true,Ae (c:=192+c/64) (by omega) (by omega),Ef];omega
   · (repeat' split)<;>simp<;>omega
theorem Wj {c:Int} {y0 y1 y2:UInt8}(h0:0≤c)(h1:c≤1114111):enc c= [y0,y1,y2]↔2048≤c∧c<65536∧224+c/4096=(y0.toNat:Int)∧128+c/64%64=(y1.toNat:Int)∧128+c%64=(y2.toNat:Int):=by
 unfold enc
 split
 · simp;omega
 · split
   · simp;omega
   · split
     · simp only [List.cons.injEq,and_true,Ae (c:=224+c/4096) (by omega) (by omega),Ef];omega
     · simp;omega
theorem Wk {c:Int} {y0 y1 y2 y3:UInt8}(h0:0≤c)(h1:c≤1114111):enc c= [y0,y1,y2,y3]↔65536≤c∧240+c/262144=(y0.toNat:Int)∧128+c/4096%64=(y1.toNat:Int)∧128+c/64%64=(y2.toNat:Int)∧128+c%64=(y3.toNat:Int):=by
 unfold enc
 split
 · simp;omega
 · split
   · simp;omega
   · split
     · simp;omega
     · simp only [List.cons.injEq,and_true,Ae (c:=240+c/262144) (by omega) (by omega),Ef];omega
def il(b:List UInt8)(k:Nat):Prop :=uN b=k∧k≤b.length∧(k=1∨(pr b k=true∧bm (bz b (k-1))=true∧cZ (bz b (k-1))=(k:Int)))
theorem rz(b:List UInt8)(k:Nat):nY b k=true↔bm (bE b k)=true∧enc (bE b k)=b.take k:=by
 simp only [nY,Oa,Bool.and_eq_true,decide_eq_true_eq]
theorem Ob {b:List UInt8} {k:Nat}(h:b.length<k):nY b k=false :=by
 have :bE b k= -1:=by simp only [bE];rw [if_pos (by omega)]
 simp only [nY,this,Ct];rfl
theorem Lu(b:List UInt8):0≤cb b∧cb b<256:=by have :=(b.getD 0 0).toNat_lt;simp only [cb];omega
theorem JC(x0:UInt8)(l:List UInt8):(nY (x0::l) 1=true↔il (x0::l) 1)∧bE (x0::l) 1=cb (x0::l):=by
 have hb:bE (x0::l) 1=cb (x0::l):=by
  simp only [bE];rw [if_neg (by simp;omega)];simp [Wh,PV]
 refine⟨?_,hb⟩
 have hl:=Lu (x0::l)
 rw [rz]
 show bm (bE (x0::l) 1)=true∧enc (bE (x0::l) 1)= [x0]↔_
 rw [hb]
 have hr:bm (cb (x0::l))=true :=by simp [bm];omega
 rw [agY hl.1 (by omega),hr]
 simp only [il,uN,true_or,and_true,List.length_cons,true_and]
 have :cb (x0::l)=(x0.toNat:Int):=rfl
 constructor
 · intro h;rw [if_pos h.1];exact⟨rfl,by omega⟩
 · intro h
   refine⟨?_,this⟩
   by_cases h1:cb (x0::l)<128
   · exact h1
   · rw [if_neg h1] at h;(repeat' split at h)<;>omega
theorem Ua(b:List UInt8):uN b=2↔cb b/32=6:=by unfold uN;(repeat' split)<;>omega
theorem Ub(b:List UInt8):uN b=3↔cb b/16=14:=by unfold uN;(repeat' split)<;>omega
theorem Uc(b:List UInt8):uN b=4↔cb b/8=30:=by unfold uN;(repeat' split)<;>omega
theorem Lv(c:Int):cZ c=2↔128≤c∧c<2048:=by unfold cZ;(repeat' split)<;>omega
theorem Lw(c:Int):cZ c=3↔2048≤c∧c<65536:=by unfold cZ;(repeat' split)<;>omega
theorem Lx(c:Int):cZ c=4↔65536≤c:=by unfold cZ;(repeat' split)<;>omega
theorem dz(c:Int):bm c=true↔0≤c∧c≤1114111∧(c<55296∨57343<c):=by simp [bm]
theorem Wl(x0 x1:UInt8)(l:List UInt8):(nY (x0::x1::l) 2=true↔il (x0::x1::l) 2)∧(il (x0::x1::l) 2→bE (x0::x1::l) 2=bz (x0::x1::l) 1):=by
 have h0:=x0.toNat_lt;have h1:=x1.toNat_lt
 have hb:bE (x0::x1::l) 2=((x0.toNat:Int)-192)*64+x1.toNat-128:=by
  simp only [bE];rw [if_neg (by simp;omega)];rfl
 have hl:cb (x0::x1::l)=(x0.toNat:Int):=rfl
 have ha:cb (x0::x1::l)/32=6→bz (x0::x1::l) 1=(x0.toNat:Int)%32*64+(x1.toNat:Int)%64:=by
  intro h
  simp only [bz,uC];rw [if_pos h];rfl
 have hg:il (x0::x1::l) 2↔(cb (x0::x1::l)/32=6∧(x1.toNat/64=2∧bm (bz (x0::x1::l) 1)=true∧cZ (bz (x0::x1::l) 1)=2)):=by
  simp only [il,Ua]
  simp [pr]
 rw [hg,rz]
 show(bm (bE (x0::x1::l) 2)=true∧enc (bE (x0::x1::l) 2)= [x0,x1]↔_)∧_
 rw [hb]
 refine⟨⟨fun⟨g1,g2⟩=> ?_,fun⟨g1,g2,g3,g4⟩=> ?_⟩,fun⟨g1,g2,g3,g4⟩=> ?_⟩
 · rw [dz] at g1
   rw [Wi (by omega) (by omega)] at g2
   have g6:cb (x0::x1::l)/32=6:=by rw [hl];omega
   refine⟨g6,by omega,?_,?_⟩
   · rw [ha g6,dz];omega
   · rw [ha g6,Lv];omega
 · rw [ha g1] at g3 g4
   rw [dz] at g3;rw [Lv] at g4;rw [hl] at g1
   have :((x0.toNat:Int)-192)*64+x1.toNat-128=(x0.toNat:Int)%32*64+(x1.toNat:Int)%64:=by omega
   rw [this,dz]
   refine⟨g3,?_⟩
   rw [Wi (by omega) (by omega)];omega
 · rw [ha g1];rw [hl] at g1;omega
theorem Wm(x0 x1 x2:UInt8)(l:List UInt8):(nY (x0::x1::x2::l) 3=true↔il (x0::x1::x2::l) 3)∧(il (x0::x1::x2::l) 3→bE (x0::x1::x2::l) 3=bz (x0::x1::x2::l) 2):=by
 have h0:=x0.toNat_lt;have h1:=x1.toNat_lt;have h2:=x2.toNat_lt
 have hb:bE (x0::x1::x2::l) 3=(((x0.toNat:Int)-224)*64+x1.toNat-128)*64+x2.toNat-128:=by
  simp only [bE];rw [if_neg (by simp;omega)];rfl
 have hl:cb (x0::x1::x2::l)=(x0.toNat:Int):=rfl
 have ha:cb (x0::x1::x2::l)/16=14→bz (x0::x1::x2::l) 2=((x0.toNat:Int)%16*64+(x1.toNat:Int)%64)*64+(x2.toNat:Int)%64:=by
  intro h
  simp only [bz,uC];rw [if_neg (by omega),if_pos h];rfl
 have hg:il (x0::x1::x2::l) 3↔(cb (x0::x1::x2::l)/16=14∧((x1.toNat/64=2∧x2.toNat/64=2)∧bm (bz (x0::x1::x2::l) 2)=true∧cZ (bz (x0::x1::x2::l) 2)=3)):=by
  simp only [il,Ub]
  simp [pr]
 rw [hg,rz]
 show(bm (bE (x0::x1::x2::l) 3)=true∧enc (bE (x0::x1::x2::l) 3)= [x0,x1,x2]↔_)∧_
 rw [hb]
 refine⟨⟨fun⟨g1,g2⟩=> ?_,fun⟨g1,g2,g3,g4⟩=> ?_⟩,fun⟨g1,g2,g3,g4⟩=> ?_⟩
 · rw [dz] at g1
   rw [Wj (by omega) (by omega)] at g2
   have g6:cb (x0::x1::x2::l)/16=14:=by rw [hl];omega
   refine⟨g6,by omega,?_,?_⟩
   · rw [ha g6,dz];omega
   · rw [ha g6,Lw];omega
 · rw [ha g1] at g3 g4
   rw [dz] at g3;rw [Lw] at g4;rw [hl] at g1
   have :(((x0.toNat:Int)-224)*64+x1.toNat-128)*64+x2.toNat-128=((x0.toNat:Int)%16*64+(x1.toNat:Int)%64)*64+(x2.toNat:Int)%64:=by omega
   rw [this,dz]
   refine⟨g3,?_⟩
   rw [Wj (by omega) (by omega)];omega
 · rw [ha g1];rw [hl] at g1;omega
theorem Wn(x0 x1 x2 x3:UInt8)(l:List UInt8):(nY (x0::x1::x2::x3::l) 4=true↔il (x0::x1::x2::x3::l) 4)∧(il (x0::x1::x2::x3::l) 4→bE (x0::x1::x2::x3::l) 4=bz (x0::x1::x2::x3::l) 3):=by
 have h0:=x0.toNat_lt;have h1:=x1.toNat_lt;have h2:=x2.toNat_lt;have h3:=x3.toNat_lt
 have hb:bE (x0::x1::x2::x3::l) 4=((((x0.toNat:Int)-240)*64+x1.toNat-128)*64+x2.toNat-128)*64+x3.toNat-128:=by
  simp only [bE];rw [if_neg (by simp;omega)];rfl
 have hl:cb (x0::x1::x2::x3::l)=(x0.toNat:Int):=rfl
 have ha:cb (x0::x1::x2::x3::l)/8=30→bz (x0::x1::x2::x3::l) 3=(((x0.toNat:Int)%8*64+(x1.toNat:Int)%64)*64+(x2.toNat:Int)%64)*64+(x3.toNat:Int)%64:=by
  intro h
  simp only [bz,uC];rw [if_neg (by omega),if_neg (by omega)];rfl
 have hg:il (x0::x1::x2::x3::l) 4↔(cb (x0::x1::x2::x3::l)/8=30∧((x1.toNat/64=2∧x2.toNat/64=2∧x3.toNat/64=2)∧bm (bz (x0::x1::x2::x3::l) 3)=true∧cZ (bz (x0::x1::x2::x3::l) 3)=4)):=by
  simp only [il,Uc]
  simp [pr]
 rw [hg,rz]
 show(bm (bE (x0::x1::x2::x3::l) 4)=true∧enc (bE (x0::x1::x2::x3::l) 4)= [x0,x1,x2,x3]↔_)∧_
 rw [hb]
 refine⟨⟨fun⟨g1,g2⟩=> ?_,fun⟨g1,g2,g3,g4⟩=> ?_⟩,fun⟨g1,g2,g3,g4⟩=> ?_⟩
 · rw [dz] at g1
   rw [Wk (by omega) (by omega)] at g2
   have g6:cb (x0::x1::x2::x3::l)/8=30:=by rw [hl];omega
   refine⟨g6,by omega,?_,?_⟩
   · rw [ha g6,dz];omega
   · rw [ha g6,Lx];omega
 · rw [ha g1] at g3 g4
   rw [dz] at g3;rw [Lx] at g4;rw [hl] at g1
   have :((((x0.toNat:Int)-240)*64+x1.toNat-128)*64+x2.toNat-128)*64+x3.toNat-128=(((x0.toNat:Int)%8*64+(x1.toNat:Int)%64)*64+(x2.toNat:Int)%64)*64+(x3.toNat:Int)%64:=by omega
   rw [this,dz]
   refine⟨g3,?_⟩
   rw [Wk (by omega) (by omega)];omega
 · rw [ha g1];rw [hl] at g1;omega
theorem pz(b:List UInt8)(k:Nat)(hb:0<b.length)(h1:1≤k)(h4:k≤4):(nY b k=true↔il b k)∧(il b k→bE b k=bz b (k-1)∨(k=1∧bE b k=cb b)):=by
 by_cases hs:b.length<k
 · rw [Ob hs]
   exact⟨⟨fun h=>absurd h (by decide),fun h=>absurd h.2.1 (by omega)⟩,fun h=>absurd h.2.1 (by omega)⟩
 · have :k=1∨k=2∨k=3∨k=4:=by omega
   match b,this with
   | [],_=>simp at hb
   |x0::l, .inl h=>subst h;exact⟨(JC x0 l).1,fun _=> .inr ⟨rfl,(JC x0 l).2⟩⟩
   |x0::x1::l, .inr (.inl h)=>subst h;exact⟨(Wl x0 x1 l).1,fun g=> .inl ((Wl x0 x1 l).2 g)⟩
   |x0::x1::x2::l, .inr (.inr (.inl h))=>subst h;exact⟨(Wm x0 x1 x2 l).1,fun g=> .inl ((Wm x0 x1 x2 l).2 g)⟩
   |x0::x1::x2::x3::l, .inr (.inr (.inr h))=>subst h;exact⟨(Wn x0 x1 x2 x3 l).1,fun g=> .inl ((Wn x0 x1 x2 x3 l).2 g)⟩
   | [_], .inr (.inl h)=>subst h;simp at hs
   | [_], .inr (.inr (.inl h))=>subst h;simp at hs
   | [_,_], .inr (.inr (.inl h))=>subst h;simp at hs
   | [_], .inr (.inr (.inr h))=>subst h;simp at hs
   | [_,_], .inr (.inr (.inr h))=>subst h;simp at hs
   | [_,_,_], .inr (.inr (.inr h))=>subst h;simp at hs
theorem Ly {b:List UInt8} {k:Nat}(h:il b k)(h1:1≤k)(h4:k≤4)(hb:0<b.length):aM b=(bE b k,(k:Int)):=by
 have ht:=(pz b k hb h1 h4).2 h
 obtain⟨hn,hl,hr⟩:=h
 simp only [aM,hn]
 by_cases hk:k=1
 · subst hk
   rw [if_pos rfl]
   rcases ht with ht|ht
   · obtain⟨x0,l,rfl⟩:∃x0 l,b=x0::l:=by cases b with
      |nil=>simp at hb
      |cons x l=>exact⟨x,l,rfl⟩
     have e:bE (x0::l) ((1:Nat):Int)=cb (x0::l):=(JC x0 l).2
     rw [e];rfl
   · rw [ht.2];rfl
 · rw [if_neg hk]
   rcases hr with hr|hr
   · omega
   · rw [if_neg (by simp only [not_or];refine⟨by omega,by omega,by simp [hr.1],by simp [hr.2.1],by simp [hr.2.2]⟩)]
     rcases ht with ht|ht
     · rw [ht]
     · omega
theorem Hg {b:List UInt8}(hb:0<b.length)(n:Nat):∀k,k≤4→(∀j,j≤k→1≤j→¬il b j)→qO b k=(65533,1)
 |0,_,_=>rfl
 |k+1,h4,h=>by
  simp only [qO]
  have :nY b (k+1)=false :=by
   cases ht:nY b (k+1) with
   |false=>rfl
   |true=>exact absurd ((pz b (k+1) hb (by omega) h4).1.1 ht) (h _ (Nat.le_refl _) (by omega))
  rw [this]
  exact Hg hb n k (by omega) (fun j hj=>h j (by omega))
theorem xC {b:List UInt8}(hb:0<b.length) {n:Nat}(hg:il b n)(h1:1≤n):∀k,k≤4→n≤k→qO b k=(bE b n,(n:Int))
 |0,_,h=>by omega
 |k+1,h4,h=>by
  simp only [qO]
  by_cases hk:n=k+1
  · subst hk
    rw [(pz b (k+1) hb (by omega) h4).1.2 hg,if_pos rfl]
  · have :nY b (k+1)=false :=by
     cases ht:nY b (k+1) with
     |false=>rfl
     |true=>
      have :=(pz b (k+1) hb (by omega) h4).1.1 ht
      have h2:=this.1;have h3:=hg.1;omega
    rw [this]
    exact xC hb hg h1 k (by omega) (by omega)
theorem Wo(b:List UInt8):uN b≤4:=by unfold uN;(repeat' split)<;>omega
theorem Bk(b:List UInt8)(hb:0<b.length):qO b 4=aM b:=by
 by_cases hg:il b (uN b)∧1≤uN b
 · rw [xC hb hg.1 hg.2 4 (Nat.le_refl _) (Wo b),Ly hg.1 hg.2 (Wo b) hb]
 · rw [Hg hb 0 4 (Nat.le_refl _) (fun j hj h1 h=>hg (by have :=h.1;rw [this];exact⟨h,h1⟩))]
   symm
   simp only [aM]
   by_cases h1:uN b=1
   · exfalso;apply hg
     exact⟨⟨rfl,by omega, .inl h1⟩,by omega⟩
   · rw [if_neg h1]
     rw [if_pos]
     by_cases h0:uN b=0
     · exact .inl h0
     · refine .inr ?_
       by_cases hl:b.length<uN b
       · exact .inl hl
       · refine .inr ?_
         cases hc:pr b (uN b) with
         |false=>exact .inl rfl
         |true=>
          cases hr:bm (bz b (uN b-1)) with
          |false=>exact .inr (.inl rfl)
          |true=>
           refine .inr (.inr fun hs=>hg ⟨⟨rfl,by omega, .inr ⟨hc,hr,hs⟩⟩,by omega⟩)
theorem Oc(c:Int):letter c=(ej c 65 90 || (ej c 97 122 || (ej c 192 214 || (ej c 216 246 || (ej c 248 255 || (ej c 913 929 || (ej c 931 937 || (ej c 945 969 || ej c 1024 1119)))))))):=by
 simp only [letter,kD,jU,ej,List.any_cons,List.any_nil,Bool.or_false]
theorem Af {c:Int}(h:ej c 1024 1039=true):c+80=br c∧c≤1039∧1024≤c:=by
 simp only [ej,Bool.and_eq_true,decide_eq_true_eq] at h
 refine⟨?_,by omega⟩
 have :∀a e:Int,e<1024→(decide (a≤c)&&decide (c≤e))=false :=fun a e he=>by
  rw [decide_eq_false (p:=c≤e) (by omega),Bool.and_false]
 simp only [br,jd,jU,List.find?_cons]
 rw [this _ _ (by decide),this _ _ (by decide),this _ _ (by decide),this _ _ (by decide),this _ _ (by decide)]
 simp only [decide_eq_true h.1,decide_eq_true h.2,Bool.and_self]
theorem Ag {c:Int}(h:ej c 1024 1039=false)(hc:ej c 65 90=true∨ej c 192 214=true∨ej c 216 222=true∨ej c 913 929=true∨ej c 931 937=true∨ej c 1040 1071=true):c+32=br c∧c≤1071∧65≤c:=by
 have hb:c≤1071∧65≤c:=by
  simp only [ej,Bool.and_eq_true,decide_eq_true_eq] at hc;omega
 refine⟨?_,hb⟩
 have e:∀a b:Int,jU c (a,b)=ej c a b:=fun _ _=>rfl
 simp only [br,jd,List.find?_cons,e,h]
 cases h1:ej c 65 90<;>cases h2:ej c 192 214<;>cases h3:ej c 216 222<;>cases h4:ej c 913 929<;>cases h5:ej c 931 937<;>cases h6:ej c 1040 1071<;>simp_all
theorem ux {c:Int}(h:ej c 1024 1039=false)(hc:ej c 65 90=false∧ej c 192 214=false∧ej c 216 222=false∧ej c 913 929=false∧ej c 931 937=false∧ej c 1040 1071=false):c=br c:=by
 have e:∀a b:Int,jU c (a,b)=ej c a b:=fun _ _=>rfl
 simp only [br,jd,List.find?_cons,e,h,hc,List.find?_nil]
end Go.S

end
section
namespace Go.S
def iN(c:Int):Bool:=letter c || digit c
def iO(t:List UInt8):List Int→List UInt8
 | []=>t
 |c::w=>if 64<t.length+(fg (br c)).length then t else iO (t++fg (br c)) w
def gf(w:List Int):List UInt8:=iO [] w
def Wp(w:List Int):Prop :=w.length≤1099511627776∧∀c∈w,bm c=true
def lG(w:List Int)(k:Nat)(t:List UInt8):Prop :=iO t (w.drop k)=gf w∧k≤w.length∧t.length≤64
def lf(acc:List Int):List Int→List (List Int)
 | []=>if acc.isEmpty then [] else [acc]
 |c::l=>if iN c then lf (acc++ [c]) l else if acc.isEmpty then lf [] l else acc::lf [] l
def bH(b:List UInt8):List (List UInt8):=(lf [] (decode b)).map gf
def gY(d:List Int)(k:Nat)(T:List (List UInt8))(W:List Int):Prop :=
 T++(lf W (d.drop k)).map gf=(lf [] d).map gf∧k≤d.length∧T.length≤k∧W.length≤k∧(∀c∈W,c∈d)
def isTerm(s:List UInt8):Bool:=decide (bH s= [s])
def kE(l:List (List UInt8)):Nat→Nat
 |0=>0
 |k+1=>if Op.bytesLess (l.getD k []) (l.getD (kE l k) []) then k else kE l k
def im(l:List (List UInt8)):Nat:=kE l l.length
theorem JD(c:Int):br c=c∨(65≤c∧c≤1071∧(br c=c+32∨br c=c+80)):=by
 cases h:ej c 1024 1039 with
 |true=>have :=Af h;omega
 |false=>
  by_cases h2:ej c 65 90=true∨ej c 192 214=true∨ej c 216 222=true∨ej c 913 929=true∨ej c 931 937=true∨ej c 1040 1071=true
  · have :=Ag h h2;omega
  · simp only [not_or,Bool.not_eq_true] at h2
    exact .inl (ux h h2).symm
theorem yY {c:Int}(h:bm c=true):bm (br c)=true :=by
 have :=JD c
 rw [dz] at *
 omega
theorem Gz(b:List UInt8):bm (aM b).1=true :=by
 unfold aM
 split
 · rename_i h
   have :=Lu b
   have e:bm (cb b)=true :=(dz _).2 (by omega)
   exact e
 · split
   · have e:bm 65533=true :=by rw [dz];omega
     exact e
   · rename_i h1 h2
     simp only [not_or,Bool.not_eq_false] at h2
     have e:bm (bz b (uN b-1))=true :=by have :=h2.2.2.2.1;assumption
     simp only;exact e
theorem mY(b:List UInt8):∀c∈decode b,bm c=true :=by
 have :∀f (x:List UInt8),∀c∈qh f x,bm c=true :=by
  intro f
  induction f with
  |zero=>intro x c h;simp [qh] at h
  |succ f ih=>
   intro x c h
   simp only [qh] at h
   split at h
   · cases h
   · rcases List.mem_cons.1 h with h|h
     · rw [h];exact Gz x
     · exact ih _ c h
 exact this _ b
theorem pA {α:Type}(l:List α)(k:Nat)(d:α)(h:k<l.length):l.drop k=l.getD k d::l.drop (k+1):=by
 rw [List.drop_eq_getElem_cons h,List.getD_eq_getElem?_getD,List.getElem?_eq_getElem h,Option.getD_some]
theorem ŷ(w:List Int):lG w 0 []:=⟨rfl,Nat.zero_le _,by simp⟩
theorem Od {w:List Int} {k:Nat} {t:List UInt8}(h:lG w k t)(hk:(k:Int)<w.length)(hs:¬(64:Int)<(t.length:Int)+((fg (br (w.getD (Int.toNat (k:Int)) 0))).length:Int)):lG w (k+1) (t++fg (br (w.getD (Int.toNat (k:Int)) 0))):=by
 obtain⟨h1,h2,h3⟩:=h
 rw [Int.toNat_natCast] at *
 rw [pA w k 0 (by omega)] at h1
 simp only [iO] at h1
 rw [if_neg (by omega)] at h1
 exact⟨h1,by omega,by rw [List.length_append];omega⟩
theorem Oe {w:List Int} {k:Nat} {t:List UInt8}(h:lG w k t)(hk:(k:Int)<w.length)(hs:(64:Int)<(t.length:Int)+((fg (br (w.getD (Int.toNat (k:Int)) 0))).length:Int)):t=gf w:=by
 obtain⟨h1,h2,h3⟩:=h
 rw [Int.toNat_natCast] at *
 rw [pA w k 0 (by omega)] at h1
 simp only [iO] at h1
 rw [if_pos (by omega)] at h1
 exact h1
theorem Ud {w:List Int} {k:Nat} {t:List UInt8}(h:lG w k t)(hk:¬(k:Int)<w.length):t=gf w:=by
 obtain⟨h1,h2,h3⟩:=h
 rw [List.drop_eq_nil_of_le (by omega)] at h1
 exact h1
theorem Wq(c:Int):(enc c).length≤4:=by unfold enc;(repeat' split)<;>simp
theorem Hh(c:Int):(fg c).length≤4:=by unfold fg;split;exact Wq c;simp
theorem agZ(d:List Int):gY d 0 [] []:=⟨rfl,Nat.zero_le _,by simp,by simp,by simp⟩
theorem Ue {d:List Int} {k:Nat} {T:List (List UInt8)} {W:List Int}(h:gY d k T W)(hk:(k:Int)<d.length)(hw:iN (d.getD (Int.toNat (k:Int)) 0)=true):gY d (k+1) T (W++ [d.getD (Int.toNat (k:Int)) 0]):=by
 obtain⟨h1,h2,h3,h4,h5⟩:=h
 rw [Int.toNat_natCast] at *
 rw [pA d k 0 (by omega)] at h1
 simp only [lf] at h1
 rw [if_pos hw] at h1
 refine⟨h1,by omega,by omega,by simp;omega,fun c hc=> ?_⟩
 rcases List.mem_append.1 hc with hc|hc
 · exact h5 c hc
 · rw [List.mem_singleton.1 hc];exact bo d k 0 (by omega)
theorem Wr {d:List Int} {k:Nat} {T:List (List UInt8)} {W:List Int}(h:gY d k T W)(hk:(k:Int)<d.length)(hw:iN (d.getD (Int.toNat (k:Int)) 0)=false)(hW:(0:Int)<W.length):gY d (k+1) (T++ [gf W]) []:=by
 obtain⟨h1,h2,h3,h4,h5⟩:=h
 rw [Int.toNat_natCast] at *
 rw [pA d k 0 (by omega)] at h1
 simp only [lf] at h1
 rw [if_neg (by rw [hw];decide),if_neg (by cases W;simp at hW;simp)] at h1
 refine⟨?_,by omega,by simp;omega,by simp,by simp⟩
 rw [List.append_assoc];exact h1
theorem Uf {d:List Int} {k:Nat} {T:List (List UInt8)} {W:List Int}(h:gY d k T W)(hk:(k:Int)<d.length)(hw:iN (d.getD (Int.toNat (k:Int)) 0)=false)(hW:¬(0:Int)<W.length):gY d (k+1) T W:=by
 obtain⟨h1,h2,h3,h4,h5⟩:=h
 rw [Int.toNat_natCast] at *
 have :W= []:=List.eq_nil_of_length_eq_zero (by omega)
 subst this
 rw [pA d k 0 (by omega)] at h1
 simp only [lf] at h1
 rw [if_neg (by rw [hw];decide),if_pos (by simp)] at h1
 exact⟨h1,by omega,by omega,by simp,by simp⟩
theorem Ug {b:List UInt8} {k:Nat} {T:List (List UInt8)} {W:List Int}(h:gY (decode b) k T W)(hk:¬(k:Int)<(decode b).length)(hW:(0:Int)<W.length):T++ [gf W]=bH b:=by
 obtain⟨h1,h2,h3,h4,h5⟩:=h
 rw [List.drop_eq_nil_of_le (by omega)] at h1
 simp only [lf] at h1
 rw [if_neg (by cases W;simp at hW;simp)] at h1
 exact h1
theorem Uh {b:List UInt8} {k:Nat} {T:List (List UInt8)} {W:List Int}(h:gY (decode b) k T W)(hk:¬(k:Int)<(decode b).length)(hW:¬(0:Int)<W.length):T=bH b:=by
 obtain⟨h1,h2,h3,h4,h5⟩:=h
 have :W= []:=List.eq_nil_of_length_eq_zero (by omega)
 subst this
 rw [List.drop_eq_nil_of_le (by omega)] at h1
 simp only [lf,List.isEmpty_nil,if_true,List.map_nil,List.append_nil] at h1
 exact h1
theorem lH {b:List UInt8} {k:Nat} {T:List (List UInt8)} {W:List Int}(h:gY (decode b) k T W)(hb:b.length≤1099511627776):Wp W∧T.length≤1099511627776∧W.length≤1099511627776∧k≤1099511627776:=by
 obtain⟨h1,h2,h3,h4,h5⟩:=h
 have :=uw b
 exact⟨⟨by omega,fun c hc=>mY b c (h5 c hc)⟩,by omega,by omega,by omega⟩
theorem Lz:∀(u acc rest:List Int),(∀c∈u,iN c=true)→lf acc (u++rest)=lf (acc++u) rest
 | [],acc,rest,_=>by simp
 |c::u,acc,rest,h=>by
  simp only [List.cons_append,lf]
  rw [if_pos (h c (by simp)),Lz u _ rest (fun x hx=>h x (by simp [hx]))]
  rw [List.append_assoc];rfl
theorem Ui(s:List UInt8):(bif decide (((bH s).length:Int)=1) then decide (List.getD (bH s) (Int.toNat 0) []=s) else false)=isTerm s:=by
 unfold isTerm
 match h:bH s with
 | []=>simp
 | [x]=>by_cases hx:x=s<;>simp [hx]
 |x::y::l=>simp;omega
theorem Bl {l:List (List UInt8)}:∀k,0<l.length→k≤l.length→kE l k<l.length
 |0,h,_=>h
 |k+1,h,hk=>by
  simp only [kE];split
  · omega
  · exact Bl k h (by omega)
theorem Wt {c:Int}(h:letter c=true∨digit c=true):iN c=true :=by simpa [iN] using h
theorem LA {c:Int}(h:letter c=false∧digit c=false):iN c=false :=by simpa [iN] using h
def sv:Nat→List (List UInt8)→List (List UInt8)
 |0,_=> []
 |f+1,l=>if l.isEmpty then [] else l.getD (im l) []::sv f (l.filter (fun x=> !decide (x=l.getD (im l) [])))
def sorted(l:List (List UInt8)):List (List UInt8):=sv l.length l
def Hi(l:List (List UInt8))(t:List UInt8)(k:Nat):List Int:=((List.range k).filter (fun i=>decide (l.getD i []=t))).map (fun(i:Nat)=>(i:Int))
def places(b t:List UInt8):List Int:=Hi (bH b) t (bH b).length
def Of(c:Int):Bool:=iN c&&decide (br c=c)
def Og(s:List UInt8):Bool:=(decode s).all Of&&(decide (0<((decode s).length:Int))&&decide ((s.length:Int)≤64))
theorem Bm {l:List (List UInt8)}(h:0<l.length):im l<l.length:=Bl _ h (Nat.le_refl _)
theorem sw {l:List (List UInt8)}(h:0<l.length):(l.filter (fun x=> !decide (x=l.getD (im l) []))).length<l.length:=by
 have hm:=bo l (im l) [] (Bm h)
 exact List.length_filter_lt_length_iff_exists.2 ⟨_,hm,by simp⟩
theorem wR:∀(f g:Nat) (l:List (List UInt8)),l.length≤f→l.length≤g→sv f l=sv g l
 |0,0,_,_,_=>rfl
 |0,g+1,l,h,_=>by
  have :l= []:=List.eq_nil_of_length_eq_zero (by omega)
  subst this;rfl
 |f+1,0,l,_,h=>by
  have :l= []:=List.eq_nil_of_length_eq_zero (by omega)
  subst this;rfl
 |f+1,g+1,l,h1,h2=>by
  simp only [sv]
  cases hl:l.isEmpty with
  |true=>rfl
  |false=>
   have hp:0<l.length:=by rw [List.isEmpty_eq_false_iff] at hl;exact List.length_pos_iff.2 hl
   have :=sw hp
   rw [if_neg (by simp),if_neg (by simp),wR f g _ (by omega) (by omega)]
theorem JE {l:List (List UInt8)}(h:0<l.length):sorted l=l.getD (im l) []::sorted (l.filter (fun x=> !decide (x=l.getD (im l) []))):=by
 have hr:=sw h
 unfold sorted
 obtain⟨n,hn⟩:∃n,l.length=n+1:=⟨l.length-1,by omega⟩
 rw [hn]
 simp only [sv]
 have :l.isEmpty=false :=by rw [List.isEmpty_eq_false_iff];exact List.length_pos_iff.1 h
 rw [this,if_neg (by simp),wR n _ _ (by omega) (Nat.le_refl _)]
theorem Eg(b:List UInt8):(bH b).length≤b.length:=by
 have h0:∀(l acc:List Int),(lf acc l).length≤l.length+acc.length:=by
  intro l
  induction l with
  |nil=>intro acc;simp only [lf];cases acc<;>simp
  |cons c l ih=>
   intro acc
   simp only [lf]
   split
   · have :=ih (acc++ [c]);simp at this ⊢;omega
   · split
     · have :=ih [];simp at this ⊢;omega
     · rename_i h1 h2
       have :0<acc.length:=by cases acc;simp at h2;simp
       have :=ih [];simp at this ⊢;omega
 have :=h0 (decode b) []
 have :=uw b
 simp only [bH,List.length_map]
 simp at *;omega
end Go.S

end
section
namespace Go.S
theorem Hj(b:List UInt8):∀k,(qO b k).1≠65533→enc (qO b k).1=b.take (qO b k).2.toNat
 |0,h=>absurd rfl h
 |k+1,h=>by
  simp only [qO] at h ⊢
  by_cases ht:nY b (k+1)=true
  · rw [if_pos ht] at h ⊢
    have :=((rz b (k+1)).1 ht).2
    simpa using this
  · rw [if_neg ht] at h ⊢
    exact Hj b k h
theorem LB {b:List UInt8}(hb:0<b.length)(h:(aM b).1≠65533):enc (aM b).1=b.take (aM b).2.toNat:=by
 rw [←Bk b hb] at h ⊢;exact Hj b 4 h
theorem JF:∀(n:Nat) (b:List UInt8),b.length≤n→(∀c∈decode b,c≠65533)→(decode b).flatMap enc=b:=by
 intro n
 induction n with
 |zero=>intro b h _;have :b= []:=List.eq_nil_of_length_eq_zero (by omega)
        subst this;rfl
 |succ n ih=>
  intro b h hc
  by_cases h0:b.length=0
  · have :b= []:=List.eq_nil_of_length_eq_zero h0
    subst this;rfl
  · have hb:=py b (by omega)
    rw [su b (by omega)] at hc ⊢
    rw [List.flatMap_cons,LB (by omega) (hc _ (by simp)),ih _ (by rw [List.length_drop];omega) (fun c h'=>hc c (by simp [h']))]
    exact List.take_append_drop _ _
theorem mZ {c:Int}(h0:0≤c)(h1:c<256):((u8 c).toNat:Int)=c:=((Ae h0 h1).1 rfl).symm
theorem uy {c:Int}(hr:bm c=true)(r:List UInt8):bE (enc c++r) ((enc c).length:Nat)=c∧1≤(enc c).length∧(enc c).length≤4:=by
 have hb:=dF hr
 unfold enc
 split
 · refine⟨?_,by simp,by simp⟩
   have e:=(JC (u8 c) r).2
   have e2:cb (u8 c::r)=c:=mZ hb.1 (by omega)
   rw [e2] at e;exact e
 · split
   · refine⟨?_,by simp,by simp⟩
     show bE (u8 (192+c/64)::more c::r) 2=c
     have h1:=mZ (c:=192+c/64) (by omega) (by omega)
     have h2:((more c).toNat:Int)=128+c%64:=mZ (c:=128+c%64) (by omega) (by omega)
     have e:bE (u8 (192+c/64)::more c::r) 2=(((u8 (192+c/64)).toNat:Int)-192)*64+(more c).toNat-128:=by
      simp only [bE];rw [if_neg (by simp;omega)];rfl
     rw [e,h1,h2];omega
   · split
     · refine⟨?_,by simp,by simp⟩
       show bE (u8 (224+c/4096)::more (c/64)::more c::r) 3=c
       have h1:=mZ (c:=224+c/4096) (by omega) (by omega)
       have h2:((more (c/64)).toNat:Int)=128+c/64%64:=mZ (c:=128+c/64%64) (by omega) (by omega)
       have h3:((more c).toNat:Int)=128+c%64:=mZ (c:=128+c%64) (by omega) (by omega)
       have e:bE (u8 (224+c/4096)::more (c/64)::more c::r) 3=((((u8 (224+c/4096)).toNat:Int)-224)*64+(more (c/64)).toNat-128)*64+(more c).toNat-128:=by
        simp only [bE];rw [if_neg (by simp;omega)];rfl
       rw [e,h1,h2,h3];omega
     · refine⟨?_,by simp,by simp⟩
       show bE (u8 (240+c/262144)::more (c/4096)::more (c/64)::more c::r) 4=c
       have h1:=mZ (c:=240+c/262144) (by omega) (by omega)
       have h2:((more (c/4096)).toNat:Int)=128+c/4096%64:=mZ (c:=128+c/4096%64) (by omega) (by omega)
       have h3:((more (c/64)).toNat:Int)=128+c/64%64:=mZ (c:=128+c/64%64) (by omega) (by omega)
       have h4:((more c).toNat:Int)=128+c%64:=mZ (c:=128+c%64) (by omega) (by omega)
       have e:bE (u8 (240+c/262144)::more (c/4096)::more (c/64)::more c::r) 4=(((((u8 (240+c/262144)).toNat:Int)-240)*64+(more (c/4096)).toNat-128)*64+(more (c/64)).toNat-128)*64+(more c).toNat-128:=by
        simp only [bE];rw [if_neg (by simp;omega)];rfl
       rw [e,h1,h2,h3,h4];omega
theorem Oh {c:Int}(hr:bm c=true)(r:List UInt8):aM (enc c++r)=(c,((enc c).length:Int)):=by
 obtain⟨hb,h1,h4⟩:=uy hr r
 have hl:0<(enc c++r).length:=by rw [List.length_append];omega
 have ht:nY (enc c++r) (enc c).length=true :=by
  rw [rz,hb];exact⟨hr,by rw [List.take_left'];rfl⟩
 have hg:=(pz _ _ hl h1 h4).1.1 ht
 rw [←Bk _ hl,xC hl hg h1 4 (Nat.le_refl _) h4,hb]
theorem uz:∀(P:List Int),(∀c∈P,bm c=true)→decode (P.flatMap enc)=P
 | [],_=>rfl
 |c::P,h=>by
  have hr:=h c (by simp)
  have h1:=(uy hr []).2.1
  rw [List.flatMap_cons,su _ (by rw [List.length_append];omega),Oh hr]
  simp only
  rw [Int.toNat_natCast,List.drop_left' rfl,uz P (fun x hx=>h x (by simp [hx]))]
theorem Eh:∀(w:List Int) (t:List UInt8),t.length+(w.flatMap fun c=>fg (br c)).length≤64→iO t w=t++w.flatMap fun c=>fg (br c)
 | [],t,_=>by simp [iO]
 |c::w,t,h=>by
  rw [List.flatMap_cons,List.length_append] at h
  simp only [iO]
  rw [if_neg (by omega),Eh w _ (by rw [List.length_append];omega),List.flatMap_cons,List.append_assoc]
theorem uA:∀(w:List Int) (t:List UInt8),∃p:List Int,(∀c∈p,c∈w)∧iO t w=t++p.flatMap fun c=>fg (br c)
 | [],t=>⟨[],by simp,by simp [iO]⟩
 |c::w,t=>by
  simp only [iO]
  split
  · exact⟨[],by simp,by simp⟩
  · obtain⟨p,h1,h2⟩:=uA w (t++fg (br c))
    refine⟨c::p,?_,by rw [h2,List.flatMap_cons,List.append_assoc]⟩
    intro x hx
    rcases List.mem_cons.1 hx with hx|hx
    · simp [hx]
    · simp [h1 x hx]
theorem vM:∀(w:List Int) (t:List UInt8),t.length≤64→(iO t w).length≤64
 | [],t,h=>h
 |c::w,t,h=>by
  simp only [iO]
  split
  · exact h
  · exact vM w _ (by rw [List.length_append];omega)
theorem yZ:∀(l acc:List Int),(∀c∈acc,iN c=true)→∀W∈lf acc l,∀c∈W,iN c=true∧(c∈acc∨c∈l)
 | [],acc,ha,W,hW,c,hc=>by
   simp only [lf] at hW
   split at hW
   · cases hW
   · rw [List.mem_singleton.1 hW] at hc;exact⟨ha c hc, .inl hc⟩
 |x::l,acc,ha,W,hW,c,hc=>by
  simp only [lf] at hW
  by_cases hx:iN x=true
  · rw [if_pos hx] at hW
    have :=yZ l (acc++ [x]) (fun y hy=>by
     rcases List.mem_append.1 hy with hy|hy
     · exact ha y hy
     · rw [List.mem_singleton.1 hy];exact hx) W hW c hc
    refine⟨this.1,?_⟩
    rcases this.2 with h|h
    · rcases List.mem_append.1 h with h|h
      · exact .inl h
      · exact .inr (by simp [List.mem_singleton.1 h])
    · exact .inr (by simp [h])
  · rw [if_neg hx] at hW
    have hn:∀W'∈lf [] l,∀c∈W',iN c=true∧(c∈acc∨c∈x::l):=fun W' h' y hy=>by
     have :=yZ l [] (by simp) W' h' y hy
     refine⟨this.1, .inr ?_⟩
     rcases this.2 with h|h
     · cases h
     · simp [h]
    split at hW
    · exact hn W hW c hc
    · rcases List.mem_cons.1 hW with h|h
      · rw [h] at hc;exact⟨ha c hc, .inl hc⟩
      · exact hn W h c hc
theorem sx {c a b:Int}(h:c<a∨b<c):ej c a b=false :=by
 simp only [ej,Bool.and_eq_false_iff,decide_eq_false_iff_not];omega
theorem Ei {c a b:Int}:ej c a b=true↔a≤c∧c≤b:=by simp [ej]
theorem y9(c:Int):br (br c)=br c:=by
 have stay:∀x:Int,(97≤x∧x<192)∨(223≤x∧x<913)∨(938≤x∧x<1024)∨1072≤x→br x=x:=fun x h=>by
  refine(ux (sx (by omega)) ⟨sx (by omega),sx (by omega),sx (by omega),sx (by omega),sx (by omega),sx (by omega)⟩).symm
 cases h:ej c 1024 1039 with
 |true=>have :=Af h;exact stay _ (by omega)
 |false=>
  by_cases h2:ej c 65 90=true∨ej c 192 214=true∨ej c 216 222=true∨ej c 913 929=true∨ej c 931 937=true∨ej c 1040 1071=true
  · have :=Ag h h2
    simp only [Ei] at h2
    exact stay _ (by omega)
  · simp only [not_or,Bool.not_eq_true] at h2
    rw [←ux h h2,←ux h h2]
theorem uB(c:Int):letter c=true↔(65≤c∧c≤90)∨(97≤c∧c≤122)∨(192≤c∧c≤214)∨(216≤c∧c≤246)∨(248≤c∧c≤255)∨(913≤c∧c≤929)∨(931≤c∧c≤937)∨(945≤c∧c≤969)∨(1024≤c∧c≤1119):=by
 rw [Oc];simp only [Bool.or_eq_true,Ei]
theorem Ah(c:Int):iN c=true↔letter c=true∨(48≤c∧c≤57):=by simp [iN,digit]
theorem Bn {c:Int}(h:iN c=true):iN (br c)=true :=by
 cases h1:ej c 1024 1039 with
 |true=>have :=Af h1;rw [Ah,uB];omega
 |false=>
  by_cases h2:ej c 65 90=true∨ej c 192 214=true∨ej c 216 222=true∨ej c 913 929=true∨ej c 931 937=true∨ej c 1040 1071=true
  · have :=Ag h1 h2
    simp only [Ei] at h2
    rw [Ah,uB];omega
  · simp only [not_or,Bool.not_eq_true] at h2
    rw [←ux h1 h2];exact h
theorem qi {α β:Type} {l:List α} {f g:α→List β}(h:∀x∈l,f x=g x):l.flatMap f=l.flatMap g:=by
 induction l with
 |nil=>rfl
 |cons a l ih=>rw [List.flatMap_cons,List.flatMap_cons,h a (by simp),ih (fun x hx=>h x (by simp [hx]))]
theorem za {c:Int}(h:bm c=true):fg c=enc c:=by simp only [fg,h,if_true]
theorem Uj(s:List UInt8):Og s=isTerm s:=by
 rw [Bool.eq_iff_iff]
 simp only [Og,isTerm,Bool.and_eq_true,decide_eq_true_eq,List.all_eq_true,Of]
 constructor
 · rintro⟨hg,h0,hl⟩
   have hf:=JF s.length s (Nat.le_refl _) (fun c hc e=>by
    have :=(hg c hc).1;rw [e,Ah,uB] at this;omega)
   have hw:lf [] (decode s)= [decode s]:=by
    have :=Lz (decode s) [] [] (fun c hc=>(hg c hc).1)
    rw [List.append_nil,List.nil_append] at this
    rw [this];simp only [lf]
    rw [if_neg];intro he
    rw [List.isEmpty_iff.1 he] at h0;simp at h0
   have he:(decode s).flatMap (fun c=>fg (br c))=s:=by
    rw [qi (g:=enc) (fun c hc=>by rw [(hg c hc).2,za (mY s c hc)]),hf]
   simp only [bH,hw,List.map_cons,List.map_nil,gf]
   rw [Eh _ _ (by rw [he];simp;omega),he];rfl
 · intro h
   have hlen:s.length≤64:=by
    have hm:s∈bH s:=by rw [h];simp
    simp only [bH,List.mem_map] at hm
    obtain⟨w,_,hw⟩:=hm
    rw [←hw];exact vM w [] (by simp)
   have hm:s∈bH s:=by rw [h];simp
   simp only [bH,List.mem_map] at hm
   obtain⟨W,hW,hs⟩:=hm
   have aE:=yZ (decode s) [] (by simp) W hW
   obtain⟨p,hp,hpf⟩:=uA W []
   have hr:∀c∈p,bm (br c)=true :=fun c hc=>yY (mY s c (by
    rcases(aE c (hp c hc)).2 with h|h
    · cases h
    · exact h))
   have IQ:s=(p.map br).flatMap enc:=by
    rw [←hs];show iO [] W=_
    rw [hpf,List.nil_append,List.flatMap_map]
    exact qi fun c hc=>za (hr c hc)
   have hd:decode s=p.map br:=by
    conv=>lhs;rw [IQ]
    exact uz _ (fun c hc=>by
     obtain⟨c',h',rfl⟩:=List.mem_map.1 hc;exact hr c' h')
   refine⟨fun c hc=> ?_,?_,by omega⟩
   · rw [hd] at hc
     obtain⟨c',h',rfl⟩:=List.mem_map.1 hc
     exact⟨Bn (aE c' (hp c' h')).1,y9 c'⟩
   · by_cases h0:decode s= []
     · rw [h0] at hW;simp [lf] at hW
     · have :=List.length_pos_iff.2 h0;omega
end Go.S

end
section
namespace Go.S
theorem bR:∀a:List UInt8,Op.bytesLess a a=false
 | []=>rfl
 |a::x=>by simp [Op.bytesLess,bR x]
theorem jW:∀a b c:List UInt8,Op.bytesLess a b=true→Op.bytesLess b c=true→Op.bytesLess a c=true
 |_,[],_,h,_=>by simp [Op.bytesLess] at h
 |_,_::_,[],_,h=>by simp [Op.bytesLess] at h
 | [],_::_,_::_,_,_=>rfl
 |a::x,b::y,c::z,h1,h2=>by
  simp only [Op.bytesLess,Bool.or_eq_true,decide_eq_true_eq,Bool.and_eq_true,beq_iff_eq] at h1 h2 ⊢
  rcases h1 with h1|⟨rfl,h1⟩
  · rcases h2 with h2|⟨rfl,h2⟩
    · left;rw [UInt8.lt_iff_toNat_lt] at *;omega
    · left;exact h1
  · rcases h2 with h2|⟨rfl,h2⟩
    · left;exact h2
    · right;exact⟨rfl,jW x y z h1 h2⟩
theorem gG:∀a b:List UInt8,Op.bytesLess a b=true∨a=b∨Op.bytesLess b a=true
 | [],[]=> .inr (.inl rfl)
 | [],_::_=> .inl rfl
 |_::_,[]=> .inr (.inr rfl)
 |a::x,b::y=>by
  simp only [Op.bytesLess,Bool.or_eq_true,decide_eq_true_eq,Bool.and_eq_true,beq_iff_eq,List.cons.injEq]
  by_cases h:a=b
  · subst h
    rcases gG x y with h|h|h
    · exact .inl (.inr ⟨rfl,h⟩)
    · exact .inr (.inl ⟨rfl,h⟩)
    · exact .inr (.inr (.inr ⟨rfl,h⟩))
  · have :a.toNat≠b.toNat:=fun e=>h (UInt8.toNat_inj.1 e)
    by_cases h2:a.toNat<b.toNat
    · exact .inl (.inl (UInt8.lt_iff_toNat_lt.2 h2))
    · exact .inr (.inr (.inl (UInt8.lt_iff_toNat_lt.2 (by omega))))
theorem iq {a b:List UInt8}(h:Op.bytesLess a b=true):Op.bytesLess b a=false :=by
 cases h2:Op.bytesLess b a with
 |false=>rfl
 |true=>have :=jW _ _ _ h h2;rw [bR] at this;cases this
def mg(l:List (List UInt8)):Prop :=l.Pairwise fun a b=>Op.bytesLess a b=true
theorem sy:∀(l m:List (List UInt8)),mg l→mg m→(∀x,x∈l↔x∈m)→l=m
 | [],[],_,_,_=>rfl
 | [],b::m,_,_,h=>by have :=(h b).2 (by simp);cases this
 |a::l,[],_,_,h=>by have :=(h a).1 (by simp);cases this
 |a::l,b::m,hl,hm,h=>by
  obtain⟨hl1,hl2⟩:=List.pairwise_cons.1 hl
  obtain⟨ţ,Ť⟩:=List.pairwise_cons.1 hm
  have fw:a=b:=by
   rcases List.mem_cons.1 ((h a).1 (by simp)) with e|e
   · exact e
   · rcases List.mem_cons.1 ((h b).2 (by simp)) with e2|e2
     · exact e2.symm
     · have q1:=ţ a e
       have q2:=iq (hl1 b e2)
       rw [q1] at q2;cases q2
  subst fw
  have :=sy l m hl2 Ť (fun x=>by
   constructor
   · intro hx
     rcases List.mem_cons.1 ((h x).1 (by simp [hx])) with e|e
     · have :=hl1 x hx;rw [e,bR] at this;cases this
     · exact e
   · intro hx
     rcases List.mem_cons.1 ((h x).2 (by simp [hx])) with e|e
     · have :=ţ x hx;rw [e,bR] at this;cases this
     · exact e)
  rw [this]
theorem Ej(l:List (List UInt8)):∀k,k≤l.length→∀i,i<k→Op.bytesLess (l.getD i []) (l.getD (kE l k) [])=false
 |0,_,i,hi=>by omega
 |k+1,hk,i,hi=>by
  have ih:=Ej l k (by omega)
  rw [show kE l (k+1)=if Op.bytesLess (l.getD k []) (l.getD (kE l k) [])=true then k else kE l k from rfl]
  by_cases h:Op.bytesLess (l.getD k []) (l.getD (kE l k) [])=true
  · rw [if_pos h]
    by_cases e:i=k
    · rw [e];exact bR _
    · have q:=ih i (by omega)
      cases hq:Op.bytesLess (l.getD i []) (l.getD k []) with
      |false=>rfl
      |true=>have :=jW _ _ _ hq h;rw [this] at q;cases q
  · rw [if_neg h]
    by_cases e:i=k
    · rw [e];simpa using h
    · exact ih i (by omega)
theorem Ek:∀(n:Nat) (l:List (List UInt8)),l.length≤n→mg (sorted l)∧∀x,x∈sorted l↔x∈l:=by
 intro n
 induction n with
 |zero=>
  intro l h
  have :l= []:=List.eq_nil_of_length_eq_zero (by omega)
  subst this
  exact⟨List.Pairwise.nil,fun x=>Iff.rfl⟩
 |succ n ih=>
  intro l h
  by_cases h0:l.length=0
  · have :l= []:=List.eq_nil_of_length_eq_zero h0
    subst this
    exact⟨List.Pairwise.nil,fun x=>Iff.rfl⟩
  · have hp:0<l.length:=by omega
    have hr:=sw hp
    obtain⟨i1,i2⟩:=ih (l.filter (fun x=> !decide (x=l.getD (im l) []))) (by omega)
    have hm:l.getD (im l) []∈l:=bo l _ [] (Bm hp)
    rw [JE hp]
    refine⟨List.pairwise_cons.2 ⟨fun x hx=> ?_,i1⟩,fun x=> ?_⟩
    · have jK:=(i2 x).1 hx
      simp only [List.mem_filter,Bool.not_eq_true',decide_eq_false_iff_not] at jK
      obtain⟨i,hi,e⟩:=List.mem_iff_getElem.1 jK.1
      have e2:l.getD i []=x:=by rw [List.getD_eq_getElem?_getD,List.getElem?_eq_getElem hi];exact e
      have q:=Ej l l.length (Nat.le_refl _) i hi
      rw [e2] at q
      rcases gG (l.getD (im l) []) x with t|t|t
      · exact t
      · exact absurd t.symm jK.2
      · have q':Op.bytesLess x (l.getD (im l) [])=false :=q
        rw [t] at q';cases q'
    · rw [List.mem_cons,i2 x,List.mem_filter]
      simp only [Bool.not_eq_true',decide_eq_false_iff_not]
      constructor
      · rintro(h|h)
        · rw [h];exact hm
        · exact h.1
      · intro hx
        by_cases e:x=l.getD (im l) []
        · exact .inl e
        · exact .inr ⟨hx,e⟩
theorem jX(l:List (List UInt8)):mg (sorted l):=(Ek _ l (Nat.le_refl _)).1
theorem fN(l:List (List UInt8))(x:List UInt8):x∈sorted l↔x∈l:=(Ek _ l (Nat.le_refl _)).2 x
theorem Oi {l m:List (List UInt8)}(h1:mg m)(h2:∀x,x∈m↔x∈l):m=sorted l:=
 sy _ _ h1 (jX l) (fun x=>(h2 x).trans (fN l x).symm)
def bM:List (List UInt8)→List (List UInt8)
 | []=> []
 |a::l=>match bM l with
  | []=> [a]
  |b::r=>if a=b then b::r else a::b::r
theorem oq:∀(l:List (List UInt8)) (x:List UInt8),x∈bM l↔x∈l
 | [],_=>Iff.rfl
 |a::l,x=>by
  have ih:=oq l x
  simp only [bM]
  split
  · rename_i h;rw [h] at ih
    rw [List.mem_singleton,List.mem_cons]
    constructor
    · exact .inl
    · rintro(h|h)
      · exact h
      · have :=ih.2 h;cases this
  · rename_i b r h;rw [h] at ih
    split
    · rename_i e;subst e
      rw [ih,List.mem_cons]
      constructor
      · exact .inr
      · rintro(h2|h2)
        · rw [←ih,h2];simp
        · exact h2
    · rw [List.mem_cons,ih,List.mem_cons]
theorem wS:∀(l:List (List UInt8)),(l.Pairwise fun a b=>Op.bytesLess b a=false)→mg (bM l)
 | [],_=>List.Pairwise.nil
 |a::l,h=>by
  obtain⟨h1,h2⟩:=List.pairwise_cons.1 h
  have ih:=wS l h2
  simp only [bM]
  split
  · exact List.pairwise_singleton _ _
  · rename_i b r hb
    rw [hb] at ih
    split
    · exact ih
    · rename_i dJ
      refine List.pairwise_cons.2 ⟨fun x hx=> ?_,ih⟩
      have ot:b∈l:=by rw [←oq l,hb];simp
      have fw:Op.bytesLess a b=true :=by
       rcases gG a b with t|t|t
       · exact t
       · exact absurd t dJ
       · rw [h1 b ot] at t;cases t
      rcases List.mem_cons.1 hx with e|e
      · rw [e];exact fw
      · exact jW _ _ _ fw ((List.pairwise_cons.1 ih).1 x e)
theorem B7 {l m:List (List UInt8)}(h1:m.Pairwise fun a b=>Op.bytesLess b a=false)(h2:∀x,x∈m↔x∈l):bM m=sorted l:=
 Oi (wS m h1) (fun x=>(oq m x).trans (h2 x))
end Go.S
namespace Go.S
def fY(a b:List UInt8):Int:=if Op.bytesLess a b then -1 else if Op.bytesLess b a then 1 else 0
theorem Ÿ(a b:List UInt8):decide (fY a b=0)=decide (a=b):=by
 rw [decide_eq_decide]
 unfold fY
 rcases gG a b with h|h|h
 · rw [if_pos h]
   constructor
   · intro e;exact absurd e (by decide)
   · intro e;rw [e,bR] at h;cases h
 · subst h;simp [bR]
 · rw [if_neg (by rw [iq h];decide),if_pos h]
   constructor
   · intro e;exact absurd e (by decide)
   · intro e;rw [e,bR] at h;cases h
end Go.S
namespace Go.S
def ou(l:List (List UInt8))(k:Nat):Prop :=1≤k∧k≤l.length∧∀j,j+1<k→¬l.getD (j+1) []=l.getD j []
def jt(l:List (List UInt8))(x i k:Nat)(m:List (List UInt8)):Prop :=1≤k∧x+k≤l.length∧1≤i∧i+1≤x+k∧m.length=l.length∧m.drop i=l.drop i∧m.take i=bM (l.take (x+k))
theorem LC {l:List (List UInt8)}(h:l≠ []):∃b r,bM l=b::r:=by
 cases hc:bM l with
 |nil=>
  cases l with
  |nil=>exact absurd rfl h
  |cons a l=>have :=(oq (a::l) a).2 (by simp);rw [hc] at this;cases this
 |cons b r=>exact⟨b,r,rfl⟩
theorem wT(a b:List UInt8):∀p:List (List UInt8),bM (p++ [a,b])=if a=b then bM (p++ [a]) else bM (p++ [a])++ [b]
 | []=>by
   by_cases h:a=b
   · subst h;simp [bM]
   · simp [bM,h]
 |c::p=>by
  have ih:=wT a b p
  obtain⟨h,r,e⟩:=LC (l:=p++ [a]) (by simp)
  simp only [List.cons_append,bM]
  rw [ih,e]
  by_cases fw:a=b
  · simp only [if_pos fw]
  · simp only [if_neg fw,List.cons_append]
    by_cases hc:c=h
    · simp only [if_pos hc,List.cons_append]
    · simp only [if_neg hc,List.cons_append]
theorem na {l:List (List UInt8)} {n:Nat}(h:n+1<l.length):bM (l.take (n+2))=if l.getD n []=l.getD (n+1) [] then bM (l.take (n+1)) else bM (l.take (n+1))++ [l.getD (n+1) []]:=by
 rw [aG l (n+1) [] h,aG l n [] (by omega),List.append_assoc,List.singleton_append]
 exact wT _ _ _
theorem Ai {l:List (List UInt8)}:∀k,k≤l.length→(∀j,j+1<k→¬l.getD (j+1) []=l.getD j [])→bM (l.take k)=l.take k
 |0,_,_=>by simp [bM]
 |1,h,_=>by
  cases l with
  |nil=>simp at h
  |cons a l=>simp [bM]
 |k+2,hk,h=>by
  rw [na (by omega),if_neg (fun e=>h k (by omega) e.symm),Ai (k+1) (by omega) (fun j hj=>h j (by omega)),←aG l (k+1) [] (by omega)]
theorem Oj {l:List (List UInt8)}(h:(l.length:Int)<2):l=bM l:=by
 match l,h with
 | [],_=>rfl
 | [a],_=>rfl
 |a::b::l,h=>simp at h;omega
theorem ag2 {l:List (List UInt8)}(h:¬(l.length:Int)<2):ou l 1:=⟨Nat.le_refl _,by omega,fun j hj=>by omega⟩
theorem Uk {l:List (List UInt8)} {k:Nat}(h:ou l k)(hk:(k:Int)<l.length)(hn:¬l.getD k []=l.getD (Int.toNat ((k:Int)-1)) []):ou l (k+1):=by
 obtain⟨h1,h2,h3⟩:=h
 rw [show Int.toNat ((k:Int)-1)=k-1 by omega] at hn
 refine⟨by omega,by omega,fun j hj=> ?_⟩
 by_cases e:j+1=k
 · rw [show j=k-1 by omega,show k-1+1=k by omega];exact hn
 · exact h3 j (by omega)
theorem Wu {l:List (List UInt8)} {k:Nat}(h:ou l k)(hk:¬(k:Int)<l.length):l=bM l:=by
 obtain⟨h1,h2,h3⟩:=h
 have e:=Ai k h2 h3
 rw [List.take_of_length_le (by omega)] at e
 exact e.symm
theorem Ź {l:List (List UInt8)} {x:Nat}(h:ou l x)(hx:(x:Int)<l.length)(he:l.getD x []=l.getD (Int.toNat ((x:Int)-1)) []):jt l x x 1 l:=by
 obtain⟨h1,h2,h3⟩:=h
 rw [show Int.toNat ((x:Int)-1)=x-1 by omega] at he
 refine⟨Nat.le_refl _,by omega,h1,Nat.le_refl _,rfl,rfl,?_⟩
 obtain⟨y,rfl⟩:∃y,x=y+1:=⟨x-1,by omega⟩
 rw [Nat.add_sub_cancel] at he
 rw [show y+1+1=y+2 by omega,na (by omega),if_pos he.symm,Ai (y+1) (by omega) h3]
theorem Hk {l m:List (List UInt8)} {x i k:Nat}(h:jt l x i k m)(hk:x+k<l.length):m.getD (x+k) []=l.getD (x+k) []∧m.getD (x+k-1) []=l.getD (x+k-1) []:=by
 obtain⟨h1,h2,h3,h4,h5,h6,h7⟩:=h
 have key:∀j,i≤j→m.getD j []=l.getD j []:=fun j hj=>by
  have :=congrArg (fun q=>q.getD (j-i) []) h6
  simp only [List.getD_eq_getElem?_getD,List.getElem?_drop] at this ⊢
  rwa [show i+(j-i)=j by omega] at this
 exact⟨key _ (by omega),key _ (by omega)⟩
theorem Ol {l m:List (List UInt8)} {x i k:Nat}(h:jt l x i k m)(hk:x+k<l.length)(he:m.getD (x+k) []=m.getD (x+k-1) []):jt l x i (k+1) m:=by
 have hg:=Hk h hk
 obtain⟨h1,h2,h3,h4,h5,h6,h7⟩:=h
 rw [hg.1,hg.2] at he
 refine⟨by omega,by omega,h3,by omega,h5,h6,?_⟩
 rw [h7]
 obtain⟨n,hn⟩:∃n,x+k=n+1:=⟨x+k-1,by omega⟩
 rw [show x+(k+1)=n+2 by omega,hn,na (by omega),if_pos]
 rw [hn,Nat.add_sub_cancel] at he;exact he.symm
theorem Ul {l m:List (List UInt8)} {x i k:Nat}(h:jt l x i k m)(hk:x+k<l.length)(he:¬m.getD (x+k) []=m.getD (x+k-1) []):jt l x (i+1) (k+1) (m.set i (m.getD (x+k) [])):=by
 have hg:=Hk h hk
 obtain⟨h1,h2,h3,h4,h5,h6,h7⟩:=h
 rw [hg.1,hg.2] at he
 rw [hg.1]
 refine⟨by omega,by omega,by omega,by omega,by rw [List.length_set];exact h5,?_,?_⟩
 · rw [List.drop_set,if_pos (by omega)]
   have :=congrArg (List.drop 1) h6
   rwa [List.drop_drop,List.drop_drop] at this
 · have hi:i<(m.set i (l.getD (x+k) [])).length:=by rw [List.length_set];omega
   rw [aG _ _ [] hi,List.take_set,List.set_eq_of_length_le (by rw [List.length_take];omega),h7]
   rw [List.getD_eq_getElem?_getD,List.getElem?_set_self (by omega),Option.getD_some]
   obtain⟨n,hn⟩:∃n,x+k=n+1:=⟨x+k-1,by omega⟩
   rw [show x+(k+1)=n+2 by omega,hn,na (by omega),if_neg]
   rw [hn,Nat.add_sub_cancel] at he;exact fun e=>he e.symm
theorem Um {l m:List (List UInt8)} {x i k:Nat}(h:jt l x i k m)(hk:¬x+k<l.length):m.take i=bM l:=by
 obtain⟨h1,h2,h3,h4,h5,h6,h7⟩:=h
 rw [h7,List.take_of_length_le (by omega)]
end Go.S

end
section
namespace Go.S
def up(l:List (List UInt8)):Prop :=l.Pairwise fun a b=>Op.bytesLess b a=false
def fZ(l:List (List UInt8)):List (List UInt8):=l.mergeSort fun a b=> !Op.bytesLess b a
theorem Un(l:List (List UInt8)):up (fZ l):=by
 have :=List.pairwise_mergeSort (le:=fun a b=> !Op.bytesLess b a) (fun a b c h1 h2=>by
  simp only [Bool.not_eq_true'] at h1 h2 ⊢
  cases h:Op.bytesLess c a with
  |false=>rfl
  |true=>
   rcases gG a b with t|t|t
   · rw [jW _ _ _ h t] at h2;cases h2
   · subst t;rw [h] at h2;cases h2
   · rw [t] at h1;cases h1) (fun a b=>by
  simp only [Bool.or_eq_true,Bool.not_eq_true']
  rcases gG a b with t|t|t
  · exact .inl (iq t)
  · subst t;exact .inl (bR _)
  · exact .inr (iq t)) l
 exact this.imp (fun h=>by simpa using h)
theorem LD(l:List (List UInt8)):(fZ l).Perm l:=List.mergeSort_perm l _
theorem Wv(l:List (List UInt8)):bM (fZ l)=sorted l:=B7 (Un l) (fun _=>(LD l).mem_iff)
end Go.S

end
section
namespace Go.S
def sp(n:Nat):Nat:=2^Nat.log2 (n-1)
def split(n:Int):Int:=if n<2∨1099511627776<n then 0 else((sp n.toNat:Nat):Int)
def Om:Nat→List (List UInt8)→List UInt8
 |0,_=>sum []
 |f+1,l=>if l.length=0 then sum [] else if l.length=1 then l.getD 0 [] else T6 (Om f (l.take (sp l.length))) (Om f (l.drop (sp l.length)))
def root(l:List (List UInt8)):List UInt8:=Om l.length l
def leaves(l:List (List UInt8)):List (List UInt8):=l.map leaf
def El(l:List (List UInt8))(t a:Nat):List UInt8:=root ((l.drop (2^t*a)).take (2^t))
end Go.S

end
section
namespace Go.S
def mD(l:List Int)(i:Nat):Int:=if i=0 then -1 else l.getD (i-1) 0
def Em(l:List Int)(i:Nat):Bool:=decide (mD l i<l.getD i 0)&&decide (l.getD i 0<1000)
def fE(l:List Int):Bool:=(List.range l.length).all (Em l)
def kF(l:List Int)(k:Nat):Prop :=(∀i,i<k→Em l i=true)∧k≤l.length
def ź(l:List Int)(k:Nat):List UInt8:=num l.length++(List.range k).flatMap (fun i=>num (l.getD i 0-mD l i-1))
def ag3(l:List Int):List UInt8:=ź l l.length
def Ż(l:List Int):List UInt8:=N1 2 (ag3 l)
def pB(n a b:Int):Bool:=decide (a≤n)&&decide (n<b)
def fF:List Int:= []
def Uo(l:List Int):List Int:=if fE l then l else []
def En(l:List Int)(a b:Int):List Int:=(Uo l).filter (fun n=>pB n a b)
def ju(l:List Int)(a b:Int)(r out:List Int):Prop :=out++r.filter (fun n=>pB n a b)=En l a b∧out.length+r.length≤1000
theorem pC(l:List Int):fE l=true↔∀i,i<l.length→Em l i=true :=by
 simp only [fE,List.all_eq_true,List.mem_range]
theorem mE(l:List Int)(i:Nat):Em l i=true↔mD l i<l.getD i 0∧l.getD i 0<1000:=by
 simp only [Em,Bool.and_eq_true,decide_eq_true_eq]
theorem qj(l:List Int)(k:Nat):mD l (k+1)=l.getD k 0:=by
 simp only [mD];rw [if_neg (by omega),Nat.add_sub_cancel]
theorem LF(l:List Int):mD l 0= -1:=rfl
theorem PW {l:List Int} {k:Nat}(h:kF l k):∀i,i<k→(i:Int)≤l.getD i 0∧l.getD i 0<1000
 |0,hi=>by have :=(mE l 0).1 (h.1 0 hi);rw [LF] at this;omega
 |i+1,hi=>by
  have :=(mE l (i+1)).1 (h.1 (i+1) hi)
  rw [qj] at this
  have :=PW h i (by omega)
  omega
theorem Ww {l:List Int}(h:fE l=true):kF l l.length:=⟨(pC l).1 h,Nat.le_refl _⟩
theorem Hl {l:List Int}(h:fE l=true):l.length≤1000:=by
 by_cases h0:l.length=0
 · omega
 · have :=PW (Ww h) (l.length-1) (by omega);omega
theorem ż(l:List Int):kF l 0:=⟨fun i hi=>by omega,Nat.zero_le _⟩
theorem On {l:List Int} {k:Nat}(h:kF l k)(hk:(k:Int)<l.length)(hg:¬l.getD (Int.toNat (k:Int)) 0≤mD l k∧¬1000≤l.getD (Int.toNat (k:Int)) 0):kF l (k+1):=by
 rw [Int.toNat_natCast] at hg
 refine⟨fun i hi=> ?_,by omega⟩
 by_cases he:i=k
 · subst he;exact(mE l i).2 (by omega)
 · exact h.1 i (by omega)
theorem Up {l:List Int} {k:Nat}(hk:(k:Int)<l.length)(hg:l.getD (Int.toNat (k:Int)) 0≤mD l k∨1000≤l.getD (Int.toNat (k:Int)) 0):false=fE l:=by
 rw [Int.toNat_natCast] at hg
 cases hp:fE l with
 |false=>rfl
 |true=>have :=(mE l k).1 ((pC l).1 hp k (by omega));omega
theorem Uq {l:List Int} {k:Nat}(h:kF l k)(hk:¬(k:Int)<l.length):true=fE l:=by
 symm
 exact(pC l).2 fun i hi=>h.1 i (by omega)
theorem Ur {v:Int}(h0:0≤v)(h:v≤4611686018427387904):iS (Vg.fb UInt8) v=num v:=by
 have :iM v=false :=by simp only [iM,Bool.or_eq_false_iff,decide_eq_false_iff_not];omega
 simp only [iS,this];rfl
theorem Ž(a:List Int)(s1 s2:Int):ju a s1 s2 (Uo a) []:=by
 refine⟨rfl,?_⟩
 unfold Uo;split
 · rename_i h;have :=Hl h;simp;omega
 · simp
theorem Us {a:List Int} {s1 s2 n:Int} {r out:List Int}(h:ju a s1 s2 (n::r) out)(hn:pB n s1 s2=true):ju a s1 s2 r (out++ [n]):=by
 obtain⟨h1,h2⟩:=h
 rw [List.filter_cons,if_pos hn] at h1
 refine⟨by rw [List.append_assoc];exact h1,by simp at h2 ⊢;omega⟩
theorem Wx {a:List Int} {s1 s2 n:Int} {r out:List Int}(h:ju a s1 s2 (n::r) out)(hn:pB n s1 s2=false):ju a s1 s2 r out:=by
 obtain⟨h1,h2⟩:=h
 rw [List.filter_cons,if_neg (by rw [hn];decide)] at h1
 exact⟨h1,by simp at h2 ⊢;omega⟩
theorem Ut {a:List Int} {s1 s2:Int} {out:List Int}(h:ju a s1 s2 [] out):out=En a s1 s2:=by
 have :=h.1;simpa using this
end Go.S

end
section
namespace Go.S
abbrev fp:=List UInt8×List Int
def B8(a b:List UInt8):Bool:=Op.bytesLess a b || decide (a=b)
def ca(d:List fp)(i:Nat):List UInt8:=(d.getD i ([],[])).1
def iC(d:List fp)(i:Nat):List Int:=(d.getD i ([],[])).2
def jv(d:List fp):Prop :=d.length≤1048576∧∀e∈d,e.1.length≤1099511627776
def sA(d:List fp)(i:Nat):Bool:= !(decide (0<i)&&B8 (ca d i) (ca d (i-1)))&&(!decide ((iC d i).length=0)&&(fE (iC d i)&&isTerm (ca d i)))
def dH(d:List fp):Bool:=(List.range d.length).all (sA d)
def Bo(d:List fp)(k:Nat):Prop :=(∀i,i<k→sA d i=true)∧k≤d.length
def ag4(a b c:List UInt8):List UInt8:=text a++text b++c
def ž(d:List fp)(i:Nat):List UInt8:=
 ag4 (if i=0 then [] else ca d (i-1)) (if i<d.length then ca d i else []) (Ż (if i=0 then [] else iC d (i-1)))
def Wy(d:List fp)(k:Nat):List (List UInt8):=(List.range k).map (ž d)
def Wz(d:List fp):List (List UInt8):=Wy d (d.length+1)
def ſ(d:List fp):List UInt8:=root (leaves (Wz d))
def mF(a b:List fp):Bool:=decide (a=b)
def zb(a b:List fp)(k:Nat):Prop :=a.length=b.length∧a.take k=b.take k∧k≤a.length
def ga(a b:List (List UInt8)):Bool:=decide (a=b)
def nG(a b:List (List UInt8))(k:Nat):Prop :=a.length=b.length∧a.take k=b.take k∧k≤a.length
def dD(docs:List (List UInt8))(s1 s2:Int):Bool:=
 docs.all (fun b=>decide ((b.length:Int)≤2000))&&(decide ((docs.length:Int)≤1000)&&(decide (0≤s1)&&(decide (s1≤s2)&&decide (s2≤(docs.length:Int)))))
def uD(docs:List (List UInt8))(k:Nat):Prop :=(∀b∈docs.take k,b.length≤2000)∧k≤docs.length
def uE(b t:List UInt8):Bool:=decide (0<((places b t).length:Int))
theorem vN(d:List fp):dH d=true↔∀i,i<d.length→sA d i=true :=by
 simp only [dH,List.all_eq_true,List.mem_range]
theorem anb(d:List fp):Bo d 0:=⟨fun i hi=>by omega,Nat.zero_le _⟩
theorem PX {d:List fp} {k:Nat}(hk:(k:Int)<d.length)(h:sA d k=false):false=dH d:=by
 cases hr:dH d with
 |false=>rfl
 |true=>have :=(vN d).1 hr k (by omega);rw [h] at this;cases this
theorem WA {d:List fp} {k:Nat}(h:Bo d k)(hk:(k:Int)<d.length)(he:sA d k=true):Bo d (k+1):=by
 refine⟨fun i hi=> ?_,by omega⟩
 by_cases e:i=k
 · subst e;exact he
 · exact h.1 i (by omega)
theorem aaa {d:List fp} {k:Nat}(h:Bo d k)(hk:¬(k:Int)<d.length):true=dH d:=by
 symm;exact(vN d).2 fun i hi=>h.1 i (by omega)
theorem Uu {d:List fp} {k:Nat}(h:jv d):(d.getD k ([],[])).1.length≤1099511627776:=by
 by_cases hk:k<d.length
 · exact h.2 _ (bo d k _ hk)
 · rw [List.getD_eq_getElem?_getD,List.getElem?_eq_none (by omega)];simp
theorem rA(d:List fp)(i:Nat):sA d i=true↔(i=0∨B8 (ca d i) (ca d (i-1))=false)∧(iC d i).length≠0∧fE (iC d i)=true∧isTerm (ca d i)=true :=by
 simp only [sA,Bool.and_eq_true,Bool.not_eq_true',Bool.and_eq_false_iff,decide_eq_false_iff_not]
 constructor
 · rintro⟨h1,h2,h3,h4⟩;exact⟨h1.imp (by omega) id,h2,h3,h4⟩
 · rintro⟨h1,h2,h3,h4⟩;exact⟨h1.imp (by omega) id,h2,h3,h4⟩
theorem Eo(d:List fp)(i:Nat):sA d i=false↔(0<i∧B8 (ca d i) (ca d (i-1))=true)∨(iC d i).length=0∨fE (iC d i)=false∨isTerm (ca d i)=false :=by
 have :=rA d i
 cases h:sA d i with
 |true=>
  have h1:=this.1 h
  simp only [Bool.true_eq_false,false_iff]
  rintro(⟨h2,h3⟩|h2|h2|h2)
  · rcases h1.1 with h4|h4
    · omega
    · rw [h4] at h3;cases h3
  · exact h1.2.1 h2
  · rw [h1.2.2.1] at h2;cases h2
  · rw [h1.2.2.2] at h2;cases h2
 |false=>
  simp only [true_iff]
  by_cases a1:0<i∧B8 (ca d i) (ca d (i-1))=true
  · exact .inl a1
  · by_cases a2:(iC d i).length=0
    · exact .inr (.inl a2)
    · cases a3:fE (iC d i) with
      |false=>exact .inr (.inr (.inl rfl))
      |true=>
       cases a4:isTerm (ca d i) with
       |false=>exact .inr (.inr (.inr rfl))
       |true=>
        exfalso
        rw [h] at this
        have :false=true :=this.2 ⟨by
         cases hl:B8 (ca d i) (ca d (i-1)) with
         |false=>exact .inr rfl
         |true=>rw [hl] at a1;left;by_cases h0:0<i;exact absurd ⟨h0,rfl⟩ a1;omega,a2,a3,a4⟩
        cases this
theorem Ep:∀(w:List Int) (t:List UInt8),t.length≤64→(iO t w).length≤64
 | [],t,h=>h
 |c::w,t,h=>by
  simp only [iO]
  split
  · exact h
  · exact Ep w _ (by rw [List.length_append];omega)
theorem Bp {s:List UInt8}(h:isTerm s=true):s.length≤64:=by
 simp only [isTerm,decide_eq_true_eq] at h
 have hm:s∈bH s:=by rw [h];simp
 simp only [bH,List.mem_map] at hm
 obtain⟨w,_,hw⟩:=hm
 rw [←hw];exact Ep w [] (by simp)
theorem WB {d:List fp}(h:dH d=true) {i:Nat}(hi:i<d.length):(ca d i).length≤64∧fE (iC d i)=true :=by
 have :=(rA d i).1 ((vN d).1 h i hi)
 exact⟨Bp this.2.2.2,this.2.2.1⟩
theorem WC {a b:List (List UInt8)}(h:(a.length:Int)=b.length):nG a b 0:=⟨by omega,by simp,Nat.zero_le _⟩
theorem LG {a b:List (List UInt8)} {k:Nat}(h:nG a b k)(hk:(k:Int)<a.length)(he:a.getD k []=b.getD k []):nG a b (k+1):=by
 obtain⟨h1,h2,h3⟩:=h
 exact⟨h1,by rw [aG a k [] (by omega),aG b k [] (by omega),h2,he],by omega⟩
theorem Oo {a b:List (List UInt8)} {k:Nat}(he:¬a.getD k []=b.getD k []):false=ga a b:=by
 symm;simp only [ga,decide_eq_false_iff_not];intro h;rw [h] at he;exact he rfl
theorem Oq {a b:List (List UInt8)}(h:¬(a.length:Int)=b.length):false=ga a b:=by
 symm;simp only [ga,decide_eq_false_iff_not];intro e;rw [e] at h;exact h rfl
theorem Ot {a b:List (List UInt8)} {k:Nat}(h:nG a b k)(hk:¬(k:Int)<a.length):true=ga a b:=by
 obtain⟨h1,h2,h3⟩:=h
 symm;simp only [ga,decide_eq_true_eq]
 rw [List.take_of_length_le (by omega),List.take_of_length_le (by omega)] at h2;exact h2
theorem aab(docs:List (List UInt8)):uD docs 0:=⟨by simp,Nat.zero_le _⟩
theorem Ou {docs:List (List UInt8)} {k:Nat}(h:uD docs k)(hk:(k:Int)<docs.length)(hl:((docs.getD k []).length:Int)≤2000):uD docs (k+1):=by
 refine⟨fun b hb=> ?_,by omega⟩
 rw [aG docs k [] (by omega)] at hb
 rcases List.mem_append.1 hb with hb|hb
 · exact h.1 b hb
 · rw [List.mem_singleton.1 hb];omega
theorem Uv {docs:List (List UInt8)} {k:Nat} {s1 s2:Int}(hk:(k:Int)<docs.length)(hl:2000<((docs.getD k []).length:Int)):false=dD docs s1 s2:=by
 have :docs.all (fun b=>decide ((b.length:Int)≤2000))=false :=by
  rw [List.all_eq_false]
  exact⟨_,bo docs k [] (by omega),by rw [decide_eq_true_eq];omega⟩
 simp only [dD,this,Bool.false_and]
theorem Uw {docs:List (List UInt8)} {k:Nat}(h:uD docs k)(hk:¬(k:Int)<docs.length):docs.all (fun b=>decide ((b.length:Int)≤2000))=true :=by
 rw [List.all_eq_true]
 have h1:=h.1
 rw [List.take_of_length_le (by omega)] at h1
 intro b hb
 have :=h1 b hb
 simp;omega
theorem LH:∀(a b:List UInt8),B8 b a= !Op.bytesLess a b
 | [],[]=>rfl
 | [],b::y=>by simp [B8,Op.bytesLess]
 |a::x,[]=>by simp [B8,Op.bytesLess]
 |a::x,b::y=>by
  have ih:=LH x y
  simp only [B8] at ih
  simp only [B8,Op.bytesLess]
  rcases UInt8.lt_or_lt_of_ne (a:=a) (b:=b) |> fun h=>Classical.em (a=b) with h|h
  · subst h
    simp only [UInt8.lt_irrefl,decide_false,Bool.false_or,beq_self_eq_true,Bool.true_and,List.cons.injEq,true_and]
    exact ih
  · have hba:(b==a)=false :=by simpa using fun e=>h e.symm
    have fw:(a==b)=false :=by simpa using h
    have dJ:¬(b::y=a::x):=by simp only [List.cons.injEq];exact fun e=>h e.1.symm
    rw [hba,fw,decide_eq_false dJ]
    simp only [Bool.false_and,Bool.or_false]
    have :a.toNat≠b.toNat:=fun e=>h (UInt8.toNat_inj.1 e)
    rw [←decide_not,decide_eq_decide,UInt8.lt_iff_toNat_lt,UInt8.lt_iff_toNat_lt];omega
theorem Ux {s:List UInt8}:(text s).length≤s.length+9:=by
 have :=kC (s.length:Int)
 simp only [text,List.length_append];omega
end Go.S
namespace Go.S
def nS(docs:List (List UInt8))(a:Int)(k:Nat):List (List UInt8):=(List.range k).flatMap fun(i:Nat)=>sorted (bH (docs.getD (a+i).toNat []))
def cA(docs:List (List UInt8))(a:Int)(t:List UInt8)(k:Nat):List Int:=((List.range k).filter fun(i:Nat)=>uE (docs.getD (a+i).toNat []) t).map fun(i:Nat)=>a+i
def cE(docs:List (List UInt8))(a b:Int):List (List UInt8):=sorted (nS docs a (b-a).toNat)
def vO(docs:List (List UInt8))(a b:Int)(k:Nat):List fp:=((cE docs a b).take k).map fun t=>(t,cA docs a t (b-a).toNat)
def make(docs:List (List UInt8))(a b:Int):List fp:=(cE docs a b).map fun t=>(t,cA docs a t (b-a).toNat)
def kG(docs:List (List UInt8))(a b:Int):Prop :=0≤a∧a≤b∧b≤docs.length∧docs.length≤1000∧∀d∈docs,d.length≤4000
end Go.S
namespace Go.S
theorem Hm:∀(f:Nat) (l:List (List UInt8)),(sv f l).length≤l.length
 |0,l=>by simp [sv]
 |f+1,l=>by
  simp only [sv]
  split
  · simp
  · rename_i h
    have h0:0<l.length:=by cases l;simp at h;simp
    have :=Hm f (l.filter (fun x=> !decide (x=l.getD (im l) [])))
    have :=sw h0
    rw [List.length_cons];omega
theorem sB(l:List (List UInt8)):(sorted l).length≤l.length:=Hm _ l
theorem WD {docs:List (List UInt8)} {a b:Int}(hp:kG docs a b)(i:Nat):(docs.getD i []).length≤4000:=by
 by_cases h:i<docs.length
 · exact hp.2.2.2.2 _ (bo docs i [] h)
 · rw [List.getD_eq_getElem?_getD,List.getElem?_eq_none (by omega)];simp
theorem Bq(docs:List (List UInt8))(a:Int)(k:Nat):nS docs a k++sorted (bH (docs.getD (Int.toNat (a+(k:Int))) []))=nS docs a (k+1):=by
 simp only [nS,List.range_succ,List.flatMap_append,List.flatMap_cons,List.flatMap_nil,List.append_nil]
theorem LJ {docs:List (List UInt8)} {a b:Int}(hp:kG docs a b)(i:Nat):(sorted (bH (docs.getD i []))).length≤4000:=by
 have :=WD hp i
 have :=Eg (docs.getD i [])
 have :=sB (bH (docs.getD i []))
 omega
theorem Br {docs:List (List UInt8)} {a:Int} {t:List UInt8} {k:Nat}(h:uE (docs.getD (Int.toNat (a+(k:Int))) []) t=true):cA docs a t k++ [a+(k:Int)]=cA docs a t (k+1):=by
 simp only [cA,List.range_succ,List.filter_append,List.map_append,List.filter_cons,h,if_true,List.filter_nil,List.map_cons,List.map_nil]
theorem Er {docs:List (List UInt8)} {a:Int} {t:List UInt8} {k:Nat}(h:uE (docs.getD (Int.toNat (a+(k:Int))) []) t=false):cA docs a t k=cA docs a t (k+1):=by
 simp only [cA,List.range_succ,List.filter_append,List.map_append,List.filter_cons,h,List.filter_nil]
 simp
theorem LK(docs:List (List UInt8))(a:Int)(t:List UInt8)(k:Nat):(cA docs a t k).length≤k:=by
 simp only [cA,List.length_map]
 have :=List.length_filter_le (fun(i:Nat)=>uE (docs.getD (a+i).toNat []) t) (List.range k)
 rw [List.length_range] at this;exact this
theorem JG {docs:List (List UInt8)} {a b:Int} {k j:Nat} {t:List UInt8}(hk:k<(cE docs a b).length)(hj:j=(b-a).toNat)(ht:(cE docs a b).getD k []=t):vO docs a b k++ [(t,cA docs a t j)]=vO docs a b (k+1):=by
 subst ht;subst hj
 simp only [vO]
 rw [aG (cE docs a b) k [] hk,List.map_append];rfl
theorem LL {docs:List (List UInt8)} {a b:Int} {k:Nat}(h:¬k<(cE docs a b).length):vO docs a b k=make docs a b:=by
 simp only [vO,make];rw [List.take_of_length_le (by omega)]
end Go.S

end
section
namespace Go.S
end Go.S

end
section
namespace Go.S
theorem rB(b t:List UInt8):uE b t=true↔t∈bH b:=by
 unfold uE
 rw [decide_eq_true_iff]
 simp only [places,Hi,List.length_map]
 constructor
 · intro h
   have h1:0<((List.range (bH b).length).filter (fun i=>decide ((bH b).getD i []=t))).length:=by omega
   obtain⟨i,hi⟩:=List.exists_mem_of_length_pos h1
   simp only [List.mem_filter,List.mem_range,decide_eq_true_eq] at hi
   rw [←hi.2,List.getD_eq_getElem?_getD,List.getElem?_eq_getElem hi.1]
   exact List.getElem_mem _
 · intro h
   obtain⟨i,hi,he⟩:=List.getElem_of_mem h
   have :i∈(List.range (bH b).length).filter (fun i=>decide ((bH b).getD i []=t)):=by
    simp only [List.mem_filter,List.mem_range,decide_eq_true_eq]
    exact⟨hi,by rw [List.getD_eq_getElem?_getD,List.getElem?_eq_getElem hi];exact he⟩
   have :=List.length_pos_of_mem this
   omega
def eM(docs:List (List UInt8))(a:Int)(k:Nat):List (List UInt8):=sorted (bH (docs.getD (a+(k:Int)).toNat []))
def sC(docs:List (List UInt8))(a:Int)(k j:Nat)(s:List UInt8):List Int:=cA docs a s k++if s∈(eM docs a k).take j then [a+(k:Int)] else []
theorem ag5(docs:List (List UInt8))(a:Int)(s:List UInt8):sC docs a 0 0 s= []:=by simp [sC,cA]
theorem uF {l:List (List UInt8)}(h:mg l):l.Nodup:=h.imp fun {a b} fw dJ=>by
 subst dJ
 rw [bR] at fw;cases fw
theorem lI {l:List (List UInt8)} {j:Nat}(hj:j<l.length)(s:List UInt8):s∈l.take (j+1)↔s∈l.take j∨s=l.getD j []:=by
 rw [List.take_add_one,List.mem_append,List.getElem?_eq_getElem hj,List.getD_eq_getElem?_getD,List.getElem?_eq_getElem hj]
 simp
theorem Bt {l:List (List UInt8)}(h:l.Nodup) {j:Nat}(hj:j<l.length):l.getD j []∉l.take j:=by
 intro hm
 rw [List.getD_eq_getElem?_getD,List.getElem?_eq_getElem hj] at hm
 obtain⟨i,hi,he⟩:=List.getElem_of_mem hm
 simp only [List.length_take] at hi
 rw [List.getElem_take] at he
 exact(List.pairwise_iff_getElem.1 h) i j (by omega) hj (by omega) he
theorem WE {docs:List (List UInt8)} {a:Int} {k j:Nat}(hj:j<(eM docs a k).length):sC docs a k (j+1) ((eM docs a k).getD j [])=sC docs a k j ((eM docs a k).getD j [])++ [a+(k:Int)]:=by
 have h1:(eM docs a k).getD j []∉(eM docs a k).take j:=Bt (uF (jX (bH (docs.getD (a+(k:Int)).toNat [])))) hj
 have h2:=(lI hj ((eM docs a k).getD j [])).2 (.inr rfl)
 simp only [sC]
 rw [if_pos h2,if_neg h1,List.append_nil]
theorem Uy {docs:List (List UInt8)} {a:Int} {k j:Nat}(hj:j<(eM docs a k).length) {s:List UInt8}(hs:s≠(eM docs a k).getD j []):sC docs a k (j+1) s=sC docs a k j s:=by
 simp only [sC]
 by_cases h:s∈(eM docs a k).take j
 · rw [if_pos h,if_pos ((lI hj s).2 (.inl h))]
 · rw [if_neg h,if_neg (fun h'=>by rcases(lI hj s).1 h' with h'|h';exact h h';exact hs h')]
theorem Uz {docs:List (List UInt8)} {a:Int} {k j:Nat}(hj:¬j<(eM docs a k).length)(s:List UInt8):sC docs a k j s=sC docs a (k+1) 0 s:=by
 simp only [sC,List.take_zero,List.not_mem_nil,if_false,List.append_nil]
 rw [List.take_of_length_le (by omega)]
 by_cases h:s∈eM docs a k
 · rw [if_pos h]
   exact Br ((rB _ _).2 ((fN _ _).1 h))
 · rw [if_neg h,List.append_nil]
   refine Er ?_
   cases hh:uE (docs.getD (Int.toNat (a+(k:Int))) []) s with
   |false=>rfl
   |true=>exact absurd ((fN _ _).2 ((rB _ _).1 hh)) h
theorem WG(docs:List (List UInt8))(a:Int)(k j:Nat)(s:List UInt8):(sC docs a k j s).length≤k+1:=by
 have :=LK docs a s k
 simp only [sC,List.length_append]
 split<;>simp<;>omega
theorem xD(docs:List (List UInt8))(a:Int)(x:List UInt8):∀k,x∈nS docs a k↔cA docs a x k≠ []
 |0=>by simp [nS,cA]
 |k+1=>by
  rw [←Bq,List.mem_append,xD docs a x k,fN,←rB]
  cases h:uE (docs.getD (Int.toNat (a+(k:Int))) []) x with
  |true=>rw [←Br h];simp
  |false=>rw [←Er h];simp
end Go.S
namespace Go.S
def gn(docs:List (List UInt8))(a b:Int):List fp×Int:=if dD docs a b then(make docs a b,0) else([],1)
end Go.S

end
section
namespace Go.S
abbrev Sg:=Int×Int×Int×List UInt8
def iP(a b:Int):Bool:=decide (0≤a)&&(decide (a<b)&&decide (b≤1000))
def Aj(d:List fp)(a b:Int)(i:Nat):Bool:=decide (((En (iC d i) a b).length:Int)=((iC d i).length:Int))
def gZ(a b:Int)(d:List fp):Bool:=(iP a b&&dH d)&&(List.range d.length).all (Aj d a b)
def qk(a b:Int)(d:List fp)(k:Nat):Prop :=iP a b=true∧dH d=true∧(∀i,i<k→Aj d a b i=true)∧k≤d.length
def rOf(a b:Int)(d:List fp):Int×Int×Int×List UInt8:=(a,b,((Wz d).length:Int),ſ d)
def Ak(a b n:Int)(r:List UInt8):Bool:=iP a b&&(decide (1≤n)&&(decide (n≤1099511627776)&&decide ((r.length:Int)=32)))
def gb(docs:List (List UInt8))(a b:Int):Bool:=dD docs a b&&decide (a<b)
def sg(l:List Sg)(i:Nat):Sg:=l.getD i (0,0,0,[])
def PY(l:List Sg)(i:Nat):Bool:=Ak (sg l i).1 (sg l i).2.1 (sg l i).2.2.1 (sg l i).2.2.2&& !(decide (0<i)&& !decide ((sg l i).1=(sg l (i-1)).2.1))
def PZ(l:List Sg)(n:Int):Bool:=
 if l.length=0 then decide (n=0)
 else(List.range l.length).all (PY l)&&(decide ((l.length:Int)≤64)&&(decide ((sg l 0).1=0)&&decide ((sg l (l.length-1)).2.1=n)))
theorem aac {l:List Int} {a b:Int}(h:fE l=true)(h0:l.length≠0):(En l a b).length=l.length↔a≤l.getD 0 0∧l.getD (l.length-1) 0<b:=by
 have hs:∀n,n<l.length→∀i,i≤n→l.getD i 0≤l.getD n 0:=by
  intro n
  induction n with
  |zero=>intro _ i hi;rw [show i=0 by omega];exact Int.le_refl _
  |succ n ih=>
   intro hn i hi
   by_cases e:i=n+1
   · rw [e];exact Int.le_refl _
   · have h1:=ih (by omega) i (by omega)
     have h2:=(mE l (n+1)).1 ((pC l).1 h (n+1) hn)
     rw [qj] at h2;omega
 simp only [En,Uo,h,if_true]
 rw [List.length_filter_eq_length_iff]
 constructor
 · intro ja
   have h1:=ja _ (bo l 0 0 (by omega))
   have h2:=ja _ (bo l (l.length-1) 0 (by omega))
   simp only [pB,Bool.and_eq_true,decide_eq_true_eq] at h1 h2
   exact⟨h1.1,h2.2⟩
 · rintro⟨h1,h2⟩ x hx
   obtain⟨i,hi,rfl⟩:=List.mem_iff_getElem.1 hx
   have e:l[i]=l.getD i 0:=by rw [List.getD_eq_getElem?_getD,List.getElem?_eq_getElem hi];rfl
   rw [e]
   have q1:=hs i hi 0 (Nat.zero_le _)
   have q2:=hs (l.length-1) (by omega) i (by omega)
   simp only [pB,Bool.and_eq_true,decide_eq_true_eq];omega
theorem ag6 {a b:Int} {d:List fp}(h1:iP a b=true)(h2:dH d=true):qk a b d 0:=⟨h1,h2,fun i hi=>by omega,Nat.zero_le _⟩
theorem UA {a b:Int} {d:List fp} {k:Nat}(h:qk a b d k)(hk:(k:Int)<d.length)(he:Aj d a b k=true):qk a b d (k+1):=by
 refine⟨h.1,h.2.1,fun i hi=> ?_,by omega⟩
 by_cases e:i=k
 · subst e;exact he
 · exact h.2.2.1 i (by omega)
theorem WH {a b:Int} {d:List fp} {k:Nat}(hk:(k:Int)<d.length)(he:Aj d a b k=false):false=gZ a b d:=by
 symm
 simp only [gZ]
 have :(List.range d.length).all (Aj d a b)=false :=by
  rw [List.all_eq_false];exact⟨k,by rw [List.mem_range];omega,by rw [he];decide⟩
 rw [this,Bool.and_false]
theorem WI {a b:Int} {d:List fp} {k:Nat}(h:qk a b d k)(hk:¬(k:Int)<d.length):true=gZ a b d:=by
 symm
 simp only [gZ,h.1,h.2.1,Bool.true_and,List.all_eq_true,List.mem_range]
 intro i hi;exact h.2.2.1 i (by have :=h.2.2.2;omega)
theorem aad {a b:Int} {d:List fp}(h:iP a b=false∨dH d=false):false=gZ a b d:=by
 symm
 rcases h with h|h<;>simp only [gZ,h,Bool.false_and,Bool.and_false]
end Go.S
namespace Go.S
end Go.S

end
section
namespace Go.S
def cv(docs:List (List UInt8))(a b:Int):(Int×Int×List fp)×Int:=if gb docs a b then((a,b,make docs a b),0) else((0,0,[]),1)
def PQ(l:List Sg)(k:Nat):Prop :=(∀i,i<k→PY l i=true)∧k≤l.length∧l.length≤64∧(0<k→(sg l 0).1=0)
end Go.S
namespace Go.S
theorem LM {m r d:List (List UInt8)} {i:Nat}(h:i≤m.length):(m.take i++r++d).take i=m.take i:=by
 rw [List.append_assoc,List.take_append_of_le_length (by rw [List.length_take];omega),List.take_take,Nat.min_self]
theorem JH {b:List UInt8}(h:small b):small (bH b):=by
 have :=Eg b
 simp only [small] at *
 omega
theorem JI {l:List (List UInt8)}(h:small l):small (fZ l):=by
 simp only [small,fZ,List.length_mergeSort] at *
 exact h
end Go.S
namespace Go.S
theorem LN {docs:List (List UInt8)} {a b:Int}(h:¬(gn docs a b).2=0):cv docs a b=((0,0,[]),1)∧(gn docs a b).2=1:=by
 unfold gn at *
 by_cases hf:dD docs a b=true
 · rw [if_pos hf] at h;exact absurd rfl h
 · rw [if_neg hf]
   refine⟨?_,rfl⟩
   unfold cv gb
   have :dD docs a b=false :=by simpa using hf
   rw [this];rfl
theorem WJ {docs:List (List UInt8)} {a b:Int}(h:(gn docs a b).2=0):dD docs a b=true∧gn docs a b=(make docs a b,0):=by
 unfold gn at *
 by_cases hf:dD docs a b=true
 · exact⟨hf,by rw [if_pos hf]⟩
 · rw [if_neg hf] at h;cases h
theorem LO {docs:List (List UInt8)} {a b:Int}(h:a=b):cv docs a b=((0,0,[]),1):=by
 unfold cv gb
 have :decide (a<b)=false :=decide_eq_false (by omega)
 rw [this,Bool.and_false];rfl
theorem LP {docs:List (List UInt8)} {a b:Int}(h:(gn docs a b).2=0)(dJ:¬a=b):cv docs a b=((a,b,(gn docs a b).1),0):=by
 obtain⟨h1,h2⟩:=WJ h
 rw [h2]
 unfold cv gb
 have hp:a≤b:=by
  simp only [dD,Bool.and_eq_true,decide_eq_true_eq] at h1
  exact h1.2.2.2.1
 have :decide (a<b)=true :=decide_eq_true (by omega)
 rw [h1,this];rfl
end Go.S
namespace Go.S
end Go.S
namespace Go.S
end Go.S

end
section
namespace Go.S
end Go.S

end
section
namespace Go.S
theorem pD {docs:List (List UInt8)} {f t:Int}(h:gb docs f t=true):kG docs f t:=by
 simp only [gb,dD,Bool.and_eq_true,List.all_eq_true,decide_eq_true_eq] at h
 obtain⟨⟨h1,h2,h3,h4,h5⟩,h6⟩:=h
 exact⟨h3,h4,h5,by omega,fun d hd=>by have :=h1 d hd;omega⟩
end Go.S
namespace Go.S
end Go.S

end
section
namespace Go.S
theorem Cu:∀(l acc:List Int),∀W∈lf acc l,W≠ []
 | [],acc,W,hW=>by
   simp only [lf] at hW
   split at hW
   · cases hW
   · rename_i h
     rw [List.mem_singleton.1 hW]
     intro e;rw [e] at h;exact h rfl
 |x::l,acc,W,hW=>by
  simp only [lf] at hW
  split at hW
  · exact Cu l _ W hW
  · split at hW
    · exact Cu l _ W hW
    · rename_i h
      rcases List.mem_cons.1 hW with e|hW
      · subst e
        intro e;rw [e] at h;exact h rfl
      · exact Cu l _ W hW
theorem LQ {b t:List UInt8}(h:t∈bH b):isTerm t=true :=by
 rw [←Uj]
 simp only [bH,List.mem_map] at h
 obtain⟨W,hW,hs⟩:=h
 have aE:=yZ (decode b) [] (by simp) W hW
 have dJ:=Cu (decode b) [] W hW
 have hrW:∀c∈W,bm (br c)=true :=fun c hc=>yY (mY b c (by
  rcases(aE c hc).2 with h|h
  · cases h
  · exact h))
 have hlen:t.length≤64:=by rw [←hs];exact vM W [] (by simp)
 obtain⟨p,hp,hpf,hpn⟩:∃p:List Int,(∀c∈p,c∈W)∧iO [] W=p.flatMap (fun c=>fg (br c))∧p≠ []:=by
  cases W with
  |nil=>exact absurd rfl dJ
  |cons c w=>
   obtain⟨p,h1,h2⟩:=uA w ([]++fg (br c))
   have hl:(fg (br c)).length≤4:=by rw [za (hrW c (by simp))];exact(uy (hrW c (by simp)) []).2.2
   refine⟨c::p,fun x hx=> ?_,?_,by simp⟩
   · rcases List.mem_cons.1 hx with hx|hx
     · simp [hx]
     · simp [h1 x hx]
   · simp only [iO,List.length_nil]
     rw [if_neg (by omega),h2,List.flatMap_cons,List.nil_append]
 have hr:∀c∈p,bm (br c)=true :=fun c hc=>hrW c (hp c hc)
 have IQ:t=(p.map br).flatMap enc:=by
  rw [←hs];show iO [] W=_
  rw [hpf,List.flatMap_map]
  exact qi fun c hc=>za (hr c hc)
 have hd:decode t=p.map br:=by
  rw [IQ]
  exact uz _ (fun c hc=>by
   obtain⟨c',h',rfl⟩:=List.mem_map.1 hc;exact hr c' h')
 simp only [Og,Bool.and_eq_true,decide_eq_true_eq,List.all_eq_true,Of,hd]
 refine⟨fun c hc=> ?_,?_,by omega⟩
 · obtain⟨c',h',rfl⟩:=List.mem_map.1 hc
   exact⟨Bn (aE c' (hp c' h')).1,y9 c'⟩
 · have :=List.length_pos_iff.2 hpn
   simp;omega
end Go.S
namespace Go.S
theorem ql {docs:List (List UInt8)} {a:Int} {t:List UInt8} {k:Nat} {i:Int}:i∈cA docs a t k↔a≤i∧i<a+(k:Int)∧uE (docs.getD i.toNat []) t=true :=by
 simp only [cA,List.mem_map,List.mem_filter,List.mem_range]
 constructor
 · rintro⟨q,⟨h1,h2⟩,rfl⟩
   exact⟨by omega,by omega,h2⟩
 · rintro⟨h1,h2,h3⟩
   refine⟨(i-a).toNat,⟨by omega,?_⟩,by omega⟩
   rw [show a+(((i-a).toNat:Nat):Int)=i by omega];exact h3
theorem JJ(docs:List (List UInt8))(a:Int)(t:List UInt8)(k:Nat):(cA docs a t k).Pairwise (· < ·):=by
 simp only [cA]
 refine List.pairwise_map.2 ?_
 refine List.Pairwise.filter _ ?_
 exact(List.pairwise_lt_range (n:=k)).imp fun {x y} h=>by omega
theorem UB {l:List Int}(h:l.Pairwise (· < ·))(hb:∀x∈l,0≤x∧x<1000):fE l=true :=by
 rw [pC]
 intro i hi
 rw [mE]
 have hm:=hb _ (bo l i 0 hi)
 refine⟨?_,hm.2⟩
 cases i with
 |zero=>simp only [mD,if_pos];omega
 |succ i=>
  rw [qj]
  have :=(List.pairwise_iff_getElem.1 h) i (i+1) (by omega) hi (by omega)
  rw [List.getD_eq_getElem?_getD,List.getD_eq_getElem?_getD,List.getElem?_eq_getElem hi,List.getElem?_eq_getElem (show i<l.length by omega)]
  exact this
theorem vP(docs:List (List UInt8))(a b:Int):(make docs a b).length=(cE docs a b).length:=by simp [make]
theorem JK {docs:List (List UInt8)} {a b:Int} {i:Nat}(h:i<(cE docs a b).length):ca (make docs a b) i=(cE docs a b).getD i []:=by
 unfold ca make
 rw [List.getD_eq_getElem?_getD,List.getElem?_map,List.getElem?_eq_getElem h,List.getD_eq_getElem?_getD,List.getElem?_eq_getElem h];rfl
theorem JL {docs:List (List UInt8)} {a b:Int} {i:Nat}(h:i<(cE docs a b).length):iC (make docs a b) i=cA docs a ((cE docs a b).getD i []) (b-a).toNat:=by
 unfold iC make
 rw [List.getD_eq_getElem?_getD,List.getElem?_map,List.getElem?_eq_getElem h,List.getD_eq_getElem?_getD,List.getElem?_eq_getElem h];rfl
theorem nH {docs:List (List UInt8)} {a b:Int} {t:List UInt8}:t∈cE docs a b↔cA docs a t (b-a).toNat≠ []:=by
 unfold cE
 rw [fN,xD]
theorem uG {docs:List (List UInt8)} {a b:Int}(hp:kG docs a b):dH (make docs a b)=true :=by
 rw [vN]
 intro i hi
 rw [vP] at hi
 rw [rA,JK hi,JL hi]
 have hm:=bo (cE docs a b) i [] hi
 have dJ:=nH.1 hm
 have h1:=hp.1
 have h2:=hp.2.1
 have h3:=hp.2.2.1
 have h4:=hp.2.2.2.1
 refine⟨?_,?_,?_,?_⟩
 · by_cases h0:i=0
   · exact .inl h0
   right
   rw [JK (by omega)]
   have BU:mg (cE docs a b):=jX _
   have :=(List.pairwise_iff_getElem.1 BU) (i-1) i (by omega) hi (by omega)
   rw [LH,List.getD_eq_getElem?_getD,List.getD_eq_getElem?_getD,List.getElem?_eq_getElem hi,List.getElem?_eq_getElem (show i-1<(cE docs a b).length by omega)]
   simpa using this
 · intro e
   exact dJ (List.length_eq_zero_iff.1 e)
 · refine UB (JJ _ _ _ _) fun x hx=> ?_
   have :=ql.1 hx
   omega
 · obtain⟨x,hx⟩:=List.exists_mem_of_ne_nil _ dJ
   have :=ql.1 hx
   exact LQ ((rB _ _).1 this.2.2)
theorem Ov {docs:List (List UInt8)} {a b:Int}(hp:kG docs a b)(hn:(cE docs a b).length≤1048576):jv (make docs a b):=by
 refine⟨by rw [vP];exact hn,fun e he=> ?_⟩
 simp only [make,List.mem_map] at he
 obtain⟨t,ht,rfl⟩:=he
 obtain⟨x,hx⟩:=List.exists_mem_of_ne_nil _ (nH.1 ht)
 have h:=LQ ((rB _ _).1 (ql.1 hx).2.2)
 have :=Bp h
 simp only;omega
end Go.S

end
section
namespace Go.S
end Go.S
namespace Go.S
end Go.S
namespace Go.S
theorem WK {docs:List (List UInt8)} {a b:Int}(hp:kG docs a b)(fw:a<b):gZ a b (make docs a b)=true :=by
 have h1:=hp.1
 have h2:=hp.2.2.1
 have h3:=hp.2.2.2.1
 unfold gZ
 rw [uG hp]
 have hw:iP a b=true :=by
  unfold iP
  simp only [Bool.and_eq_true,decide_eq_true_eq];omega
 rw [hw,Bool.true_and,Bool.true_and,List.all_eq_true]
 intro i hi
 rw [List.mem_range] at hi
 have hr:=(rA _ _).1 ((vN _).1 (uG hp) i hi)
 unfold Aj
 rw [decide_eq_true_eq]
 have h:=(aac hr.2.2.1 hr.2.1 (a:=a) (b:=b)).2 ?_
 · omega
 · rw [vP] at hi
   have hd:∀x∈iC (make docs a b) i,a≤x∧x<b:=fun x hx=>by
    rw [JL hi] at hx
    have :=ql.1 hx
    omega
   have hn:=hr.2.1
   exact⟨(hd _ (bo _ 0 0 (by omega))).1,(hd _ (bo _ _ 0 (by omega))).2⟩
end Go.S

end
section
namespace Go.S
theorem Ow {b:List UInt8}(h:(first b).2.2=0):num (first b).1=b.take (first b).2.1.toNat∧(first b).2.1≤b.length:=by
 unfold first at h ⊢
 split at h
 · cases h
 · rename_i h1
   split at h
   · cases h
   · rename_i h2
     split at h
     · cases h
     · rename_i h3
       rw [if_neg h1,if_neg h2,if_neg h3]
       have q:lead b≤b.length:=List.Sublist.length_le (List.takeWhile_sublist _)
       refine⟨?_,by simp only;omega⟩
       have :num (cJ (b.take (lead b+1)))=b.take (lead b+1):=Classical.byContradiction fun e=>h3 (.inr e)
       rw [this]
       congr 1
end Go.S
namespace Go.S
end Go.S
namespace Go.S
end Go.S
namespace Go.S
end Go.S

end
section
namespace Go.S
abbrev aA:=Int×Int×List fp
def ar(l:List aA)(i:Nat):aA:=l.getD i (0,0,[])
def dT(d:List fp):List (List UInt8):=d.map (·.1)
def Bu(l:List aA):List (List UInt8):=l.flatMap fun s=>dT s.2.2
def uT(l:List aA):List (List UInt8):=sorted (Bu l)
def nb(t:List UInt8)(d:List fp):List Int:=(d.filter fun e=>decide (e.1=t)).flatMap (·.2)
def nT(l:List aA)(t:List UInt8):List Int:=l.flatMap fun s=>nb t s.2.2
def cw(l:List aA)(k:Nat):List fp:=((uT l).take k).map fun t=>(t,nT l t)
def nc(l:List aA):List fp:=(uT l).map fun t=>(t,nT l t)
def bW(l:List aA)(k:Nat)(s:aA):Int:=(((dT s.2.2).filter fun t=>decide (t∈(uT l).take k)).length:Nat)
def az(l:List aA)(k:Nat):List Int:=l.map (bW l k)
def aX(l:List aA)(k i:Nat):List Int:=(az l (k+1)).take i++(az l k).drop i
def cK(l:List aA)(nx:List Int):Nat→Int
 |0=> -1
 |i+1=>if nx.getD i 0=((ar l i).2.2.length:Int) then cK l nx i
  else if cK l nx i<0∨Op.bytesLess (ca (ar l i).2.2 (nx.getD i 0).toNat) (ca (ar l (cK l nx i).toNat).2.2 (nx.getD (cK l nx i).toNat 0).toNat)=true then(i:Int)
  else cK l nx i
def nI(l:List aA):Prop :=l.length≤1000∧∀s∈l,dH s.2.2=true∧s.2.2.length≤1048576
def jx(s:aA):Bool:=gZ s.1 s.2.1 s.2.2
def Es(l:List aA)(i:Nat):Bool:=decide ((ar l (i+1)).1=(ar l i).2.1)
def zc(l:List aA):Bool:=(List.range (l.length-1)).all (Es l)
def rC(l:List aA):Prop :=l.length≤1000∧∀s∈l,jv s.2.2
def dm(l:List aA):(Int×Int×List fp)×Int:=
 if l.length=0 then((0,0,[]),1)
 else if l.all jx=false then((0,0,[]),1)
 else if zc l=false then((0,0,[]),7)
 else(((ar l 0).1,(ar l (l.length-1)).2.1,nc l),0)
theorem Bv {P:List UInt8→Bool}:∀ {l:List (List UInt8)},mg l→(∀x∈l,∀y∈l,Op.bytesLess x y=true→P y=true→P x=true)→
  l.take (l.filter P).length=l.filter P∧l.drop (l.filter P).length=l.filter fun x=> !P x
 | [],_,_=>⟨rfl,rfl⟩
 |x::l,h,hP=>by
  have h1:=List.pairwise_cons.1 h
  have ih:=Bv (l:=l) h1.2 fun a ha b hb=>hP a (List.mem_cons_of_mem _ ha) b (List.mem_cons_of_mem _ hb)
  cases hx:P x with
  |true=>
   rw [List.filter_cons,if_pos hx,List.filter_cons,hx]
   simp only [List.length_cons,List.take_succ_cons,List.drop_succ_cons,Bool.not_true]
   exact⟨by rw [ih.1],ih.2⟩
  |false=>
   have hn:∀y∈l,P y=false :=fun y hy=>by
    cases hy':P y with
    |false=>rfl
    |true=>have :=hP x (List.mem_cons_self ..) y (List.mem_cons_of_mem _ hy) (h1.1 y hy) hy';rw [hx] at this;cases this
   have e:(x::l).filter P= []:=by
    rw [List.filter_eq_nil_iff]
    intro y hy
    rcases List.mem_cons.1 hy with rfl|hy
    · rw [hx];decide
    · rw [hn y hy];decide
   have e2:(x::l).filter (fun x=> !P x)=x::l:=by
    rw [List.filter_eq_self]
    intro y hy
    rcases List.mem_cons.1 hy with rfl|hy
    · rw [hx];rfl
    · rw [hn y hy];rfl
   rw [e,e2];exact⟨rfl,rfl⟩
theorem xE {T:List (List UInt8)}(h:mg T)(k:Nat) {x y:List UInt8}(hx:x∈T)(hxy:Op.bytesLess x y=true)(hy:y∈T.take k):x∈T.take k:=by
 have e:=List.take_append_drop k T
 rw [←e,List.mem_append] at hx
 rcases hx with hx|hx
 · exact hx
 · have h2:mg (T.take k++T.drop k):=by rw [e];exact h
   have :=(List.pairwise_append.1 h2).2.2 y hy x hx
   rw [iq hxy] at this;cases this
theorem qm(d:List fp):(dT d).length=d.length:=by simp [dT]
theorem Cv(d:List fp)(i:Nat):(dT d).getD i []=ca d i:=by
 simp only [dT,ca,List.getD_eq_getElem?_getD,List.getElem?_map]
 cases d[i]? <;>rfl
theorem UC {a b:List UInt8}(h:B8 a b=false):Op.bytesLess b a=true :=by
 simp only [B8,Bool.or_eq_false_iff,decide_eq_false_iff_not] at h
 rcases gG a b with h1|h1|h1
 · rw [h1] at h;cases h.1
 · exact absurd h1 h.2
 · exact h1
theorem iD {d:List fp}(h:dH d=true):mg (dT d):=by
 have hs:∀n i,i<n→n<d.length→Op.bytesLess (ca d i) (ca d n)=true :=by
  intro n
  induction n with
  |zero=>intro i hi;omega
  |succ n ih=>
   intro i hi hn
   have h1:=(rA d (n+1)).1 ((vN d).1 h (n+1) hn)
   have h2:Op.bytesLess (ca d n) (ca d (n+1))=true :=by
    rcases h1.1 with h0|h0
    · omega
    · exact UC h0
   by_cases e:i=n
   · subst e;exact h2
   · exact jW _ _ _ (ih i (by omega) (by omega)) h2
 unfold mg
 rw [List.pairwise_iff_getElem]
 intro i j hi hj hij
 have e:∀q (hq:q<(dT d).length),(dT d)[q]=ca d q:=fun q hq=>by
  rw [←Cv,List.getD_eq_getElem?_getD,List.getElem?_eq_getElem hq];rfl
 rw [e i hi,e j hj]
 exact hs j i hij (by rw [qm] at hj;exact hj)
theorem Al {l:List aA} {s:aA}(hs:s∈l) {t:List UInt8}(ht:t∈dT s.2.2):t∈uT l:=by
 rw [uT,fN,Bu,List.mem_flatMap];exact⟨s,hs,ht⟩
theorem uH(l:List aA):mg (uT l):=jX _
theorem LR {l:List aA} {s:aA}(hs:s∈l)(hd:dH s.2.2=true)(k:Nat):
  (dT s.2.2).take (bW l k s).toNat=(dT s.2.2).filter (fun t=>decide (t∈(uT l).take k))∧(dT s.2.2).drop (bW l k s).toNat=(dT s.2.2).filter fun t=> !decide (t∈(uT l).take k):=by
 have :=Bv (P:=fun t=>decide (t∈(uT l).take k)) (iD hd) fun x hx y hy hxy hPy=>by
  simp only [decide_eq_true_eq] at hPy ⊢
  exact xE (uH l) k (Al hs hx) hxy hPy
 simpa only [bW,Int.toNat_natCast] using this
theorem sD(l:List aA)(k:Nat)(s:aA):0≤bW l k s∧bW l k s≤s.2.2.length:=by
 unfold bW
 have :=List.length_filter_le (fun t=>decide (t∈(uT l).take k)) (dT s.2.2)
 rw [qm] at this;omega
theorem JM {l:List aA} {s:aA}(hs:s∈l)(hd:dH s.2.2=true) {k:Nat}(h:bW l k s<s.2.2.length):
  ca s.2.2 (bW l k s).toNat∈dT s.2.2∧ca s.2.2 (bW l k s).toNat∈uT l∧ca s.2.2 (bW l k s).toNat∉(uT l).take k∧∀t∈dT s.2.2,t∉(uT l).take k→t=ca s.2.2 (bW l k s).toNat∨Op.bytesLess (ca s.2.2 (bW l k s).toNat) t=true :=by
 have h0:=sD l k s
 have hc:=(LR hs hd k).2
 have hn:(bW l k s).toNat<(dT s.2.2).length:=by rw [qm];omega
 have Ox:(dT s.2.2).drop (bW l k s).toNat=ca s.2.2 (bW l k s).toNat::(dT s.2.2).drop ((bW l k s).toNat+1):=by
  rw [←Cv,List.getD_eq_getElem?_getD,List.getElem?_eq_getElem hn]
  exact List.drop_eq_getElem_cons hn
 have hm:ca s.2.2 (bW l k s).toNat∈(dT s.2.2).filter fun t=> !decide (t∈(uT l).take k):=by
  rw [←hc,Ox];exact List.mem_cons_self ..
 rw [List.mem_filter] at hm
 simp only [Bool.not_eq_true',decide_eq_false_iff_not] at hm
 refine⟨hm.1,Al hs hm.1,hm.2,fun t ht hk=> ?_⟩
 have ht2:t∈(dT s.2.2).filter fun t=> !decide (t∈(uT l).take k):=by
  rw [List.mem_filter];exact⟨ht,by simp [hk]⟩
 rw [←hc,Ox,List.mem_cons] at ht2
 rcases ht2 with h2|h2
 · exact .inl h2
 · right
   have hi:mg ((dT s.2.2).drop (bW l k s).toNat):=(iD hd).sublist (List.drop_sublist _ _)
   rw [Ox] at hi
   exact(List.pairwise_cons.1 hi).1 t h2
theorem UD {l:List aA} {s:aA}(hs:s∈l) {k:Nat}(h:∀t∈dT s.2.2,t∈(uT l).take k):bW l k s=s.2.2.length:=by
 unfold bW
 rw [List.filter_eq_self.2 fun t ht=>by simp [h t ht],qm]
theorem jy {T:List (List UInt8)} {k:Nat}(hk:k<T.length)(t:List UInt8):t∈T.take (k+1)↔t∈T.take k∨t=T.getD k []:=lI hk t
theorem JN {l:List aA} {k:Nat}(hk:k<(uT l).length):(uT l).getD k []∉(uT l).take k:=Bt (uF (uH l)) hk
theorem Oy {ts:List (List UInt8)}(h:mg ts) {T:List (List UInt8)} {k:Nat}(hk:k<T.length)(hn:T.getD k []∉T.take k):
  (ts.filter fun t=>decide (t∈T.take (k+1))).length=(ts.filter fun t=>decide (t∈T.take k)).length+(if T.getD k []∈ts then 1 else 0):=by
 induction ts with
 |nil=>simp
 |cons x r ih=>
  have h1:=List.pairwise_cons.1 h
  have hx:T.getD k []=x→T.getD k []∉r:=fun e hr=>by
   rw [e] at hr
   have :=h1.1 x hr
   rw [bR] at this;cases this
  have ih:=ih h1.2
  simp only [List.filter_cons,jy hk,decide_eq_true_eq,List.mem_cons] at ih ⊢
  by_cases e:x=T.getD k []
  · have hr:=hx e.symm
    rw [if_neg hr] at ih
    have hxn:¬x∈T.take k:=by rw [e];exact hn
    rw [if_pos (Or.inr e),if_neg hxn,if_pos (Or.inl e.symm),List.length_cons,ih]
  · have e2:¬T.getD k []=x:=fun h=>e h.symm
    by_cases UE:x∈T.take k
    · rw [if_pos (Or.inl UE),if_pos UE,List.length_cons,List.length_cons,ih]
      by_cases hr:T.getD k []∈r
      · rw [if_pos hr,if_pos (Or.inr hr)]
      · rw [if_neg hr,if_neg (by rintro(h|h);exact e2 h;exact hr h)]
    · rw [if_neg (by rintro(h|h);exact UE h;exact e h),if_neg UE,ih]
      by_cases hr:T.getD k []∈r
      · rw [if_pos hr,if_pos (Or.inr hr)]
      · rw [if_neg hr,if_neg (by rintro(h|h);exact e2 h;exact hr h)]
def hit(l:List aA)(k:Nat)(s:aA):Prop :=bW l k s<s.2.2.length∧ca s.2.2 (bW l k s).toNat=(uT l).getD k []
theorem Et {l:List aA} {s:aA}(hs:s∈l)(hd:dH s.2.2=true) {k:Nat}(hk:k<(uT l).length):hit l k s↔(uT l).getD k []∈dT s.2.2:=by
 constructor
 · rintro⟨h1,h2⟩;rw [←h2];exact(JM hs hd h1).1
 · intro hm
   have eD:bW l k s<s.2.2.length:=by
    have h0:=sD l k s
    by_cases h:bW l k s<s.2.2.length
    · exact h
    · exfalso
      have hc:=(LR hs hd k).2
      rw [List.drop_eq_nil_of_le (by rw [qm];omega)] at hc
      have :(uT l).getD k []∈(dT s.2.2).filter fun t=> !decide (t∈(uT l).take k):=by
       rw [List.mem_filter];exact⟨hm,by rw [decide_eq_false (JN hk)];rfl⟩
      rw [←hc] at this;cases this
   refine⟨eD,?_⟩
   obtain⟨h1,h2,h3,h4⟩:=JM hs hd eD
   rcases h4 _ hm (JN hk) with h5|h5
   · exact h5.symm
   · exfalso
     apply h3
     refine(jy hk _).1 (xE (uH l) (k+1) h2 h5 ((jy hk _).2 (.inr rfl))) |>.resolve_right fun e=> ?_
     rw [e,bR] at h5;cases h5
theorem Hn {l:List aA} {s:aA}(hs:s∈l)(hd:dH s.2.2=true) {k:Nat}(hk:k<(uT l).length):
  (hit l k s→bW l (k+1) s=bW l k s+1)∧(¬hit l k s→bW l (k+1) s=bW l k s):=by
 have :=Oy (iD hd) hk (JN hk)
 unfold bW
 rw [Et hs hd hk]
 constructor<;>intro h
 · rw [if_pos h] at this;omega
 · rw [if_neg h] at this;omega
theorem pE {t:List UInt8} {d:List fp}(h:t∉dT d):nb t d= []:=by
 have :d.filter (fun e=>decide (e.1=t))= []:=by
  rw [List.filter_eq_nil_iff]
  intro e he
  simp only [decide_eq_true_eq]
  intro e2;exact h (by rw [←e2];exact List.mem_map.2 ⟨e,he,rfl⟩)
 rw [nb,this];rfl
theorem oH:∀ {d:List fp},mg (dT d)→∀ {i:Nat},i<d.length→nb (ca d i) d=iC d i
 | [],_,i,hi=>by simp at hi
 |e::d,h,0,_=>by
  have h1:=List.pairwise_cons.1 h
  have hn:e.1∉dT d:=fun hm=>by have :=h1.1 _ hm;rw [bR] at this;cases this
  have :=pE hn
  simp only [nb] at this
  simp [nb,ca,iC,List.filter_cons,this]
 |e::d,h,i+1,hi=>by
  have h1:=List.pairwise_cons.1 h
  have hm:ca d i∈dT d:=by
   rw [←Cv,List.getD_eq_getElem?_getD,List.getElem?_eq_getElem (by rw [qm];simpa using hi)]
   exact List.getElem_mem _
  have dJ:¬e.1=ca d i:=fun he=>by have h5:=h1.1 _ hm;simp only [he,bR] at h5;cases h5
  have ih:=oH (d:=d) h1.2 (i:=i) (by simpa using hi)
  have e1:ca (e::d) (i+1)=ca d i:=rfl
  have e2:iC (e::d) (i+1)=iC d i:=rfl
  rw [e1,e2,←ih]
  simp only [nb,List.filter_cons,decide_eq_true_eq,if_neg dJ]
end Go.S

end
section
namespace Go.S
theorem ir {l:List aA} {i:Nat}(h:i<l.length):ar l i∈l:=bo l i _ h
theorem iu {l:List aA} {k i:Nat}(h:i<l.length):(az l k).getD i 0=bW l k (ar l i):=by
 simp only [az,ar,List.getD_eq_getElem?_getD,List.getElem?_map,List.getElem?_eq_getElem h,Option.map_some,Option.getD_some]
theorem fQ(l:List aA)(k:Nat):(az l k).length=l.length:=by simp [az]
theorem Cw {l:List aA}(k:Nat):∀i,i≤l.length→
  (cK l (az l k) i= -1∧∀j,j<i→bW l k (ar l j)=(ar l j).2.2.length)∨
  (∃q:Nat,cK l (az l k) i=q∧q<i∧bW l k (ar l q)<(ar l q).2.2.length∧∀j,j<i→bW l k (ar l j)<(ar l j).2.2.length→
    Op.bytesLess (ca (ar l j).2.2 (bW l k (ar l j)).toNat) (ca (ar l q).2.2 (bW l k (ar l q)).toNat)=false)
 |0,_=> .inl ⟨rfl,fun j hj=>by omega⟩
 |i+1,hi=>by
  have ih:=Cw (l:=l) k i (by omega)
  have h0:=sD l k (ar l i)
  simp only [cK]
  rw [iu (k:=k) (show i<l.length by omega)]
  by_cases he:bW l k (ar l i)=((ar l i).2.2.length:Int)
  · rw [if_pos he]
    rcases ih with⟨h1,h2⟩|⟨q,h1,h2,h3,h4⟩
    · refine .inl ⟨h1,fun j hj=> ?_⟩
      by_cases e:j=i
      · rw [e];exact he
      · exact h2 j (by omega)
    · refine .inr ⟨q,h1,by omega,h3,fun j hj sk=> ?_⟩
      by_cases e:j=i
      · rw [e] at sk;omega
      · exact h4 j (by omega) sk
  · rw [if_neg he]
    rcases ih with⟨h1,h2⟩|⟨q,h1,h2,h3,h4⟩
    · rw [if_pos (Or.inl (by rw [h1];decide))]
      refine .inr ⟨i,rfl,by omega,by omega,fun j hj sk=> ?_⟩
      by_cases e:j=i
      · rw [e];exact bR _
      · have :=h2 j (by omega);omega
    · rw [h1]
      have e1:((q:Int)).toNat=q:=Int.toNat_natCast q
      rw [e1,iu (k:=k) (show q<l.length by omega)]
      cases hb:Op.bytesLess (ca (ar l i).2.2 (bW l k (ar l i)).toNat) (ca (ar l q).2.2 (bW l k (ar l q)).toNat) with
      |true=>
       rw [if_pos (Or.inr rfl)]
       refine .inr ⟨i,rfl,by omega,by omega,fun j hj sk=> ?_⟩
       by_cases e:j=i
       · rw [e];exact bR _
       · have h5:=h4 j (by omega) sk
         cases hc:Op.bytesLess (ca (ar l j).2.2 (bW l k (ar l j)).toNat) (ca (ar l i).2.2 (bW l k (ar l i)).toNat) with
         |false=>rfl
         |true=>rw [jW _ _ _ hc hb] at h5;cases h5
      |false=>
       rw [if_neg (by rintro(h|h);omega;cases h)]
       refine .inr ⟨q,rfl,by omega,h3,fun j hj sk=> ?_⟩
       by_cases e:j=i
       · rw [e];exact hb
       · exact h4 j (by omega) sk
theorem ahb {l:List aA} {t:List UInt8}(h:t∈uT l):∃j,j<l.length∧t∈dT (ar l j).2.2:=by
 rw [uT,fN,Bu,List.mem_flatMap] at h
 obtain⟨s,hs,ht⟩:=h
 obtain⟨j,hj,rfl⟩:=List.mem_iff_getElem.1 hs
 refine⟨j,hj,?_⟩
 rw [ar,List.getD_eq_getElem?_getD,List.getElem?_eq_getElem hj];exact ht
theorem JO {T:List (List UInt8)} {k:Nat}(hk:k<T.length):T.getD k []∈T:=bo T k [] hk
theorem Ho {l:List aA}(hp:nI l) {k:Nat}(hk:k<(uT l).length):
  ∃q:Nat,cK l (az l k) l.length=q∧q<l.length∧bW l k (ar l q)<(ar l q).2.2.length∧ca (ar l q).2.2 (bW l k (ar l q)).toNat=(uT l).getD k []:=by
 obtain⟨j,hj,hjt⟩:=ahb (JO hk)
 have hsj:=ir hj
 obtain⟨h1,h2⟩:=(Et hsj (hp.2 _ hsj).1 hk).2 hjt
 rcases Cw (l:=l) k l.length (Nat.le_refl _) with⟨_,h4⟩|⟨q,h3,h4,h5,h6⟩
 · have :=h4 j hj;omega
 · refine⟨q,h3,h4,h5,?_⟩
   have h7:=h6 j hj h1
   rw [h2] at h7
   have hsq:=ir h4
   obtain⟨g1,g2,g3,_⟩:=JM hsq (hp.2 _ hsq).1 h5
   rcases gG ((uT l).getD k []) (ca (ar l q).2.2 (bW l k (ar l q)).toNat) with h8|h8|h8
   · rw [h7] at h8;cases h8
   · exact h8.symm
   · exfalso
     apply g3
     refine(jy hk _).1 (xE (uH l) (k+1) g2 h8 ((jy hk _).2 (.inr rfl))) |>.resolve_right fun e=> ?_
     rw [e,bR] at h8;cases h8
theorem UF {l:List aA} {k:Nat}(hk:(uT l).length≤k):cK l (az l k) l.length= -1:=by
 rcases Cw (l:=l) k l.length (Nat.le_refl _) with⟨h,_⟩|⟨q,h3,h4,h5,h6⟩
 · exact h
 · have hs:=ir h4
   have :=UD hs (k:=k) fun t ht=>by rw [List.take_of_length_le hk];exact Al hs ht
   omega
theorem LS {l:List aA}(hp:nI l)(k:Nat):cK l (az l k) l.length<0↔(uT l).length≤k:=by
 constructor
 · intro h
   by_cases hk:k<(uT l).length
   · obtain⟨q,h1,_⟩:=Ho hp hk;omega
   · omega
 · intro h;rw [UF h];decide
def cN(l:List aA)(t:List UInt8)(i:Nat):List Int:=nT (l.take i) t
theorem WL(l:List aA)(k i:Nat)(h:i≤l.length):(aX l k i).length=l.length:=by
 simp only [aX,List.length_append,List.length_take,List.length_drop,fQ];omega
theorem ahc(l:List aA)(k:Nat):az l k=aX l k 0:=by simp [aX]
theorem WM {l:List aA} {k:Nat}:aX l k l.length=az l (k+1):=by
 rw [aX,List.take_of_length_le (by rw [fQ];exact Nat.le_refl _),List.drop_eq_nil_of_le (by rw [fQ];exact Nat.le_refl _),List.append_nil]
theorem Eu {l:List aA} {k i:Nat}(h:i<l.length):(aX l k i).getD i 0=bW l k (ar l i):=by
 rw [←iu h]
 have hl:((az l (k+1)).take i).length=i:=by rw [List.length_take,fQ];omega
 simp only [aX,List.getD_eq_getElem?_getD]
 rw [List.getElem?_append_right (by omega),hl,List.getElem?_drop]
 simp
theorem UG {l:List aA} {k i:Nat}(h:i<l.length)(he:bW l (k+1) (ar l i)=bW l k (ar l i)):aX l k i=aX l k (i+1):=by
 have e1:(az l (k+1)).take (i+1)=(az l (k+1)).take i++ [bW l (k+1) (ar l i)]:=by
  rw [aG _ i 0 (by rw [fQ];exact h),iu h]
 have hn:i<(az l k).length:=by rw [fQ];exact h
 have e2:(az l k).drop i=bW l k (ar l i)::(az l k).drop (i+1):=by
  rw [List.drop_eq_getElem_cons hn]
  congr 1
  rw [←iu (k:=k) h,List.getD_eq_getElem?_getD,List.getElem?_eq_getElem hn];rfl
 rw [aX,aX,e1,e2,he,List.append_assoc];rfl
theorem WN {l:List aA} {k i:Nat}(h:i<l.length)(he:bW l (k+1) (ar l i)=bW l k (ar l i)+1):(aX l k i).set i (bW l k (ar l i)+1)=aX l k (i+1):=by
 have hn:i<(az l k).length:=by rw [fQ];exact h
 have e1:(az l (k+1)).take (i+1)=(az l (k+1)).take i++ [bW l (k+1) (ar l i)]:=by
  rw [aG _ i 0 (by rw [fQ];exact h),iu h]
 have e2:(az l k).drop i=bW l k (ar l i)::(az l k).drop (i+1):=by
  rw [List.drop_eq_getElem_cons hn]
  congr 1
  rw [←iu (k:=k) h,List.getD_eq_getElem?_getD,List.getElem?_eq_getElem hn];rfl
 have hl:((az l (k+1)).take i).length=i:=by rw [List.length_take,fQ];omega
 rw [aX,aX,e1,e2,he,List.append_assoc,List.set_append_right _ _ (by omega),hl,Nat.sub_self];rfl
theorem Oz(l:List aA)(t:List UInt8):cN l t l.length=nT l t:=by simp [cN]
theorem uI {l:List aA} {t:List UInt8} {i:Nat}(h:i<l.length):cN l t (i+1)=cN l t i++nb t (ar l i).2.2:=by
 have :l.take (i+1)=l.take i++ [ar l i]:=aG l i _ h
 simp only [cN,nT,this,List.flatMap_append,List.flatMap_cons,List.flatMap_nil,List.append_nil]
theorem OA {l:List aA}(hp:nI l) {k i:Nat}(hk:k<(uT l).length)(hi:i<l.length)(h1:bW l k (ar l i)<(ar l i).2.2.length)(h2:ca (ar l i).2.2 (bW l k (ar l i)).toNat=(uT l).getD k []):
  cN l ((uT l).getD k []) i++iC (ar l i).2.2 (bW l k (ar l i)).toNat=cN l ((uT l).getD k []) (i+1)∧(aX l k i).set i (bW l k (ar l i)+1)=aX l k (i+1):=by
 have hs:=ir hi
 have hd:=(hp.2 _ hs).1
 have h0:=sD l k (ar l i)
 refine⟨?_,WN hi ((Hn hs hd hk).1 ⟨h1,h2⟩)⟩
 rw [uI hi,←oH (iD hd) (i:=(bW l k (ar l i)).toNat) (by omega),h2]
theorem LU {l:List aA}(hp:nI l) {k i:Nat}(hk:k<(uT l).length)(hi:i<l.length)(h:¬(bW l k (ar l i)<(ar l i).2.2.length∧ca (ar l i).2.2 (bW l k (ar l i)).toNat=(uT l).getD k [])):
  cN l ((uT l).getD k []) i=cN l ((uT l).getD k []) (i+1)∧aX l k i=aX l k (i+1):=by
 have hs:=ir hi
 have hd:=(hp.2 _ hs).1
 refine⟨?_,UG hi ((Hn hs hd hk).2 h)⟩
 rw [uI hi,pE (fun hm=>h ((Et hs hd hk).2 hm)),List.append_nil]
theorem LV {l:List aA} {k:Nat}(hk:k<(uT l).length):cw l k++ [((uT l).getD k [],nT l ((uT l).getD k []))]=cw l (k+1):=by
 simp only [cw]
 rw [aG (uT l) k [] hk,List.map_append];rfl
theorem OB {l:List aA} {k:Nat}(hk:(uT l).length≤k):cw l k=nc l:=by
 simp only [cw,nc];rw [List.take_of_length_le hk]
theorem OC(l:List aA)(k:Nat):(cw l k).length≤k:=by simp [cw];omega
theorem aae {l:List aA}(hp:nI l):(uT l).length≤1048576000:=by
 have h1:=sB (Bu l)
 have h2:∀m:List aA,(∀s∈m,s.2.2.length≤1048576)→(Bu m).length≤1048576*m.length:=by
  intro m
  induction m with
  |nil=>intro _;simp [Bu]
  |cons s m ih=>
   intro h
   have :=ih fun s hs=>h s (List.mem_cons_of_mem _ hs)
   have h3:=h s (List.mem_cons_self ..)
   simp only [Bu,List.flatMap_cons,List.length_append,qm,List.length_cons] at this ⊢
   omega
 have :=h2 l fun s hs=>(hp.2 s hs).2
 have h3:=hp.1
 unfold uT
 have :1048576*l.length≤1048576000:=by omega
 omega
theorem uJ {d:List fp}(h:dH d=true)(t:List UInt8):(nb t d).length≤1000:=by
 by_cases hm:t∈dT d
 · obtain⟨i,hi,e⟩:=List.mem_iff_getElem.1 hm
   have e2:ca d i=t:=by rw [←Cv,List.getD_eq_getElem?_getD,List.getElem?_eq_getElem hi];exact e
   have BU:i<d.length:=by rw [qm] at hi;exact hi
   rw [←e2,oH (iD h) BU]
   exact Hl (WB h BU).2
 · rw [pE hm];simp
theorem Ew {l:List aA}(hp:nI l)(t:List UInt8):∀i,i≤l.length→(cN l t i).length≤1000*i
 |0,_=>by simp [cN,nT]
 |i+1,hi=>by
  rw [uI (by omega),List.length_append]
  have :=Ew hp t i (by omega)
  have :=uJ (hp.2 _ (ir (show i<l.length by omega))).1 t
  omega
end Go.S

end
section
namespace Go.S
abbrev Sp:=Int×Int
def gp(l:List Sp)(i:Nat):Sp:=l.getD i (0,0)
def lg(n:Int):Int:=(Nat.log2 n.toNat:Nat)
def j8(a b:Int):Int:=if a<0∨b<0∨b≤a then -1 else lg (b-a)
def Am(l:List Sp)(i:Nat):Int:=j8 (gp l i).1 (gp l i).2
def sE(l:List Sp):Nat→Int×Bool
 |0=>(0,false)
 |k+1=>if Am l k≤Am l (k+1) then((k:Int),true) else sE l k
def dE(l:List Sp):Int×Bool:=sE l (l.length-1)
def je(l:List Sp)(i:Nat):List Sp:=l.take i++ [((gp l i).1,(gp l (i+1)).2)]++l.drop (i+2)
def kH:Nat→List Sp→List Sp
 |0,l=>l
 |n+1,l=>if(dE l).2 then kH n (je l (dE l).1.toNat) else l
def iv(l:List Sp):List Sp:=kH l.length l
def cr(l:List aA):List Sp:=l.map fun s=>(s.1,s.2.1)
def lJ(a b:Int)(n:Nat):Prop :=0≤a∧a<b∧1≤n∧(n:Int)≤b-a
def kI(l:List Sp)(k:Nat):Prop :=(k+1≤l.length∨k=0)∧dE l=sE l (l.length-1-k)
theorem anh {n:Int}(h:n<2):0=lg n:=by
 unfold lg
 rw [Nat.log2_def,if_neg (by omega)];rfl
theorem aeM {n:Int}(h:2≤n):1+lg (n/2)=lg n:=by
 unfold lg
 rw [Nat.log2_def n.toNat,if_pos (by omega),show(n/2).toNat=n.toNat/2 by omega]
 omega
theorem aeN(n:Int):0≤lg n:=by unfold lg;omega
theorem WO(n:Int)(h:0≤n):lg n≤n:=by
 unfold lg
 by_cases h0:n.toNat=0
 · rw [h0];simp [Nat.log2];omega
 · have :=Nat.log2_lt (n:=n.toNat) (k:=n.toNat) h0
   have h2:n.toNat<2^n.toNat:=Nat.lt_two_pow_self
   have :=this.2 h2
   omega
theorem P0(l:List Sp):∀k,0≤(sE l k).1∧((sE l k).2=true→(sE l k).1<k)
 |0=>⟨Int.le_refl _,fun h=>by cases h⟩
 |k+1=>by
  have :=P0 l k
  simp only [sE]
  split
  · exact⟨by simp only;omega,fun _=>by simp only;omega⟩
  · exact⟨this.1,fun h=>by have :=this.2 h;omega⟩
theorem Ey {l:List Sp}(h:(dE l).2=true):0≤(dE l).1∧(dE l).1+1<l.length:=by
 have :=P0 l (l.length-1)
 have h2:=this.2 h
 unfold dE at *
 omega
theorem Ao {l:List Sp} {i:Nat}(h:i+1<l.length):(je l i).length+1=l.length:=by
 simp only [je,List.length_append,List.length_take,List.length_drop,List.length_singleton];omega
theorem OD {l:List Sp}(h:(dE l).2=false):iv l=l:=by
 unfold iv
 cases hl:l.length with
 |zero=>rfl
 |succ n=>simp only [kH,h];rfl
theorem LW {l:List Sp}(h:(dE l).2=true):iv (je l (dE l).1.toNat)=iv l:=by
 have hb:=Ey h
 have hj:=Ao (l:=l) (i:=(dE l).1.toNat) (by omega)
 unfold iv
 rw [←hj]
 show kH _ _=kH (_+1) l
 simp only [kH,h,if_true]
end Go.S

end
section
namespace Go.S
def aB(docs:List (List UInt8))(l:List Sp):List aA:=l.map fun s=>(s.1,s.2,make docs s.1 s.2)
def eR(l:List aA)(i:Nat):Int:=if i=0 then 0 else(ar l (i-1)).2.1
def jz(docs:List (List UInt8))(l:List aA)(i:Nat):Bool:=
 decide ((ar l i).1=eR l i)&&(gb docs (ar l i).1 (ar l i).2.1&&decide ((ar l i).2.2=make docs (ar l i).1 (ar l i).2.1))
def aW(docs:List (List UInt8))(l:List aA):Bool:=dD docs 0 0&&(decide ((l.length:Int)≤64)&&(List.range l.length).all (jz docs l))
def ao(docs:List (List UInt8))(l:List aA):List (List UInt8)×List aA:=if aW docs l then(docs,l) else([],[])
def cg(l:List aA):Int:=eR l l.length
def lK(docs:List (List UInt8))(l:List aA):Int:=cg (ao docs l).2
def bq(docs:List (List UInt8))(l:List aA)(doc:List UInt8):(List (List UInt8)×List aA)×Int:=
 if(2000:Int)<doc.length then(ao docs l,1)
 else if(1000:Int)≤(ao docs l).1.length then(ao docs l,3)
 else(((ao docs l).1++ [doc],(ao docs l).2),0)
def aY(docs:List (List UInt8))(l:List aA):(List (List UInt8)×List aA)×Int:=
 if lK docs l=(ao docs l).1.length then(ao docs l,5)
 else if(64:Int)≤(ao docs l).2.length then(ao docs l,3)
 else(((ao docs l).1,(ao docs l).2++ [(lK docs l,((ao docs l).1.length:Int),make (ao docs l).1 (lK docs l) (ao docs l).1.length)]),0)
def pF(l:List aA)(i m:Nat)(s:aA):List aA:=l.take i++ [s]++l.drop (i+m)
def rD(docs:List (List UInt8))(l:List aA)(i m:Nat):aA:=((ar l i).1,(ar l (i+m-1)).2.1,make docs (ar l i).1 (ar l (i+m-1)).2.1)
def wU(l:List aA)(i m:Int):Bool:=decide (m<2) || (decide (i<0) || (decide ((l.length:Int)<m) || decide ((l.length:Int)-m<i)))
def cn(docs:List (List UInt8))(l:List aA)(i m:Int):(List (List UInt8)×List aA)×Int:=
 if wU (ao docs l).2 i m then(ao docs l,1)
 else(((ao docs l).1,pF (ao docs l).2 i.toNat m.toNat (rD (ao docs l).1 (ao docs l).2 i.toNat m.toNat)),0)
def c5(docs:List (List UInt8))(l:List aA):List (List UInt8)×List aA:=((ao docs l).1,aB (ao docs l).1 (iv (cr (ao docs l).2)))
def WQ(s:aA):Sg:=rOf s.1 s.2.1 s.2.2
def qn(docs:List (List UInt8))(l:List aA):List Sg:=(ao docs l).2.map WQ
def uK(docs:List (List UInt8))(l:List aA)(k:Nat):Prop :=dD docs 0 0=true∧l.length≤64∧(∀i,i<k→jz docs l i=true)∧k≤l.length
def dO(docs:List (List UInt8)):Int→List Sp→Bool
 |_,[]=>true
 |a,s::r=>decide (s.1=a)&&(gb docs s.1 s.2&&dO docs s.2 r)
def dc:Int→List Sp→Int
 |a,[]=>a
 |_,s::r=>dc s.2 r
theorem mG(docs:List (List UInt8)):∀(a:Int) (l m:List Sp),dO docs a (l++m)=(dO docs a l&&dO docs (dc a l) m)
 |a,[],m=>by simp [dO,dc]
 |a,s::r,m=>by simp only [List.cons_append,dO,dc];rw [mG docs s.2 r m,Bool.and_assoc,Bool.and_assoc]
theorem jA:∀(a:Int) (l m:List Sp),dc a (l++m)=dc (dc a l) m
 |_,[],_=>rfl
 |_,s::r,m=>by simp only [List.cons_append,dc];exact jA s.2 r m
theorem mH {docs:List (List UInt8)} {a b:Int}(h:gb docs a b=true):a<b∧0≤a∧b≤docs.length∧docs.length≤1000∧∀d∈docs,d.length≤2000:=by
 simp only [gb,dD,Bool.and_eq_true,List.all_eq_true,decide_eq_true_eq] at h
 obtain⟨⟨h1,h2,h3,h4,h5⟩,h6⟩:=h
 exact⟨h6,h3,h5,by omega,fun d hd=>by have :=h1 d hd;omega⟩
theorem rE {docs:List (List UInt8)} {a b:Int}(h:dD docs 0 0=true)(h1:0≤a)(h2:a<b)(h3:b≤docs.length):gb docs a b=true :=by
 simp only [gb,dD,Bool.and_eq_true,List.all_eq_true,decide_eq_true_eq] at h ⊢
 exact⟨⟨h.1,h.2.1,h1,by omega,h3⟩,h2⟩
theorem WR {docs:List (List UInt8)} {a b:Int}(h:gb docs a b=true):dD docs 0 0=true :=by
 simp only [gb,dD,Bool.and_eq_true,List.all_eq_true,decide_eq_true_eq] at h ⊢
 exact⟨h.1.1,h.1.2.1,Int.le_refl _,Int.le_refl _,by omega⟩
theorem zd {docs:List (List UInt8)}:∀ {l:List Sp} {a:Int},dO docs a l=true→a≤dc a l∧(l≠ []→gb docs a (dc a l)=true)∧(dc a l≤docs.length∨l= [])
 | [],a,_=>⟨Int.le_refl _,fun h=>absurd rfl h, .inr rfl⟩
 |s::r,a,h=>by
  simp only [dO,Bool.and_eq_true,decide_eq_true_eq] at h
  obtain⟨h1,h2,h3⟩:=h
  have ih:=zd h3
  have h4:=mH h2
  have h5:dc s.2 r≤docs.length:=by
   rcases ih.2.2 with h|h
   · exact h
   · rw [h];exact h4.2.2.1
  simp only [dc]
  exact⟨by omega,fun _=>rE (WR h2) (by omega) (by omega) h5, .inl h5⟩
theorem oI {docs:List (List UInt8)}:∀ {l:List Sp} {a:Int},dO docs a l=true→∀s∈l,gb docs s.1 s.2=true
 | [],_,_,s,hs=>by cases hs
 |t::r,a,h,s,hs=>by
  simp only [dO,Bool.and_eq_true,decide_eq_true_eq] at h
  rcases List.mem_cons.1 hs with rfl|hs
  · exact h.2.1
  · exact oI h.2.2 s hs
theorem Ez:∀(l:List aA),dc 0 (cr l)=cg l:=by
 intro l
 unfold cg eR
 by_cases h:l.length=0
 · rw [if_pos h]
   have :l= []:=List.eq_nil_of_length_eq_zero h
   subst this;rfl
 · rw [if_neg h]
   obtain⟨m,s,rfl⟩:∃m s,l=m++ [s]:=⟨l.dropLast,l.getLast (by intro e;subst e;exact h rfl),(List.dropLast_concat_getLast _).symm⟩
   have e:ar (m++ [s]) ((m++ [s]).length-1)=s:=by
    simp only [ar,List.length_append,List.length_singleton,Nat.add_sub_cancel,List.getD_eq_getElem?_getD]
    rw [List.getElem?_append_right (Nat.le_refl _),Nat.sub_self];rfl
   rw [e]
   simp only [cr,List.map_append,List.map_cons,List.map_nil]
   rw [jA];rfl
theorem iU(docs:List (List UInt8))(l:List Sp):cr (aB docs l)=l:=by
 simp only [cr,aB,List.map_map]
 have :((fun(s:aA)=>(s.1,s.2.1))∘fun(s:Sp)=>((s.1,s.2,make docs s.1 s.2):aA))=id:=by funext s;rfl
 rw [this,List.map_id]
theorem qo(docs:List (List UInt8))(l m:List Sp):aB docs (l++m)=aB docs l++aB docs m:=by simp [aB]
theorem EA(l m:List aA):cr (l++m)=cr l++cr m:=by simp [cr]
theorem sF(l:List aA):(cr l).length=l.length:=by simp [cr]
theorem dI(docs:List (List UInt8))(l:List Sp):(aB docs l).length=l.length:=by simp [aB]
theorem xF {l m:List aA} {i:Nat}(h:i<l.length):ar (l++m) i=ar l i:=by
 simp only [ar,List.getD_eq_getElem?_getD];rw [List.getElem?_append_left h]
theorem OE(l:List aA)(s:aA):ar (l++ [s]) l.length=s:=by
 simp only [ar,List.getD_eq_getElem?_getD];rw [List.getElem?_append_right (Nat.le_refl _),Nat.sub_self];rfl
theorem LX {docs:List (List UInt8)}:∀(n:Nat) (l:List aA),l.length=n→((∀i,i<l.length→jz docs l i=true)↔dO docs 0 (cr l)=true∧l=aB docs (cr l))
 |0,l,h=>by
  have :l= []:=List.eq_nil_of_length_eq_zero h
  subst this
  exact⟨fun _=>⟨rfl,rfl⟩,fun _ i hi=>by simp at hi⟩
 |n+1,l,h=>by
  obtain⟨m,s,rfl⟩:∃m s,l=m++ [s]:=⟨l.dropLast,l.getLast (by intro e;subst e;simp at h),(List.dropLast_concat_getLast _).symm⟩
  have hm:m.length=n:=by simpa using h
  have ih:=LX (docs:=docs) n m hm
  have e1:∀i,i<m.length→jz docs (m++ [s]) i=jz docs m i:=fun i hi=>by
   have h2:eR (m++ [s]) i=eR m i:=by
    unfold eR
    by_cases h0:i=0
    · rw [if_pos h0,if_pos h0]
    · rw [if_neg h0,if_neg h0,xF (by omega)]
   unfold jz
   rw [xF hi,h2]
  have e2:eR (m++ [s]) m.length=cg m:=by
   unfold cg eR
   by_cases h0:m.length=0
   · rw [if_pos h0,if_pos h0]
   · rw [if_neg h0,if_neg h0,xF (by omega)]
  have e3:jz docs (m++ [s]) m.length=true↔s.1=cg m∧gb docs s.1 s.2.1=true∧s.2.2=make docs s.1 s.2.1:=by
   unfold jz
   rw [e2,OE]
   simp only [Bool.and_eq_true,decide_eq_true_eq]
  have e4:dO docs 0 (cr (m++ [s]))=true↔dO docs 0 (cr m)=true∧s.1=cg m∧gb docs s.1 s.2.1=true :=by
   rw [EA,mG,Ez,Bool.and_eq_true]
   simp only [cr,List.map_cons,List.map_nil,dO,Bool.and_true,Bool.and_eq_true,decide_eq_true_eq]
  have e5:m++ [s]=aB docs (cr (m++ [s]))↔m=aB docs (cr m)∧s.2.2=make docs s.1 s.2.1:=by
   rw [EA,qo]
   constructor
   · intro h
     have h5:=List.append_inj h (by rw [dI,sF])
     refine⟨h5.1,?_⟩
     have h6:=h5.2
     simp only [aB,cr,List.map_cons,List.map_nil,List.cons.injEq,and_true] at h6
     exact congrArg (fun(q:aA)=>q.2.2) h6
   · rintro⟨h5,h6⟩
     rw [←h5]
     congr 1
     simp only [aB,cr,List.map_cons,List.map_nil,List.cons.injEq,and_true]
     rw [←h6]
  rw [e4,e5]
  constructor
  · intro ja
    have h7:=ih.1 fun i hi=>by rw [←e1 i hi];exact ja i (by rw [List.length_append];omega)
    have h8:=e3.1 (ja m.length (by simp))
    exact⟨⟨h7.1,h8.1,h8.2.1⟩,h7.2,h8.2.2⟩
  · rintro⟨⟨h7,h8,h9⟩,dW,fh⟩ i hi
    by_cases BU:i<m.length
    · rw [e1 i BU];exact ih.2 ⟨h7,dW⟩ i BU
    · have :i=m.length:=by simp at hi;omega
      subst this
      exact e3.2 ⟨h8,h9,fh⟩
theorem Cx {docs:List (List UInt8)} {l:List aA}:aW docs l=true↔dD docs 0 0=true∧l.length≤64∧dO docs 0 (cr l)=true∧l=aB docs (cr l):=by
 unfold aW
 rw [Bool.and_eq_true,Bool.and_eq_true,decide_eq_true_eq,List.all_eq_true,←LX (docs:=docs) l.length l rfl]
 simp only [List.mem_range]
 constructor
 · rintro⟨h1,h2,h3⟩;exact⟨h1,by omega,h3⟩
 · rintro⟨h1,h2,h3⟩;exact⟨h1,by omega,h3⟩
theorem P1:aW [] []=true :=by decide
theorem iE(docs:List (List UInt8))(l:List aA):aW (ao docs l).1 (ao docs l).2=true :=by
 unfold ao
 by_cases h:aW docs l=true
 · rw [if_pos h];exact h
 · rw [if_neg h];exact P1
theorem gd {docs:List (List UInt8)} {l:List aA}(h:aW docs l=true):ao docs l=(docs,l):=by unfold ao;rw [if_pos h]
theorem ahd {docs:List (List UInt8)} {l:List Sp}(h1:dD docs 0 0=true)(h2:l.length≤64)(h3:dO docs 0 l=true):aW docs (aB docs l)=true :=
 Cx.2 ⟨h1,by rw [dI];exact h2,by rw [iU];exact h3,by rw [iU]⟩
end Go.S

end
section
namespace Go.S
theorem Ap:∀(l acc:List Int),2*(lf acc l).length≤l.length+1+(if acc.isEmpty then 0 else 1)
 | [],acc=>by cases acc<;>simp [lf]
 |c::l,acc=>by
  simp only [lf,List.length_cons]
  by_cases hc:iN c=true
  · rw [if_pos hc]
    have :=Ap l (acc++ [c])
    have e:(acc++ [c]).isEmpty=false :=by cases acc<;>rfl
    rw [e] at this
    simp only [Bool.false_eq_true,if_false] at this
    cases acc.isEmpty<;>simp<;>omega
  · rw [if_neg hc]
    have :=Ap l []
    simp only [List.isEmpty_nil,if_true] at this
    cases acc.isEmpty with
    |true=>simp only [if_true];omega
    |false=>simp only [Bool.false_eq_true,if_false,List.length_cons];omega
theorem LY(b:List UInt8):2*(bH b).length≤b.length+1:=by
 have h:=Ap (decode b) []
 simp only [List.isEmpty_nil,if_true] at h
 have h2:=uw b
 simp only [bH,List.length_map];omega
theorem Hp {docs:List (List UInt8)}(h:∀d∈docs,d.length≤2000)(a:Int):∀k,(nS docs a k).length≤1000*k
 |0=>by simp [nS]
 |k+1=>by
  rw [←Bq,List.length_append]
  have :=Hp h a k
  have h2:=sB (bH (docs.getD (Int.toNat (a+(k:Int))) []))
  have h3:=LY (docs.getD (Int.toNat (a+(k:Int))) [])
  have h4:(docs.getD (Int.toNat (a+(k:Int))) []).length≤2000:=by
   by_cases e:Int.toNat (a+(k:Int))<docs.length
   · exact h _ (bo docs _ _ e)
   · rw [List.getD_eq_getElem?_getD,List.getElem?_eq_none (by omega)];exact Nat.zero_le _
  omega
theorem LZ {docs:List (List UInt8)} {a b:Int}(h:gb docs a b=true):jv (make docs a b):=by
 have hg:=mH h
 refine Ov (pD h) ?_
 have h1:=Hp hg.2.2.2.2 a (b-a).toNat
 have h2:=sB (nS docs a (b-a).toNat)
 unfold cE;omega
theorem OF {docs:List (List UInt8)} {t:List UInt8} {a b c:Int}(h:a≤b)(h2:b≤c):cA docs a t (b-a).toNat++cA docs b t (c-b).toNat=cA docs a t (c-a).toNat:=by
 have e:List.range (c-a).toNat=List.range (b-a).toNat++(List.range (c-b).toNat).map ((b-a).toNat+ ·):=by
  rw [←List.range_add];congr 1;omega
 simp only [cA]
 rw [e,List.filter_append,List.map_append,List.filter_map,List.map_map]
 congr 1
 have hq:((fun(i:Nat)=>uE (docs.getD (a+(i:Int)).toNat []) t)∘fun x=>(b-a).toNat+x)=fun(i:Nat)=>uE (docs.getD (b+(i:Int)).toNat []) t:=by
  funext i
  simp only [Function.comp]
  rw [show(a+(((b-a).toNat+i:Nat):Int))=b+(i:Int) by omega]
 rw [hq]
 refine List.map_congr_left fun i _=> ?_
 simp only [Function.comp];omega
theorem L0(docs:List (List UInt8))(a b:Int):dT (make docs a b)=cE docs a b:=by
 simp only [dT,make,List.map_map]
 have :((fun(e:fp)=>e.1)∘fun t=>((t,cA docs a t (b-a).toNat):fp))=id:=by funext t;rfl
 rw [this,List.map_id]
theorem ze {docs:List (List UInt8)} {a b:Int}(hp:kG docs a b)(t:List UInt8):nb t (make docs a b)=cA docs a t (b-a).toNat:=by
 by_cases hm:t∈cE docs a b
 · obtain⟨i,hi,e⟩:=List.mem_iff_getElem.1 hm
   have e2:(cE docs a b).getD i []=t:=by rw [List.getD_eq_getElem?_getD,List.getElem?_eq_getElem hi];exact e
   have e3:ca (make docs a b) i=t:=by rw [JK hi,e2]
   rw [←e3,oH (iD (uG hp)) (by rw [vP];exact hi),JL hi,e2,e3]
 · rw [pE (by rw [L0];exact hm)]
   by_cases he:cA docs a t (b-a).toNat= []
   · exact he.symm
   · exact absurd (nH.2 he) hm
theorem uM {docs:List (List UInt8)} {t:List UInt8}:∀ {m:List Sp} {a:Int},dO docs a m=true→nT (aB docs m) t=cA docs a t (dc a m-a).toNat
 | [],a,_=>by simp [nT,aB,dc,cA]
 |s::r,a,h=>by
  simp only [dO,Bool.and_eq_true,decide_eq_true_eq] at h
  obtain⟨h1,h2,h3⟩:=h
  have ih:=uM (t:=t) h3
  have h4:=mH h2
  have h5:=zd h3
  simp only [nT,aB,List.map_cons,List.flatMap_cons,dc] at ih ⊢
  rw [ih,ze (pD h2),←h1]
  exact OF (by omega) h5.1
theorem aaf {l:List aA} {t:List UInt8}:t∈uT l↔∃s∈l,t∈dT s.2.2:=by
 rw [uT,fN,Bu,List.mem_flatMap]
theorem OG {docs:List (List UInt8)} {m:List Sp} {a:Int}(h:dO docs a m=true)(hm:m≠ []):nc (aB docs m)=make docs a (dc a m):=by
 have hK:uT (aB docs m)=cE docs a (dc a m):=by
  refine sy _ _ (uH _) (jX _) fun t=> ?_
  rw [nH,←uM h,aaf]
  constructor
  · rintro⟨s,hs,ht⟩ he
    simp only [nT,List.flatMap_eq_nil_iff] at he
    have h1:=he s hs
    simp only [aB,List.mem_map] at hs
    obtain⟨p,hp,rfl⟩:=hs
    simp only at h1 ht
    rw [L0] at ht
    rw [ze (pD (oI h p hp))] at h1
    exact nH.1 ht h1
  · intro dJ
    obtain⟨x,hx⟩:=List.exists_mem_of_ne_nil _ dJ
    simp only [nT,List.mem_flatMap] at hx
    obtain⟨s,hs,WS⟩:=hx
    refine⟨s,hs,?_⟩
    by_cases ht:t∈dT s.2.2
    · exact ht
    · rw [pE ht] at WS;cases WS
 unfold nc make
 rw [hK]
 refine List.map_congr_left fun t _=> ?_
 rw [uM h]
theorem xG {docs:List (List UInt8)} {m:List Sp} {a:Int}(h:dO docs a m=true)(hm:m≠ []):(gp m 0).1=a:=by
 cases m with
 |nil=>exact absurd rfl hm
 |cons s r=>
  simp only [dO,Bool.and_eq_true,decide_eq_true_eq] at h
  exact h.1
theorem EB:∀(m:List Sp) (a:Int),m≠ []→dc a m=(gp m (m.length-1)).2
 | [],_,h=>absurd rfl h
 | [s],a,_=>rfl
 |s::t::r,a,_=>by
  have :=EB (t::r) s.2 (by simp)
  simp only [dc,List.length_cons,gp] at this ⊢
  rw [this];rfl
theorem qp(docs:List (List UInt8))(m:List Sp)(i:Nat)(h:i<m.length):ar (aB docs m) i=((gp m i).1,(gp m i).2,make docs (gp m i).1 (gp m i).2):=by
 simp only [ar,aB,gp,List.getD_eq_getElem?_getD,List.getElem?_map,List.getElem?_eq_getElem h,Option.map_some,Option.getD_some]
theorem EC {docs:List (List UInt8)}:∀ {m:List Sp} {a:Int},dO docs a m=true→∀i,i+1<m.length→(gp m (i+1)).1=(gp m i).2
 | [],_,_,i,hi=>by simp at hi
 |s::r,a,h,0,hi=>by
  simp only [dO,Bool.and_eq_true,decide_eq_true_eq] at h
  have :r≠ []:=by intro e;subst e;simp at hi
  exact xG h.2.2 this
 |s::r,a,h,i+1,hi=>by
  simp only [dO,Bool.and_eq_true,decide_eq_true_eq] at h
  exact EC h.2.2 i (by simpa using hi)
theorem WT {docs:List (List UInt8)} {m:List Sp} {a:Int}(h:dO docs a m=true)(hl:m.length≤1000):rC (aB docs m):=by
 refine⟨by rw [dI];exact hl,fun s hs=> ?_⟩
 simp only [aB,List.mem_map] at hs
 obtain⟨p,hp,rfl⟩:=hs
 exact LZ (oI h p hp)
theorem Bw {docs:List (List UInt8)} {m:List Sp} {a:Int}(h:dO docs a m=true):∀s∈aB docs m,jx s=true :=by
 intro s hs
 simp only [aB,List.mem_map] at hs
 obtain⟨p,hp,rfl⟩:=hs
 have h1:=oI h p hp
 exact WK (pD h1) (mH h1).1
theorem WU {docs:List (List UInt8)} {m:List Sp} {a:Int}(h:dO docs a m=true)(hm:m≠ []):dm (aB docs m)=((a,dc a m,make docs a (dc a m)),0):=by
 have hl:0<m.length:=List.length_pos_iff.2 hm
 unfold dm
 rw [dI,if_neg (by omega)]
 have h1:(aB docs m).all jx=true :=List.all_eq_true.2 (Bw h)
 rw [h1,if_neg (by decide)]
 have h2:zc (aB docs m)=true :=by
  unfold zc
  rw [List.all_eq_true]
  intro i hi
  rw [List.mem_range,dI] at hi
  simp only [Es,decide_eq_true_eq]
  rw [qp _ _ _ (by omega),qp _ _ _ (by omega)]
  exact EC h i (by omega)
 rw [h2,if_neg (by decide),qp _ _ _ hl,qp _ _ _ (by omega),xG h hm,←EB m a hm,OG h hm]
theorem zf {docs:List (List UInt8)} {S:List Sp} {i m:Nat}(h:dO docs 0 S=true)(hm:0<m)(hi:i+m≤S.length):
  dO docs (gp S i).1 ((S.drop i).take m)=true∧dc (gp S i).1 ((S.drop i).take m)=(gp S (i+m-1)).2∧(S.drop i).take m≠ []∧
  dO docs 0 (S.take i++ [((gp S i).1,(gp S (i+m-1)).2)]++S.drop (i+m))=true∧dc 0 (S.take i++ [((gp S i).1,(gp S (i+m-1)).2)]++S.drop (i+m))=dc 0 S:=by
 have e:S=S.take i++((S.drop i).take m++S.drop (i+m)):=by
  rw [←List.drop_drop,List.take_append_drop,List.take_append_drop]
 have hl:((S.drop i).take m).length=m:=by rw [List.length_take,List.length_drop];omega
 have dJ:(S.drop i).take m≠ []:=by intro e;rw [e] at hl;simp at hl;omega
 have h1:=h
 rw [e,mG,mG,Bool.and_eq_true,Bool.and_eq_true] at h1
 obtain⟨h2,h3,h4⟩:=h1
 have ef:(gp ((S.drop i).take m) 0)=gp S i:=by
  simp only [gp,List.getD_eq_getElem?_getD]
  rw [List.getElem?_take_of_lt hm,List.getElem?_drop];rfl
 have el:(gp ((S.drop i).take m) (m-1))=gp S (i+m-1):=by
  simp only [gp,List.getD_eq_getElem?_getD]
  rw [List.getElem?_take_of_lt (by omega),List.getElem?_drop,show i+(m-1)=i+m-1 by omega]
 have h5:=xG h3 dJ
 rw [ef] at h5
 have h6:=EB _ (dc 0 (S.take i)) dJ
 rw [hl,el] at h6
 rw [←h5] at h3 h4 h6
 have h7:=(zd h3).2.1 dJ
 rw [h6] at h7 h4
 refine⟨h3,h6,dJ,?_,?_⟩
 · rw [mG,mG,h2]
   simp only [dO,jA,dc,h4,←h5,h7,Bool.and_true,decide_true]
 · conv=>rhs;rw [e,jA,jA]
   rw [jA,jA]
   simp only [dc]
   rw [←h5,h6]
theorem sG(docs:List (List UInt8))(l:List Sp)(i:Nat):(aB docs l).take i=aB docs (l.take i):=by simp [aB,List.map_take]
theorem sH(docs:List (List UInt8))(l:List Sp)(i:Nat):(aB docs l).drop i=aB docs (l.drop i):=by simp [aB,List.map_drop]
theorem ED(docs:List (List UInt8)) {S:List Sp} {i m:Nat}(hm:0<m)(hi:i+m≤S.length):
  pF (aB docs S) i m (rD docs (aB docs S) i m)=aB docs (S.take i++ [((gp S i).1,(gp S (i+m-1)).2)]++S.drop (i+m)):=by
 unfold pF rD
 rw [sG,sH,qp _ _ _ (by omega),qp _ _ _ (by omega),qo,qo];rfl
theorem WV {docs:List (List UInt8)} {S:List Sp} {i m:Nat}(h:dO docs 0 S=true)(hm:0<m)(hi:i+m≤S.length):
  dm (((aB docs S).drop i).take m)=(rD docs (aB docs S) i m,0):=by
 have hc:=zf h hm hi
 rw [sH,sG,WU hc.1 hc.2.2.1,hc.2.1]
 unfold rD
 rw [qp _ _ _ (by omega),qp _ _ _ (by omega)]
theorem WW {docs:List (List UInt8)} {S:List Sp} {i m:Nat}(h:dO docs 0 S=true)(hm:0<m)(hi:i+m≤S.length)(hl:S.length≤1000):
  rC (((aB docs S).drop i).take m):=by
 have hc:=zf h hm hi
 rw [sH,sG]
 exact WT hc.1 (by rw [List.length_take,List.length_drop];omega)
theorem UH {docs:List (List UInt8)} {S:List Sp}(h:dO docs 0 S=true) {i:Nat}(hi:i+1<S.length):dO docs 0 (je S i)=true∧dc 0 (je S i)=dc 0 S:=by
 have hc:=zf (m:=2) h (by omega) (by omega :i+2≤S.length)
 exact⟨hc.2.2.2.1,hc.2.2.2.2⟩
theorem Bx {docs:List (List UInt8)}:∀(n:Nat) {S:List Sp},dO docs 0 S=true→dO docs 0 (kH n S)=true∧dc 0 (kH n S)=dc 0 S∧(kH n S).length≤S.length
 |0,S,h=>⟨h,rfl,Nat.le_refl _⟩
 |n+1,S,h=>by
  simp only [kH]
  by_cases hb:(dE S).2=true
  · rw [if_pos hb]
    have h1:=Ey hb
    have h2:=UH h (i:=(dE S).1.toNat) (by omega)
    have h3:=Bx n h2.1
    have h4:=Ao (l:=S) (i:=(dE S).1.toNat) (by omega)
    exact⟨h3.1,by rw [h3.2.1,h2.2],by omega⟩
  · rw [if_neg hb];exact⟨h,rfl,Nat.le_refl _⟩
end Go.S

end
section
namespace Go.S
abbrev eI:=List (List UInt8)×List aA
abbrev db:=Int×Int×Int×List UInt8
def j9(docs:List (List UInt8))(l:List aA)(a b c:Int)(d:List UInt8):eI×Int:=
 if a=0 then bq docs l d else if a=1 then aY docs l else if a=2 then cn docs l b c else(c5 docs l,0)
def nJ(l:List db)(i:Nat):db:=l.getD i (0,0,0,[])
def jY(x:eI)(l:List db):Nat→eI
 |0=>x
 |k+1=>if(2500:Int)<(nJ l k).2.2.2.length then jY x l k else(j9 (jY x l k).1 (jY x l k).2 (nJ l k).1 (nJ l k).2.1 (nJ l k).2.2.1 (nJ l k).2.2.2).1
def cV(l:List db):eI:=jY ([],[]) l (min l.length 40)
def qq(l:List db):Nat→Nat
 |0=>0
 |k+1=>if(nJ l k).1=1 then qq l k+1 else qq l k
structure RI (docs:List (List UInt8)) (l:List aA) (S:List Sp):Prop where
 fair:dD docs 0 0=true
 le:S.length≤64
 row:dO docs 0 S=true
 eq:l=aB docs S
theorem RI.right {docs:List (List UInt8)} {l:List aA} {S:List Sp}(h:RI docs l S):aW docs l=true :=by
 rw [h.eq];exact ahd h.fair h.le h.row
theorem RI.of {docs:List (List UInt8)} {l:List aA}(h:aW docs l=true):RI docs l (cr l):=by
 have :=Cx.1 h
 exact⟨this.1,by rw [sF];exact this.2.1,this.2.2.1,this.2.2.2⟩
theorem kJ(docs:List (List UInt8))(l:List aA):RI (ao docs l).1 (ao docs l).2 (cr (ao docs l).2):=RI.of (iE docs l)
theorem RI.OH {docs:List (List UInt8)} {l:List aA} {S:List Sp}(h:RI docs l S):cg l=dc 0 S:=by
 rw [←Ez,h.eq,iU]
theorem RI.bd {docs:List (List UInt8)} {l:List aA} {S:List Sp}(h:RI docs l S):0≤cg l∧cg l≤docs.length∧docs.length≤1000∧l.length=S.length:=by
 have h1:=zd h.row
 rw [h.OH]
 have h2:docs.length≤1000:=by
  have :=h.fair
  simp only [dD,Bool.and_eq_true,decide_eq_true_eq] at this
  omega
 refine⟨h1.1,?_,h2,by rw [h.eq,dI]⟩
 rcases h1.2.2 with h|h
 · exact h
 · rw [h];simp [dc]
theorem OI {docs:List (List UInt8)} {a b:Int}(d:List UInt8)(h0:0≤a)(hb:b≤docs.length):make (docs++ [d]) a b=make docs a b:=by
 have e:∀i:Nat,i<(b-a).toNat→(docs++ [d]).getD (a+(i:Int)).toNat []=docs.getD (a+(i:Int)).toNat []:=fun i hi=>by
  simp only [List.getD_eq_getElem?_getD]
  rw [List.getElem?_append_left (by omega)]
 have e1:∀t,cA (docs++ [d]) a t (b-a).toNat=cA docs a t (b-a).toNat:=fun t=>by
  simp only [cA]
  congr 1
  refine List.filter_congr fun i hi=> ?_
  rw [e i (List.mem_range.1 hi)]
 have e2:nS (docs++ [d]) a (b-a).toNat=nS docs a (b-a).toNat:=by
  unfold nS
  refine qi fun i hi=> ?_
  rw [e i (List.mem_range.1 hi)]
 unfold make cE
 rw [e2]
 exact List.map_congr_left fun t _=>by rw [e1]
theorem L1 {docs:List (List UInt8)} {d:List UInt8}(h:dD docs 0 0=true)(hd:(d.length:Int)≤2000)(hl:(docs.length:Int)<1000):dD (docs++ [d]) 0 0=true :=by
 simp only [dD,Bool.and_eq_true,List.all_eq_true,decide_eq_true_eq,List.length_append,List.length_singleton] at h ⊢
 refine⟨fun b hb=> ?_,by omega,Int.le_refl _,Int.le_refl _,by omega⟩
 rcases List.mem_append.1 hb with hb|hb
 · exact h.1 b hb
 · rw [List.mem_singleton.1 hb];exact hd
theorem OJ {docs:List (List UInt8)} {d:List UInt8}(hf:dD (docs++ [d]) 0 0=true) {S:List Sp} {a:Int}(h:dO docs a S=true):dO (docs++ [d]) a S=true∧aB (docs++ [d]) S=aB docs S:=by
 induction S generalizing a with
 |nil=>exact⟨rfl,rfl⟩
 |cons s r ih=>
  simp only [dO,Bool.and_eq_true,decide_eq_true_eq] at h
  have ih:=ih h.2.2
  have h4:=mH h.2.1
  have h5:gb (docs++ [d]) s.1 s.2=true :=rE hf h4.2.1 h4.1 (by rw [List.length_append];simp only [List.length_singleton];omega)
  refine⟨by rw [dO,h5,ih.1,decide_eq_true h.1];rfl,?_⟩
  have h6:=ih.2
  simp only [aB] at h6
  simp only [aB,List.map_cons,h6,OI d h4.2.1 h4.2.2.1]
theorem RI.snoc {docs:List (List UInt8)} {l:List aA} {S:List Sp}(h:RI docs l S) {d:List UInt8}(hd:¬(2000:Int)<d.length)(hl:¬(1000:Int)≤docs.length):RI (docs++ [d]) l S:=by
 have hf:=L1 h.fair (d:=d) (by omega) (by omega)
 have hr:=OJ (d:=d) hf h.row
 exact⟨hf,h.le,hr.1,by rw [hr.2];exact h.eq⟩
theorem RI.flush {docs:List (List UInt8)} {l:List aA} {S:List Sp}(h:RI docs l S)(h1:¬cg l=docs.length)(h2:¬(64:Int)≤l.length):
  RI docs (l++ [(cg l,(docs.length:Int),make docs (cg l) docs.length)]) (S++ [(cg l,(docs.length:Int))])∧gb docs (cg l) docs.length=true :=by
 have hb:=h.bd
 have hf:=rE h.fair (a:=cg l) (b:=docs.length) hb.1 (by omega) (by omega)
 refine⟨⟨h.fair,by rw [List.length_append,List.length_singleton];omega,?_,?_⟩,hf⟩
 · rw [mG,h.row,←h.OH]
   simp only [dO,hf,decide_true,Bool.and_true]
 · rw [qo,←h.eq];rfl
theorem EE {l:List aA} {i m:Int}(h:wU l i m=false):2≤m∧0≤i∧i+m≤l.length∧i.toNat+m.toNat≤l.length∧0<m.toNat:=by
 simp only [wU,Bool.or_eq_false_iff,decide_eq_false_iff_not] at h
 omega
theorem RI.cut {docs:List (List UInt8)} {l:List aA} {S:List Sp}(h:RI docs l S) {i m:Nat}(hm:0<m)(hi:i+m≤l.length):
  RI docs (pF l i m (rD docs l i m)) (S.take i++ [((gp S i).1,(gp S (i+m-1)).2)]++S.drop (i+m))∧dm ((l.drop i).take m)=(rD docs l i m,0)∧rC ((l.drop i).take m)∧(pF l i m (rD docs l i m)).length+m=l.length+1∧cg (pF l i m (rD docs l i m))=cg l:=by
 have hb:=h.bd
 have hc:=zf h.row hm (by omega :i+m≤S.length)
 have hl:(S.take i++ [((gp S i).1,(gp S (i+m-1)).2)]++S.drop (i+m)).length+m=S.length+1:=by
  simp only [List.length_append,List.length_take,List.length_drop,List.length_singleton];omega
 have hle:=h.le
 have e:=ED docs hm (by omega :i+m≤S.length)
 have R:RI docs (pF l i m (rD docs l i m)) (S.take i++ [((gp S i).1,(gp S (i+m-1)).2)]++S.drop (i+m)):=by
  rw [h.eq,e];exact⟨h.fair,by omega,hc.2.2.2.1,rfl⟩
 refine⟨R,?_,?_,?_,?_⟩
 · rw [h.eq];exact WV h.row hm (by omega)
 · rw [h.eq];exact WW h.row hm (by omega) (by omega)
 · have :=R.bd.2.2.2;omega
 · rw [R.OH,h.OH,hc.2.2.2.2]
theorem RI.ani {docs:List (List UInt8)} {S:List Sp}(h:RI docs (aB docs S) S) {i:Nat}(hi:i+2≤S.length):
  RI docs (aB docs (je S i)) (je S i)∧pF (aB docs S) i 2 (rD docs (aB docs S) i 2)=aB docs (je S i)∧dm (((aB docs S).drop i).take 2)=(rD docs (aB docs S) i 2,0)∧rC (((aB docs S).drop i).take 2):=by
 have hc:=h.cut (i:=i) (m:=2) (by omega) (by rw [dI];omega)
 have e:=ED docs (S:=S) (i:=i) (m:=2) (by omega) (by omega)
 have e2:je S i=S.take i++ [((gp S i).1,(gp S (i+2-1)).2)]++S.drop (i+2):=rfl
 refine⟨?_,by rw [e,e2],hc.2.1,hc.2.2.1⟩
 have :=hc.1
 rw [e,←e2] at this
 exact this
theorem RI.settle {docs:List (List UInt8)} {l:List aA} {S:List Sp}(h:RI docs l S):RI docs (aB docs (iv S)) (iv S)∧dc 0 (iv S)=dc 0 S∧(iv S).length≤S.length:=by
 have hs:=Bx S.length h.row
 have hle:=h.le
 exact⟨⟨h.fair,by unfold iv;omega,hs.1,rfl⟩,hs.2.1,hs.2.2⟩
theorem append_right(docs:List (List UInt8))(l:List aA)(d:List UInt8):aW (bq docs l d).1.1 (bq docs l d).1.2=true :=by
 unfold bq
 by_cases h1:(2000:Int)<d.length
 · rw [if_pos h1];exact iE docs l
 · rw [if_neg h1]
   by_cases h2:(1000:Int)≤(ao docs l).1.length
   · rw [if_pos h2];exact iE docs l
   · rw [if_neg h2];exact((kJ docs l).snoc h1 h2).right
theorem ov(docs:List (List UInt8))(l:List aA):aW (aY docs l).1.1 (aY docs l).1.2=true :=by
 unfold aY
 by_cases h1:lK docs l=(ao docs l).1.length
 · rw [if_pos h1];exact iE docs l
 · rw [if_neg h1]
   by_cases h2:(64:Int)≤(ao docs l).2.length
   · rw [if_pos h2];exact iE docs l
   · rw [if_neg h2];exact((kJ docs l).flush h1 h2).1.right
theorem merge_right(docs:List (List UInt8))(l:List aA)(i m:Int):aW (cn docs l i m).1.1 (cn docs l i m).1.2=true :=by
 unfold cn
 by_cases h1:wU (ao docs l).2 i m=true
 · rw [if_pos h1];exact iE docs l
 · rw [if_neg h1]
   have hb:=EE (by simpa using h1)
   exact((kJ docs l).cut hb.2.2.2.2 hb.2.2.2.1).1.right
theorem qP(docs:List (List UInt8))(l:List aA):aW (c5 docs l).1 (c5 docs l).2=true :=(kJ docs l).settle.1.right
theorem OK(docs:List (List UInt8))(l:List aA)(a b c:Int)(d:List UInt8):aW (j9 docs l a b c d).1.1 (j9 docs l a b c d).1.2=true :=by
 unfold j9
 split
 · exact append_right docs l d
 · split
   · exact ov docs l
   · split
     · exact merge_right docs l b c
     · exact qP docs l
theorem By {x:eI}(h:aW x.1 x.2=true)(l:List db):∀k,aW (jY x l k).1 (jY x l k).2=true
 |0=>h
 |k+1=>by
  simp only [jY]
  split
  · exact By h l k
  · exact OK _ _ _ _ _ _
theorem JP(l:List db)(k:Nat):aW (jY ([],[]) l k).1 (jY ([],[]) l k).2=true :=By P1 l k
theorem L2 {docs:List (List UInt8)} {l:List aA}(h:aW docs l=true)(a b c:Int)(d:List UInt8):(j9 docs l a b c d).1.2.length≤l.length+(if a=1 then 1 else 0):=by
 have hg:=gd h
 unfold j9
 by_cases h0:a=0
 · rw [if_pos h0]
   unfold bq;rw [hg]
   split
   · simp only;omega
   · split<;>simp only<;>omega
 · rw [if_neg h0]
   by_cases h1:a=1
   · rw [if_pos h1,if_pos h1]
     unfold aY;rw [hg]
     split
     · simp only;omega
     · split
       · simp only;omega
       · simp only [List.length_append,List.length_singleton];omega
   · rw [if_neg h1,if_neg h1]
     by_cases h2:a=2
     · rw [if_pos h2]
       unfold cn;rw [hg]
       by_cases hb:wU l b c=true
       · rw [if_pos hb];simp
       · rw [if_neg hb]
         have hb:=EE (by simpa using hb)
         have :=((RI.of h).cut hb.2.2.2.2 hb.2.2.2.1).2.2.2.1
         simp only;omega
     · rw [if_neg h2]
       simp only [c5,hg,dI]
       have :=(RI.of h).settle.2.2
       rw [sF] at this;omega
theorem Hq(l:List db):∀k,(jY ([],[]) l k).2.length≤qq l k
 |0=>Nat.le_refl _
 |k+1=>by
  have ih:=Hq l k
  have h:=L2 (JP l k) (nJ l k).1 (nJ l k).2.1 (nJ l k).2.2.1 (nJ l k).2.2.2
  have e:qq l (k+1)=qq l k+(if(nJ l k).1=1 then 1 else 0):=by
   rw [qq];by_cases h1:(nJ l k).1=1
   · rw [if_pos h1,if_pos h1]
   · rw [if_neg h1,if_neg h1];rfl
  rw [e,jY]
  by_cases h2:(2500:Int)<(nJ l k).2.2.2.length
  · rw [if_pos h2];omega
  · rw [if_neg h2];exact Nat.le_trans h (Nat.add_le_add_right ih _)
theorem EF(l:List db):∀k,qq l k≤k
 |0=>Nat.le_refl _
 |k+1=>by have :=EF l k;simp only [qq];split<;>omega
theorem keeps {docs:List (List UInt8)} {l:List aA}(h:aW docs l=true) {a:Int}(b c:Int)(d:List UInt8)(h0:a≠0):
  (j9 docs l a b c d).1.1=docs∧(a=1→cg l≤cg (j9 docs l a b c d).1.2∧((64:Int)≤l.length∨cg (j9 docs l a b c d).1.2=docs.length))∧
  (a≠1→cg (j9 docs l a b c d).1.2=cg l∧(j9 docs l a b c d).1.2.length≤l.length):=by
 have hg:=gd h
 have R:=RI.of h
 have BO:=R.bd
 unfold j9
 rw [if_neg h0]
 by_cases h1:a=1
 · rw [if_pos h1]
   unfold aY lK;rw [hg]
   by_cases e1:cg l=(docs.length:Int)
   · rw [if_pos e1];exact⟨rfl,fun _=>⟨Int.le_refl _, .inr e1⟩,fun h=>absurd h1 h⟩
   · rw [if_neg e1]
     by_cases e2:(64:Int)≤l.length
     · rw [if_pos e2];exact⟨rfl,fun _=>⟨Int.le_refl _, .inl e2⟩,fun h=>absurd h1 h⟩
     · rw [if_neg e2]
       have :=(R.flush e1 e2).1.OH
       have h3:cg (l++ [(cg l,(docs.length:Int),make docs (cg l) docs.length)])=docs.length:=by
        rw [this,jA];rfl
       refine⟨rfl,fun _=>⟨?_, .inr ?_⟩,fun h=>absurd h1 h⟩
       · show cg l≤cg (l++_)
         rw [h3];omega
       · exact h3
 · rw [if_neg h1]
   by_cases h2:a=2
   · rw [if_pos h2]
     unfold cn;rw [hg]
     by_cases hb:wU l b c=true
     · rw [if_pos hb];exact⟨rfl,fun h=>absurd h h1,fun _=>⟨rfl,Nat.le_refl _⟩⟩
     · rw [if_neg hb]
       have hb:=EE (by simpa using hb)
       have hc:=R.cut hb.2.2.2.2 hb.2.2.2.1
       refine⟨rfl,fun h=>absurd h h1,fun _=>⟨hc.2.2.2.2,?_⟩⟩
       simp only;omega
   · rw [if_neg h2]
     have hs:=R.settle
     refine⟨by simp only [c5,hg],fun h=>absurd h h1,fun _=> ?_⟩
     simp only [c5,hg]
     refine⟨by rw [hs.1.OH,hs.2.1,R.OH],?_⟩
     rw [dI];have :=hs.2.2;rw [sF] at this;exact this
end Go.S

end
section
namespace Go.S
def ow(l:List aA)(k:Nat):Prop :=k≤l.length∧l.length≠0∧rC l∧∀i,i<k→jx (ar l i)=true
def qQ(l:List aA)(k:Nat):Prop :=k+1≤l.length∧rC l∧l.all jx=true∧∀i,i<k→Es l i=true
def uL(l:List aA):Nat:=(uT l).length
def lh(l:List aA)(k:Nat):List UInt8:=(uT l).getD k []
def gS(l:List aA)(i:Nat):Nat:=(ar l i).2.2.length
def gh {α:Type}(l:List α)(k:Nat):Prop :=k≤l.length
def gH(l:List aA)(k:Nat):List (Int×Int):=cr (l.take k)
def Aq(a b:List Int):Bool:=decide (a=b)
def zg(a b:List Int)(k:Nat):Prop :=a.length=b.length∧a.take k=b.take k∧k≤a.length
def uO(x1:List UInt8)(x2:List Int)(y1:List UInt8)(y2:List Int):Bool:=decide (x1=y1)&&decide (x2=y2)
def EG(docs:List (List UInt8))(l:List aA)(k:Nat):Prop :=docs.length≤1000∧l.length≤64∧uD docs k
def lL(docs:List (List UInt8))(l:List aA):Prop :=docs.length≤1000000∧l.length≤1000000∧(∀b∈docs,small b)∧∀s∈l,small s.2.2∧∀e∈s.2.2,small e.2
def cU {α:Type}(z:α)(l:List α)(k:Nat):List α:=l.take k++List.replicate (l.length-k) z
def qs(x:List aA)(r:List aA)(i j:Nat):Prop :=i<x.length∧j≤(ar x i).2.2.length∧r.length=x.length∧∀d,r.set i ((ar r i).1,(ar r i).2.1,d)=(cU (0,0,[]) x i).set i ((ar x i).1,(ar x i).2.1,d)
def rF(l:List aA)(i m:Int):Prop :=l.length≤1000000∧0≤i∧0≤m∧i+m≤l.length
def nd(docs:List (List UInt8))(l:List aA)(L:List Sp):Prop :=RI (ao docs l).1 (aB (ao docs l).1 L) L∧iv L=iv (cr (ao docs l).2)
def WX(docs:List (List UInt8))(l:List Sp):Prop :=l.length≤1000000∧∀s∈l,kG docs s.1 s.2
end Go.S
namespace Go.S
theorem WY {a b:Int}(h:a<0∨b<0∨b≤a): -1=j8 a b:=by unfold j8;rw [if_pos h]
theorem L3 {n:Int}(h:0≤n):lg ((n.toNat:Nat):Int)=lg n:=by rw [Int.toNat_of_nonneg h]
theorem aag {a b:Int}(h:¬a<0∧¬b<0∧¬b≤a):lJ a b (b-a).toNat:=⟨by omega,by omega,by omega,by omega⟩
theorem aah {n:Int}(h:1<n):1≤lg n:=by have :=aeM (n:=n) (by omega);have :=aeN (n/2);omega
theorem WZ {a b:Int} {n:Nat}(h:lJ a b n):1≤n∧(n:Int)≤b-a:=⟨h.2.2.1,h.2.2.2⟩
theorem W0 {t:Int} {n:Nat}(h:1<(n:Int)):t-lg n+1=t-lg (((n:Int)/2).toNat:Nat):=by
 rw [L3 (by omega),←aeM (n:=(n:Int)) (by omega)];omega
theorem OL {a b:Int} {n:Nat}(h:lJ a b n)(h1:1<(n:Int)):lJ a b ((n:Int)/2).toNat:=by
 obtain⟨h2,h3,h4,h5⟩:=h
 exact⟨h2,h3,by omega,by omega⟩
theorem UI {a b:Int} {n:Nat}(h:¬a<0∧¬b<0∧¬b≤a)(hi:lJ a b n)(h1:¬1<(n:Int)):lg (b-a)-lg n=j8 a b:=by
 unfold j8
 rw [if_neg (by omega),←anh (n:=(n:Int)) (by omega)];omega
end Go.S
namespace Go.S
theorem W2(l:List aA)(k i:Nat):0≤(az l k).getD i 0:=by
 by_cases h:i<l.length
 · rw [iu h];exact(sD l k _).1
 · rw [List.getD_eq_getElem?_getD,List.getElem?_eq_none (by rw [fQ];omega)];exact Int.le_refl _
theorem anj {l:List aA} {k i:Nat}(h:(i:Int)<l.length)(hn:¬(az l k).getD i 0=((ar l i).2.2.length:Int)):(az l k).getD i 0<((ar l i).2.2.length:Int):=by
 have h':i<l.length:=by omega
 rw [iu h'] at hn ⊢
 have :=sD l k (ar l i);omega
theorem fG {l:List aA} {k i:Nat}(hi:i≤l.length)(h:¬cK l (az l k) i<0):
  cK l (az l k) i<l.length∧cK l (az l k) i<(az l k).length∧(cK l (az l k) i).toNat<(az l k).length∧(az l k).getD (cK l (az l k) i).toNat 0<((ar l (cK l (az l k) i).toNat).2.2.length:Int):=by
 rw [fQ]
 rcases Cw (l:=l) k i hi with⟨h1,_⟩|⟨q,h1,h2,h3,_⟩
 · rw [h1] at h;exact absurd (by decide) h
 · rw [h1,Int.toNat_natCast,iu (by omega)]
   exact⟨by omega,by omega,by omega,h3⟩
theorem W3 {l:List aA} {nx:List Int} {i:Nat}(h:nx.getD i 0=((ar l i).2.2.length:Int)):cK l nx i=cK l nx (i+1):=by simp only [cK];rw [if_pos h]
theorem W4 {l:List aA} {nx:List Int} {i:Nat}(h:¬nx.getD i 0=((ar l i).2.2.length:Int)):
  (bif bif decide (cK l nx i<0) then true else Op.bytesLess (ca (ar l i).2.2 (nx.getD i 0).toNat) (ca (ar l (cK l nx i).toNat).2.2 (nx.getD (cK l nx i).toNat 0).toNat) then(i:Int) else cK l nx i)=cK l nx (i+1):=by
 simp only [cK]
 rw [if_neg h]
 by_cases h1:cK l nx i<0
 · rw [decide_eq_true h1,if_pos (Or.inl h1)];rfl
 · rw [decide_eq_false h1]
   cases h2:Op.bytesLess (ca (ar l i).2.2 (nx.getD i 0).toNat) (ca (ar l (cK l nx i).toNat).2.2 (nx.getD (cK l nx i).toNat 0).toNat) with
   |true=>rw [if_pos (Or.inr rfl)];rfl
   |false=>rw [if_neg (by rintro(q|q);exact h1 q;cases q)];rfl
theorem ahe {l:List aA}(hp:nI l) {k i:Nat}(hi:i≤l.length)(BU:¬(i:Int)<l.length)(h:cK l (az l k) i<0):cw l k=nc l:=by
 have :i=l.length:=by omega
 subst this
 exact OB ((LS hp k).1 h)
theorem P2 {l:List aA}(hp:nI l) {k i:Nat}(hi:i≤l.length)(BU:¬(i:Int)<l.length)(h:¬cK l (az l k) i<0):
  k<uL l∧ca (ar l (cK l (az l k) i).toNat).2.2 ((az l k).getD (cK l (az l k) i).toNat 0).toNat=lh l k:=by
 have :i=l.length:=by omega
 subst this
 have hk:k<(uT l).length:=by
  exact Nat.lt_of_not_le fun h'=>h ((LS hp k).2 h')
 obtain⟨q,h1,h2,h3,h4⟩:=Ho hp hk
 refine⟨hk,?_⟩
 rw [h1,Int.toNat_natCast,iu h2];exact h4
theorem JQ {l:List aA} {a b:Nat}(h:cw l a=cw l b)(ha:a≤uL l)(hb:b≤uL l):a=b:=by
 have :=congrArg List.length h
 simp only [cw,List.length_map,List.length_take] at this
 unfold uL at ha hb
 omega
theorem W5 {l:List aA} {k i:Nat}(h:(i:Int)<l.length):0≤(aX l k i).getD i 0∧(aX l k i).getD i 0≤((ar l i).2.2.length:Int):=by
 rw [Eu (by omega)];exact sD l k _
theorem qR {l:List aA} {k i:Nat}(h:(i:Int)<l.length):(i:Int)<(aX l k i).length∧i<(aX l k i).length:=by
 rw [WL l k i (by omega)];omega
theorem W6 {l:List aA}(hp:nI l) {k i:Nat}(hk:k<uL l)(h:(i:Int)<l.length)(h1:(aX l k i).getD i 0<((ar l i).2.2.length:Int))(h2:ca (ar l i).2.2 ((aX l k i).getD i 0).toNat=lh l k):
  (aX l k i).set i ((aX l k i).getD i 0+1)=aX l k (i+1)∧cN l (lh l k) i++iC (ar l i).2.2 ((aX l k i).getD i 0).toNat=cN l (lh l k) (i+1):=by
 have h':i<l.length:=by omega
 rw [Eu h'] at h1 h2 ⊢
 have :=OA hp hk h' h1 h2
 exact⟨this.2,this.1⟩
theorem P3 {l:List aA}(hp:nI l) {k i:Nat}(hk:k<uL l)(h:(i:Int)<l.length)(hn:¬((aX l k i).getD i 0<((ar l i).2.2.length:Int)∧ca (ar l i).2.2 ((aX l k i).getD i 0).toNat=lh l k)):
  aX l k i=aX l k (i+1)∧cN l (lh l k) i=cN l (lh l k) (i+1):=by
 have h':i<l.length:=by omega
 rw [Eu h'] at hn
 have :=LU hp hk h' hn
 exact⟨this.2,this.1⟩
theorem aai {l:List aA}(hp:nI l) {k i:Nat}(h:(i:Int)<l.length):(cN l (lh l k) i).length≤1000000∧(iC (ar l i).2.2 ((aX l k i).getD i 0).toNat).length≤1000:=by
 have h1:=Ew hp (lh l k) i (by omega)
 have h2:=hp.1
 refine⟨by omega,?_⟩
 have hd:=(hp.2 _ (ir (show i<l.length by omega))).1
 generalize (aX l k i).getD i 0=z
 by_cases hz:z.toNat<(ar l i).2.2.length
 · rw [←oH (iD hd) hz];exact uJ hd _
 · simp only [iC,List.getD_eq_getElem?_getD];rw [List.getElem?_eq_none (by omega)];simp
theorem W7 {l:List aA} {k i:Nat}(hi:i≤l.length)(BU:¬(i:Int)<l.length)(hk:k<uL l):cw l k++ [(lh l k,cN l (lh l k) i)]=cw l (k+1)∧aX l k i=az l (k+1):=by
 have :i=l.length:=by omega
 subst this
 refine⟨?_,WM⟩
 rw [Oz];exact LV hk
theorem ank {l:List aA}(hp:nI l) {k:Nat}(hk:k≤uL l):(cw l k).length≤1048576000:=by
 have h1:=OC l k
 have h2:=aae hp
 unfold uL at hk;omega
end Go.S
namespace Go.S
theorem aaj(l:List aA):List.replicate (Int.toNat ((l.length:Nat):Int)) (0:Int)=l.map (bW l 0):=by
 rw [Int.toNat_natCast]
 have :l.map (bW l 0)=l.map (fun _=>(0:Int)):=List.map_congr_left fun s _=>by simp [bW]
 rw [this,List.map_const']
end Go.S
namespace Go.S
theorem aeO {l:List aA}(hp:nI l) {k i:Nat}(h:(i:Int)<l.length): -9223372036854775808≤(aX l k i).getD i 0+1∧(aX l k i).getD i 0+1≤9223372036854775807:=by
 have h1:=W5 (k:=k) h
 have h2:=(hp.2 _ (ir (show i<l.length by omega))).2
 omega
end Go.S
namespace Go.S
theorem W8 {l:List aA}(h:(l.length:Int)=0):dm l=((0,0,[]),1):=by unfold dm;rw [if_pos (by omega)]
theorem W9 {l:List aA} {k:Nat}(h:(k:Int)<l.length)(h2:jx (ar l k)=false):dm l=((0,0,[]),1):=by
 unfold dm
 rw [if_neg (by omega),if_pos]
 rw [←Bool.not_eq_true,List.all_eq_true]
 intro hc
 have :=hc _ (ir (show k<l.length by omega))
 rw [h2] at this;cases this
theorem aak {l:List aA}(hp:rC l)(h:¬(l.length:Int)=0):ow l 0:=⟨Nat.zero_le _,by omega,hp,fun i hi=>by omega⟩
theorem aal {l:List aA} {k:Nat}(h:ow l k)(h1:(k:Int)<l.length)(h2:jx (ar l k)=true):ow l (k+1):=
 ⟨by omega,h.2.1,h.2.2.1,fun i hi=>by
   by_cases e:i=k
   · subst e;exact h2
   · exact h.2.2.2 i (by omega)⟩
theorem ahf {l:List aA} {k:Nat}(h:ow l k)(h1:¬(k:Int)<l.length):l.all jx=true :=by
 rw [List.all_eq_true]
 intro s hs
 obtain⟨j,hj,rfl⟩:=List.mem_iff_getElem.1 hs
 have :=h.2.2.2 j (by have :=h.1;omega)
 rwa [ar,List.getD_eq_getElem?_getD,List.getElem?_eq_getElem hj] at this
theorem aam {l:List aA} {k:Nat}(h:ow l k)(h1:¬(k:Int)<l.length):qQ l 0:=⟨by have :=h.2.1;omega,h.2.2.1,ahf h h1,fun i hi=>by omega⟩
theorem aan {l:List aA} {k:Nat}(h:qQ l k)(h1:(k:Int)+1<l.length)(h2:(ar l ((k:Int)+1).toNat).1=(ar l ((k:Int)+1-1).toNat).2.1):qQ l (k+1):=
 ⟨by omega,h.2.1,h.2.2.1,fun i hi=>by
   by_cases e:i=k
   · subst e
     rw [show((i:Int)+1).toNat=i+1 by omega,show((i:Int)+1-1).toNat=i by omega] at h2
     simp only [Es,decide_eq_true_eq];exact h2
   · exact h.2.2.2 i (by omega)⟩
theorem Xa {l:List aA} {k:Nat}(h:qQ l k)(h1:(k:Int)+1<l.length)(h2:¬(ar l ((k:Int)+1).toNat).1=(ar l ((k:Int)+1-1).toNat).2.1):dm l=((0,0,[]),7):=by
 unfold dm
 rw [show((k:Int)+1).toNat=k+1 by omega,show((k:Int)+1-1).toNat=k by omega] at h2
 rw [if_neg (by omega),if_neg (by rw [h.2.2.1];simp),if_pos]
 rw [←Bool.not_eq_true,zc,List.all_eq_true]
 intro hc
 have :=hc k (List.mem_range.2 (by omega))
 simp only [Es,decide_eq_true_eq] at this
 exact h2 this
theorem OM {l:List aA} {k:Nat}(h:qQ l k)(h1:¬(k:Int)+1<l.length):dm l=(((ar l 0).1,(ar l ((l.length:Int)-1).toNat).2.1,nc l),0):=by
 have h0:=h.1
 unfold dm
 rw [if_neg (by omega),if_neg (by rw [h.2.2.1];simp),if_neg,show((l.length:Int)-1).toNat=l.length-1 by omega]
 rw [Bool.not_eq_false,zc,List.all_eq_true]
 intro i hi
 exact h.2.2.2 i (by have :=List.mem_range.1 hi;omega)
theorem L4 {s:aA}(h:jx s=true):dH s.2.2=true :=by
 simp only [jx,gZ,Bool.and_eq_true] at h;exact h.1.2
theorem ahg {l:List aA} {k:Nat}(h:qQ l k):nI l:=by
 refine⟨h.2.1.1,fun s hs=>⟨L4 (List.all_eq_true.1 h.2.2.1 s hs),?_⟩⟩
 exact(h.2.1.2 s hs).1
theorem n_0(l:List Sp):kI l 0:=⟨.inr rfl,by simp [dE]⟩
theorem aeP {l:List Sp} {k:Nat}(h:kI l k)(h1:0≤((len l:Nat):Int)-2-k):(((len l:Nat):Int)-2-k).toNat=l.length-2-k∧(((len l:Nat):Int)-2-k+1).toNat=l.length-2-k+1∧k+2≤l.length:=by
 simp only [len] at *;omega
theorem Xb {l:List Sp} {k:Nat}(h:kI l k)(h1:0≤((len l:Nat):Int)-2-k)
  (h2:j8 (gp l (((len l:Nat):Int)-2-k).toNat).1 (gp l (((len l:Nat):Int)-2-k).toNat).2≤j8 (gp l (((len l:Nat):Int)-2-k+1).toNat).1 (gp l (((len l:Nat):Int)-2-k+1).toNat).2):
  dE l=(((len l:Nat):Int)-2-k,true):=by
 obtain⟨e1,e2,e3⟩:=aeP h h1
 rw [e1,e2] at h2
 rw [h.2,show l.length-1-k=(l.length-2-k)+1 by omega]
 simp only [sE]
 rw [if_pos (show Am l (l.length-2-k)≤Am l (l.length-2-k+1) from h2)]
 simp only [len] at *
 congr 1;omega
theorem anl {l:List Sp} {k:Nat}(h:kI l k)(h1:0≤((len l:Nat):Int)-2-k)
  (h2:¬j8 (gp l (((len l:Nat):Int)-2-k).toNat).1 (gp l (((len l:Nat):Int)-2-k).toNat).2≤j8 (gp l (((len l:Nat):Int)-2-k+1).toNat).1 (gp l (((len l:Nat):Int)-2-k+1).toNat).2):
  kI l (k+1):=by
 obtain⟨e1,e2,e3⟩:=aeP h h1
 rw [e1,e2] at h2
 refine⟨.inl (by omega),?_⟩
 rw [h.2,show l.length-1-k=(l.length-2-k)+1 by omega]
 simp only [sE]
 rw [if_neg (show ¬Am l (l.length-2-k)≤Am l (l.length-2-k+1) from h2),show l.length-1-(k+1)=l.length-2-k by omega]
theorem Xc {l:List Sp} {k:Nat}(h:kI l k)(h1:¬0≤((len l:Nat):Int)-2-k):dE l=(0,false):=by
 have h3:=h.1
 simp only [len] at h1
 rw [h.2,show l.length-1-k=0 by omega];rfl
theorem L5 {l:List aA} {k:Nat}(h:(k:Int)<l.length):gH l k++ [((ar l k).1,(ar l k).2.1)]=gH l (k+1):=by
 simp only [gH,cr]
 rw [aG l k (0,0,[]) (by omega),List.map_append];rfl
theorem ON {l:List aA} {k:Nat}(h:¬(k:Int)<l.length):gH l k=cr l:=by
 simp only [gH];rw [List.take_of_length_le (by omega)]
theorem JR(l:List aA)(k:Nat):(gH l k).length≤l.length:=by simp [gH,cr];omega
end Go.S

end
section
namespace Go.S
theorem Xd {α:Type} {a b:List α}(h:(a.length:Int)=b.length):a.length=b.length∧a.take 0=b.take 0∧0≤a.length:=⟨by omega,by simp,Nat.zero_le _⟩
theorem Hr {α:Type} {a b:List α}(z:α) {k:Nat}(h:a.length=b.length∧a.take k=b.take k∧k≤a.length)(hk:(k:Int)<a.length)(he:a.getD k z=b.getD k z):a.length=b.length∧a.take (k+1)=b.take (k+1)∧k+1≤a.length:=by
 refine⟨h.1,?_,by omega⟩
 rw [aG a k z (by omega),aG b k z (by have :=h.1;omega),h.2.1,he]
theorem L6 {α:Type} {a b:List α} {k:Nat}(h:a.length=b.length∧a.take k=b.take k∧k≤a.length)(hk:¬(k:Int)<a.length):a=b:=by
 have h1:=h.2.1
 rw [List.take_of_length_le (by omega),List.take_of_length_le (by have :=h.1;omega)] at h1;exact h1
theorem L7 {α:Type} {a b:List α}(h:¬(a.length:Int)=b.length):¬a=b:=fun e=>h (by rw [e])
theorem L8 {α:Type} {a b:List α}(z:α) {k:Nat}(h:¬a.getD k z=b.getD k z):¬a=b:=fun e=>h (by rw [e])
theorem anm {docs:List (List UInt8)} {l:List aA}(h:1000<(docs.length:Int)∨64<(l.length:Int)):false=aW docs l:=by
 symm
 rw [←Bool.not_eq_true]
 intro hc
 obtain⟨h1,h2,_⟩:=Cx.1 hc
 simp only [dD,Bool.and_eq_true,decide_eq_true_eq] at h1
 omega
theorem ann {docs:List (List UInt8)} {l:List aA} {k:Nat}(hk:(k:Int)<docs.length)(h:2000<((docs.getD k []).length:Int)):false=aW docs l:=by
 symm
 rw [←Bool.not_eq_true]
 intro hc
 obtain⟨h1,_⟩:=Cx.1 hc
 rw [←Uv hk h] at h1;cases h1
theorem Xe {docs:List (List UInt8)} {l:List aA} {k:Nat}(h:EG docs l k)(hk:¬(k:Int)<docs.length):uK docs l 0:=by
 refine⟨?_,h.2.1,fun i hi=>by omega,Nat.zero_le _⟩
 have h1:=h.1
 simp only [dD,Bool.and_eq_true,decide_eq_true_eq]
 exact⟨Uw h.2.2 hk,by omega,by omega,by omega,by omega⟩
theorem P4 {docs:List (List UInt8)} {l:List aA} {k:Nat}(hk:(k:Int)<l.length)(h:jz docs l k=false):false=aW docs l:=by
 symm
 rw [←Bool.not_eq_true]
 intro hc
 simp only [aW,Bool.and_eq_true,List.all_eq_true,List.mem_range] at hc
 have :=hc.2.2 k (by omega)
 rw [h] at this;cases this
theorem Xf {docs:List (List UInt8)} {l:List aA} {k:Nat}(h:uK docs l k)(hk:(k:Int)<l.length)(h1:jz docs l k=true):uK docs l (k+1):=
 ⟨h.1,h.2.1,fun i hi=>by
   by_cases e:i=k
   · subst e;exact h1
   · exact h.2.2.1 i (by omega),by omega⟩
theorem aao {docs:List (List UInt8)} {l:List aA} {k:Nat}(h:uK docs l k)(hk:¬(k:Int)<l.length):true=aW docs l:=by
 symm
 have h2:=h.2.1
 simp only [aW,Bool.and_eq_true,List.all_eq_true,List.mem_range,decide_eq_true_eq]
 exact⟨h.1,by omega,fun i hi=>h.2.2.1 i (by omega)⟩
theorem ano {docs:List (List UInt8)} {l:List aA} {k:Nat}(h:¬(ar l k).1=eR l k∨(ar l k).2.1≤eR l k∨(docs.length:Int)<(ar l k).2.1):jz docs l k=false :=by
 rw [←Bool.not_eq_true]
 intro hc
 simp only [jz,Bool.and_eq_true,decide_eq_true_eq] at hc
 obtain⟨h1,h2,_⟩:=hc
 have :=mH h2
 rcases h with h|h|h
 · exact h h1
 · omega
 · omega
theorem aeQ {docs:List (List UInt8)} {l:List aA} {k:Nat}(hk:uK docs l k)(h:(ar l k).1=eR l k∧¬(ar l k).2.1≤eR l k∧¬(docs.length:Int)<(ar l k).2.1):
  gb docs (ar l k).1 (ar l k).2.1=true :=by
 refine rE hk.1 ?_ (by omega) (by omega)
 rw [h.1]
 have :∀i,i≤k→0≤eR l i:=by
  intro i hi
  unfold eR
  split
  · exact Int.le_refl _
  · have :=hk.2.2.1 (i-1) (by omega)
    simp only [jz,Bool.and_eq_true,decide_eq_true_eq] at this
    have :=mH this.2.1
    omega
 exact this k (Nat.le_refl _)
theorem anp {docs:List (List UInt8)} {l:List aA} {k:Nat}(hk:uK docs l k)(h:(ar l k).1=eR l k∧¬(ar l k).2.1≤eR l k∧¬(docs.length:Int)<(ar l k).2.1)
  (h2:¬(cv docs (ar l k).1 (ar l k).2.1).2=0∨mF (cv docs (ar l k).1 (ar l k).2.1).1.2.2 (ar l k).2.2=false):jz docs l k=false :=by
 have hf:=aeQ hk h
 have hb:cv docs (ar l k).1 (ar l k).2.1=(((ar l k).1,(ar l k).2.1,make docs (ar l k).1 (ar l k).2.1),0):=by unfold cv;rw [hf];rfl
 rw [hb] at h2
 rcases h2 with h2|h2
 · exact absurd rfl h2
 · simp only [mF,decide_eq_false_iff_not] at h2
   rw [←Bool.not_eq_true]
   intro hc
   simp only [jz,Bool.and_eq_true,decide_eq_true_eq] at hc
   exact h2 hc.2.2.symm
theorem anq {docs:List (List UInt8)} {l:List aA} {k:Nat}(hk:uK docs l k)(h:(ar l k).1=eR l k∧¬(ar l k).2.1≤eR l k∧¬(docs.length:Int)<(ar l k).2.1)
  (h2:(cv docs (ar l k).1 (ar l k).2.1).2=0∧mF (cv docs (ar l k).1 (ar l k).2.1).1.2.2 (ar l k).2.2=true):jz docs l k=true :=by
 have hf:=aeQ hk h
 have hb:cv docs (ar l k).1 (ar l k).2.1=(((ar l k).1,(ar l k).2.1,make docs (ar l k).1 (ar l k).2.1),0):=by unfold cv;rw [hf];rfl
 rw [hb] at h2
 simp only [mF,decide_eq_true_eq] at h2
 simp only [jz,Bool.and_eq_true,decide_eq_true_eq]
 exact⟨h.1,hf,h2.2.symm⟩
theorem UJ(l:List aA)(k:Nat):(ar l k).2.1=eR l (k+1):=by simp [eR]
theorem L9 {docs:List (List UInt8)} {l:List aA}(h:aW docs l=false):ao docs l=([],[]):=by unfold ao;rw [h];rfl
theorem ahh {l:List aA}(h:(l.length:Int)=0):0=cg l:=by unfold cg eR;rw [if_pos (by omega)]
theorem ahi {l:List aA}(h:¬(l.length:Int)=0):(ar l ((l.length:Int)-1).toNat).2.1=cg l:=by
 unfold cg eR;rw [if_neg (by omega),show((l.length:Int)-1).toNat=l.length-1 by omega]
theorem P5 {α:Type}(z:α)(l:List α):List.replicate (Int.toNat ((l.length:Nat):Int)) z=cU z l 0:=by simp [cU]
theorem vQ {α:Type}(z:α) {l:List α} {k:Nat}(h:(k:Int)<l.length):(k:Int)<(cU z l k).length∧k<(cU z l k).length:=by
 simp only [cU,List.length_append,List.length_take,List.length_replicate];omega
theorem OO {α:Type}(z:α) {l:List α} {k:Nat}(h:k≤l.length):(cU z l k).length=l.length:=by
 simp only [cU,List.length_append,List.length_take,List.length_replicate];omega
theorem Ma {α:Type}(z:α) {l:List α} {k:Nat}(h:(k:Int)<l.length):(cU z l k).set k (l.getD k z)=cU z l (k+1):=by
 have hk:k<l.length:=by omega
 have e:l.length-k=(l.length-(k+1))+1:=by omega
 simp only [cU]
 rw [aG l k z hk,e,List.replicate_succ,List.set_append_right _ _ (by rw [List.length_take];omega),List.length_take,show k-min k l.length=0 by omega,List.append_assoc]
 rfl
theorem Ht {α:Type}(z:α) {l:List α} {k:Nat}(h:¬(k:Int)<l.length):cU z l k=l:=by
 simp only [cU]
 rw [List.take_of_length_le (by omega),show l.length-k=0 by omega];simp
theorem ahj {x:List aA} {k:Nat}(h:(k:Int)<x.length):qs x ((cU (0,0,[]) x k).set k ((ar x k).1,(ar x k).2.1,[])) k 0:=by
 have hl:=OO ((0,0,[]):aA) (l:=x) (k:=k) (by omega)
 refine⟨by omega,Nat.zero_le _,by rw [List.length_set,hl],fun d=> ?_⟩
 have e:ar ((cU (0,0,[]) x k).set k ((ar x k).1,(ar x k).2.1,[])) k=((ar x k).1,(ar x k).2.1,[]):=by
  rw [ar,List.getD_eq_getElem?_getD,List.getElem?_set_self (by rw [hl];omega)];rfl
 rw [e,List.set_set]
theorem Xg {x r:List aA} {i j:Nat}(h:qs x r i j):r.set i ((ar r i).1,(ar r i).2.1,(ar x i).2.2)=cU (0,0,[]) x (i+1):=by
 rw [h.2.2.2]
 exact Ma ((0,0,[]):aA) (l:=x) (k:=i) (by have :=h.1;omega)
theorem Bz {docs:List (List UInt8)} {l:List aA}(h:lL docs l)(k:Nat):small (docs.getD k []):=by
 by_cases hk:k<docs.length
 · exact h.2.2.1 _ (bo docs k [] hk)
 · rw [List.getD_eq_getElem?_getD,List.getElem?_eq_none (by omega)];simp [small]
theorem mI {docs:List (List UInt8)} {l:List aA}(h:lL docs l)(k:Nat):small (ar l k).2.2∧∀j,small ((ar l k).2.2.getD j ([],[])).2:=by
 by_cases hk:k<l.length
 · have h1:=h.2.2.2 _ (ir hk)
   refine⟨h1.1,fun j=> ?_⟩
   by_cases hj:j<(ar l k).2.2.length
   · exact h1.2 _ (bo _ j _ hj)
   · rw [List.getD_eq_getElem?_getD,List.getElem?_eq_none (by omega)];simp [small]
 · have :ar l k=(0,0,[]):=by rw [ar,List.getD_eq_getElem?_getD,List.getElem?_eq_none (by omega)];rfl
   rw [this]
   exact⟨by simp [small],fun j=>by simp [small]⟩
theorem jQ {α:Type}(z:α)(l:List α)(j:Nat):l.set j (l.getD j z)=l:=by
 apply List.ext_getElem?
 intro i
 by_cases e:j=i
 · subst e
   by_cases hj:j<l.length
   · rw [List.getElem?_set_self hj,List.getD_eq_getElem?_getD,List.getElem?_eq_getElem hj];rfl
   · rw [List.set_eq_of_length_le (by omega)]
 · rw [List.getElem?_set_ne e]
end Go.S
namespace Go.S
theorem aap {a b:fp}(h:uO a.1 a.2 b.1 b.2=true):a=b:=by
 simp only [uO,Bool.and_eq_true,decide_eq_true_eq] at h
 exact Prod.ext h.1 h.2
theorem aaq {a b:fp}(h:uO a.1 a.2 b.1 b.2=false):¬a=b:=by
 rintro rfl
 simp [uO] at h
theorem Hu {α:Type} {l:List α} {k:Nat}(h:small l)(hk:(k:Int)<l.length):(k:Int)+1≤9223372036854775807:=by unfold small at h;omega
theorem UK {x r:List aA} {i j:Nat}(h:qs x r i j)(hj:(j:Int)<((ar x i).2.2.length:Int)):qs x r i (j+1):=⟨h.1,by omega,h.2.2⟩
theorem UL {x:List aA} {i j:Nat}(hj:(j:Int)<((ar x i).2.2.length:Int)):ah (gS x i) (j+1)<ah (gS x i) j:=by
 simp only [ah,gS];omega
end Go.S
namespace Go.S
theorem UM {d:List fp}(h:dH d=true):∀e∈d,e.2.length≤1000:=by
 intro e he
 obtain⟨j,hj,rfl⟩:=List.mem_iff_getElem.1 he
 have h1:=oH (iD h) hj
 have h2:=uJ h (ca d j)
 rw [h1] at h2
 rwa [iC,List.getD_eq_getElem?_getD,List.getElem?_eq_getElem hj] at h2
theorem RI.seg {docs:List (List UInt8)} {l:List aA} {S:List Sp}(h:RI docs l S):∀s∈l,jx s=true∧jv s.2.2∧s=(s.1,s.2.1,make docs s.1 s.2.1)∧gb docs s.1 s.2.1=true :=by
 intro s hs
 rw [h.eq] at hs
 have h1:=Bw h.row s hs
 simp only [aB,List.mem_map] at hs
 obtain⟨p,hp,rfl⟩:=hs
 have hf:=oI h.row p hp
 exact⟨h1,LZ hf,rfl,hf⟩
theorem RI.small {docs:List (List UInt8)} {l:List aA} {S:List Sp}(h:RI docs l S):lL docs l:=by
 have hb:=h.bd
 have hle:=h.le
 refine⟨by omega,by omega,fun b hb=> ?_,fun s hs=> ?_⟩
 · have :=h.fair
   simp only [dD,Bool.and_eq_true,List.all_eq_true,decide_eq_true_eq] at this
   have :=this.1 b hb
   unfold Go.S.small;omega
 · obtain⟨h1,h2,_⟩:=h.seg s hs
   refine⟨by have :=h2.1;unfold Go.S.small;omega,fun e he=> ?_⟩
   have :=UM (L4 h1) e he
   unfold Go.S.small;omega
theorem qt(docs:List (List UInt8))(l:List aA):lL (ao docs l).1 (ao docs l).2:=(kJ docs l).small
theorem pG(docs:List (List UInt8))(l:List aA):(ao docs l).1.length≤1000∧(ao docs l).2.length≤64∧0≤cg (ao docs l).2∧cg (ao docs l).2≤(ao docs l).1.length:=by
 have h:=kJ docs l
 have hb:=h.bd
 have hle:=h.le
 exact⟨hb.2.2.1,by omega,hb.1,hb.2.1⟩
theorem aeR {docs:List (List UInt8)} {l:List aA} {d:List UInt8}(h:(2000:Int)<d.length):bq docs l d=(ao docs l,1):=by unfold bq;rw [if_pos h]
theorem aeS {docs:List (List UInt8)} {l:List aA} {d:List UInt8}(h:¬(2000:Int)<d.length)(h1:(1000:Int)≤(ao docs l).1.length):bq docs l d=(ao docs l,3):=by unfold bq;rw [if_neg h,if_pos h1]
theorem Xh {docs:List (List UInt8)} {l:List aA} {d:List UInt8}(h:¬(2000:Int)<d.length)(h1:¬(1000:Int)≤(ao docs l).1.length):bq docs l d=(((ao docs l).1++ [d],(ao docs l).2),0):=by unfold bq;rw [if_neg h,if_neg h1]
theorem aeT {docs:List (List UInt8)} {l:List aA}(h:cg (ao docs l).2=((ao docs l).1.length:Int)):aY docs l=(ao docs l,5):=by unfold aY lK;rw [if_pos h]
theorem aeU {docs:List (List UInt8)} {l:List aA}(h:¬cg (ao docs l).2=((ao docs l).1.length:Int))(h1:(64:Int)≤(ao docs l).2.length):aY docs l=(ao docs l,3):=by unfold aY lK;rw [if_neg h,if_pos h1]
theorem aeV {docs:List (List UInt8)} {l:List aA}(h:¬cg (ao docs l).2=((ao docs l).1.length:Int)):
  cv (ao docs l).1 (cg (ao docs l).2) ((ao docs l).1.length:Nat)=((cg (ao docs l).2,((ao docs l).1.length:Int),make (ao docs l).1 (cg (ao docs l).2) ((ao docs l).1.length:Nat)),0):=by
 have hb:=pG docs l
 have hf:=rE (kJ docs l).fair hb.2.2.1 (by omega :cg (ao docs l).2<((ao docs l).1.length:Int)) (Int.le_refl _)
 unfold cv;rw [hf];rfl
theorem aeW {docs:List (List UInt8)} {l:List aA}(h:¬cg (ao docs l).2=((ao docs l).1.length:Int))(h1:¬(64:Int)≤(ao docs l).2.length):
  aY docs l=(((ao docs l).1,(ao docs l).2++ [(cv (ao docs l).1 (cg (ao docs l).2) ((ao docs l).1.length:Nat)).1]),0):=by
 rw [aeV h]
 unfold aY lK;rw [if_neg h,if_neg h1]
theorem aeX {l:List aA} {i m:Int}(h:¬m<2∧¬i<0∧¬(l.length:Int)<m∧¬(l.length:Int)-m<i):wU l i m=false∧(i+m).toNat-i.toNat=m.toNat∧i.toNat+m.toNat≤l.length∧0<m.toNat:=by
 refine⟨?_,by omega,by omega,by omega⟩
 simp only [wU,Bool.or_eq_false_iff,decide_eq_false_iff_not]
 exact⟨h.1,h.2.1,h.2.2.1,h.2.2.2⟩
theorem aeY {docs:List (List UInt8)} {l:List aA} {i m:Int}(h:m<2∨i<0∨((ao docs l).2.length:Int)<m∨((ao docs l).2.length:Int)-m<i):cn docs l i m=(ao docs l,1):=by
 have :wU (ao docs l).2 i m=true :=by
  simp only [wU,Bool.or_eq_true,decide_eq_true_eq]
  rcases h with h|h|h|h
  · exact .inl h
  · exact .inr (.inl h)
  · exact .inr (.inr (.inl h))
  · exact .inr (.inr (.inr h))
 unfold cn;rw [if_pos this]
theorem P6 {docs:List (List UInt8)} {l:List aA} {i m:Int}(h:¬m<2∧¬i<0∧¬((ao docs l).2.length:Int)<m∧¬((ao docs l).2.length:Int)-m<i):
  rC (((ao docs l).2.take (i+m).toNat).drop i.toNat)∧dm (((ao docs l).2.take (i+m).toNat).drop i.toNat)=(rD (ao docs l).1 (ao docs l).2 i.toNat m.toNat,0)∧rF (ao docs l).2 i m:=by
 obtain⟨h1,h2,h3,h4⟩:=aeX h
 have hc:=(kJ docs l).cut h4 h3
 have hb:=pG docs l
 rw [List.drop_take,h2]
 exact⟨hc.2.2.1,hc.2.1,by omega,by omega,by omega,by omega⟩
theorem aeZ {docs:List (List UInt8)} {l:List aA} {i m:Int}(h:¬m<2∧¬i<0∧¬((ao docs l).2.length:Int)<m∧¬((ao docs l).2.length:Int)-m<i):
  cn docs l i m=(((ao docs l).1,pF (ao docs l).2 i.toNat m.toNat (dm (((ao docs l).2.take (i+m).toNat).drop i.toNat)).1),0):=by
 rw [(P6 h).2.1]
 unfold cn;rw [if_neg (by rw [(aeX h).1];simp)]
theorem anr(docs:List (List UInt8))(l:List aA):nd docs l (cr (ao docs l).2):=by
 have h:=kJ docs l
 refine⟨?_,rfl⟩
 rw [←h.eq];exact h
theorem ans {docs:List (List UInt8)} {l:List aA} {L:List Sp}(h:nd docs l L):small (aB (ao docs l).1 L):=by
 have :=h.1.le
 unfold small;rw [dI];omega
theorem aar {docs:List (List UInt8)} {l:List aA} {L:List Sp}(h:nd docs l L)(h1:(dE (cr (aB (ao docs l).1 L))).2=false):aB (ao docs l).1 L=(c5 docs l).2:=by
 rw [iU] at h1
 unfold c5
 rw [←h.2,OD h1]
theorem ae0 {docs:List (List UInt8)} {l:List aA} {L:List Sp}(h:nd docs l L)(h1:(dE (cr (aB (ao docs l).1 L))).2=true):
  0≤(dE (cr (aB (ao docs l).1 L))).1∧(dE (cr (aB (ao docs l).1 L))).1+2≤((aB (ao docs l).1 L).length:Int)∧(aB (ao docs l).1 L).length≤64:=by
 have :=h.1.le
 rw [dI,iU] at *
 have :=Ey h1
 omega
theorem EH {docs:List (List UInt8)} {l:List aA} {L:List Sp}(h:nd docs l L)(h1:(dE (cr (aB (ao docs l).1 L))).2=true) {n:Int}(hn:(dE (cr (aB (ao docs l).1 L))).1=n):
  rC (((aB (ao docs l).1 L).drop n.toNat).take ((n+2).toNat-n.toNat))∧(dm (((aB (ao docs l).1 L).drop n.toNat).take ((n+2).toNat-n.toNat))).2=0∧rF (aB (ao docs l).1 L) n 2∧
  pF (aB (ao docs l).1 L) n.toNat 2 (dm (((aB (ao docs l).1 L).drop n.toNat).take ((n+2).toNat-n.toNat))).1=aB (ao docs l).1 (je L n.toNat)∧nd docs l (je L n.toNat)∧(je L n.toNat).length<L.length:=by
 have hb:=ae0 h h1
 rw [hn] at hb
 rw [dI] at hb
 have NL:=hn
 rw [iU] at h1 NL
 have hf:=h.1.ani (i:=n.toNat) (by omega)
 rw [show(n+2).toNat-n.toNat=2 by omega]
 have hl:=Ao (l:=L) (i:=n.toNat) (by omega)
 refine⟨hf.2.2.2,by rw [hf.2.2.1],⟨by rw [dI];omega,hb.1,by omega,by rw [dI];omega⟩,by rw [hf.2.2.1];exact hf.2.1,⟨hf.1,?_⟩,by omega⟩
 rw [←h.2,←NL]
 exact LW h1
end Go.S
namespace Go.S
theorem RI.with {docs:List (List UInt8)} {l:List aA} {L:List Sp}(h:RI docs l L):WX docs L:=by
 have :=h.le
 exact⟨by omega,fun s hs=>pD (oI h.row s hs)⟩
end Go.S
namespace Go.S
end Go.S

end
section
namespace Go.S
theorem aas(l:List db):aW (cV l).1 (cV l).2=true :=JP l _
theorem Mb {docs:List (List UInt8)} {l:List aA}(h:aW docs l=true):lK docs l=cg l:=by unfold lK;rw [gd h]
end Go.S
namespace Go.S
end Go.S
namespace Go.S
end Go.S

end
section
namespace Go.S
abbrev Hd:=Int×List UInt8×List Sg
def lM(n:Int)(g:List UInt8)(l:List Sg):Bool:=decide (0≤n)&&(decide (n≤1000)&&(decide ((g.length:Int)=32)&&PZ l n))
def uP(docs:List (List UInt8))(l:List aA):Bool:=aW docs l&&decide (lK docs l=(docs.length:Int))
def Xi(docs:List (List UInt8))(l:List aA):Hd×Int:=if uP docs l then(((docs.length:Int),root (leaves docs),qn docs l),0) else((0,[],[]),7)
def Mc(s:Sg):List UInt8:=num s.2.1++num s.2.2.1++s.2.2.2
def jf(l:List Sg):List UInt8:=l.flatMap Mc
def hB(n:Int)(g:List UInt8)(l:List Sg):List UInt8:=num n++g++num l.length++jf l
def hW(n:Int)(g:List UInt8)(l:List Sg):List UInt8×Int:=if lM n g l then(hB n g l,0) else([],1)
def OP(b:List UInt8)(f:Int):Sg×Int×Int:=
 if(first b).2.2≠0 then((0,0,0,[]),0,(first b).2.2)
 else if(first (b.drop (first b).2.1.toNat)).2.2≠0 then((0,0,0,[]),0,(first (b.drop (first b).2.1.toNat)).2.2)
 else if(b.length:Int)<(first b).2.1+(first (b.drop (first b).2.1.toNat)).2.1+32 then((0,0,0,[]),0,4)
 else((f,(first b).1,(first (b.drop (first b).2.1.toNat)).1,(b.drop ((first b).2.1+(first (b.drop (first b).2.1.toNat)).2.1).toNat).take 32),(first b).2.1+(first (b.drop (first b).2.1.toNat)).2.1+32,0)
abbrev Hs:=List Sg×Int×Int×Int
def qS(b:List UInt8)(p:Int):Nat→Hs
 |0=>([],0,p,0)
 |k+1=>if(qS b p k).2.2.2≠0 then qS b p k
  else if(OP (b.drop (qS b p k).2.2.1.toNat) (qS b p k).2.1).2.2≠0 then((qS b p k).1,(qS b p k).2.1,(qS b p k).2.2.1,(OP (b.drop (qS b p k).2.2.1.toNat) (qS b p k).2.1).2.2)
  else((qS b p k).1++ [(OP (b.drop (qS b p k).2.2.1.toNat) (qS b p k).2.1).1],(OP (b.drop (qS b p k).2.2.1.toNat) (qS b p k).2.1).1.2.1,(qS b p k).2.2.1+(OP (b.drop (qS b p k).2.2.1.toNat) (qS b p k).2.1).2.1,0)
def Xj(b:List UInt8)(n:Int)(g:List UInt8)(s:Hs):Hd×Int:=
 if s.2.2.2≠0 then((0,[],[]),s.2.2.2)
 else if s.2.2.1<b.length∨lM n g s.1=false then((0,[],[]),2)
 else((n,g,s.1),0)
def hR(b:List UInt8):Hd×Int:=
 if(first b).2.2≠0 then((0,[],[]),(first b).2.2)
 else if(b.length:Int)<(first b).2.1+32 then((0,[],[]),4)
 else if(first (b.drop ((first b).2.1+32).toNat)).2.2≠0 then((0,[],[]),(first (b.drop ((first b).2.1+32).toNat)).2.2)
 else if 64<(first (b.drop ((first b).2.1+32).toNat)).1 then((0,[],[]),2)
 else Xj b (first b).1 ((b.drop (first b).2.1.toNat).take 32) (qS b ((first b).2.1+32+(first (b.drop ((first b).2.1+32).toNat)).2.1) (first (b.drop ((first b).2.1+32).toNat)).1.toNat)
def OQ(a1:Int)(a2:List UInt8)(a3:List Sg)(b1:Int)(b2:List UInt8)(b3:List Sg):Bool:=decide (a1=b1)&&(decide (a2=b2)&&decide (a3=b3))
theorem Hv:∀(f v:Nat),v<128^f→1≤f→∃(m:List UInt8) (x:UInt8),mf f v=m++ [x]∧(∀y∈m,128≤y.toNat)∧x.toNat<128∧cJ (m++ [x])=v∧(1≤m.length→x.toNat≠0)
 |0,v,_,h=>by omega
 |f+1,v,h,_=>by
  by_cases hv:v<128
  · have e:(UInt8.ofNat v).toNat=v:=by simp [UInt8.toNat_ofNat'];omega
    refine⟨[],UInt8.ofNat v,by simp only [mf];rw [if_pos hv];rfl,by simp,by rw [e];exact hv,?_,by simp⟩
    simp only [List.nil_append,cJ,e];omega
  · have hf:f≠0:=by rintro rfl;simp at h;omega
    obtain⟨m,x,h1,h2,h3,h4,h5⟩:=Hv f (v/128) (by rw [Nat.pow_succ] at h;omega) (by omega)
    have e:(UInt8.ofNat (v%128+128)).toNat=v%128+128:=by simp [UInt8.toNat_ofNat'];omega
    refine⟨UInt8.ofNat (v%128+128)::m,x,?_,?_,h3,?_,fun _=> ?_⟩
    · simp only [mf];rw [if_neg hv,h1];rfl
    · intro y hy
      rcases List.mem_cons.1 hy with rfl|hy
      · rw [e];omega
      · exact h2 y hy
    · simp only [List.cons_append,cJ,e,h4];omega
    · by_cases hm:1≤m.length
      · exact h5 hm
      · have :m= []:=List.eq_nil_of_length_eq_zero (by omega)
        subst this
        simp only [List.nil_append,cJ] at h4
        omega
theorem oJ {v:Int}(h:0≤v)(h1:v≤4611686018427387904)(r:List UInt8):first (num v++r)=(v,((num v).length:Int),0):=by
 obtain⟨m,x,e,h2,h3,h4,h5⟩:=Hv 9 v.toNat (by omega) (by omega)
 have hl:m.length+1≤9:=by have :=Aa 9 v.toNat;rw [e] at this;simpa using this
 have e':num v=m++ [x]:=e
 have g1:(m++ [x]++r).take m.length=m:=by rw [List.append_assoc,List.take_append_of_le_length (Nat.le_refl _),List.take_length]
 have g2:(m++ [x]++r).getD m.length 0=x:=by
  rw [List.append_assoc,List.getD_eq_getElem?_getD,List.getElem?_append_right (Nat.le_refl _),Nat.sub_self];rfl
 have g3:(m++ [x]++r).take (m.length+1)=m++ [x]:=by rw [show m.length+1=(m++ [x]).length by simp,List.take_left]
 have :=Hc (m++ [x]++r) m.length (by rw [g1];exact h2) (by simp) (by omega) (by rw [g2];exact h3)
 rw [g2,g3,h4] at this
 rw [e',this,if_neg]
 · simp;omega
 · rintro(⟨q1,q2⟩|q)
   · exact h5 q1 q2
   · omega
theorem BA {b:List UInt8}(h:(first b).2.2=0):b=num (first b).1++b.drop (first b).2.1.toNat∧(first b).2.1=((num (first b).1).length:Int):=by
 obtain⟨q1,q2⟩:=Ow h
 have h0:=vJ b
 refine⟨by rw [q1];exact(List.take_append_drop _ _).symm,?_⟩
 rw [q1,List.length_take];omega
theorem UN {a b:Int} {c:Int} {d:List UInt8}(h:Ak a b c d=true):0≤a∧a<b∧b≤1000∧1≤c∧c≤1099511627776∧d.length=32:=by
 simp only [Ak,iP,Bool.and_eq_true,decide_eq_true_eq] at h
 omega
theorem UO {l:List Sg} {n:Int}(h:PZ l n=true):l.length≤64∧(∀i,i<l.length→Ak (sg l i).1 (sg l i).2.1 (sg l i).2.2.1 (sg l i).2.2.2=true)∧(0<l.length→(sg l 0).1=0)∧(∀i,i+1<l.length→(sg l (i+1)).1=(sg l i).2.1):=by
 unfold PZ at h
 split at h
 · exact⟨by omega,fun i hi=>by omega,fun h=>by omega,fun i hi=>by omega⟩
 · simp only [Bool.and_eq_true,decide_eq_true_eq,List.all_eq_true,List.mem_range] at h
   obtain⟨h1,h2,h3,h4⟩:=h
   refine⟨by omega,fun i hi=> ?_,fun _=>h3,fun i hi=> ?_⟩
   · have :=h1 i hi
     simp only [PY,Bool.and_eq_true] at this
     exact this.1
   · have :=h1 (i+1) hi
     simp only [PY,Bool.and_eq_true,Bool.not_eq_true',Bool.and_eq_false_iff,decide_eq_false_iff_not,Bool.not_eq_false',decide_eq_true_eq] at this
     rcases this.2 with h5|h5
     · omega
     · simpa using h5
theorem Md {n:Int} {g:List UInt8} {l:List Sg}:lM n g l=true↔0≤n∧n≤1000∧g.length=32∧PZ l n=true :=by
 simp only [lM,Bool.and_eq_true,decide_eq_true_eq]
 constructor
 · rintro⟨h1,h2,h3,h4⟩;exact⟨h1,h2,by omega,h4⟩
 · rintro⟨h1,h2,h3,h4⟩;exact⟨h1,h2,by omega,h4⟩
theorem aat {s:Sg}(h:Ak s.1 s.2.1 s.2.2.1 s.2.2.2=true)(r:List UInt8):OP (Mc s++r) s.1=(s,((Mc s).length:Int),0):=by
 have hg:=UN h
 have e1:Mc s++r=num s.2.1++(num s.2.2.1++(s.2.2.2++r)):=by simp [Mc]
 have f1:=oJ (v:=s.2.1) (by omega) (by omega) (num s.2.2.1++(s.2.2.2++r))
 have f2:=oJ (v:=s.2.2.1) (by omega) (by omega) (s.2.2.2++r)
 have d1:(num s.2.1++(num s.2.2.1++(s.2.2.2++r))).drop (((num s.2.1).length:Int)).toNat=num s.2.2.1++(s.2.2.2++r):=by rw [Int.toNat_natCast,List.drop_left]
 have d2:(num s.2.1++(num s.2.2.1++(s.2.2.2++r))).drop (((num s.2.1).length:Int)+((num s.2.2.1).length:Int)).toNat=s.2.2.2++r:=by
  rw [show(((num s.2.1).length:Int)+((num s.2.2.1).length:Int)).toNat=(num s.2.1).length+(num s.2.2.1).length by omega,←List.drop_drop,List.drop_left,List.drop_left]
 unfold OP
 rw [e1,f1]
 simp only [d1,f2,d2]
 rw [if_neg (by simp),if_neg (by simp),if_neg (by simp only [List.length_append];omega),List.take_left' hg.2.2.2.2.2]
 congr 2
 simp only [Mc,List.length_append];omega
theorem P7 {l:List Sg}(hg:∀i,i<l.length→Ak (sg l i).1 (sg l i).2.1 (sg l i).2.2.1 (sg l i).2.2.2=true)(h0:0<l.length→(sg l 0).1=0)(hc:∀i,i+1<l.length→(sg l (i+1)).1=(sg l i).2.1)(a r:List UInt8):
  ∀k,k≤l.length→qS (a++(jf l++r)) (a.length:Int) k=(l.take k,(if k=0 then 0 else(sg l (k-1)).2.1),((a.length+(jf (l.take k)).length:Nat):Int),0)
 |0,_=>by simp [qS,jf]
 |k+1,hk=>by
  have ih:=P7 hg h0 hc a r k (by omega)
  have EI:k<l.length:=by omega
  have et:l.take (k+1)=l.take k++ [sg l k]:=aG l k _ EI
  have ed:l=l.take k++(sg l k::l.drop (k+1)):=by
   have :l.drop k=sg l k::l.drop (k+1):=by
    rw [List.drop_eq_getElem_cons EI];congr 1
    rw [sg,List.getD_eq_getElem?_getD,List.getElem?_eq_getElem EI];rfl
   rw [←this];exact(List.take_append_drop k l).symm
  have es:jf l=jf (l.take k)++(Mc (sg l k)++jf (l.drop (k+1))):=by
   have :jf l=jf (l.take k++(sg l k::l.drop (k+1))):=by rw [←ed]
   rw [this];simp only [jf,List.flatMap_append,List.flatMap_cons]
  have hdr:(a++(jf l++r)).drop ((a.length+(jf (l.take k)).length:Nat):Int).toNat=Mc (sg l k)++(jf (l.drop (k+1))++r):=by
   rw [Int.toNat_natCast,es,←List.drop_drop,List.drop_left,List.append_assoc,List.drop_left,List.append_assoc]
  have hf:(if k=0 then(0:Int) else(sg l (k-1)).2.1)=(sg l k).1:=by
   by_cases hk0:k=0
   · subst hk0;rw [if_pos rfl,h0 (by omega)]
   · rw [if_neg hk0]
     have :=hc (k-1) (by omega)
     rw [show k-1+1=k by omega] at this
     exact this.symm
  have hs:=aat (hg k EI) (jf (l.drop (k+1))++r)
  simp only [qS,ih,hdr,hf,hs]
  rw [if_neg (by simp),if_neg (by simp),if_neg (by omega),et]
  simp only [Nat.add_sub_cancel,jf,List.flatMap_append,List.flatMap_cons,List.flatMap_nil,List.append_nil,List.length_append]
  congr 3
  omega
theorem EJ {n:Int} {g:List UInt8} {l:List Sg}(h:lM n g l=true):hR (hB n g l)=((n,g,l),0):=by
 obtain⟨h1,h2,h3,h4⟩:=Md.1 h
 obtain⟨r1,r2,r3,r4⟩:=UO h4
 have e:hB n g l=num n++(g++(num l.length++jf l)):=by simp [hB]
 have f1:=oJ h1 (by omega) (g++(num l.length++jf l))
 have f2:=oJ (v:=(l.length:Int)) (by omega) (by omega) (jf l)
 have d1:(num n++(g++(num l.length++jf l))).drop (((num n).length:Int)).toNat=g++(num l.length++jf l):=by rw [Int.toNat_natCast,List.drop_left]
 have d2:(num n++(g++(num l.length++jf l))).drop (((num n).length:Int)+32).toNat=num l.length++jf l:=by
  rw [show(((num n).length:Int)+32).toNat=(num n).length+g.length by omega,←List.drop_drop,List.drop_left,List.drop_left]
 have kn:=P7 r2 r3 r4 (num n++(g++num l.length)) [] l.length (Nat.le_refl _)
 have ea:num n++(g++num l.length)++(jf l++ [])=num n++(g++(num l.length++jf l)):=by simp
 have el:(((num n++(g++num (l.length:Int))).length:Nat):Int)=((num n).length:Int)+32+((num (l.length:Int)).length:Int):=by simp only [List.length_append];omega
 rw [ea,el,List.take_length] at kn
 unfold hR
 rw [e,f1]
 simp only [d1,d2,f2]
 rw [if_neg (by simp),if_neg (by simp only [List.length_append];omega),if_neg (by simp),if_neg (by omega),List.take_left' h3,Int.toNat_natCast,kn]
 unfold Xj
 simp only
 rw [if_neg (by simp),if_neg]
 rw [h]
 rintro(q|q)
 · simp only [List.length_append] at q;omega
 · cases q
theorem OR {a1:Int} {a2:List UInt8} {a3:List Sg} {b1:Int} {b2:List UInt8} {b3:List Sg}:OQ a1 a2 a3 b1 b2 b3=decide ((a1,a2,a3)=(b1,b2,b3)):=by
 simp only [OQ,Prod.mk.injEq,Bool.decide_and]
theorem Me {a b:Hd}(ha:lM a.1 a.2.1 a.2.2=true)(hb:lM b.1 b.2.1 b.2.2=true):(hB a.1 a.2.1 a.2.2=hB b.1 b.2.1 b.2.2)↔a=b:=by
 constructor
 · intro h
   have h1:=EJ ha
   rw [h,EJ hb] at h1
   have :=congrArg Prod.fst h1
   exact this.symm
 · rintro rfl;rfl
end Go.S

end
section
namespace Go.S
theorem ng(b:List UInt8)(a e:Int):(ag b a e).1.1=b∧(Bh b a e).1.1=b:=by
 constructor
 · unfold ag;split
   · rfl
   · split<;>rfl
 · unfold Bh;split
   · rfl
   · split<;>rfl
theorem Mf {b:List UInt8} {a e:Int}(h:e≠0):cT b a e=e:=by unfold cT;rw [if_neg (fun q=>h q.1)]
theorem zh {b:List UInt8} {a:Int}(h:0≤a)(h1:a≤b.length):cT b a 0=0:=by
 unfold cT
 rw [if_neg]
 rintro⟨_,q⟩
 simp only [inside,Bool.and_eq_false_iff,decide_eq_false_iff_not] at q
 omega
theorem Xk {b:List UInt8} {a e:Int}(h:e≠0):ag b a e=((b,a,e),0):=by
 unfold ag;rw [Mf h,if_pos h]
theorem Xl {b:List UInt8} {a:Int}(h:0≤a)(h1:a≤b.length)(h2:(first (b.drop a.toNat)).2.2=0):ag b a 0=((b,a+(first (b.drop a.toNat)).2.1,0),(first (b.drop a.toNat)).1):=by
 have e:(aK b a).2.2=0:=h2
 unfold ag
 rw [zh h h1,if_neg (fun q=>q rfl),if_neg (fun q=>q e)]
 simp only [aK,Bg,h2,if_true]
theorem ahl {b:List UInt8} {a:Int}(h:0≤a)(h1:a≤b.length)(h2:(first (b.drop a.toNat)).2.2≠0):ag b a 0=((b,a,(first (b.drop a.toNat)).2.2),0):=by
 have e:(aK b a).2.2≠0:=h2
 unfold ag
 rw [zh h h1,if_neg (fun q=>q rfl),if_pos e];rfl
end Go.S

end
section
namespace Go.S
end Go.S

end
section
namespace Go.S
theorem Xm {docs:List (List UInt8)} {l:List aA}(h:aW docs l=true∧lK docs l=(docs.length:Int)):Xi docs l=(((docs.length:Int),root (leaves docs),qn docs l),0):=by
 have :uP docs l=true :=by unfold uP;rw [h.1,decide_eq_true h.2];rfl
 unfold Xi;rw [if_pos this]
theorem ahm {n:Int} {g:List UInt8} {l:List Sg}(h:lM n g l=false):hW n g l=([],1):=by unfold hW;rw [h];rfl
theorem aau {n:Int} {g:List UInt8} {l:List Sg}(h:lM n g l=true):hW n g l=(hB n g l,0):=by unfold hW;rw [h];rfl
end Go.S

end
section
namespace Go.S
theorem EK {docs:List (List UInt8)} {l:List aA}:uP docs l=true↔aW docs l=true∧lK docs l=(docs.length:Int):=by
 simp only [uP,Bool.and_eq_true,decide_eq_true_eq]
theorem Hw {docs:List (List UInt8)} {l:List aA}(h:uP docs l=true):Xi docs l=(((docs.length:Int),root (leaves docs),qn docs l),0):=Xm (EK.1 h)
theorem ae1 {n:Int} {g:List UInt8} {l:List Sg}(h:(hW n g l).2=0):lM n g l=true∧hW n g l=(hB n g l,0):=by
 cases hr:lM n g l with
 |true=>exact⟨rfl,aau hr⟩
 |false=>rw [ahm hr] at h;cases h
theorem apart {a b:Hd}(ha:(hW a.1 a.2.1 a.2.2).2=0)(hb:(hW b.1 b.2.1 b.2.2).2=0):(bif decide ((hW a.1 a.2.1 a.2.2).1=(hW b.1 b.2.1 b.2.2).1)==OQ a.1 a.2.1 a.2.2 b.1 b.2.1 b.2.2 then true else false)=true :=by
 obtain⟨h1,h2⟩:=ae1 ha
 obtain⟨h3,h4⟩:=ae1 hb
 rw [h2,h4,OR]
 have :=Me h1 h3
 have e:decide (hB a.1 a.2.1 a.2.2=hB b.1 b.2.1 b.2.2)=decide ((a.1,a.2.1,a.2.2)=(b.1,b.2.1,b.2.2)):=by
  by_cases h:a=b
  · rw [decide_eq_true (this.2 h),decide_eq_true (show(a.1,a.2.1,a.2.2)=(b.1,b.2.1,b.2.2) from h)]
  · rw [decide_eq_false (fun q=>h (this.1 q)),decide_eq_false (show ¬(a.1,a.2.1,a.2.2)=(b.1,b.2.1,b.2.2) from h)]
 rw [show(hB a.1 a.2.1 a.2.2,(0:Int)).1=hB a.1 a.2.1 a.2.2 from rfl,show(hB b.1 b.2.1 b.2.2,(0:Int)).1=hB b.1 b.2.1 b.2.2 from rfl,e]
 cases decide ((a.1,a.2.1,a.2.2)=(b.1,b.2.1,b.2.2))<;>rfl
theorem Xn(l:List db):(cV l).2.length≤40:=by
 have h1:=Hq l (min l.length 40)
 have h2:=EF l (min l.length 40)
 unfold cV;omega
theorem UP {docs:List (List UInt8)} {l:List aA}(h:aW docs l=true)(a b c:Int)(d:List UInt8):(j9 docs l a b c d).1.1.length≤docs.length+1:=by
 by_cases h0:a=0
 · have hg:=gd h
   unfold j9;rw [if_pos h0]
   unfold bq;rw [hg]
   split
   · simp only;omega
   · split
     · simp only;omega
     · simp
 · rw [(keeps h b c d h0).1];omega
theorem EL(l:List db):∀k,(jY ([],[]) l k).1.length≤k
 |0=>Nat.le_refl _
 |k+1=>by
  have ih:=EL l k
  rw [jY]
  split
  · omega
  · have :=UP (JP l k) (nJ l k).1 (nJ l k).2.1 (nJ l k).2.2.1 (nJ l k).2.2.2
    omega
theorem Xo(l:List db):(cV l).1.length≤40:=by have :=EL l (min l.length 40);unfold cV;omega
theorem OS(docs:List (List UInt8))(l:List aA):aY docs l=j9 docs l 1 0 0 []:=by unfold j9;rw [if_neg (by decide),if_pos rfl]
theorem Mg {docs:List (List UInt8)} {l:List aA}(h:aW docs l=true)(hl:l.length<64):
  (aY docs l).1.1=docs∧aW docs (aY docs l).1.2=true∧cg (aY docs l).1.2=docs.length∧(aY docs l).1.2.length≤l.length+1∧uP docs (aY docs l).1.2=true :=by
 have hk:=keeps h (a:=1) 0 0 [] (by decide)
 have hr:=ov docs l
 have hn:=L2 h 1 0 0 []
 rw [←OS] at hk hn
 rw [hk.1] at hr
 have hc:cg (aY docs l).1.2=docs.length:=by
  rcases(hk.2.1 rfl).2 with h1|h1
  · omega
  · exact h1
 exact⟨hk.1,hr,hc,hn,EK.2 ⟨hr,by rw [Mb hr];exact hc⟩⟩
theorem pf(l:List db):(aY (cV l).1 (cV l).2).1.1=(cV l).1∧aW (cV l).1 (aY (cV l).1 (cV l).2).1.2=true∧cg (aY (cV l).1 (cV l).2).1.2=(cV l).1.length∧(aY (cV l).1 (cV l).2).1.2.length≤41∧uP (cV l).1 (aY (cV l).1 (cV l).2).1.2=true :=by
 have h1:=Xn l
 have h:=Mg (aas l) (by omega)
 exact⟨h.1,h.2.1,h.2.2.1,by omega,h.2.2.2.2⟩
theorem ahn {docs:List (List UInt8)} {l:List aA} {d:List UInt8}(h:aW docs l=true)(h1:¬(2000:Int)<d.length)(h2:docs.length<1000):bq docs l d=((docs++ [d],l),0):=by
 have hg:=gd h
 rw [Xh h1 (by rw [hg];simp only;omega),hg]
theorem grow(l:List db) {d:List UInt8}(hd:¬(2000:Int)<d.length) {x:List aA}(hx:(aY (cV l).1 (cV l).2).1.2=x):
  Xi (cV l).1 x=((((cV l).1.length:Int),root (leaves (cV l).1),qn (cV l).1 x),0)∧bq (cV l).1 x d=(((cV l).1++ [d],x),0)∧
  ∃s r,aY ((cV l).1++ [d]) x=(((cV l).1++ [d],x++ [s]),0)∧Xi ((cV l).1++ [d]) (x++ [s])=((((cV l).1.length:Int)+1,r,qn (cV l).1 x++ [WQ s]),0):=by
 have Nr:=Xo l
 obtain⟨p1,p2,p3,p4,p5⟩:=pf l
 rw [hx] at p2 p3 p4 p5
 have ha:=ahn p2 hd (by omega)
 have hr:=append_right (cV l).1 x d
 rw [ha] at hr
 have hl:((cV l).1++ [d]).length=(cV l).1.length+1:=by simp
 have hg:=gd hr
 have hf:aY ((cV l).1++ [d]) x=(((cV l).1++ [d],x++ [(cg x,(((cV l).1++ [d]).length:Int),make ((cV l).1++ [d]) (cg x) ((cV l).1++ [d]).length)]),0):=by
  unfold aY lK
  rw [hg,if_neg (show ¬cg x=(((cV l).1++ [d]).length:Int) by rw [p3,hl];omega),if_neg (show ¬(64:Int)≤(x.length:Int) by omega)]
 refine⟨Hw p5,ha,_,root (leaves ((cV l).1++ [d])),hf,?_⟩
 have zT:=Mg (docs:=(cV l).1++ [d]) (l:=x) hr (by omega)
 rw [hf] at zT
 rw [Hw zT.2.2.2.2]
 have e1:qn ((cV l).1++ [d]) (x++ [(cg x,(((cV l).1++ [d]).length:Int),make ((cV l).1++ [d]) (cg x) ((cV l).1++ [d]).length)])=qn (cV l).1 x++ [WQ (cg x,(((cV l).1++ [d]).length:Int),make ((cV l).1++ [d]) (cg x) ((cV l).1++ [d]).length)]:=by
  unfold qn
  rw [gd zT.2.1,gd p2];simp
 rw [e1,hl]
 congr 2
end Go.S

end
section
namespace Go.S
abbrev Bs:=List (List UInt8)
abbrev Ws:=List (Int×List UInt8)
def aJ(bl:Bs)(wt:Ws):Bool:=decide (bl.length≤4096)&&decide (wt.length≤1000)&&bl.all (fun b=>b.length==64)&&wt.all (fun x=>decide (0≤x.1)&&decide (x.1<bl.length)&&x.2.length==64)
def vB(bl:Bs)(wt:Ws):Bs:=if aJ bl wt then bl else []
def vW(bl:Bs)(wt:Ws):Ws:=if aJ bl wt then wt else []
def copied(b:List UInt8):List UInt8:=b.take 64++List.replicate (64-b.length) 0
def pH(n:Int):List UInt8:=List.replicate (n.toNat*64) 0
def rG(n:Int):Prop :=0≤n∧n≤4096
def pI(bl:Bs):Prop :=bl.length≤4096∧∀b∈bl,b.length=64
def flat(bl:Bs):List UInt8:=bl.flatten
def uQ(c:Bs)(x:Int×List UInt8):Bs:=c.set x.1.toNat x.2
def nK(wt:Ws)(bl:Bs):Bs:=wt.foldl uQ bl
def kept(keep:List Int)(i:Nat):Nat:=match keep[i]? with
 |some k=>(min (max k 0) 64).toNat
 |none=>0
def sI(keep:List Int)(c:Bs)(x:Nat×Int×List UInt8):Bs:=c.set x.2.1.toNat (x.2.2.take (kept keep x.1)++(c.getD x.2.1.toNat []).drop (kept keep x.1))
def qT(keep:List Int)(wt:Ws)(bl:Bs):Bs:=((List.range wt.length).zip wt).foldl (sI keep) bl
def cont(wt:Ws)(i:Int)(c:List UInt8):List UInt8:=wt.foldl (fun c x=>if x.1=i then x.2 else c) c
def Mh(bl:Bs)(n:Nat):Prop :=n≤bl.length∧∀b∈bl.take n,b.length=64
def Mi(bl:Bs)(wt:Ws)(n:Nat):Prop :=n≤wt.length∧∀x∈wt.take n,0≤x.1∧x.1<bl.length∧x.2.length=64
def uR(a b:Nat):Prop :=a≤b
def fR(bl:Bs)(n:Nat):List UInt8:=(bl.take n).flatten++List.replicate ((bl.length-n)*64) 0
def lN(bl:Bs)(wt:Ws)(n:Nat):List UInt8:=(nK (wt.take n) bl).flatten
def jB(keep:List Int)(bl:Bs)(wt:Ws)(n:Nat):List UInt8:=(qT keep (wt.take n) bl).flatten
def kK(wt:Ws)(n:Nat):Ws:=(wt.take n).map fun x=>(x.1,copied x.2)
def qu(wt:Ws)(i:Int)(c:List UInt8)(n:Nat):List UInt8:=cont (wt.take n) i c
def bN(bl:Bs)(i:Int):List UInt8:=bl.getD i.toNat []
def kL(bl:Bs)(wt:Ws)(i:Int)(b:List UInt8):Int:=if i<0∨(vB bl wt).length≤i∨b.length≠64 then 1 else if 1000≤(vW bl wt).length then 3 else 0
def wB(bl:Bs)(wt:Ws):Bs:=vB bl wt
def wW(bl:Bs)(wt:Ws)(i:Int)(b:List UInt8):Ws:=if kL bl wt i b=0 then vW bl wt++ [(i,b)] else vW bl wt
def gj(bl:Bs)(wt:Ws)(i:Int):Int:=if i<0∨(vB bl wt).length≤i then 1 else 0
def dP(bl:Bs)(wt:Ws)(i:Int):List UInt8:=if gj bl wt i=0 then cont (vW bl wt) i (bN (vB bl wt) i) else []
def sync(bl:Bs)(wt:Ws):Bs:=nK (vW bl wt) (vB bl wt)
def ka(bl:Bs)(wt:Ws)(keep:List Int):Bs:=qT keep (vW bl wt) (vB bl wt)
def nZ(n:Int):Int:=if n<0∨4096<n then 1 else 0
def j1(n:Int):Bs:=if n<0∨4096<n then [] else List.replicate n.toNat (List.replicate 64 0)
theorem kX {b c:Bool}(h:(bif b then true else c)=false):b=false∧c=false :=by cases b<;>simp_all
theorem mJ {b c:Bool}(h:(bif b then true else c)=true):b=true∨c=true :=by cases b<;>simp_all
theorem ct {bl:Bs} {wt:Ws}:aJ bl wt=true↔bl.length≤4096∧wt.length≤1000∧(∀b∈bl,b.length=64)∧(∀x∈wt,0≤x.1∧x.1<bl.length∧x.2.length=64):=by
 simp [aJ,and_assoc]
theorem sJ {bl:Bs} {wt:Ws}(h:¬(bl.length≤4096∧wt.length≤1000∧(∀b∈bl,b.length=64)∧(∀x∈wt,0≤x.1∧x.1<bl.length∧x.2.length=64))):false=aJ bl wt:=by
 cases hr:aJ bl wt with
 |false=>rfl
 |true=>exact absurd (ct.1 hr) h
theorem vR(bl:Bs)(wt:Ws):aJ (vB bl wt) (vW bl wt)=true :=by
 unfold vB vW;cases h:aJ bl wt<;>simp [h];rfl
theorem lO(bl:Bs)(wt:Ws):(vB bl wt).length≤4096:=(ct.1 (vR bl wt)).1
theorem Cy(bl:Bs)(wt:Ws):(vW bl wt).length≤1000:=(ct.1 (vR bl wt)).2.1
theorem kQ(bl:Bs)(wt:Ws):∀b∈vB bl wt,b.length=64:=(ct.1 (vR bl wt)).2.2.1
theorem lP(bl:Bs)(wt:Ws):∀x∈vW bl wt,0≤x.1∧x.1<(vB bl wt).length∧x.2.length=64:=(ct.1 (vR bl wt)).2.2.2
theorem xH {b:List UInt8}(h:b.length=64):copied b=b:=by
 simp [copied,h,List.take_of_length_le]
theorem gv:∀(l:Bs),(∀b∈l,b.length=64)→l.flatten.length=l.length*64
 | [],_=>rfl
 |b::l,h=>by
  have h1:=h b (List.mem_cons_self ..)
  have h2:=gv l fun c hc=>h c (List.mem_cons_of_mem _ hc)
  simp [h1,h2];omega
theorem wV:∀(l:Bs) (n:Nat),(∀b∈l,b.length=64)→(l.flatten).take (n*64)=(l.take n).flatten
 | [],_,_=>by simp
 |b::l,0,_=>by simp
 |b::l,n+1,h=>by
  have h1:=h b (List.mem_cons_self ..)
  have h2:=wV l n fun c hc=>h c (List.mem_cons_of_mem _ hc)
  simp only [List.flatten_cons,List.take_succ_cons,List.take_append,h1]
  rw [show(n+1)*64-64=n*64 by omega,h2,List.take_of_length_le (by omega)]
theorem nh:∀(l:Bs) (n:Nat),(∀b∈l,b.length=64)→(l.flatten).drop (n*64)=(l.drop n).flatten
 | [],_,_=>by simp
 |b::l,0,_=>by simp
 |b::l,n+1,h=>by
  have h1:=h b (List.mem_cons_self ..)
  have h2:=nh l n fun c hc=>h c (List.mem_cons_of_mem _ hc)
  simp only [List.flatten_cons,List.drop_succ_cons,List.drop_append,h1]
  rw [show(n+1)*64-64=n*64 by omega,h2,List.drop_of_length_le (by omega),List.nil_append]
theorem ni(l:Bs)(h:∀b∈l,b.length=64):Vg.gX 64 l.length l.flatten=l:=by
 refine List.ext_getElem (by simp [Vg.gX]) fun i h1 h2=> ?_
 simp only [Vg.gX,List.getElem_map,List.getElem_range]
 rw [nh l i h,List.drop_eq_getElem_cons h2,List.flatten_cons,List.take_append,h _ (List.getElem_mem h2)]
 simp [h _ (List.getElem_mem h2),List.take_of_length_le]
theorem Mj(n:Nat):Vg.gX 64 n (List.replicate (n*64) (0:UInt8))=List.replicate n (List.replicate 64 0):=by
 have :=ni (List.replicate n (List.replicate 64 0)) (by intro b hb;rw [(List.mem_replicate.1 hb).2,List.length_replicate])
 rwa [List.length_replicate,List.flatten_replicate_replicate] at this
theorem oz(l:Bs)(i:Nat)(p:List UInt8)(h:∀b∈l,b.length=64)(hi:i<l.length)(hp:p.length≤64):
  l.flatten.take (i*64)++p++l.flatten.drop (i*64+p.length)=(l.set i (p++(l.getD i []).drop p.length)).flatten:=by
 have oA:=h _ (List.getElem_mem hi)
 rw [wV l i h,←List.drop_drop,nh l i h,List.drop_eq_getElem_cons hi,List.flatten_cons,List.drop_append,oA,show p.length-64=0 by omega,List.drop_zero,
  List.set_eq_take_append_cons_drop,if_pos hi,List.getD,List.getElem?_eq_getElem hi,Option.getD_some,List.flatten_append,List.flatten_cons]
 simp only [List.append_assoc]
theorem Ar:∀(wt:Ws) {bl:Bs},(∀x∈wt,0≤x.1∧x.1<bl.length∧x.2.length=64)→∀(i:Int) (c:List UInt8),c.length=64→(cont wt i c).length=64
 | [],_,_,i,c,hc=>hc
 |x::wt,bl,h,i,c,hc=>by
  have :=Ar wt (bl:=bl) (fun y hy=>h y (List.mem_cons_of_mem _ hy)) i (if x.1=i then x.2 else c) (by split;exact(h x (List.mem_cons_self ..)).2.2;exact hc)
  simpa only [cont,List.foldl_cons] using this
theorem vS:∀(wt:Ws) (bl:Bs),(nK wt bl).length=bl.length
 | [],_=>rfl
 |x::wt,bl=>by
  have :=vS wt (uQ bl x)
  simpa only [nK,List.foldl_cons,uQ,List.length_set] using this
theorem vT:∀(wt:Ws),(∀x∈wt,x.2.length=64)→∀(bl:Bs),(∀b∈bl,b.length=64)→∀b∈nK wt bl,b.length=64
 | [],_,_,h=>h
 |x::wt,hw,bl,h=>by
  have :=vT wt (fun y hy=>hw y (List.mem_cons_of_mem _ hy)) (uQ bl x) (fun b hb=>by
   rcases mem_set hb with rfl|hb
   · exact hw x (List.mem_cons_self ..)
   · exact h b hb)
  simpa only [nK,List.foldl_cons] using this
theorem uS(keep:List Int)(i:Nat):kept keep i≤64:=by
 unfold kept;split<;>omega
theorem B9(wt:Ws)(n:Nat)(h:n<wt.length):(List.range (wt.take (n+1)).length).zip (wt.take (n+1))=(List.range (wt.take n).length).zip (wt.take n)++ [(n,wt.getD n (0,[]))]:=by
 rw [aG wt n (0,[]) h,List.length_append,List.length_take,Nat.min_eq_left (by omega),List.length_singleton,List.range_succ,List.zip_append (by simp;omega)]
 rfl
theorem Mk(keep:List Int)(wt:Ws)(bl:Bs)(n:Nat)(h:n<wt.length):qT keep (wt.take (n+1)) bl=sI keep (qT keep (wt.take n) bl) (n,wt.getD n (0,[])):=by
 simp only [qT,B9 wt n h,List.foldl_append,List.foldl_cons,List.foldl_nil]
theorem sK(keep:List Int)(c:Bs)(x:Nat×Int×List UInt8):(sI keep c x).length=c.length:=by simp [sI]
theorem xI(keep:List Int)(wt:Ws)(bl:Bs):(qT keep wt bl).length=bl.length:=
 z7 (P:=fun c:Bs=>c.length=bl.length) _ _ rfl fun a x _ h=>by rw [sK];exact h
theorem xJ(keep:List Int) {n:Nat}(wt:Ws)(hw:∀x∈wt,0≤x.1∧x.1<(n:Int)∧x.2.length=64)(bl:Bs)(h:∀b∈bl,b.length=64):∀b∈qT keep wt bl,b.length=64:=by
 refine z7 (P:=fun c:Bs=>∀b∈c,b.length=64) _ _ h fun c x hx hc b hb=> ?_
 by_cases hi:x.2.1.toNat<c.length
 · rcases mem_set hb with rfl|hb
   · have h1:=(hw x.2 (List.of_mem_zip hx).2).2.2
     have h2:=uS keep x.1
     have :=hc _ (bo c x.2.1.toNat [] hi)
     simp only [List.length_append,List.length_take,List.length_drop]
     omega
   · exact hc b hb
 · simp only [sI,List.set_eq_of_length_le (Nat.not_lt.1 hi)] at hb
   exact hc b hb
end Go.S
namespace Go.S
def same(a1:Bs)(a2:Ws)(b1:Bs)(b2:Ws):Bool:=decide (a1=b1)&&decide (a2=b2)
def wX(n:Nat):Bs:=List.replicate n (List.replicate 64 0)
end Go.S
namespace Go.S
theorem jC {bl:Bs} {wt:Ws}(h:aJ bl wt=true):vB bl wt=bl:=by simp [vB,h]
theorem pJ {bl:Bs} {wt:Ws}(h:aJ bl wt=true):vW bl wt=wt:=by simp [vW,h]
theorem pK {bl:Bs}(h1:bl.length≤4096)(h2:∀b∈bl,b.length=64):aJ bl []=true :=ct.2 ⟨h1,by simp,h2,by simp⟩
theorem As(bl:Bs)(wt:Ws):(sync bl wt).length=(vB bl wt).length:=vS _ _
theorem EM(bl:Bs)(wt:Ws)(keep:List Int):(ka bl wt keep).length=(vB bl wt).length:=xI _ _ _
theorem BB(bl:Bs)(wt:Ws):aJ (sync bl wt) []=true :=
 pK (by rw [As];exact lO bl wt) (vT _ (fun x hx=>(lP bl wt x hx).2.2) _ (kQ bl wt))
theorem zi(bl:Bs)(wt:Ws)(keep:List Int):aJ (ka bl wt keep) []=true :=
 pK (by rw [EM];exact lO bl wt) (xJ keep _ (fun x hx=>lP bl wt x hx) _ (kQ bl wt))
theorem vU {bl:Bs}(h:aJ bl []=true)(keep:List Int):ka bl [] keep=bl:=by simp [ka,jC h,pJ h,qT]
theorem Au {bl:Bs}(h:aJ bl []=true)(i:Int):gj bl [] i=if i<0∨bl.length≤i then 1 else 0:=by simp only [gj,jC h]
theorem Av {bl:Bs}(h:aJ bl []=true)(i:Int):dP bl [] i=if i<0∨bl.length≤i then [] else bN bl i:=by
 simp only [dP,Au h,jC h,pJ h,cont,List.foldl_nil]
 split<;>simp
theorem pL(bl:Bs)(j i:Int)(b:List UInt8)(hj:0≤j∧j<bl.length)(hi:0≤i∧i<bl.length):bN (bl.set j.toNat b) i=if j=i then b else bN bl i:=by
 simp only [bN,List.getD,List.getElem?_set]
 by_cases h:j=i
 · subst h;simp [show j.toNat<bl.length by omega]
 · have :j.toNat≠i.toNat:=by omega
   simp [h,this]
theorem zj {bl:Bs} {wt:Ws}(h:aJ bl wt=true)(j:Int)(b:List UInt8):aJ bl (wW bl wt j b)=true :=by
 simp only [wW,pJ h]
 by_cases he:kL bl wt j b=0
 · rw [if_pos he]
   simp only [kL,jC h,pJ h] at he
   split at he
   · cases he
   · split at he
     · cases he
     · have hr:=ct.1 h
       refine ct.2 ⟨hr.1,by simp;omega,hr.2.2.1,fun x hx=> ?_⟩
       rcases List.mem_append.1 hx with hx|hx
       · exact hr.2.2.2 x hx
       · simp only [List.mem_singleton] at hx;subst hx
         simp only;omega
 · rw [if_neg he];exact h
end Go.S

end
section
namespace Go.S
def dA(docs:List (List UInt8))(l:List aA)(a b c:Int)(d:List UInt8):eI×Int:=
 if a=0 then bq docs l d else if a=1 then aY docs l else if a=2 then cn docs l b c else if a=3 then(c5 docs l,0) else(ao docs l,1)
def bY(x:eI)(e:db):eI×Int:=dA x.1 x.2 e.1 e.2.1 e.2.2.1 e.2.2.2
def ke(a b c:Int)(d:List UInt8):Bool:=if a=0 then decide ((d.length:Int)≤2000) else if a=2 then !iM b&& !iM c else decide (a=1) || decide (a=3)
def kB(a b c:Int)(d:List UInt8):List UInt8:=num a++(if a=0 then text d else if a=2 then num b++num c else [])
def bV(e:db):List UInt8:=kB e.1 e.2.1 e.2.2.1 e.2.2.2
def ba(a b c:Int)(d:List UInt8):List UInt8×Int:=if ke a b c d then(kB a b c d,0) else([],1)
def gI(e:db):Bool:=ke e.1 e.2.1 e.2.2.1 e.2.2.2
def cm(b:List UInt8)(a e:Int):(Int×Int)×db:=
 if(ag b a e).2=0 then
  (((bj b (ag b a e).1.2.1 (ag b a e).1.2.2 2000).1.2.1,(bj b (ag b a e).1.2.1 (ag b a e).1.2.2 2000).1.2.2),(0,0,0,(bj b (ag b a e).1.2.1 (ag b a e).1.2.2 2000).2))
 else if(ag b a e).2=2 then
  (((ag b (ag b (ag b a e).1.2.1 (ag b a e).1.2.2).1.2.1 (ag b (ag b a e).1.2.1 (ag b a e).1.2.2).1.2.2).1.2.1,
    (ag b (ag b (ag b a e).1.2.1 (ag b a e).1.2.2).1.2.1 (ag b (ag b a e).1.2.1 (ag b a e).1.2.2).1.2.2).1.2.2),
   (2,(ag b (ag b a e).1.2.1 (ag b a e).1.2.2).2,(ag b (ag b (ag b a e).1.2.1 (ag b a e).1.2.2).1.2.1 (ag b (ag b a e).1.2.1 (ag b a e).1.2.2).1.2.2).2,[]))
 else(((ag b a e).1.2.1,(ag b a e).1.2.2),((ag b a e).2,0,0,[]))
def xK(b:List UInt8):Nat→Int→eI→eI×Int
 |0,_,x=>(x,0)
 |f+1,a,x=>if a<b.length then
   (if(cm b a 0).1.2≠0 then(([],[]),2)
   else if(bY x (cm b a 0).2).2≠0 then(([],[]),2)
   else xK b f (cm b a 0).1.1 (bY x (cm b a 0).2).1)
  else(x,0)
def xL(b:List UInt8):eI×Int:=xK b b.length 0 ([],[])
def sY:eI→List db→Option eI
 |x,[]=>some x
 |x,e::r=>if gI e=true∧(bY x e).2=0 then sY (bY x e).1 r else none
theorem EN:∀(l:List db) (x:eI) (e:db),sY x (l++ [e])=match sY x l with
  |some y=>if gI e=true∧(bY y e).2=0 then some (bY y e).1 else none
  |none=>none
 | [],x,e=>rfl
 |f::r,x,e=>by
  simp only [List.cons_append,sY]
  split
  · exact EN r _ e
  · rfl
theorem uU {P R:List UInt8} {v:Int}(h:0≤v)(h1:v≤4611686018427387904):ag (P++(num v++R)) P.length 0=((P++(num v++R),(P.length:Int)+(num v).length,0),v):=by
 have e:(P++(num v++R)).drop ((P.length:Nat):Int).toNat=num v++R:=by rw [Int.toNat_natCast,List.drop_left]
 have hf:=oJ h h1 R
 have :=Xl (b:=P++(num v++R)) (a:=P.length) (Int.natCast_nonneg _) (by simp only [List.length_append];omega) (by rw [e,hf])
 rw [e,hf] at this
 exact this
theorem Xp {P R d:List UInt8}(h:(d.length:Int)≤2000):bj (P++(text d++R)) P.length 0 2000=((P++(text d++R),(P.length:Int)+(text d).length,0),d):=by
 have e0:P++(text d++R)=P++(num d.length++(d++R)):=by simp [text]
 have e:(P++(num d.length++(d++R))).drop ((P.length:Nat):Int).toNat=num d.length++(d++R):=by rw [Int.toNat_natCast,List.drop_left]
 have hf:=oJ (v:=(d.length:Int)) (by omega) (by omega) (d++R)
 have hg:aK (P++(num d.length++(d++R))) P.length=((d.length:Int),(P.length:Int)+(num d.length).length,0):=by
  unfold aK Bg;rw [e,hf];simp
 have hs:=zh (b:=P++(num d.length++(d++R))) (a:=P.length) (Int.natCast_nonneg _) (by simp only [List.length_append];omega)
 have ht:bS (P++(num d.length++(d++R))) P.length 2000=(d,(P.length:Int)+(num d.length).length+d.length,0):=by
  unfold bS
  rw [hg,if_neg (by simp),if_neg (by simp only;omega),if_neg (by simp only [List.length_append];omega)]
  have e1:((P.length:Int)+(num d.length).length+d.length).toNat=(P++(num d.length++d)).length:=by simp only [List.length_append];omega
  have e2:((P.length:Int)+(num d.length).length).toNat=(P++num d.length).length:=by simp only [List.length_append];omega
  simp only [e1,e2]
  have e3:P++(num d.length++(d++R))=(P++(num d.length++d))++R:=by simp
  rw [e3,List.take_left,←List.append_assoc,List.drop_left]
 rw [e0]
 unfold bj
 rw [hs,if_neg (fun q=>q rfl),ht,if_neg (fun q=>q rfl)]
 simp only [text,List.length_append]
 congr 3
 omega
def Xq(e:db):db:=if e.1=0 then(0,0,0,e.2.2.2) else if e.1=2 then(2,e.2.1,e.2.2.1,[]) else(e.1,0,0,[])
theorem aav(x:eI)(e:db):bY x (Xq e)=bY x e:=by
 unfold Xq
 split
 · rename_i h;simp only [bY,dA,h,if_true]
 · split
   · rename_i h;simp only [bY,dA,h];rfl
   · rename_i h1 h2
     simp only [bY,dA,if_neg h1,if_neg h2]
theorem aho {e:db}(h:gI e=true)(P R:List UInt8):cm (P++(bV e++R)) P.length 0=(((P.length:Int)+(bV e).length,0),Xq e):=by
 obtain⟨a,b,c,d⟩:=e
 simp only [gI,ke] at h
 simp only [bV,kB,Xq]
 by_cases h0:a=0
 · subst h0
   simp only [if_true] at h ⊢
   have e1:P++(num 0++text d++R)=P++(num 0++(text d++R)):=by simp
   have r1:=uU (P:=P) (R:=text d++R) (v:=0) (by omega) (by omega)
   have e2:P++(num 0++(text d++R))=(P++num 0)++(text d++R):=by simp
   have r2:=Xp (P:=P++num 0) (R:=R) (of_decide_eq_true h)
   rw [←e2] at r2
   have e3:((P++num 0).length:Int)=(P.length:Int)+(num 0).length:=by simp
   rw [e3] at r2
   unfold cm
   rw [e1]
   simp only [r1,r2,if_true,List.length_append]
   congr 2
   omega
 · by_cases h2:a=2
   · subst h2
     simp only [if_neg h0,if_true,Bool.and_eq_true,Bool.not_eq_true',iM,Bool.or_eq_false_iff,decide_eq_false_iff_not] at h ⊢
     have e1:P++(num 2++(num b++num c)++R)=P++(num 2++(num b++(num c++R))):=by simp
     have r1:=uU (P:=P) (R:=num b++(num c++R)) (v:=2) (by omega) (by omega)
     have e2:P++(num 2++(num b++(num c++R)))=(P++num 2)++(num b++(num c++R)):=by simp
     have r2:=uU (P:=P++num 2) (R:=num c++R) (v:=b) (by omega) (by omega)
     rw [←e2] at r2
     have e3:P++(num 2++(num b++(num c++R)))=(P++num 2++num b)++(num c++R):=by simp
     have r3:=uU (P:=P++num 2++num b) (R:=R) (v:=c) (by omega) (by omega)
     rw [←e3] at r3
     have l1:((P++num 2).length:Int)=(P.length:Int)+(num 2).length:=by simp
     have l2:((P++num 2++num b).length:Int)=(P.length:Int)+(num 2).length+(num b).length:=by rw [List.length_append,List.length_append];omega
     rw [l1] at r2
     rw [l2] at r3
     unfold cm
     rw [e1]
     simp only [r1,r2,r3]
     rw [if_neg (by decide)]
     simp only [List.length_append]
     rw [if_pos trivial]
     congr 2
     omega
   · simp only [if_neg h0,if_neg h2,Bool.or_eq_true,decide_eq_true_eq,List.append_nil] at h ⊢
     have r1:=uU (P:=P) (R:=R) (v:=a) (by omega) (by omega)
     unfold cm
     simp only [r1,if_neg h0,if_neg h2]
theorem P8(e:db):1≤(bV e).length:=by
 have :=yV e.1
 simp only [bV,kB,List.length_append];omega
theorem Xr:∀(es:List db) (P:List UInt8) (x y:eI) (f:Nat),sY x es=some y→es.length≤f→xK (P++es.flatMap bV) f P.length x=(y,0)
 | [],P,x,y,f,h,hf=>by
   simp only [sY,Option.some.injEq] at h
   subst h
   cases f with
   |zero=>rfl
   |succ f=>simp only [xK,List.flatMap_nil,List.append_nil];rw [if_neg (by omega)]
 |e::es,P,x,y,f,h,hf=>by
  simp only [sY] at h
  split at h
  · rename_i hc
    cases f with
    |zero=>simp at hf
    |succ f=>
     have hp:=P8 e
     have he:cm (P++(e::es).flatMap bV) P.length 0=(((P.length:Int)+(bV e).length,0),Xq e):=by rw [List.flatMap_cons];exact aho hc.1 P _
     have hN:=aav x e
     simp only [xK]
     rw [if_pos (by simp only [List.length_append,List.flatMap_cons];omega),he]
     simp only [hN]
     rw [if_neg (fun q=>q rfl),if_neg (fun q=>q hc.2)]
     have :=Xr es (P++bV e) (bY x e).1 y f h (by simpa using hf)
     rw [List.append_assoc,←List.flatMap_cons] at this
     have el:((P++bV e).length:Int)=(P.length:Int)+(bV e).length:=by simp
     rw [el] at this
     exact this
  · cases h
theorem UQ(es:List db):es.length≤(es.flatMap bV).length:=by
 induction es with
 |nil=>exact Nat.le_refl _
 |cons e es ih=>have :=P8 e;simp only [List.length_cons,List.flatMap_cons,List.length_append];omega
theorem aaw {es:List db} {y:eI}(h:sY ([],[]) es=some y):xL (es.flatMap bV)=(y,0):=by
 have :=Xr es [] ([],[]) y (es.flatMap bV).length h (UQ es)
 simpa [xL] using this
theorem BC:∀(es:List db) (x y:eI),aW x.1 x.2=true→sY x es=some y→aW y.1 y.2=true
 | [],x,y,hx,h=>by simp only [sY,Option.some.injEq] at h;rw [←h];exact hx
 |e::es,x,y,hx,h=>by
  simp only [sY] at h
  split at h
  · refine BC es _ y ?_ h
    simp only [bY,dA]
    split
    · exact append_right _ _ _
    · split
      · exact ov _ _
      · split
        · exact merge_right _ _ _ _
        · split
          · exact qP _ _
          · exact iE _ _
  · cases h
def uV(b:List UInt8):Nat:=(b.take 8).foldl (fun v x=>v*256+x.toNat) 0
def rH(n:Int)(i:Nat):UInt8:=UInt8.ofNat (n.toNat/256^(7-i)%256)
def k9(n:Int):List UInt8:=(List.range 8).map (rH n)
def zk(s u:Int):List UInt8:=k9 s++k9 u++List.replicate 16 0
def dQ(s u:Int):List UInt8:=zk s u++zk s u
def eU(b:List UInt8):Int×Bool:=if 4611686018427387904<uV b then(0,false) else((uV b:Int),true)
def cF(b:List UInt8)(m:Int):(Int×Int)×Bool:=
 if(b.length:Int)=64∧(eU b).2=true∧(eU (b.drop 8)).2=true∧(eU (b.drop 8)).1≤m∧b=dQ (eU b).1 (eU (b.drop 8)).1 then(((eU b).1,(eU (b.drop 8)).1),true) else((0,0),false)
theorem la(n:Int):(k9 n).length=8:=by simp [k9]
theorem EO(s u:Int):(zk s u).length=32:=by simp [zk,la]
theorem EP(s u:Int):(dQ s u).length=64:=by simp [dQ,EO]
theorem Hx {n:Int}(h:0≤n)(h1:n≤4611686018427387904)(r:List UInt8):(uV (k9 n++r):Int)=n:=by
 unfold uV
 rw [List.take_append_of_le_length (by rw [la];exact Nat.le_refl _),List.take_of_length_le (by rw [la];exact Nat.le_refl _)]
 have e:k9 n= [rH n 0,rH n 1,rH n 2,rH n 3,rH n 4,rH n 5,rH n 6,rH n 7]:=rfl
 have hb:∀i,(rH n i).toNat=n.toNat/256^(7-i)%256:=fun i=>by
  simp only [rH,UInt8.toNat_ofNat']
  exact Nat.mod_eq_of_lt (Nat.mod_lt _ (by decide))
 rw [e]
 simp only [List.foldl_cons,List.foldl_nil,hb]
 simp only [show 7-0=7 from rfl,show 7-1=6 from rfl,show 7-2=5 from rfl,show 7-3=4 from rfl,show 7-4=3 from rfl,show 7-5=2 from rfl,show 7-6=1 from rfl,show 7-7=0 from rfl]
 omega
theorem Hy {s u m:Int}(h:0≤s)(h1:s≤4611686018427387904)(h2:0≤u)(h3:u≤4611686018427387904)(h4:u≤m):cF (dQ s u) m=((s,u),true):=by
 have e1:dQ s u=k9 s++(k9 u++(List.replicate 16 0++zk s u)):=by simp [dQ,zk]
 have e2:(dQ s u).drop 8=k9 u++(List.replicate 16 0++zk s u):=by rw [e1,List.drop_left' (la s)]
 have v1:=Hx h h1 (k9 u++(List.replicate 16 0++zk s u))
 have v2:=Hx h2 h3 (List.replicate 16 0++zk s u)
 have n1:eU (dQ s u)=(s,true):=by
  unfold eU;rw [e1,if_neg (by omega),v1]
 have n2:eU ((dQ s u).drop 8)=(u,true):=by
  unfold eU;rw [e2,if_neg (by omega),v2]
 unfold cF
 rw [n1,n2,if_pos ⟨by rw [EP];rfl,rfl,rfl,h4,rfl⟩]
theorem OT {b:List UInt8} {m:Int}(h:b.getD 0 0=255)(hl:8≤b.length):(cF b m).2=false :=by
 have :¬(eU b).2=true :=by
  unfold eU
  rw [if_pos]
  · simp
  · match b,hl with
    |b0::b1::b2::b3::b4::b5::b6::b7::r,_=>
     have :b0=255:=h
     subst this
     simp only [uV,List.take_succ_cons,List.take_zero,List.foldl_cons,List.foldl_nil]
     have :(255:UInt8).toNat=255:=rfl
     omega
 unfold cF
 rw [if_neg (fun q=>this q.2.1)]
theorem OU {b:List UInt8} {m:Int}(h:b.getD 63 0=255):(cF b m).2=false :=by
 unfold cF
 rw [if_neg]
 rintro⟨_,_,_,_,q⟩
 rw [q] at h
 have :∀s u,(dQ s u).getD 63 0=0:=fun s u=>by
  have e1:dQ s u=(zk s u++k9 s++k9 u++List.replicate 15 0)++ [0]:=by simp [dQ,zk,List.replicate_succ']
  have hl:(zk s u++k9 s++k9 u++List.replicate 15 (0:UInt8)).length=63:=by simp [EO,la]
  rw [e1,List.getD_eq_getElem?_getD,List.getElem?_append_right (by omega),hl];rfl
 rw [this] at h
 exact absurd h (by decide)
end Go.S

end
section
namespace Go.S
abbrev lj:=Bool×Int×List UInt8
def dG(bl:Bs)(wt:Ws):Int:=((vB bl wt).length-2)*64
def uW(bl:Bs)(wt:Ws)(i:Int)(m:(Int×Int)×Bool):(Int×Int)×Bool:=
 if gj bl wt i≠0 then m
 else if(cF (dP bl wt i) (dG bl wt)).2=true∧(m.2=false∨m.1.1<(cF (dP bl wt i) (dG bl wt)).1.1) then cF (dP bl wt i) (dG bl wt) else m
def fy(bl:Bs)(wt:Ws):(Int×Int)×Bool:=uW bl wt 1 (uW bl wt 0 ((0,0),false))
def uX(bl:Bs)(wt:Ws):List UInt8:=((List.range ((vB bl wt).length-2)).map fun k:Nat=>dP bl wt ((k:Int)+2)).flatten
def aR(bl:Bs)(wt:Ws):((Int×Int)×eI)×Int:=
 if aJ bl wt=false∨bl.length≤2 then(((0,0),([],[])),1)
 else if(fy bl wt).2=false then(((0,0),([],[])),7)
 else if(xL ((uX bl wt).take (fy bl wt).1.2.toNat)).2≠0 then(((0,0),([],[])),2)
 else(((fy bl wt).1,(xL ((uX bl wt).take (fy bl wt).1.2.toNat)).1),0)
def mK(c:List UInt8)(a:Int)(b:List UInt8):List UInt8:=c.take (a%64).toNat++b.take (64-(a%64).toNat)++c.drop ((a%64).toNat+b.length)
def qU(bl:Bs)(wt:Ws):Nat→Int→List UInt8→Ws
 |0,_,_=> []
 |f+1,a,b=>if b= [] then [] else if gj bl wt (2+a/64)≠0 then [] else
   (2+a/64,mK (dP bl wt (2+a/64)) a b)::qU bl wt f (a+(min (64-(a%64).toNat) b.length:Nat)) (b.drop (64-(a%64).toNat))
def dZ(bl:Bs)(wt:Ws)(a:Int)(b:List UInt8):Ws:=qU bl wt b.length a b
def wr(x:Int×List UInt8):lj:=(false,x.1,x.2)
def clean:List UInt8:=List.replicate 64 255
def fi(bl:Bs)(wt:Ws)(s u:Int)(b:List UInt8):List lj:=
 wr ((s+1)%2,clean)::((dZ bl wt u b).map wr++ [(true,0,[]),wr ((s+1)%2,dQ (s+1) (u+b.length)),(true,0,[])])
def bF(bl:Bs)(wt:Ws)(s u:Int)(x:eI)(e:db):(List lj×((Int×Int)×eI))×Int:=
 if s=4611686018427387904 then(([],((0,0),([],[]))),1)
 else if(aR bl wt).2≠0∨(aR bl wt).1.1.1≠s∨(aR bl wt).1.1.2≠u then(([],((0,0),([],[]))),1)
 else if gI e=false then(([],((0,0),([],[]))),1)
 else if(bY x e).2≠0 then(([],((0,0),([],[]))),(bY x e).2)
 else if dG bl wt-u<(bV e).length then(([],((0,0),([],[]))),3)
 else((fi bl wt s u (bV e),((s+1,u+(bV e).length),(bY x e).1)),0)
def eB:List lj→Nat→Bs→Ws→Nat→(Bs×Ws)×Nat
 | [],_,bl,wt,d=>((bl,wt),d)
 |c::r,f,bl,wt,d=>if f≤d then((bl,wt),d)
   else if c.1=true then eB r f (sync bl wt) [] (d+1)
   else if kL bl wt c.2.1 c.2.2≠0 then((bl,wt),d)
   else eB r f (wB bl wt) (wW bl wt c.2.1 c.2.2) (d+1)
def ta(bl:Bs)(wt:Ws)(l:List lj)(f:Int):(Bs×Ws)×Nat:=eB l f.toNat bl wt 0
theorem Hz {keep:List Int} {Q:Int→List UInt8→Prop}:∀(l:List (Nat×Int×List UInt8)) (bl:Bs),
  (∀x∈l,0≤x.2.1∧x.2.1<bl.length)→(∀x∈l,∀c,∀j,j≤64→Q x.2.1 c→Q x.2.1 (x.2.2.take j++c.drop j))→
  (∀i:Int,0≤i→i<bl.length→Q i (bN bl i))→∀i:Int,0≤i→i<bl.length→Q i (bN (l.foldl (sI keep) bl) i)
 | [],bl,_,_,h=>h
 |x::l,bl,hx,hq,h=>by
  have hx0:=hx x (List.mem_cons_self ..)
  have :=Hz (keep:=keep) l (sI keep bl x) (fun y hy=>by rw [sK];exact hx y (List.mem_cons_of_mem _ hy)) (fun y hy=>hq y (List.mem_cons_of_mem _ hy)) (fun i h0 h1=>by
   rw [sK] at h1
   simp only [sI]
   rw [pL bl x.2.1 i _ hx0 ⟨h0,h1⟩]
   split
   · rename_i e;subst e
     exact hq x (List.mem_cons_self ..) _ _ (uS _ _) (h _ h0 h1)
   · exact h i h0 h1)
  rw [sK] at this
  exact this
theorem OV {bl:Bs} {wt:Ws}(hr:aJ bl wt=true) {Q:Int→List UInt8→Prop}(keep:List Int)
  (hq:∀x∈wt,∀c,∀j,j≤64→Q x.1 c→Q x.1 (x.2.take j++c.drop j)) (h:∀i:Int,0≤i→i<bl.length→Q i (bN bl i)):
  ∀i:Int,0≤i→i<bl.length→Q i (bN (ka bl wt keep) i):=by
 simp only [ka,jC hr,pJ hr,qT]
 refine Hz _ bl (fun x hx=> ?_) (fun x hx=>hq x.2 (List.of_mem_zip hx).2) h
 have :=(ct.1 hr).2.2.2 _ (List.of_mem_zip hx).2
 exact⟨this.1,this.2.1⟩
theorem Ml {Q:Int→List UInt8→Prop}:∀(l:Ws) (bl:Bs),
  (∀x∈l,0≤x.1∧x.1<bl.length)→(∀x∈l,Q x.1 x.2)→
  (∀i:Int,0≤i→i<bl.length→Q i (bN bl i))→∀i:Int,0≤i→i<bl.length→Q i (bN (nK l bl) i)
 | [],bl,_,_,h=>h
 |x::l,bl,hx,hq,h=>by
  have hx0:=hx x (List.mem_cons_self ..)
  have e:(uQ bl x).length=bl.length:=by simp [uQ]
  have :=Ml l (uQ bl x) (fun y hy=>by rw [e];exact hx y (List.mem_cons_of_mem _ hy)) (fun y hy=>hq y (List.mem_cons_of_mem _ hy)) (fun i h0 h1=>by
   rw [e] at h1
   simp only [uQ]
   rw [pL bl x.1 i _ hx0 ⟨h0,h1⟩]
   split
   · rename_i e;subst e
     exact hq x (List.mem_cons_self ..)
   · exact h i h0 h1)
  rw [e] at this
  simpa only [nK,List.foldl_cons] using this
def dR(bl:Bs):Int:=((bl.length:Int)-2)*64
structure K (bl:Bs) (s u:Int) (x:eI):Prop where
 right :aJ bl []=true
 three:3≤bl.length
 s0:0≤s
 u0:0≤u
 um:u≤dR bl
 Lg:cF (bN bl (s%2)) (dR bl)=((s,u),true)
 other:(cF (bN bl ((s+1)%2)) (dR bl)).2=false∨(cF (bN bl ((s+1)%2)) (dR bl)).1.1<s∨s=0∧(cF (bN bl ((s+1)%2)) (dR bl)).1.1=0
 log:∃es,(bl.drop 2).flatten.take u.toNat=es.flatMap bV∧sY ([],[]) es=some x
theorem ER {bl:Bs}(h:aJ bl []=true):dG bl []=dR bl:=by simp only [dG,dR,jC h]
theorem UR {bl:Bs}(h:aJ bl []=true):uX bl []=(bl.drop 2).flatten:=by
 unfold uX
 rw [jC h]
 congr 1
 refine List.ext_getElem (by simp) fun i h1 h2=> ?_
 simp only [List.length_map,List.length_range] at h1
 simp only [List.getElem_map,List.getElem_range,List.getElem_drop]
 rw [Av h,if_neg (by omega),bN,List.getD_eq_getElem?_getD,List.getElem?_eq_getElem (by omega)]
 simp only [Option.getD_some,show((i:Int)+2).toNat=2+i by omega]
theorem K.cur {bl:Bs} {s u:Int} {x:eI}(k:K bl s u x):fy bl []=((s,u),true):=by
 have h3:=k.three
 have e:∀i:Int,0≤i→i<2→∀m,uW bl [] i m=if(cF (bN bl i) (dR bl)).2=true∧(m.2=false∨m.1.1<(cF (bN bl i) (dR bl)).1.1) then cF (bN bl i) (dR bl) else m:=fun i h0 h1 m=>by
  have r:dP bl [] i=bN bl i:=by rw [Av k.right,if_neg (by omega)]
  have q:gj bl [] i=0:=by rw [Au k.right,if_neg (by omega)]
  unfold uW
  rw [q,r,ER k.right,if_neg (fun w=>w rfl)]
 unfold fy
 rw [e 1 (by omega) (by omega),e 0 (by omega) (by omega)]
 have hg:=k.Lg
 have ho:=k.other
 have hs:=k.s0
 rcases(by omega :s%2=0∨s%2=1) with h|h
 · have h':(s+1)%2=1:=by omega
   rw [h] at hg
   rw [h'] at ho
   rw [hg]
   simp only [true_and,true_or,if_true]
   rw [if_neg]
   rintro⟨q1,q2⟩
   rcases ho with ho|ho|ho
   · rw [ho] at q1;cases q1
   · rcases q2 with q2|q2
     · cases q2
     · omega
   · rcases q2 with q2|q2
     · cases q2
     · omega
 · have h':(s+1)%2=0:=by omega
   rw [h] at hg
   rw [h'] at ho
   rw [hg]
   rw [if_pos]
   refine⟨rfl,?_⟩
   split
   · rename_i q
     rcases ho with ho|ho|ho
     · rw [ho] at q;exact absurd q.1 (by decide)
     · exact .inr ho
     · omega
   · exact .inl rfl
theorem K.opens {bl:Bs} {s u:Int} {x:eI}(k:K bl s u x):aR bl []=(((s,u),x),0):=by
 obtain⟨es,h1,h2⟩:=k.log
 have h3:=k.three
 unfold aR
 rw [k.cur,UR k.right,if_neg (by rw [k.right];simp;omega),if_neg (by simp)]
 simp only
 rw [h1,aaw h2,if_neg (by simp)]
theorem K.zl {bl:Bs} {s u:Int} {x:eI}(k:K bl s u x):aW x.1 x.2=true :=by
 obtain⟨es,h1,h2⟩:=k.log
 exact BC es _ _ rfl h2
theorem K.aZ {bl:Bs} {s u:Int} {x:eI}(k:K bl s u x):(0≤s%2∧s%2<bl.length)∧(0≤(s+1)%2∧(s+1)%2<bl.length)∧s%2≠(s+1)%2∧s%2<2∧(s+1)%2<2:=by
 have :=k.three
 omega
theorem K.Xs {bl gq:Bs} {s u:Int} {x:eI}(k:K bl s u x)(hr:aJ gq []=true)(hl:gq.length=bl.length)(h1:bN gq (s%2)=bN bl (s%2))
  (h2:bN gq ((s+1)%2)=bN bl ((s+1)%2)∨(bN gq ((s+1)%2)).getD 0 0=255∨(bN gq ((s+1)%2)).getD 63 0=255)
  (h3:(gq.drop 2).flatten.take u.toNat=(bl.drop 2).flatten.take u.toNat):K gq s u x:=by
 have er:dR gq=dR bl:=by unfold dR;rw [hl]
 have oA:8≤(bN gq ((s+1)%2)).length:=by
  have :=(ct.1 hr).2.2.1 _ (bo gq ((s+1)%2).toNat [] (by have :=k.aZ;omega))
  unfold bN;omega
 refine⟨hr,by rw [hl];exact k.three,k.s0,k.u0,by rw [er];exact k.um,by rw [er,h1];exact k.Lg,?_,?_⟩
 · rw [er]
   rcases h2 with h2|h2|h2
   · rw [h2];exact k.other
   · exact .inl (OT h2 oA)
   · exact .inl (OU h2)
 · obtain⟨es,e1,e2⟩:=k.log
   exact⟨es,by rw [h3];exact e1,e2⟩
theorem K.next {bl gq:Bs} {s u:Int} {x:eI}(k:K bl s u x) {e:db}(he:gI e=true)(hh:(bY x e).2=0)(hs:s<4611686018427387904)(hr:aJ gq []=true)(hl:gq.length=bl.length)
  (h1:bN gq (s%2)=bN bl (s%2)) (h2:bN gq ((s+1)%2)=dQ (s+1) (u+(bV e).length)) (hm:u+(bV e).length≤dR bl)
  (h3:(gq.drop 2).flatten.take (u.toNat+(bV e).length)=(bl.drop 2).flatten.take u.toNat++bV e):K gq (s+1) (u+(bV e).length) (bY x e).1:=by
 have er:dR gq=dR bl:=by unfold dR;rw [hl]
 have TN:=k.s0
 have hu0:=k.u0
 have tC:dR bl≤4094*64:=by
  have :=(ct.1 k.right).1
  unfold dR;omega
 refine⟨hr,by rw [hl];exact k.three,by omega,by omega,by rw [er];exact hm,?_,?_,?_⟩
 · rw [er,h2];exact Hy (by omega) (by omega) (by omega) (by omega) hm
 · have e2:(s+1+1)%2=s%2:=by omega
   rw [er,e2,h1,k.Lg]
   exact .inr (.inl (by simp only;omega))
 · obtain⟨es,e1,e2⟩:=k.log
   refine⟨es++ [e],?_,?_⟩
   · have :(u+((bV e).length:Int)).toNat=u.toNat+(bV e).length:=by omega
     rw [this,h3,e1];simp
   · rw [EN,e2];simp only;rw [if_pos ⟨he,hh⟩]
end Go.S

end
