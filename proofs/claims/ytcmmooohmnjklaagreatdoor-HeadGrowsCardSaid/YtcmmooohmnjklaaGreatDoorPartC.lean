import Derived.Test.YtcmmooohmnjklaaGreatDoorPartB
set_option linter.unusedVariables false
set_option linter.unusedSimpArgs false
section
namespace Go.Vg
open Go
def St.we(G:Nat→Option GD)(n:Nat)(cd:List AV)(hs:List AB):St:=
 {St.init G n cd with h:=fun k=>bif Nat.ble 50000 k&&Nat.blt k 60000 then hs[k-50000]? else none}
def ra:AB→Bool
 | .row _ _ _ true=>false
 |_=>true
def kindOk:AB→Bool
 | .row _ _ _ false=>true
 | .cells _=>true
 | .arr _ _=>true
 |_=>false
def Ts:Option AB→Bool
 |some b=>kindOk b
 |none=>true
def LH(r:fe)(k:Nat):Bool:=mW k&&(match r.heap[k-50000]? with
 |some (some _)=>true
 |_=>false)
def gF(r:fe)(k:Nat):Bool:= !(LH r k)
def od(st:St)(k n e:Nat)(row:List Ty)(l:List (Row row)):St:=
 {st with
  t:=fun i=>de 70000 (st.t i)
  h:=fun j=>bif Nat.beq j 70000 then some (.row e row (l.take n) false) else bif Nat.beq j k then none else match st.h j with
   |some b=>some (lP 70000 b)
   |none=>none}
def oe(st:St)(x:AV):St×AV:=match x with
 | .pre k n=>match st.h k with
   |some (.row e row l false)=>(od st k n e row l, .own 70000)
   |_=>(st,x)
 |_=>(st,x)
mutual
def rb(h:aQ)(s:List (Nat×Option Nat))(bad:Nat→Bool):AV→AV→List Prop×List Nat
 | .sl r l, .own k=>vV h r l k
 | .agg xs, .agg ys=>jX h s bad xs ys
 | .dc xs, .dc ys=>jX h s bad xs ys
 | .own i,y=>(Bt s bad y (.own i),[])
 |x,y=>(Bt s bad (eT h y).1 x,(eT h y).2)
def jX(h:aQ)(s:List (Nat×Option Nat))(bad:Nat→Bool):List AV→List AV→List Prop×List Nat
 | [],[]=>([],[])
 |x::xs,y::ys=>((rb h s bad x y).1++(jX h s bad xs ys).1,(rb h s bad x y).2++(jX h s bad xs ys).2)
 |_,_=>([False],[])
end
def pe(h:aQ)(s:List (Nat×Option Nat))(bad:Nat→Bool):Option AB→AB→List Prop×List Nat
 |some (.cells xs), .cells ys=>jX h s bad ys xs
 |o,b=>(Bu s bad o b,[])
def ix(h:aQ)(s:List (Nat×Option Nat))(bad:Nat→Bool):Nat→List (Option AB)→List Prop×List Nat
 |_,[]=>([],[])
 |i,some b::bs=>((pe h s bad (h (50000+i)) b).1++(ix h s bad (i+1) bs).1,(pe h s bad (h (50000+i)) b).2++(ix h s bad (i+1) bs).2)
 |i,none::bs=>ix h s bad (i+1) bs
def rM(h:aQ)(s:List (Nat×Option Nat))(bad:Nat→Bool)(K:Nat)(b:AB):List Prop×List Nat:=match bN s K with
 |some (some k)=>pe h s bad (h k) b
 |some none=>match b with
  | .row _ _ l false=>([[]=l],[])
  |_=>([False],[])
 |none=>([False],[])
def og(h:aQ)(s:List (Nat×Option Nat))(bad:Nat→Bool):Nat→List AB→List Prop×List Nat
 |_,[]=>([],[])
 |j,b::bs=>((rM h s bad (60000+j) b).1++(og h s bad (j+1) bs).1,(rM h s bad (60000+j) b).2++(og h s bad (j+1) bs).2)
def B1(h:aQ):Nat→List (Option AB)→List (Nat×Option Nat)
 |_,[]=> []
 |i,some (.cells ys)::bs=>(match h (50000+i) with
  |some (.cells xs)=>nW ys xs
  |_=> [])++B1 h (i+1) bs
 |i,_::bs=>B1 h (i+1) bs
def HG(h:aQ)(s:List (Nat×Option Nat)):Nat→List AB→List (Nat×Option Nat)
 |_,[]=> []
 |j, .cells ys::bs=>(match bN s (60000+j) with
  |some (some k)=>match h k with
   |some (.cells xs)=>nW ys xs
   |_=> []
  |_=> [])++HG h s (j+1) bs
 |j,_::bs=>HG h s (j+1) bs
def xx(acc:List (Nat×Option Nat)):List (Nat×Option Nat)→List (Nat×Option Nat)
 | []=>acc
 |(k,x)::r=>bif Nat.ble 60000 k&&(match bN acc k with|none=>true|some _=>false) then xx ((k,x)::acc) r else xx acc r
def afN(h:aQ)(x:AV)(r:fe):List (Nat×Option Nat):=xx [] (Ax r.res x++B1 h 0 r.heap)
def ad6(h:aQ)(r:fe)(s:List (Nat×Option Nat)):List (Nat×Option Nat):=xx s (HG h s 0 r.new)
def anB(h:aQ)(x:AV)(r:fe):List (Nat×Option Nat):=ad6 h r (ad6 h r (afN h x r))
def B2(h:aQ)(s:List (Nat×Option Nat))(x:AV)(r:fe):List Nat:=(rb h s (gF r) r.res x).2++((ix h s (gF r) 0 r.heap).2++(og h s (gF r) 0 r.new).2)
def HH(h:aQ)(x:AV)(r:fe)(s:List (Nat×Option Nat)):Prop :=
 bif gn (cY s)&&(((cY s).all (gF r))&&((s.all fun y=>Nat.ble 60000 y.1)&&(((B2 h s x r).all fun k=> !aG (cY s) k&&gF r k)&&(r.new.all kindOk&&r.heap.all Ts)))) then
  zh ((rb h s (gF r) r.res x).1++((ix h s (gF r) 0 r.heap).1++(og h s (gF r) 0 r.new).1)) else False
def B3(T:b9)(st:St)(rs:List ResultVar)(r:fe):Prop :=match jm T st rs with
 |none=>False
 |some aH=>HH (oe st (eB aH)).1.h (oe st (eB aH)).2 r (anB (oe st (eB aH)).1.h (oe st (eB aH)).2 r)
def İ(T:b9)(rs:List ResultVar)(r:fe)(e:Ex)(st:St):Prop :=match e with
 | .norm=>B3 T st rs r
 | .ret=>B3 T st rs r
 |_=>False
def LI(E:Env)(L:Nat→Option al)(c:Code)(n:Nat)(rs:List ResultVar)(cd:List AV)(hs:List AB)(r:fe):Prop :=
 bif Nat.ble cd.length n then kO E L c (İ E.T rs r) (St.we E.kD n cd hs) else False
section
variable {P:Program} {C:Ctx} {E:Env} {A A':Nat→Prop} {β aJ:Nat→Value} {st:St} {a:Act} {w:World} {T:b9}
theorem B4 {G:Nat→Option GD} {n:Nat} {cd:List AV} {hs:List AB} {k:Nat} {ab:AB}(h:(St.we G n cd hs).h k=some ab):∃i,k=50000+i∧hs[i]? =some ab:=by
 simp only [St.we] at h
 cases hb:(Nat.ble 50000 k&&Nat.blt k 60000) with
 |false=>rw [hb] at h;cases h
 |true=>
  rw [hb] at h
  simp only [Bool.and_eq_true] at hb
  have :=Nat.le_of_ble_eq_true hb.1
  exact⟨k-50000,by omega,h⟩
theorem aE.we {G:Nat→Option GD} {args:List Value} {cd:List AV} {hs:List AB} {n:Nat}(hA:∀b,A b→b<w.heap.size)(hG:∀i d,G i=some d→mH w A i d)(hr:ai w A β args cd)(hn:cd.length≤n)
  (fm:∀i ab,hs[i]? =some ab→BR w A β (50000+i) ab) (Ag:∀i j b,i<hs.length→j<hs.length→ax (β (50000+i))=some b→ax (β (50000+j))=some b→i=j):
  aE ⟨w,A,HM β hs.length,G,β⟩ A β (St.we G n cd hs) {tmps:=args.toArray++Array.replicate (n-args.toArray.size) undef,defers:= []} w:=by
 have hI:=aE.init (β:=β) (G:=G) (n:=n) hA hG hr hn
 have hk:∀k,((St.we G n cd hs).h k).isSome→∃i,k=50000+i∧i<hs.length:=by
  intro k hk
  obtain⟨ab,eV⟩:=Option.isSome_iff_exists.1 hk
  obtain⟨i,h1,h2⟩:=B4 eV
  exact⟨i,h1,(List.getElem?_eq_some_iff.1 h2).1⟩
 refine⟨hI.defers,hI.size,hI.tmps,fun k ab h=> ?_,fun k k' b h h' hb bu=> ?_,hI.bound,⟨rfl,rfl,rfl,Nat.le_refl _,fun b _ _=>rfl⟩,fun b _ h=> .inl h,fun b h=>h,fun k b h hb=> ?_,fun i d h=>h,hG,fun k _=>rfl⟩
 · obtain⟨i,rfl,h2⟩:=B4 h
   exact fm i ab h2
 · obtain⟨i,rfl,h1⟩:=hk k h
   obtain⟨j,rfl,h2⟩:=hk k' h'
   rw [Ag i j b h1 h2 hb bu]
 · obtain⟨i,rfl,h1⟩:=hk k h
   exact .inr ⟨i,h1,hb⟩
theorem Tt {hs:List AB}(hnf:∀ab∈hs,ra ab=true)(fm:∀i ab,hs[i]? =some ab→BR w A β (50000+i) ab):∀b,HM β hs.length b→¬A b:=by
 rintro b ⟨i,hi,hb⟩
 have hg:=List.getElem?_eq_getElem hi
 have h:=fm i _ hg
 have hn:=hnf _ (List.getElem_mem hi)
 generalize hs[i]=ab at h hn
 cases ab with
 |cells cs=>
  obtain⟨b',arr,e,h1,h2,h3,_⟩:=h
  rw [h1] at hb;simp only [ax,Option.some.injEq] at hb;subst hb;exact h3
 |arr row l=>
  obtain⟨b',arr,e,h1,h2,h3,_⟩:=h
  rw [h1] at hb;simp only [ax,Option.some.injEq] at hb;subst hb;exact h3
 |views e j n m sz=>
  obtain⟨xs,h1,h2,_⟩:=h
  exact h2 b hb
 |row e row l fr=>
  obtain⟨xs,h1,h2,h3⟩:=h
  cases fr with
  |true=>simp [ra] at hn
  |false=>simpa using h3 b hb
 |fZ e j row l i=>
  obtain⟨xs,v0,h1,h2,_⟩:=h
  exact h2 b hb
theorem aE.shrink(hB:aE C A β st a w) {k n e:Nat} {row:List Ty} {l:List (Row row)} {v:Value}(hk:st.h k=some (.row e row l false))(hv:ae w A β v (.pre k n)):
  aE C A (bx β 70000 v) (od st k n e row l) a w∧ae w A (bx β 70000 v) v (.own 70000):=by
 obtain⟨xs,o1,o2,o3⟩:=A6 hB hk
 have vM:=dq l xs n o2
 have fj:w.ownsRow 0 e row.length v n (xs.take (n*row.length))∧n≤l.length∧ax v=ax (β k):=by
  simp only [ae] at hv
  rcases hv with⟨h1,h2,h3⟩|⟨b,mm,cap,h1,h2,h3⟩
  · subst h3;subst h2;rw [h1]
    exact⟨by simpa using World.ownsRow_nil w 0 e row.length,by omega,rfl⟩
  · rcases o1.2 with⟨g1,_⟩|⟨g,gx,cur,g1,g2,g3,g4,g5,g6,g7⟩
    · rw [h1] at g1;cases g1
    · rw [h1] at g1
      simp only [Value.slice.injEq,Option.some.injEq,Addr.mk.injEq,and_true] at g1
      obtain⟨rfl,rfl,rfl⟩:=g1
      refine⟨⟨?_, .inr ⟨b,cap,cur,h2,by omega,g3,by omega,g5,g6,?_⟩⟩,h3,by rw [h1,h2];rfl⟩
      · rw [List.length_take,o1.1]
        exact Nat.min_eq_left (Nat.mul_le_mul_right _ h3)
      · rw [←g7,List.take_take,Nat.min_eq_left (Nat.mul_le_mul_right _ h3)]
 obtain⟨fj,SP,SQ⟩:=fj
 have gi:v.oneCell'=true :=by
  simp only [ae] at hv
  rcases hv with⟨_,h2,_⟩|⟨b,mm,cap,_,h2,_⟩<;>subst h2<;>rfl
 have hs:∀j,((od st k n e row l).h j).isSome→(j=70000∧bx β 70000 v j=v)∨(j≠70000∧j≠k∧(st.h j).isSome∧bx β 70000 v j=β j):=by
  intro j hj
  by_cases h7:j=70000
  · subst h7;exact .inl ⟨rfl,by simp [bx]⟩
  · simp only [od,aP h7,cond_false] at hj
    by_cases w7:j=k
    · subst w7;simp [bD] at hj
    · rw [aP w7] at hj
      refine .inr ⟨h7,w7,?_,by simp [bx,h7]⟩
      cases hh:st.h j with
      |none=>rw [hh] at hj;cases hj
      |some x=>rfl
 have Q4:∀j b,((od st k n e row l).h j).isSome→ax (bx β 70000 v j)=some b→∃j',(st.h j').isSome∧ax (β j')=some b∧((j=70000∧j'=k)∨(j≠70000∧j'=j∧j≠k)):=by
  intro j b hj hb
  rcases hs j hj with⟨h1,h2⟩|⟨h1,h2,h3,h4⟩
  · rw [h2,SQ] at hb;exact⟨k,by simp [hk],hb, .inl ⟨h1,rfl⟩⟩
  · rw [h4] at hb;exact⟨j,h3,hb, .inr ⟨h1,rfl,h2⟩⟩
 refine⟨⟨hB.defers,hB.size,fun i=>qC 70000 v _ _ (hB.tmps i),fun j ab hj=> ?_,fun j j' b h1 h2 g1 g2=> ?_,hB.bound,hB.frame,hB.old,hB.base,fun j b h1 g1=> ?_,hB.pA,hB.laid,fun j hj=> ?_⟩,?_⟩
 · by_cases h7:j=70000
   · subst h7
     simp only [od,bD,cond_true,Option.some.injEq] at hj
     subst hj
     have e1:bx β 70000 v 70000=v:=by simp [bx]
     simp only [BR,e1]
     refine⟨_,?_,vM.1,fun b hb=> ?_⟩
     · rw [List.length_take,Nat.min_eq_left SP];exact fj
     · rw [SQ] at hb;simpa using o3 b hb
   · simp only [od,aP h7,cond_false] at hj
     by_cases w7:j=k
     · subst w7;simp [bD] at hj
     · rw [aP w7] at hj
       cases hh:st.h j with
       |none=>rw [hh] at hj;cases hj
       |some x=>
        rw [hh] at hj
        simp only [cond_false,Option.some.injEq] at hj
        subst hj
        exact r9 (new:= [(70000, .cells [])]) (w':=w) (A':=A) (aJ:=bx β 70000 v) (fun q hq=>by
         have :¬q=70000:=by rintro rfl;simp [ar] at hq
         simp [bx,this]) (by simp [bx,h7]) (fun b _=>⟨rfl,id⟩) (fun b hb=>⟨hb,rfl⟩) (hB.blocks j x hh)
 · obtain⟨i,a1,a2,a3⟩:=Q4 j b h1 g1
   obtain⟨i',b1,b2,b3⟩:=Q4 j' b h2 g2
   have :=hB.apart i i' b a1 b1 a2 b2
   subst this
   rcases a3 with⟨p1,p2⟩|⟨p1,p2,p3⟩<;>rcases b3 with⟨q1,q2⟩|⟨q1,q2,q3⟩
   · rw [p1,q1]
   · exact absurd (q2.symm.trans p2) q3
   · exact absurd (p2.symm.trans q2) p3
   · exact p2.symm.trans q2
 · obtain⟨i,a1,a2,_⟩:=Q4 j b h1 g1
   exact hB.mh i b a1 a2
 · have :¬j=70000:=by rintro rfl;simp [mW] at hj
   simp only [bx,if_neg this]
   exact hB.held j hj
 · simp only [ae]
   exact⟨by simp [bx],gi⟩
theorem HI(hB:aE C A β st a w) {x:AV} {v:Value}(hv:ae w A β v x):∃aJ,aE C A aJ (oe st x).1 a w∧ae w A aJ v (oe st x).2:=by
 unfold oe
 split
 · rename_i k n
   split
   · rename_i e row l hk
     obtain⟨h1,h2⟩:=hB.shrink hk hv
     exact⟨_,h1,h2⟩
   · exact⟨β,hB,hv⟩
 · exact⟨β,hB,hv⟩
mutual
theorem re(hB:aE C A β st a w) {s:List (Nat×Option Nat)} {bad:Nat→Bool}(hA:∀b,A b→A' b)(hK:Keyed bad s β aJ):∀(x y:AV) (v:Value),
  (∀p∈(rb st.h s bad x y).1,p)→(∀k∈(rb st.h s bad x y).2,∀b,ax (β k)=some b→A' b)→ae w A β v y→ae w A' aJ v x∧∀k∈(rb st.h s bad x y).2,(st.h k).isSome
 |x,y,v,h,hF,hr=>by
  generalize he:rb st.h s bad x y=r at h hF ⊢
  unfold rb at he
  split at he
  · rename_i r0 l0 k
    subst he
    exact xt hB hA r0 l0 k v h hF hr
  · rename_i xs ys
    subst he
    simp only [ae] at hr ⊢
    obtain⟨arr,e1,e2⟩:=hr
    obtain⟨g1,g2⟩:=jO hB hA hK xs ys _ h hF e2
    exact⟨⟨arr,e1,g1⟩,g2⟩
  · rename_i xs ys
    subst he
    simp only [ae] at hr ⊢
    obtain⟨arr,e1,e2⟩:=hr
    obtain⟨g1,g2⟩:=jO hB hA hK xs ys _ h hF e2
    exact⟨⟨arr,e1,g1⟩,g2⟩
  · subst he
    exact⟨gP (fun b hb=>⟨hA b hb,rfl⟩) _ _ (lF hK _ _ _ h hr),fun k hk=>by cases hk⟩
  · subst he
    obtain⟨g1,g2⟩:=nz hB hr hA hF
    exact⟨lF hK _ _ _ h g1,fun k hk=>by obtain⟨e,row,l,fr,hr⟩:=g2 k hk;simp [hr]⟩
theorem jO(hB:aE C A β st a w) {s:List (Nat×Option Nat)} {bad:Nat→Bool}(hA:∀b,A b→A' b)(hK:Keyed bad s β aJ):∀(xs ys:List AV) (vs:List Value),
  (∀p∈(jX st.h s bad xs ys).1,p)→(∀k∈(jX st.h s bad xs ys).2,∀b,ax (β k)=some b→A' b)→ai w A β vs ys→ai w A' aJ vs xs∧∀k∈(jX st.h s bad xs ys).2,(st.h k).isSome
 | [],[],vs,_,_,hr=>by
   simp only [ai] at hr ⊢
   exact⟨hr,fun k hk=>by simp [jX] at hk⟩
 |x::xs,y::ys,vs,h,hF,hr=>by
  simp only [jX] at h hF ⊢
  obtain⟨g1,g2⟩:=gX h
  simp only [ai] at hr ⊢
  obtain⟨v,bX,e,r1,r2⟩:=hr
  obtain⟨q1,q2⟩:=re hB hA hK x y v g1 (fun k hk=>hF k (List.mem_append_left _ hk)) r1
  obtain⟨q3,q4⟩:=jO hB hA hK xs ys bX g2 (fun k hk=>hF k (List.mem_append_right _ hk)) r2
  refine⟨⟨v,bX,e,q1,q3⟩,fun k hk=> ?_⟩
  rcases List.mem_append.1 hk with hk|hk
  · exact q2 k hk
  · exact q4 k hk
 | [],_::_,vs,h,_,_=>by simp only [jX] at h;exact(aV h).elim
 |_::_,[],vs,h,_,_=>by simp only [jX] at h;exact(aV h).elim
end
theorem afP {k:Nat} {b:AB}(hA:∀b,A b→A' b)(hk:kindOk b=true)(vJ:∀g,ax (β k)=some g→¬A g→¬A' g)(h:BR w A β k b):BR w A' β k b:=by
 have hK:cy w w A A':=fun b hb=>⟨hA b hb,rfl⟩
 cases b with
 |cells cs=>
  obtain⟨g,arr,e,h1,h2,h3,h4,h5⟩:=h
  exact⟨g,arr,e,h1,h2,vJ g (by rw [h1];rfl) h3,eY hK _ _ h4,h5⟩
 |arr row l=>
  obtain⟨g,arr,e,h1,h2,h3,h4⟩:=h
  exact⟨g,arr,e,h1,h2,vJ g (by rw [h1];rfl) h3,br (fun c x hx=>bt hK row c x hx) l _ h4⟩
 |views e j n m sz=>simp [kindOk] at hk
 |fZ _ _ _ _ _=>simp [kindOk] at hk
 |row e row l fr=>
  cases fr with
  |true=>simp [kindOk] at hk
  |false=>
   obtain⟨xs,x1,x2,x3⟩:=h
   refine⟨xs,x1,br (fun c x hx=>bt hK row c x hx) l xs x2,fun b hb=> ?_⟩
   have :=x3 b hb
   simp only [Bool.false_eq_true,if_false] at this ⊢
   exact vJ b hb this
theorem zC(hB:aE C A β st a w) {s:List (Nat×Option Nat)} {bad:Nat→Bool}(hA:∀b,A b→A' b)(hK:Keyed bad s β aJ) {k K:Nat} {b:AB}(hk:aJ K=β k)(B5:kindOk b=true)
  (h:∀p∈(pe st.h s bad (st.h k) b).1,p) (hF:∀q∈(pe st.h s bad (st.h k) b).2,∀g,ax (β q)=some g→A' g) (vJ:∀g,ax (β k)=some g→¬A g→¬A' g):BR w A' aJ K b:=by
 generalize he:pe st.h s bad (st.h k) b=r at h hF
 unfold pe at he
 split at he
 · rename_i xs ys kI
   subst he
   obtain⟨g,arr,e,h1,h2,h3,h4,h5⟩:=hB.blocks k _ kI
   obtain⟨q1,_⟩:=jO hB hA hK ys xs _ h hF h4
   exact⟨g,arr,e,hk.trans h1,h2,vJ g (by rw [h1];rfl) h3,q1,h5⟩
 · subst he
   obtain⟨c,hc⟩:=qb h
   rw [hc] at h
   exact afP hA B5 (by rw [hk];exact vJ) (qU hK hk h (hB.blocks k c hc))
theorem rf(hB:aE C A β st a w) {s:List (Nat×Option Nat)} {bad:Nat→Bool}(hK:Keyed bad s β aJ) {k:Nat} {b:AB}
  (h:∀p∈(pe st.h s bad (st.h k) b).1,p):(st.h k).isSome∧∀q∈(pe st.h s bad (st.h k) b).2,(st.h q).isSome:=by
 generalize he:pe st.h s bad (st.h k) b=r at h ⊢
 unfold pe at he
 split at he
 · rename_i xs ys kI
   subst he
   obtain⟨g,arr,e,h1,h2,h3,h4,h5⟩:=hB.blocks k _ kI
   exact⟨by simp [kI],(jO (A':=fun _=>True) hB (fun _ _=>trivial) hK ys xs _ h (fun _ _ _ _=>trivial) h4).2⟩
 · subst he
   obtain⟨c,hc⟩:=qb h
   exact⟨by simp [hc],fun q hq=>by cases hq⟩
theorem afQ {h:aQ} {s:List (Nat×Option Nat)} {bad:Nat→Bool}:∀(bs:List (Option AB)) (i j:Nat) (b:AB),bs[j]? =some (some b)→
  (∀p∈(pe h s bad (h (50000+(i+j))) b).1,p∈(ix h s bad i bs).1)∧∀p∈(pe h s bad (h (50000+(i+j))) b).2,p∈(ix h s bad i bs).2
 |some b0::bs,i,0,b,hb=>by
  simp only [List.getElem?_cons_zero,Option.some.injEq] at hb
  subst hb
  simp only [ix]
  exact⟨fun p hp=>List.mem_append_left _ hp,fun p hp=>List.mem_append_left _ hp⟩
 |some b0::bs,i,j+1,b,hb=>by
  simp only [ix]
  have :=afQ (h:=h) (s:=s) (bad:=bad) bs (i+1) j b (by simpa using hb)
  rw [show i+1+j=i+(j+1) by omega] at this
  exact⟨fun p hp=>List.mem_append_right _ (this.1 p hp),fun p hp=>List.mem_append_right _ (this.2 p hp)⟩
 |none::bs,i,0,b,hb=>by simp at hb
 |none::bs,i,j+1,b,hb=>by
  simp only [ix]
  have :=afQ (h:=h) (s:=s) (bad:=bad) bs (i+1) j b (by simpa using hb)
  rwa [show i+1+j=i+(j+1) by omega] at this
theorem sW {h:aQ} {s:List (Nat×Option Nat)} {bad:Nat→Bool}:∀(bs:List (Option AB)) (i:Nat) (q:Nat),q∈(ix h s bad i bs).2→
  ∃(j:Nat) (b:AB),bs[j]? =some (some b)∧q∈(pe h s bad (h (50000+(i+j))) b).2
 | [],i,q,hq=>by simp [ix] at hq
 |some b0::bs,i,q,hq=>by
  simp only [ix,List.mem_append] at hq
  rcases hq with hq|hq
  · exact⟨0,b0,rfl,hq⟩
  · obtain⟨j,b,h1,h2⟩:=sW bs (i+1) q hq
    exact⟨j+1,b,by simpa using h1,by rwa [show i+1+j=i+(j+1) by omega] at h2⟩
 |none::bs,i,q,hq=>by
  simp only [ix] at hq
  obtain⟨j,b,h1,h2⟩:=sW bs (i+1) q hq
  exact⟨j+1,b,by simpa using h1,by rwa [show i+1+j=i+(j+1) by omega] at h2⟩
theorem wg {h:aQ} {s:List (Nat×Option Nat)} {bad:Nat→Bool}:∀(bs:List AB) (i j:Nat) (b:AB),bs[j]? =some b→
  (∀p∈(rM h s bad (60000+(i+j)) b).1,p∈(og h s bad i bs).1)∧∀p∈(rM h s bad (60000+(i+j)) b).2,p∈(og h s bad i bs).2
 |b0::bs,i,0,b,hb=>by
  simp only [List.getElem?_cons_zero,Option.some.injEq] at hb
  subst hb
  simp only [og]
  exact⟨fun p hp=>List.mem_append_left _ hp,fun p hp=>List.mem_append_left _ hp⟩
 |b0::bs,i,j+1,b,hb=>by
  simp only [og]
  have :=wg (h:=h) (s:=s) (bad:=bad) bs (i+1) j b (by simpa using hb)
  rw [show i+1+j=i+(j+1) by omega] at this
  exact⟨fun p hp=>List.mem_append_right _ (this.1 p hp),fun p hp=>List.mem_append_right _ (this.2 p hp)⟩
theorem B6 {h:aQ} {s:List (Nat×Option Nat)} {bad:Nat→Bool}:∀(bs:List AB) (i:Nat) (q:Nat),q∈(og h s bad i bs).2→
  ∃(j:Nat) (b:AB),bs[j]? =some b∧q∈(rM h s bad (60000+(i+j)) b).2
 | [],i,q,hq=>by simp [og] at hq
 |b0::bs,i,q,hq=>by
  simp only [og,List.mem_append] at hq
  rcases hq with hq|hq
  · exact⟨0,b0,rfl,hq⟩
  · obtain⟨j,b,h1,h2⟩:=B6 bs (i+1) q hq
    exact⟨j+1,b,by simpa using h1,by rwa [show i+1+j=i+(j+1) by omega] at h2⟩
theorem HJ(hT:bw T P) {fn:Func}(hB:aE C A β st a w) {aH:List AV}(h:jm T st fn.results.toList=some aH):∃v,(results fn a.tmps).run P w= .ok v w∧ae w A β v (eB aH):=by
 obtain⟨vs,p1,p2⟩:=nd hT hB fn.results.toList aH h
 have hl:=cH aH vs p2
 refine⟨if h:vs.toArray.size=1 then vs.toArray[0] else .tuple vs.toArray,?_,?_⟩
 · rw [zA,Array.mapM_eq_mapM_toList]
   simp only [Sem.run_bind,map_eq_pure_bind,p1,Result.andThen_ok,Sem.run_pure]
 · match aH,vs,hl,p2 with
   | [x],[v],_,p2=>
     simp only [ai] at p2
     obtain⟨v',bX,e,g1,_⟩:=p2
     simp only [List.cons.injEq] at e
     rw [e.1]
     simpa [eB] using g1
   | [],[],_,p2=>
     simp only [eB]
     simp [ae,ai]
   |x::y::l,v::u::m,_,p2=>
    have dp:¬(v::u::m).toArray.size=1:=by simp
    rw [dif_neg dp]
    simp only [eB,ae]
    exact⟨_,rfl,by simpa using p2⟩
theorem HK {w0:World} {A0:Nat→Prop} {G:Nat→Option GD} {wO j5:Nat→Value} {n:Nat}(hB:aE ⟨w0,A0,HM wO n,G,wO⟩ A j5 st a w) {r:fe} {x:AV} {v:Value} {s:List (Nat×Option Nat)}
  (hn:r.heap.length=n) (Lm:n≤100) (hA0:∀b,HM wO n b→¬A0 b) (wc:∀b,A0 b→b<w0.heap.size) (Ea:ae w A j5 v x) (h:HH st.h x r s):
  ∃A' aJ,Hj w0 A0 wO n w v r A' aJ:=by
 unfold HH at h
 cases hq:(gn (cY s)&&(((cY s).all (gF r))&&((s.all fun y=>Nat.ble 60000 y.1)&&(((B2 st.h s x r).all fun k=> !aG (cY s) k&&gF r k)&&(r.new.all kindOk&&r.heap.all Ts))))) with
 |false=>rw [hq] at h;exact h.elim
 |true=>
  rw [hq] at h
  simp only [cond_true] at h
  simp only [Bool.and_eq_true,List.all_eq_true] at hq
  obtain⟨q1,q2,q3,q4,q5,q6⟩:=hq
  obtain⟨c1,c2⟩:=gX (nB _ h)
  obtain⟨c2,c3⟩:=gX c2
  let F:=B2 st.h s x r
  let fw:Nat→Value:=fun i=>match bN s i with
   |some (some k)=>j5 k
   |some none=>mR
   |none=>j5 i
  have h60:∀K y,bN s K=some y→60000≤K:=by
   have :∀(l:List (Nat×Option Nat)),(∀z∈l,Nat.ble 60000 z.1=true)→∀K y,bN l K=some y→60000≤K:=by
    intro l
    induction l with
    |nil=>intro _ K y h;cases h
    |cons z l ih=>
     intro hl K y h
     obtain⟨z1,z2⟩:=z
     simp only [bN] at h
     cases hb:Nat.beq K z1 with
     |true=>rw [Nat.eq_of_beq_eq_true hb];exact Nat.le_of_ble_eq_true (hl _ (List.mem_cons_self ..))
     |false=>rw [hb] at h;exact ih (fun z hz=>hl z (List.mem_cons_of_mem _ hz)) K y h
   exact this s q3
  have Tu:∀K,gF r K=false→mW K=true∧bN s K=none∧∃ab,r.heap[K-50000]? =some (some ab):=by
   intro K hK
   simp only [gF,LH,Bool.not_eq_false',Bool.and_eq_true] at hK
   obtain⟨k1,k2⟩:=hK
   refine⟨k1,?_,?_⟩
   · cases hl:bN s K with
     |none=>rfl
     |some y=>
      have :=h60 K y hl
      simp only [mW,Bool.and_eq_true] at k1
      have :=Nat.le_of_ble_eq_true k1.2
      omega
   · split at k2
     · rename_i ab eV;exact⟨ab,eV⟩
     · cases k2
  have uH:Keyed (gF r) s j5 fw:=⟨fun K k h=>by simp only [fw,h],fun K h=>by simp only [fw,h],fun K h _=>by simp only [fw,h],fun K h=>by simp only [fw,(Tu K h).2.1]⟩
  have HL:∀i ab,r.heap[i]? =some (some ab)→i<100∧gF r (50000+i)=false∧fw (50000+i)=j5 (50000+i)∧j5 (50000+i)=wO (50000+i):=by
   intro i ab hi
   have dX:=(List.getElem?_eq_some_iff.1 hi).1
   have hip:mW (50000+i)=true :=by
    simp only [mW,Bool.and_eq_true]
    exact⟨Nat.ble_eq_true_of_le (by omega),Nat.ble_eq_true_of_le (by omega)⟩
   have hb:gF r (50000+i)=false :=by
    simp only [gF,LH,hip,Bool.true_and,Nat.add_sub_cancel_left,hi,Bool.not_true]
   exact⟨by omega,hb,by simp only [fw,(Tu _ hb).2.1],hB.held _ hip⟩
  have HN:∀q∈F,(st.h q).isSome:=by
   intro q hq
   simp only [F,B2,List.mem_append] at hq
   rcases hq with hq|hq|hq
   · exact(re (A':=fun _=>True) hB (fun _ _=>trivial) uH r.res x v c1 (fun _ _ _ _=>trivial) Ea).2 q hq
   · obtain⟨j,b,h1,h2⟩:=sW _ _ _ hq
     have hm:=afQ (h:=st.h) (s:=s) (bad:=gF r) r.heap 0 j b h1
     exact(rf hB uH (fun p hp=>c2 p (hm.1 p hp))).2 q h2
   · obtain⟨j,b,h1,h2⟩:=B6 _ _ _ hq
     have hm:=wg (h:=st.h) (s:=s) (bad:=gF r) r.new 0 j b h1
     have hc:∀p∈(rM st.h s (gF r) (60000+(0+j)) b).1,p:=fun p hp=>c3 p (hm.1 p hp)
     generalize hg:rM st.h s (gF r) (60000+(0+j)) b=g at hc h2
     unfold rM at hg
     split at hg
     · subst hg;exact(rf hB uH hc).2 q h2
     · split at hg<;>(subst hg;cases h2)
     · subst hg;cases h2
  have hFA:∀q∈F,∀b,ax (j5 q)=some b→bG A j5 F b:=fun q hq b hb=> .inr ⟨q,hq,hb⟩
  have hAA:∀b,A b→bG A j5 F b:=fun b hb=> .inl hb
  have vJ:∀k,(st.h k).isSome→k∉F→∀g,ax (j5 k)=some g→¬A g→¬bG A j5 F g:=by
   rintro k hk hkF g hg iF (hAg|⟨j,hj,hjg⟩)
   · exact iF hAg
   · have :=hB.apart j k g (HN j hj) hk hjg hg
     subst this
     exact hkF hj
  have Tv:∀k,(k∈cY s∨gF r k=false)→k∉F:=by
   rintro k hk hF
   have h4:=q4 k hF
   rcases hk with hk|hk
   · have :=jk.2 hk
     rw [this] at h4;simp at h4
   · rw [hk] at h4;simp at h4
  have Lb:∀i ab,r.heap[i]? =some (some ab)→BR w (bG A j5 F) fw (50000+i) ab∧(st.h (50000+i)).isSome:=by
   intro i ab hi
   obtain⟨_,hb,bT,_⟩:=HL i ab hi
   have hm:=afQ (h:=st.h) (s:=s) (bad:=gF r) r.heap 0 i ab hi
   rw [Nat.zero_add] at hm
   have hl:=rf (k:=50000+i) hB uH (fun p hp=>c2 p (hm.1 p hp))
   have B5:kindOk ab=true :=q6 _ (List.mem_of_getElem? hi)
   exact⟨zC hB hAA uH bT B5 (fun p hp=>c2 p (hm.1 p hp)) (fun q hq=>hFA q (by simp only [F,B2,List.mem_append];exact .inr (.inl (hm.2 q hq)))) (vJ _ hl.1 (Tv _ (.inr hb))),hl.1⟩
  have hN1:∀j ab,r.new[j]? =some ab→BR w (bG A j5 F) fw (60000+j) ab∧(fw (60000+j)=mR∨∃k,bN s (60000+j)=some (some k)∧fw (60000+j)=j5 k∧(st.h k).isSome):=by
   intro j ab hj
   have hm:=wg (h:=st.h) (s:=s) (bad:=gF r) r.new 0 j ab hj
   rw [Nat.zero_add] at hm
   have hc:∀p∈(rM st.h s (gF r) (60000+j) ab).1,p:=fun p hp=>c3 p (hm.1 p hp)
   have hf:∀q∈(rM st.h s (gF r) (60000+j) ab).2,q∈F:=fun q hq=>by simp only [F,B2,List.mem_append];exact .inr (.inr (hm.2 q hq))
   have B5:kindOk ab=true :=q5 _ (List.mem_of_getElem? hj)
   generalize hg:rM st.h s (gF r) (60000+j) ab=g at hc hf
   unfold rM at hg
   split at hg
   · rename_i k hk
     subst hg
     have bT:fw (60000+j)=j5 k:=by simp only [fw,hk]
     have hl:=rf (k:=k) hB uH hc
     exact⟨zC hB hAA uH bT B5 hc (fun q hq=>hFA q (hf q hq)) (vJ _ hl.1 (Tv _ (.inl (fV s _ _ hk)))), .inr ⟨k,hk,bT,hl.1⟩⟩
   · rename_i hk
     have bT:fw (60000+j)=mR:=by simp only [fw,hk]
     split at hg
     · subst hg
       exact⟨HA bT (aV hc), .inl bT⟩
     · subst hg;exact(aV hc).elim
   · subst hg;exact(aV hc).elim
  have pZ:=(re hB hAA uH r.res x v c1 (fun q hq=>hFA q (by simp only [F,B2,List.mem_append];exact .inl hq)) Ea).1
  have eu:∀k b,Lj r k→ax (fw k)=some b→∃k',(st.h k').isSome∧ax (j5 k')=some b∧((gF r k=false∧k'=k)∨bN s k=some (some k')):=by
   rintro k b (⟨i,ab,rfl,_,hi⟩|⟨j,rfl,hj⟩) hb
   · obtain⟨_,h1,h2,_⟩:=HL i ab hi
     rw [h2] at hb
     exact⟨_,(Lb i ab hi).2,hb, .inl ⟨h1,rfl⟩⟩
   · rcases(hN1 j _ (List.getElem?_eq_getElem hj)).2 with h|⟨k,h1,h2,h3⟩
     · rw [h] at hb;simp [mR,ax] at hb
     · rw [h2] at hb;exact⟨k,h3,hb, .inr h1⟩
  refine⟨bG A j5 F,fw,⟨hB.frame.os,hB.frame.tape,hB.frame.output,hB.frame.size,fun b hb hM=>hB.frame.block b hb hM,fun b hb=>⟨.inl (hB.base b hb),hB.frame.block b (wc b hb) fun hM=>hA0 b hM hb⟩,fun b hb AS=> ?_,fun b hb=> ?_,pZ,fun i ab hi=>⟨(Lb i ab hi).1,(HL i ab hi).2.2.1.trans (HL i ab hi).2.2.2⟩,fun j ab hj=>⟨(hN1 j ab hj).1,fun b hb=> ?_⟩,fun k k' b h1 h2 g1 g2=> ?_⟩⟩
  · rcases AS with AS|⟨j,hj,sn⟩
    · exact hB.old b hb AS
    · rcases hB.mh j b (HN j hj) sn with h|h
      · exact absurd hb (Nat.not_lt.2 h)
      · exact .inr h
  · rcases hb with hb|⟨j,hj,sn⟩
    · exact hB.bound b hb
    · exact jK hB (HN j hj) sn
  · obtain⟨k,g1,g2,_⟩:=eu _ b (.inr ⟨j,rfl,(List.getElem?_eq_some_iff.1 hj).1⟩) hb
    exact hB.mh k b g1 g2
  · obtain⟨j,a1,a2,a3⟩:=eu k b h1 g1
    obtain⟨j',b1,b2,b3⟩:=eu k' b h2 g2
    have :=hB.apart j j' b a1 b1 a2 b2
    subst this
    rcases a3 with⟨p1,p2⟩|p1<;>rcases b3 with⟨r1,r2⟩|r1
    · exact p2.symm.trans r2
    · have :=q2 j (fV s _ _ r1)
      rw [p2,p1] at this;cases this
    · have :=q2 j (fV s _ _ p1)
      rw [r2,r1] at this;cases this
    · exact qV s q1 k k' j p1 r1
theorem Ju(hT:bw T P) {fn:Func} {w0:World} {A0:Nat→Prop} {G:Nat→Option GD} {wO:Nat→Value} {n:Nat}(hB:aE ⟨w0,A0,HM wO n,G,wO⟩ A β st a w) {r:fe}
  (hn:r.heap.length=n) (Lm:n≤100) (hA0:∀b,HM wO n b→¬A0 b) (wc:∀b,A0 b→b<w0.heap.size) (h:B3 T st fn.results.toList r):
  ∃v,(results fn a.tmps).run P w= .ok v w∧∃A' aJ,Hj w0 A0 wO n w v r A' aJ:=by
 unfold B3 at h
 split at h
 · exact h.elim
 · rename_i aH has
   obtain⟨v,IH,Ea⟩:=HJ hT hB has
   obtain⟨j5,hB,Ea⟩:=HI hB Ea
   exact⟨v,IH,HK hB hn Lm hA0 wc Ea h⟩
theorem Et(hE:ak P E)(hm:P.follows .mixedOrders=true) {f:FuncId} {fn:Func} {c:Code} {s:eU}(L:List AV→List AB→Nat→Option al)(hf:P.funcs[f]? =some fn)(hb:fn.body=some c)
  (hnf:∀cd hs r,s cd hs=some r→∀ab∈hs,ra ab=true)
  (h:∀cd hs r,s cd hs=some r→r.pre→LI E (L cd hs) c fn.ntmps fn.results.toList cd hs r):ca P E.kD f s:=by
 intro w A β args cd hs r hA hG bp fm Ag mM hp hlen B7
 have BU:=h cd hs r mM hp
 unfold LI at BU
 cases hn:Nat.ble cd.length fn.ntmps with
 |false=>rw [hn] at BU;exact BU.elim
 |true=>
  rw [hn] at BU
  refine calls_of_wp hf hb (ek (C:=⟨w,A,HM β hs.length,E.kD,β⟩) ⟨hE,rfl⟩ hm c _ _ _ w _ BU ⟨A,β,aE.we hA hG bp (Nat.le_of_ble_eq_true hn) fm Ag⟩ ?_)
  intro e bK a' w' hk _ hR
  obtain⟨A',aJ,hB⟩:=hR
  have key:B3 E.T bK fn.results.toList r→bodyPost P fn (fun e w'=>∃v,e= .returned v∧∃A' aJ,Hj w A β hs.length w' v r A' aJ) .ret a' w':=by
   intro hk
   obtain⟨v,h1,A2,fw,h2⟩:=Ju hE.fU hB hlen B7 (Tt (hnf cd hs r mM) fm) hA hk
   exact⟨hB.defers,v,h1,v,rfl,A2,fw,h2⟩
  cases e with
  |norm=>exact key hk
  |ret=>exact key hk
  |exit i=>exact hk.elim
end
end Go.Vg

end
section
namespace Go.Vg
open Go
inductive TA where
 |iP (t:Ty)
 |own (k:Nat)
 |ref (k off:Nat)
 |nil
 |ir
 |jG
 |agg (l:List TA)
 |fn (f:Fn) (first bf:List TA)
mutual
@[reducible] def TA.ı:TA→List Ty
  | .iP t=> [t]
  | .agg l=>TA.eI l
  | .fn _ l m=>TA.eI l++TA.eI m
  |_=> []
@[reducible] def TA.eI:List TA→List Ty
  | []=> []
  |t::ts=>TA.ı t++TA.eI ts
end
mutual
def TA.get:TA→AV→Option (List AV)
 | .iP _,a=>some [a]
 | .own k, .own k'=>bif Nat.beq k k' then some [] else none
 | .ref k o, .ref k' o'=>bif Nat.beq k k'&&Nat.beq o o' then some [] else none
 | .nil, .nil=>some []
 | .ir, .ir=>some []
 | .jG, .jG=>some []
 | .agg l, .agg cs=>TA.rN l cs
 | .fn f l m, .fn f' cs ds=>if f=f' then uO (TA.rN l cs) (TA.rN m ds) else none
 |_,_=>none
def TA.rN:List TA→List AV→Option (List AV)
 | [],[]=>some []
 |t::ts,a::aH=>uO (TA.get t a) (TA.rN ts aH)
 |_,_=>none
end
mutual
def TA.put:TA→List AV→AV
 | .iP _,cs=>cs.headD .cF
 | .own k,_=> .own k
 | .ref k o,_=> .ref k o
 | .nil,_=> .nil
 | .ir,_=> .ir
 | .jG,_=> .jG
 | .agg l,cs=> .agg (TA.qc l cs)
 | .fn f l m,cs=> .fn f (TA.qc l (cs.take (TA.eI l).length)) (TA.qc m (cs.drop (TA.eI l).length))
def TA.qc:List TA→List AV→List AV
 | [],_=> []
 |t::ts,cs=>TA.put t (cs.take (TA.ı t).length)::TA.qc ts (cs.drop (TA.ı t).length)
end
inductive TB where
 |row (e:Nat) (row:List Ty)
 |cells (l:List TA)
 |arr (row:List Ty)
@[reducible] def TB.D:TB→Type
  | .row _ r=>List (Row r)
  | .cells l=>Row (TA.eI l)
  | .arr r=>List (Row r)
@[reducible] def fJ:List TB→Type
  | []=>Unit
  |b::bs=>TB.D b×fJ bs
def TB.get:(b:TB)→AB→Option (TB.D b)
 | .row e r, .row e' r' l false=>bif Nat.beq e e' then dR r' r l else none
 | .cells ts, .cells cs=>match TA.rN ts cs with
   |some aH=>jz (TA.eI ts) aH
   |none=>none
 | .arr r, .arr r' l=>dR r' r l
 |_,_=>none
def TB.put:(b:TB)→TB.D b→AB
 | .row e r,l=> .row e r l false
 | .cells ts,x=> .cells (TA.qc ts (eG (TA.eI ts) x))
 | .arr r,l=> .arr r l
def TB.ok:(b:TB)→TB.D b→Prop
 | .row _ r,l=>D.ok (.slice r) l
 | .cells ts,x=>Row.ok (TA.eI ts) x
 | .arr _,_=>True
def fJ.get:(bs:List TB)→List AB→Option (fJ bs)
 | [],[]=>some ()
 |b::bs,h::hs=>match TB.get b h,fJ.get bs hs with
  |some x,some y=>some (x,y)
  |_,_=>none
 |_,_=>none
def fJ.put:(bs:List TB)→fJ bs→List AB
 | [],_=> []
 |b::bs,x=>TB.put b x.1::fJ.put bs x.2
def fJ.ok:(bs:List TB)→fJ bs→Prop
 | [],_=>True
 |b::bs,x=>TB.ok b x.1∧fJ.ok bs x.2
def gp(ts:List TA)(bs:List TB)(F:Row (TA.eI ts)→fJ bs→fe):eU:=fun cd hs=>match TA.rN ts cd with
 |some cs=>match jz (TA.eI ts) cs,fJ.get bs hs with
  |some x,some y=>some (F x y)
  |_,_=>none
 |none=>none
def M3(s t:eU):eU:=fun cd hs=>match s cd hs with
 |some r=>some r
 |none=>t cd hs
section
variable {P:Program} {E:Env} {w:World} {A:Nat→Prop} {β:Nat→Value}
theorem B8 {α:Type} {a b:Option (List α)} {c:List α}(h:uO a b=some c):∃x y,a=some x∧b=some y∧c=x++y:=by
 cases a with
 |none=>simp [uO] at h
 |some x=>
  cases b with
  |none=>simp [uO] at h
  |some y=>simp only [uO,Option.some.injEq] at h;exact⟨x,y,rfl,rfl,h.symm⟩
theorem zD {aH bs ei:List AV} {us vs:List Value}(h1:ai w A β us aH)(hl:ei.length=(aH++bs).length)(h:ai w A β (us++vs) ei):
  ai w A β us (ei.take aH.length)∧ai w A β vs (ei.drop aH.length):=by
 obtain⟨vG,ws,e,r1,r2⟩:=lH (ei.take aH.length) (ei.drop aH.length) _ (by rw [List.take_append_drop];exact h)
 have hu:vG.length=us.length:=by
  rw [pd _ _ r1,pd _ _ h1,List.length_take]
  simp at hl;omega
 obtain⟨e1,e2⟩:=List.append_inj e hu.symm
 subst e1;subst e2
 exact⟨r1,r2⟩
mutual
theorem Ĳ:∀(t:TA) (a:AV) (cs:List AV) (v:Value),TA.get t a=some cs→ae w A β v a→
  cs.length=(TA.ı t).length∧∃vs,ai w A β vs cs∧∀ei,ei.length=cs.length→ai w A β vs ei→ae w A β v (TA.put t ei)
 |t,a,cs,v,h,hr=>by
  unfold TA.get at h
  split at h
  · simp only [Option.some.injEq] at h
    subst h
    refine⟨rfl,[v],by simp only [ai];exact⟨v,[],rfl,hr,rfl⟩,fun ei hl lf=> ?_⟩
    match ei,hl with
    | [c],_=>
      simp only [ai] at lf
      obtain⟨v',bX,e,r1,r2⟩:=lf
      simp only [List.cons.injEq] at e
      obtain⟨rfl,rfl⟩:=e
      simpa only [TA.put,List.headD] using r1
  · rename_i k k'
    cases hb:Nat.beq k k' with
    |false=>rw [hb] at h;cases h
    |true=>
     rw [hb] at h
     simp only [cond_true,Option.some.injEq] at h
     subst h
     have :=Nat.eq_of_beq_eq_true hb
     subst this
     exact⟨rfl,[],by simp [ai],fun ei _ _=>by simpa only [TA.put] using hr⟩
  · rename_i k o k' o'
    cases hb:(Nat.beq k k'&&Nat.beq o o') with
    |false=>rw [hb] at h;cases h
    |true=>
     rw [hb] at h
     simp only [cond_true,Option.some.injEq] at h
     subst h
     simp only [Bool.and_eq_true] at hb
     have h1:=Nat.eq_of_beq_eq_true hb.1
     have h2:=Nat.eq_of_beq_eq_true hb.2
     subst h1;subst h2
     exact⟨rfl,[],by simp [ai],fun ei _ _=>by simpa only [TA.put] using hr⟩
  · simp only [Option.some.injEq] at h
    subst h
    exact⟨rfl,[],by simp [ai],fun ei _ _=>by simpa only [TA.put] using hr⟩
  · simp only [Option.some.injEq] at h
    subst h
    exact⟨rfl,[],by simp [ai],fun ei _ _=>by simpa only [TA.put] using hr⟩
  · simp only [Option.some.injEq] at h
    subst h
    exact⟨rfl,[],by simp [ai],fun ei _ _=>by simpa only [TA.put] using hr⟩
  · rename_i l ds
    simp only [ae] at hr
    obtain⟨arr,rfl,hr⟩:=hr
    obtain⟨g1,vs,g2,g3⟩:=sX l ds cs _ h hr
    exact⟨g1,vs,g2,fun ei hl lf=>by simp only [TA.put,ae];exact⟨arr,rfl,g3 ei hl lf⟩⟩
  · rename_i f l m f' ds es
    split at h
    · rename_i hf
      subst hf
      obtain⟨x,y,hx,hy,rfl⟩:=B8 h
      simp only [ae] at hr
      obtain⟨a1,a2,rfl,r1,r2⟩:=hr
      obtain⟨g1,us,g2,g3⟩:=sX l ds x _ hx r1
      obtain⟨q1,vs,q2,q3⟩:=sX m es y _ hy r2
      refine⟨by simp [g1,q1],us++vs,iw _ _ _ _ g2 q2,fun ei hl lf=> ?_⟩
      obtain⟨p1,p2⟩:=zD g2 hl lf
      simp only [TA.put,ae]
      rw [←g1]
      refine⟨a1,a2,rfl,g3 _ ?_ p1,q3 _ ?_ p2⟩
      · simp at hl ⊢;omega
      · simp at hl ⊢;omega
    · cases h
  · cases h
theorem sX:∀(ts:List TA) (aH cs:List AV) (Bc:List Value),TA.rN ts aH=some cs→ai w A β Bc aH→
  cs.length=(TA.eI ts).length∧∃vs,ai w A β vs cs∧∀ei,ei.length=cs.length→ai w A β vs ei→ai w A β Bc (TA.qc ts ei)
 | [],[],cs,Bc,h,hr=>by
   simp only [TA.rN,Option.some.injEq] at h
   subst h
   exact⟨rfl,[],by simp [ai],fun ei _ _=>by simpa only [TA.qc] using hr⟩
 |t::ts,a::aH,cs,Bc,h,hr=>by
  simp only [TA.rN] at h
  obtain⟨x,y,hx,hy,rfl⟩:=B8 h
  simp only [ai] at hr
  obtain⟨v,vs1,rfl,r1,r2⟩:=hr
  obtain⟨g1,us,g2,g3⟩:=Ĳ t a x v hx r1
  obtain⟨q1,vs,q2,q3⟩:=sX ts aH y vs1 hy r2
  refine⟨by simp [g1,q1],us++vs,iw _ _ _ _ g2 q2,fun ei hl lf=> ?_⟩
  obtain⟨p1,p2⟩:=zD g2 hl lf
  simp only [TA.qc,ai]
  rw [←g1]
  refine⟨v,vs1,rfl,g3 _ ?_ p1,q3 _ ?_ p2⟩
  · simp at hl ⊢;omega
  · simp at hl ⊢;omega
 | [],_::_,cs,Bc,h,_=>by simp [TA.rN] at h
 |_::_,[],cs,Bc,h,_=>by simp [TA.rN] at h
end
theorem yI {ts:List TA} {aH cs:List AV} {Bc:List Value} {x:Row (TA.eI ts)}(h:TA.rN ts aH=some cs)(hx:jz (TA.eI ts) cs=some x)(hr:ai w A β Bc aH):
  ai w A β Bc (TA.qc ts (eG (TA.eI ts) x))∧Row.ok (TA.eI ts) x:=by
 obtain⟨g1,vs,g2,g3⟩:=sX ts aH cs Bc h hr
 have hv:=nP _ _ _ _ g2 hx
 exact⟨g3 _ (by rw [kG,g1]) (iI _ _ _ hv),xu _ _ _ hv⟩
theorem ĳ:∀(b:TB) (ab:AB) (k:Nat) (y:TB.D b),TB.get b ab=some y→BR w A β k ab→BR w A β k (TB.put b y)∧TB.ok b y
 |b,ab,k,y,h,hr=>by
  unfold TB.get at h
  split at h
  · rename_i e r e' r' l
    cases hb:Nat.beq e e' with
    |false=>rw [hb] at h;cases h
    |true=>
     rw [hb] at h
     simp only [cond_true] at h
     have :=Nat.eq_of_beq_eq_true hb
     subst this
     obtain⟨er,hl⟩:=iO h
     subst er
     subst hl
     refine⟨hr,?_⟩
     obtain⟨xs,h1,h2,h3⟩:=hr
     simp only [TB.ok,D.ok]
     refine⟨?_,HC (fun c x hx=>xu _ c x hx) _ xs h2⟩
     rcases h1.2 with⟨_,h⟩|⟨g,cap,cur,_,_,_,g4,g5,_⟩
     · omega
     · exact Nat.le_trans g4 g5
  · rename_i ts cs
    split at h
    · rename_i aH has
      obtain⟨g,arr,e,h1,h2,h3,h4,h5⟩:=hr
      obtain⟨q1,q2⟩:=yI has h h4
      exact⟨⟨g,arr,e,h1,h2,h3,q1,h5⟩,q2⟩
    · cases h
  · rename_i r r' l
    obtain⟨er,hl⟩:=iO h
    subst er
    subst hl
    exact⟨hr,trivial⟩
  · cases h
theorem B9:∀(bs:List TB) (hs:List AB) (y:fJ bs) (n:Nat),fJ.get bs hs=some y→(∀i ab,hs[i]? =some ab→BR w A β (n+i) ab)→
  (fJ.put bs y).length=hs.length∧(∀i ab,(fJ.put bs y)[i]? =some ab→BR w A β (n+i) ab)∧fJ.ok bs y
 | [],[],y,n,_,_=>⟨rfl,fun i ab h=>by simp [fJ.put] at h,trivial⟩
 |b::bs,h::hs,y,n,hg,hr=>by
  simp only [fJ.get] at hg
  split at hg
  · rename_i x z hx hz
    simp only [Option.some.injEq] at hg
    subst hg
    obtain⟨g1,g2⟩:=ĳ b h n x hx (hr 0 h rfl)
    obtain⟨q1,q2,q3⟩:=B9 bs hs z (n+1) hz fun i ab hi=>by
     have :=hr (i+1) ab (by simpa using hi)
     rwa [show n+(i+1)=n+1+i by omega] at this
    refine⟨by simp [fJ.put,q1],fun i ab hi=> ?_,g2,q3⟩
    cases i with
    |zero=>simp only [fJ.put,List.getElem?_cons_zero,Option.some.injEq] at hi;subst hi;exact g1
    |succ i=>
     have :=q2 i ab (by simpa [fJ.put] using hi)
     rwa [show n+1+i=n+(i+1) by omega] at this
  · cases hg
 | [],_::_,y,n,h,_=>by simp [fJ.get] at h
 |_::_,[],y,n,h,_=>by simp [fJ.get] at h
theorem M4:∀(bs:List TB) (y:fJ bs),∀ab∈fJ.put bs y,ra ab=true
 | [],_,ab,h=>by simp [fJ.put] at h
 |b::bs,y,ab,h=>by
  simp only [fJ.put,List.mem_cons] at h
  rcases h with rfl|h
  · cases b<;>rfl
  · exact M4 bs y.2 ab h
theorem dF(hE:ak P E)(hm:P.follows .mixedOrders=true) {f:FuncId} {fn:Func} {c:Code}(ts:List TA)(bs:List TB) {F:Row (TA.eI ts)→fJ bs→fe}
  (L:Row (TA.eI ts)→fJ bs→Nat→Option al) (hf:P.funcs[f]? =some fn) (hb:fn.body=some c)
  (h:∀x y,(F x y).pre→Row.ok (TA.eI ts) x→fJ.ok bs y→LI E (L x y) c fn.ntmps fn.results.toList (TA.qc ts (eG (TA.eI ts) x)) (fJ.put bs y) (F x y)):ca P E.kD f (gp ts bs F):=by
 intro w A β args cd hs r hA hG bp fm Ag mM hp hlen B7
 unfold gp at mM
 split at mM
 · rename_i cs cQ
   split at mM
   · rename_i x y hx hy
     simp only [Option.some.injEq] at mM
     obtain⟨g1,g2⟩:=yI cQ hx bp
     obtain⟨q1,q2,q3⟩:=B9 bs hs y 50000 hy fm
     have hv:ca P E.kD f (fun EX gg=>open Classical in if EX=TA.qc ts (eG (TA.eI ts) x)∧gg=fJ.put bs y then some (F x y) else none):=by
      refine Et hE hm (fun _ _=>L x y) hf hb (fun EX gg r' Ca=> ?_) fun EX gg r' Ca į=> ?_
      · split at Ca
        · rename_i e
          obtain⟨_,rfl⟩:=e
          exact M4 bs y
        · cases Ca
      · split at Ca
        · rename_i e
          obtain⟨rfl,rfl⟩:=e
          simp only [Option.some.injEq] at Ca
          subst Ca
          exact h x y į g2 q3
        · cases Ca
     have :=hv w A β args _ _ r hA hG g1 q2 (fun i j b hi hj=>Ag i j b (by rw [←q1];exact hi) (by rw [←q1];exact hj)) (by simp only [and_self,if_true,mM]) hp (by rw [q1];exact hlen) (by rw [q1];exact B7)
     rwa [q1] at this
   · cases mM
 · cases mM
theorem ca.or {G:Nat→Option GD} {f:FuncId} {s t:eU}(h1:ca P G f s)(h2:ca P G f t):ca P G f (M3 s t):=by
 intro w A β args cd hs r hA hG bp fm Ag mM hp hlen B7
 unfold M3 at mM
 split at mM
 · rename_i r' lf
   simp only [Option.some.injEq] at mM
   subst mM
   exact h1 w A β args cd hs _ hA hG bp fm Ag lf hp hlen B7
 · exact h2 w A β args cd hs r hA hG bp fm Ag mM hp hlen B7
def Env.eP(f:Nat)(m:List Bool)(s:eU)(E:Env):Env:= {E with pX:=fun g=>bif Nat.beq g f then some (m,s) else E.pX g}
theorem ak.eP(hE:ak P E) {f:FuncId} {m:List Bool} {s:eU}(h:ca P E.kD f s)(hf:aB P f):ak P (E.eP f m s):=by
 refine⟨hE.fU,hE.sig,fun g m' t hg=> ?_⟩
 simp only [Env.eP] at hg
 cases hb:Nat.beq g f with
 |true=>
  rw [hb] at hg
  simp only [cond_true,Option.some.injEq,Prod.mk.injEq] at hg
  have :=Nat.eq_of_beq_eq_true hb
  obtain⟨_,rfl⟩:=hg
  subst this
  exact⟨h,hf⟩
 |false=>
  rw [hb] at hg
  exact hE.pX g m' t hg
end
end Go.Vg

end
section
namespace Go.S
def len {α:Type}(l:List α):Nat:=l.length
def ag(m n:Nat):Nat:=m-n
def dY {α:Type}(l:List α)(n:Nat):Prop :=n≤l.length
def bY(n m:Nat):Prop :=n≤m
def jy {α:Type}(l:List α):Int:=l.length
def small {α:Type}(l:List α):Prop :=l.length≤1099511627776
theorem kQ(n:Int)(k:Nat)(h:0≤n):Vg.aZ n ((2:Int)^k-1)=n%2^k:=by
 obtain⟨m,rfl⟩:=Int.eq_ofNat_of_zero_le h
 have h1:((2:Int)^k-1).toNat=2^k-1:=by
  have :(1:Nat)≤2^k:=Nat.one_le_two_pow
  have e:((2:Int)^k-1)=((2^k-1:Nat):Int):=by rw [Int.natCast_sub this];simp
  rw [e];rfl
 simp only [Vg.aZ,Int.toNat_natCast,h1,Nat.and_two_pow_sub_one_eq_mod]
 rw [Int.natCast_emod];simp
theorem Q7(n:Int)(h:0≤n):Vg.aZ n 7=n%8:=by simpa using kQ n 3 h
theorem LJ(n:Int)(h:0≤n):Vg.aZ n 15=n%16:=by simpa using kQ n 4 h
theorem wh(n:Int)(h:0≤n):Vg.aZ n 31=n%32:=by simpa using kQ n 5 h
theorem Cb(n:Int)(h:0≤n):Vg.aZ n 63=n%64:=by simpa using kQ n 6 h
theorem Jv(n:Int)(h:0≤n):Vg.aZ n 127=n%128:=by simpa using kQ n 7 h
theorem e9(a b:Int)(k:Nat)(ha:0≤a)(h0:0≤b)(h:b<2^k):Vg.cP (a*2^k) b=a*2^k+b:=by
 obtain⟨m,rfl⟩:=Int.eq_ofNat_of_zero_le ha
 obtain⟨n,rfl⟩:=Int.eq_ofNat_of_zero_le h0
 have h1:((m:Int)*2^k).toNat=m*2^k:=by
  rw [show((m:Int)*2^k)=((m*2^k:Nat):Int) by simp];rfl
 have h2:n<2^k:=by exact_mod_cast h
 simp only [Vg.cP,h1,Int.toNat_natCast]
 rw [Nat.mul_comm,←Nat.two_pow_add_eq_or_of_lt h2]
 simp [Int.mul_comm]
theorem zE(a b:Int):Vg.cP a b=Vg.cP b a:=by simp only [Vg.cP,Nat.or_comm]
theorem Cc(n:Int)(h:0≤n)(h1:n<128):Vg.cP n 128=n+128:=by
 rw [zE,show(128:Int)=1*2^7 by rfl,e9 1 n 7 (by omega) h h1];omega
theorem anC {α:Type}(p:α→Bool)(l:List α):(l.takeWhile p).length≤l.length:=by
 induction l with
 |nil=>simp
 |cons x l ih=>simp only [List.takeWhile_cons];split<;>simp<;>omega
theorem Tw(b:List UInt8)(x:Nat)(h:x<b.length):b.take x++ [UInt8.ofNat (Int.toNat ((b.getD (Int.toNat (x:Int)) 0).toNat:Int))]=b.take (x+1):=by
 rw [aA b x 0 h];simp
end Go.S

end
section
namespace Go.S
abbrev H8:=Int×Int×Int×Int×Int×Int×Int×Int
def right(x n:Int):Int:=(x/2^n.toNat+x*2^(32-n).toNat%4294967296)%4294967296
def rotl(x k:Int):Int:=right x (-k)
def fE(x k:Int):Prop := -32<k∧k<0∧0≤x∧x<4294967296
def c7(n:Int):Prop :=0<n∧n<32
def rh(p:List UInt8)(i:Nat):Int:=(p.getD i 0).toNat
def word(p:List UInt8)(i:Nat):Int:=rh p (4*i)*16777216+rh p (4*i+1)*65536+rh p (4*i+2)*256+rh p (4*i+3)
def anF(x:Int):Int:=Vg.bo (Vg.bo (right x 7) (right x 18)) (x/2^Int.toNat 3)
def anG(y:Int):Int:=Vg.bo (Vg.bo (right y 17) (right y 19)) (y/2^Int.toNat 10)
def Tx(w:List Int)(n:Nat):Int:=(((w.getD (n-16) 0+anF (w.getD (n-15) 0))%4294967296+w.getD (n-7) 0)%4294967296+anG (w.getD (n-2) 0))%4294967296
def ri(p:List UInt8)(w:List Int)(n:Nat):Int:=if n<16 then word p n else Tx w n
def sched(p:List UInt8):Nat→List Int
 |0=> []
 |n+1=>sched p n++ [ri p (sched p n) n]
def aO(p:List UInt8)(n:Nat):List Int:=sched p n++List.replicate (64-n) 0
def rO:List Int:= [1116352408,1899447441,3049323471,3921009573,961987163,1508970993,2453635748,2870763221,3624381080,310598401,607225278,1426881987,1925078388,2162078206,2614888103,3248222580,3835390401,4022224774,264347078,604807628,770255983,1249150122,1555081692,1996064986,2554220882,2821834349,2952996808,3210313671,3336571891,3584528711,113926993,338241895,666307205,773529912,1294757372,1396182291,1695183700,1986661051,2177026350,2456956037,2730485921,2820302411,3259730800,3345764771,3516065817,3600352804,4094571909,275423344,430227734,506948616,659060556,883997877,958139571,1322822218,1537002063,1747873779,1955562222,2024104815,2227730452,2361852424,2428436474,2756734187,3204031479,3329325298]
def H0:H8:=(1779033703,3144134277,1013904242,2773480762,1359893119,2600822924,528734635,1541459225)
def anH(a:Int):Int:=Vg.bo (Vg.bo (right a 2) (right a 13)) (right a 22)
def anI(e:Int):Int:=Vg.bo (Vg.bo (right e 6) (right e 11)) (right e 25)
def ch(e f g:Int):Int:=Vg.bo (Vg.aZ e f) (Vg.aZ (4294967296-1-e) g)
def maj(a b c:Int):Int:=Vg.bo (Vg.bo (Vg.aZ a b) (Vg.aZ a c)) (Vg.aZ b c)
def one(k w e f g h:Int):Int:=((((h+anI e)%4294967296+ch e f g)%4294967296+k)%4294967296+w)%4294967296
def two(a b c:Int):Int:=(anH a+maj a b c)%4294967296
def rnd(k w:Int)(s:H8):H8:=((one k w s.2.2.2.2.1 s.2.2.2.2.2.1 s.2.2.2.2.2.2.1 s.2.2.2.2.2.2.2+two s.1 s.2.1 s.2.2.1)%4294967296,s.1,s.2.1,s.2.2.1,
 (s.2.2.2.1+one k w s.2.2.2.2.1 s.2.2.2.2.2.1 s.2.2.2.2.2.2.1 s.2.2.2.2.2.2.2)%4294967296,s.2.2.2.2.1,s.2.2.2.2.2.1,s.2.2.2.2.2.2.1)
def dg(w:List Int)(s:H8):Nat→H8
 |0=>s
 |n+1=>rnd (rO.getD n 0) (w.getD n 0) (dg w s n)
def Jw(s t:H8):H8:=((s.1+t.1)%4294967296,(s.2.1+t.2.1)%4294967296,(s.2.2.1+t.2.2.1)%4294967296,(s.2.2.2.1+t.2.2.2.1)%4294967296,
 (s.2.2.2.2.1+t.2.2.2.2.1)%4294967296,(s.2.2.2.2.2.1+t.2.2.2.2.2.1)%4294967296,(s.2.2.2.2.2.2.1+t.2.2.2.2.2.2.1)%4294967296,(s.2.2.2.2.2.2.2+t.2.2.2.2.2.2.2)%4294967296)
def block(s:H8)(p:List UInt8):H8:=Jw s (dg (sched p 64) s 64)
def proc(s:H8)(b:List UInt8):Nat→H8
 |0=>s
 |n+1=>block (proc s b n) ((b.drop (64*n)).take 64)
def c8(s:H8):List Int:= [s.1,s.2.1,s.2.2.1,s.2.2.2.1,s.2.2.2.2.1,s.2.2.2.2.2.1,s.2.2.2.2.2.2.1,s.2.2.2.2.2.2.2]
def qd(l:List Int):H8:=(l.getD 0 0,l.getD 1 0,l.getD 2 0,l.getD 3 0,l.getD 4 0,l.getD 5 0,l.getD 6 0,l.getD 7 0)
def b32(w:Int):List UInt8:= [UInt8.ofNat (w/16777216%256).toNat,UInt8.ofNat (w/65536%256).toNat,UInt8.ofNat (w/256%256).toNat,UInt8.ofNat (w%256).toNat]
def jP(s:H8)(n:Nat):List UInt8:=((c8 s).take n).flatMap b32
def Q8(s:H8):List UInt8:=jP s 8
def dL(n:Nat):Nat:=(119-n%64)%64
def len8(n:Int)(k:Nat):List UInt8:=(List.range k).map fun i=>UInt8.ofNat (n/2^(56-8*i)%256).toNat
def du(rest:List UInt8)(k:Nat):List UInt8:=rest++ [128]++List.replicate k 0
def j7(rest:List UInt8)(n:Int)(k:Nat):List UInt8:=du rest (dL rest.length)++len8 (n*8) k
def tail(rest:List UInt8)(n:Int):List UInt8:=j7 rest n 8
def blocks(b:List UInt8):Nat:=b.length/64
def aT(s:H8)(b:List UInt8):H8:=proc s b (blocks b)
def dA(b:List UInt8):List UInt8:=b.drop (64*blocks b)
def sum(b:List UInt8):List UInt8:=Q8 (aT H0 (tail b b.length))
def pQ(s:H8):Prop :=∀x∈c8 s,0≤x∧x<4294967296
def okW(l:List Int):Prop :=∀x∈l,0≤x∧x<4294967296
def bH(rest:List UInt8)(k:Nat):Prop :=k≤dL rest.length
def aU(r:List UInt8)(n:Int):Bool:=decide (0≤n)&&decide (n≤1099511627776)&&decide ((r.length:Int)=n%64)
def HO(s:H8)(r:List UInt8)(n:Int)(b:List UInt8):Prop :=pQ s∧r= []∧n=0∧small b
def AA(s:H8)(r:List UInt8)(n:Int):Prop :=pQ s∧0≤n∧n≤1099511627776∧(r.length:Int)=n%64
def HP(s:H8)(p:List UInt8):Prop :=pQ s∧p.length=64
def Cd(l:List Int)(p:List UInt8):Prop :=okW l∧l.length=8∧p.length=64
end Go.S
namespace Go.S
def dM(b:List UInt8)(k:Nat):List UInt8:=b.drop (64*k)
def iy(b:List UInt8)(k:Nat):Int:=(b.length:Int)*8/256^k
def gG(b:List UInt8)(k:Nat):List UInt8:=(len8 ((b.length:Int)*8) 8).drop (8-k)
end Go.S
namespace Go.S
theorem Tz(a b c d:UInt8):Vg.cP (Vg.cP (Vg.cP ((a.toNat:Int)*2^Int.toNat 24%4294967296) ((b.toNat:Int)*2^Int.toNat 16%4294967296)) ((c.toNat:Int)*2^Int.toNat 8%4294967296)) (d.toNat:Int)=
  (a.toNat:Int)*16777216+(b.toNat:Int)*65536+(c.toNat:Int)*256+(d.toNat:Int):=by
 have ha:=a.toNat_lt;have hb:=b.toNat_lt;have hc:=c.toNat_lt;have hd:=d.toNat_lt
 have e1:(a.toNat:Int)*2^Int.toNat 24%4294967296=((a.toNat:Int))*2^24:=by simp only [show Int.toNat 24=24 by rfl];omega
 have e2:(b.toNat:Int)*2^Int.toNat 16%4294967296=(b.toNat:Int)*2^16:=by simp only [show Int.toNat 16=16 by rfl];omega
 have e3:(c.toNat:Int)*2^Int.toNat 8%4294967296=(c.toNat:Int)*2^8:=by simp only [show Int.toNat 8=8 by rfl];omega
 rw [e1,e2,e3,e9 _ _ 24 (by omega) (by omega) (by omega)]
 rw [show(a.toNat:Int)*2^24+(b.toNat:Int)*2^16=((a.toNat:Int)*256+b.toNat)*2^16 by omega,e9 _ _ 16 (by omega) (by omega) (by omega)]
 rw [show((a.toNat:Int)*256+b.toNat)*2^16+(c.toNat:Int)*2^8=((a.toNat:Int)*65536+b.toNat*256+c.toNat)*2^8 by omega,e9 _ _ 8 (by omega) (by omega) (by omega)]
 omega
theorem cg(p:List UInt8):∀n,(sched p n).length=n
 |0=>rfl
 |n+1=>by simp [sched,cg p n]
theorem oh(p:List UInt8)(n:Nat)(h:n≤64):(aO p n).length=64:=by simp [aO,cg];omega
theorem M5(p:List UInt8):aO p 64=sched p 64:=by simp [aO]
theorem TC(p:List UInt8)(n:Nat):0≤word p n∧word p n<4294967296:=by
 simp only [word,rh]
 have h1:=(p.getD (4*n) 0).toNat_lt;have h2:=(p.getD (4*n+1) 0).toNat_lt;have h3:=(p.getD (4*n+2) 0).toNat_lt;have h4:=(p.getD (4*n+3) 0).toNat_lt
 omega
theorem E1(p:List UInt8):∀n,okW (sched p n)
 |0=>by simp [sched,okW]
 |n+1=>by
  intro x hx
  simp only [sched,List.mem_append,List.mem_singleton] at hx
  rcases hx with hx|rfl
  · exact E1 p n x hx
  · simp only [ri]
    split
    · exact TC p n
    · simp only [Tx];omega
theorem Jx {l:List Int}(h:okW l)(i:Nat):0≤l.getD i 0∧l.getD i 0<4294967296:=by
 rw [List.getD_eq_getElem?_getD]
 cases hg:l[i]? with
 |none=>simp
 |some x=>simpa using h x (List.mem_of_getElem? hg)
theorem Ĵ(p:List UInt8)(n i:Nat):0≤(aO p n).getD i 0∧(aO p n).getD i 0<4294967296:=by
 refine Jx ?_ i
 intro x hx
 simp only [aO,List.mem_append] at hx
 rcases hx with hx|hx
 · exact E1 p n x hx
 · rw [(List.mem_replicate.1 hx).2];omega
theorem Jy(p:List UInt8)(n i:Nat)(k:Int)(h: -32<k∧k<0):fE ((aO p n).getD i 0) k:=⟨h.1,h.2,Ĵ p n i⟩
theorem uo(p:List UInt8)(n i:Nat)(h:i<n):(aO p n).getD i 0=(sched p n).getD i 0:=by
 simp only [List.getD_eq_getElem?_getD,aO]
 rw [List.getElem?_append_left (by rw [cg];exact h)]
theorem Jz(p:List UInt8)(n:Nat)(v:Int)(h:n<64)(hv:v=ri p (sched p n) n):(aO p n).set n v=aO p (n+1):=by
 subst hv
 simp only [aO,sched]
 exact Q6 _ _ _ _ _ (cg p n) h
theorem ĵ(p:List UInt8)(x:Nat)(h:x<16):List.set (aO p x) (0+Int.toNat (x:Int)*1)
  (Vg.cP (Vg.cP (Vg.cP (((List.getD p (Int.toNat (4*(x:Int))) 0).toNat:Int)*2^Int.toNat 24%4294967296) (((List.getD p (Int.toNat (4*(x:Int)+1)) 0).toNat:Int)*2^Int.toNat 16%4294967296))
    (((List.getD p (Int.toNat (4*(x:Int)+2)) 0).toNat:Int)*2^Int.toNat 8%4294967296)) ((List.getD p (Int.toNat (4*(x:Int)+3)) 0).toNat:Int))=aO p (x+1):=by
 rw [Tz,show 0+Int.toNat (x:Int)*1=x by omega]
 refine Jz p x _ (by omega) ?_
 simp only [ri,if_pos h,word,rh,show Int.toNat (4*(x:Int))=4*x by omega,show Int.toNat (4*(x:Int)+1)=4*x+1 by omega,show Int.toNat (4*(x:Int)+2)=4*x+2 by omega,show Int.toNat (4*(x:Int)+3)=4*x+3 by omega]
theorem Ķ(p:List UInt8)(x:Nat)(h:16≤x)(h1:x<64):List.set (aO p x) (0+Int.toNat (x:Int)*1)
  ((((List.getD (aO p x) (0+Int.toNat ((x:Int)-16)*1) 0+
    Vg.bo (Vg.bo (rotl (List.getD (aO p x) (0+Int.toNat ((x:Int)-15)*1) 0) (-7)) (rotl (List.getD (aO p x) (0+Int.toNat ((x:Int)-15)*1) 0) (-18))) (List.getD (aO p x) (0+Int.toNat ((x:Int)-15)*1) 0/2^Int.toNat 3))%4294967296+
    List.getD (aO p x) (0+Int.toNat ((x:Int)-7)*1) 0)%4294967296+
    Vg.bo (Vg.bo (rotl (List.getD (aO p x) (0+Int.toNat ((x:Int)-2)*1) 0) (-17)) (rotl (List.getD (aO p x) (0+Int.toNat ((x:Int)-2)*1) 0) (-19))) (List.getD (aO p x) (0+Int.toNat ((x:Int)-2)*1) 0/2^Int.toNat 10))%4294967296)=aO p (x+1):=by
 simp only [show 0+Int.toNat (x:Int)*1=x by omega,show 0+Int.toNat ((x:Int)-16)*1=x-16 by omega,show 0+Int.toNat ((x:Int)-15)*1=x-15 by omega,show 0+Int.toNat ((x:Int)-7)*1=x-7 by omega,show 0+Int.toNat ((x:Int)-2)*1=x-2 by omega,
  uo p x (x-16) (by omega),uo p x (x-15) (by omega),uo p x (x-7) (by omega),uo p x (x-2) (by omega)]
 refine Jz p x _ (by omega) ?_
 simp only [ri,if_neg (by omega :¬x<16)]
 rfl
theorem ķ(k w:Int)(s:H8)(h:pQ s):pQ (rnd k w s):=by
 obtain⟨a,b,c,d,e,f,g,i⟩:=s
 simp only [pQ,c8,List.mem_cons,List.not_mem_nil,or_false,forall_eq_or_imp,forall_eq,rnd] at h ⊢
 obtain⟨h1,h2,h3,h4,h5,h6,h7,h8⟩:=h
 exact⟨by omega,h1,h2,h3,by omega,h5,h6,h7⟩
theorem sY(w:List Int)(s:H8)(h:pQ s):∀n,pQ (dg w s n)
 |0=>h
 |n+1=>ķ _ _ _ (sY w s h n)
theorem Q9(s:H8)(p:List UInt8):pQ (block s p):=by
 simp only [block,Jw,pQ,c8,List.mem_cons,List.not_mem_nil,or_false,forall_eq_or_imp,forall_eq]
 omega
theorem Ce(s:H8)(b:List UInt8)(h:pQ s):∀n,pQ (proc s b n)
 |0=>h
 |n+1=>Q9 _ _
theorem afV {s:H8}(h:pQ s)(k:Int)(hk: -32<k∧k<0):fE s.1 k:=⟨hk.1,hk.2,h _ (by simp [c8])⟩
theorem afW {s:H8}(h:pQ s)(k:Int)(hk: -32<k∧k<0):fE s.2.2.2.2.1 k:=⟨hk.1,hk.2,h _ (by simp [c8])⟩
theorem yJ:(64:Nat)=rO.length:=by decide
theorem LK:pQ H0:=by simp [pQ,c8,H0]
end Go.S
namespace Go.S
theorem ĸ {x k:Int}(h:fE x k):Vg.cP (x*2^Int.toNat (Vg.aZ (k%18446744073709551616) 31)%4294967296) (x/2^Int.toNat ((32-Vg.aZ (k%18446744073709551616) 31)%18446744073709551616))=rotl x k:=by
 obtain⟨h1,h2,h3,h4⟩:=h
 have e1:Vg.aZ (k%18446744073709551616) 31=32+k:=by rw [wh _ (by omega)];omega
 rw [e1,show(32-(32+k))%18446744073709551616= -k by omega]
 obtain⟨n,hn⟩:∃n:Nat,n=(-k).toNat:=⟨_,rfl⟩
 have K4:n<32:=by omega
 rw [show Int.toNat (32+k)=32-n by omega,←hn]
 simp only [rotl,right,←hn,show(32- -k).toNat=32-n by omega]
 obtain⟨m,rfl⟩:=Int.eq_ofNat_of_zero_le h3
 have hm:m<2^32:=by omega
 have TD:(2:Nat)^(32-n)*2^n=2^32:=by rw [←Nat.pow_add];congr 1;omega
 have hq:m/2^n<2^(32-n):=by
  rw [Nat.div_lt_iff_lt_mul (Nat.two_pow_pos n),TD];exact hm
 have anJ:m*2^(32-n)%4294967296=(m%2^n)*2^(32-n):=by
  rw [show(4294967296:Nat)=2^n*2^(32-n) by rw [Nat.mul_comm,TD],Nat.mul_mod_mul_right]
 have c1:((m:Int)*2^(32-n)%4294967296)=(((m%2^n:Nat):Int))*2^(32-n):=by
  have :=congrArg (Nat.cast (R:=Int)) anJ
  simpa using this
 have c2:((m:Int)/2^n)=((m/2^n:Nat):Int):=by simp
 rw [c1,c2,e9 _ _ (32-n) (Int.natCast_nonneg _) (Int.natCast_nonneg _) (by exact_mod_cast hq)]
 have dX:(m%2^n)*2^(32-n)+m/2^n<4294967296:=by
  have h1:m%2^n<2^n:=Nat.mod_lt _ (Nat.two_pow_pos n)
  have h2:(m%2^n+1)*2^(32-n)≤2^n*2^(32-n):=Nat.mul_le_mul_right _ h1
  rw [Nat.mul_comm (2^n),TD,Nat.add_mul] at h2
  omega
 have c3:(((m%2^n:Nat):Int))*2^(32-n)=(((m%2^n)*2^(32-n):Nat):Int):=by simp
 rw [c3]
 generalize (m%2^n)*2^(32-n)=A at *
 generalize m/2^n=q at *
 omega
theorem Ĺ {x k:Int}(h:fE x k):Vg.aZ (k%18446744073709551616) 31=32+k:=by
 obtain⟨h1,h2,h3,h4⟩:=h
 rw [wh _ (by omega)];omega
end Go.S
namespace Go.S
theorem Ra {s:H8} {r:List UInt8} {n:Int}(h:AA s r n):aU r n=true :=by
 obtain⟨_,h1,h2,h3⟩:=h
 simp [aU,h1,h2,h3]
theorem bU(r:List UInt8)(k:Nat):(du r k).length=r.length+1+k:=by simp [du];omega
theorem JA(r:List UInt8):r++ [UInt8.ofNat (Int.toNat 128)]=du r 0:=by simp [du]
theorem zF(r:List UInt8)(k:Nat):du r k++ [UInt8.ofNat (Int.toNat 0)]=du r (k+1):=by
 simp only [du,List.append_assoc,List.replicate_succ'];rfl
theorem Cf(n:Nat):dL n<64:=Nat.mod_lt _ (by omega)
theorem Cg {r:List UInt8} {k:Nat}(h:bH r k)(h1:¬((du r k).length:Int)%64=56):bH r (k+1):=by
 simp only [bH,dL,bU] at *;omega
theorem E2 {r:List UInt8} {k:Nat}(h:bH r k)(h1:((du r k).length:Int)%64=56):k=dL r.length:=by
 simp only [bH,dL,bU] at *;omega
theorem yK(n:Int)(k:Nat):(len8 n k).length=k:=by simp [len8]
theorem eQ(r:List UInt8)(n:Int)(k:Nat):(j7 r n k).length=r.length+1+dL r.length+k:=by simp [j7,bU,yK]
theorem TF(r:List UInt8)(n:Int):j7 r n 0=du r (dL r.length):=by simp [j7,len8]
theorem JB(r:List UInt8)(n:Int)(x:Nat)(h0:0≤n)(h1:n≤1099511627776)(hx:x<8):
  j7 r n x++ [UInt8.ofNat (Int.toNat (n%18446744073709551616*8%18446744073709551616/2^Int.toNat (56-8*(x:Int))%256))]=j7 r n (x+1):=by
 rw [show n%18446744073709551616*8%18446744073709551616=n*8 by omega,show Int.toNat (56-8*(x:Int))=56-8*x by omega]
 simp only [j7,len8,List.range_succ,List.map_append,List.map_cons,List.map_nil,List.append_assoc]
theorem yL(s:H8)(k:Nat)(hk:k≤8):(jP s k).length=4*k:=by
 obtain⟨a,b,c,d,e,f,g,h⟩:=s
 match k,hk with
 |0,_|1,_|2,_|3,_|4,_|5,_|6,_|7,_|8,_=>rfl
theorem Ch(s:H8)(x:Nat)(hx:x<8):jP s x++b32 ((c8 s).getD x 0)=jP s (x+1):=by
 have hl:x<(c8 s).length:=by simpa [c8] using hx
 simp only [jP]
 rw [aA (c8 s) x 0 hl,List.flatMap_append]
 simp
theorem TG(s:H8):(Q8 s).length=32:=yL s 8 (by omega)
theorem Ci(b:List UInt8):(sum b).length=32:=TG _
theorem yM(s:H8)(x y:List UInt8):∀n,64*n≤x.length→proc s (x++y) n=proc s x n
 |0,_=>rfl
 |n+1,h=>by
  simp only [proc]
  rw [yM s x y n (by omega),List.drop_append_of_le_length (by omega),List.take_append_of_le_length (by rw [List.length_drop];omega)]
theorem Cj(s:H8)(x y:List UInt8)(a:Nat)(h:x.length=64*a):∀n,proc s (x++y) (a+n)=proc (proc s x a) y n
 |0=>yM s x y a (by omega)
 |n+1=>by
  rw [←Nat.add_assoc]
  simp only [proc]
  rw [Cj s x y a h n,show 64*(a+n)=x.length+64*n by omega,List.drop_append,List.drop_eq_nil_of_le (by omega),List.nil_append,Nat.add_sub_cancel_left]
theorem mw(b:List UInt8):(dA b).length=b.length%64:=by simp [dA,blocks];omega
theorem Rb(n:Nat):dL (n%64)=dL n:=by simp [dL]
theorem LL(b:List UInt8)(n:Int):aT (aT H0 b) (tail (dA b) n)=aT H0 (tail b n):=by
 have hb:b=b.take (64*blocks b)++dA b:=(List.take_append_drop _ b).symm
 have hl:(b.take (64*blocks b)).length=64*blocks b:=by rw [List.length_take];simp only [blocks];omega
 have ht:tail b n=b.take (64*blocks b)++tail (dA b) n:=by
  have :dL (dA b).length=dL b.length:=by rw [mw,Rb]
  simp only [tail,j7,du,this]
  conv=>lhs;rw [hb]
  simp only [List.append_assoc,List.length_append]
  rw [←List.length_append,←hb]
 have hk:blocks (tail b n)=blocks b+blocks (tail (dA b) n):=by
  rw [ht];simp only [blocks,List.length_append] at *;rw [hl];omega
 simp only [aT]
 rw [hk,ht,Cj H0 _ _ (blocks b) hl,←yM H0 (b.take (64*blocks b)) (dA b) (blocks b) (by omega),←hb]
theorem ĺ(s:H8)(x:Nat)(hx:x<8):jP s x++ [UInt8.ofNat (Int.toNat (List.getD (c8 s) (Int.toNat (x:Int)) 0/2^Int.toNat 24%256)),UInt8.ofNat (Int.toNat (List.getD (c8 s) (Int.toNat (x:Int)) 0/2^Int.toNat 16%256)),
 UInt8.ofNat (Int.toNat (List.getD (c8 s) (Int.toNat (x:Int)) 0/2^Int.toNat 8%256)),UInt8.ofNat (Int.toNat (List.getD (c8 s) (Int.toNat (x:Int)) 0%256))]=jP s (x+1):=Ch s x hx
theorem Ļ(s:H8)(b:List UInt8)(n:Nat):block ((proc s b n).1,(proc s b n).2.1,(proc s b n).2.2.1,(proc s b n).2.2.2.1,(proc s b n).2.2.2.2.1,(proc s b n).2.2.2.2.2.1,(proc s b n).2.2.2.2.2.2.1,(proc s b n).2.2.2.2.2.2.2) (List.take (Int.toNat 64) (dM b n))=proc s b (n+1):=rfl
theorem Rc(b:List UInt8)(x:Nat)(h:x<16):sched b x++ [(((((b.getD (Int.toNat ((4*x:Nat):Int)) 0).toNat:Int)*16777216%4294967296+((b.getD (Int.toNat (((4*x:Nat):Int)+1)) 0).toNat:Int)*65536%4294967296)%4294967296+
  ((b.getD (Int.toNat (((4*x:Nat):Int)+2)) 0).toNat:Int)*256%4294967296)%4294967296+((b.getD (Int.toNat (((4*x:Nat):Int)+3)) 0).toNat:Int))%4294967296]=sched b (x+1):=by
 simp only [sched,ri,if_pos h,word,rh,show Int.toNat ((4*x:Nat):Int)=4*x by omega,show Int.toNat (((4*x:Nat):Int)+1)=4*x+1 by omega,show Int.toNat (((4*x:Nat):Int)+2)=4*x+2 by omega,show Int.toNat (((4*x:Nat):Int)+3)=4*x+3 by omega]
 have h1:=(b.getD (4*x) 0).toNat_lt;have h2:=(b.getD (4*x+1) 0).toNat_lt;have h3:=(b.getD (4*x+2) 0).toNat_lt;have h4:=(b.getD (4*x+3) 0).toNat_lt
 congr 2;omega
theorem Re(b:List UInt8)(x:Nat)(h:16≤x):sched b x++ [(((List.getD (sched b x) (Int.toNat ((x:Int)-16)) 0+
  Vg.bo (Vg.bo (right (List.getD (sched b x) (Int.toNat ((x:Int)-15)) 0) 7) (right (List.getD (sched b x) (Int.toNat ((x:Int)-15)) 0) 18)) (List.getD (sched b x) (Int.toNat ((x:Int)-15)) 0/2^Int.toNat 3))%4294967296+
  List.getD (sched b x) (Int.toNat ((x:Int)-7)) 0)%4294967296+
  Vg.bo (Vg.bo (right (List.getD (sched b x) (Int.toNat ((x:Int)-2)) 0) 17) (right (List.getD (sched b x) (Int.toNat ((x:Int)-2)) 0) 19)) (List.getD (sched b x) (Int.toNat ((x:Int)-2)) 0/2^Int.toNat 10))%4294967296]=sched b (x+1):=by
 simp only [show Int.toNat ((x:Int)-16)=x-16 by omega,show Int.toNat ((x:Int)-15)=x-15 by omega,show Int.toNat ((x:Int)-7)=x-7 by omega,show Int.toNat ((x:Int)-2)=x-2 by omega]
 simp only [sched,ri,if_neg (by omega :¬x<16)]
 rfl
theorem xor_not {e:Int}(h:0≤e∧e<4294967296):Vg.bo 4294967295 e=4294967296-1-e:=by
 obtain⟨n,rfl⟩:=Int.eq_ofNat_of_zero_le h.1
 have hn:n<2^32:=by omega
 have :(4294967295:Nat)^^^n=2^32-1-n:=by
  apply Nat.eq_of_testBit_eq
  intro i
  rw [show 2^32-1-n=2^32-(n+1) by omega,Nat.testBit_two_pow_sub_succ hn,Nat.testBit_xor,show(4294967295:Nat)=2^32-1 by rfl,Nat.testBit_two_pow_sub_one]
  by_cases hi:i<32
  · simp [hi]
  · have hz:n.testBit i=false :=Nat.testBit_lt_two_pow (Nat.lt_of_lt_of_le hn (Nat.pow_le_pow_right (by omega) (by omega)))
    simp [hi,hz]
 simp only [Vg.bo,Int.toNat_natCast,show Int.toNat 4294967295=4294967295 by rfl,this]
 omega
theorem ļ {l:List Int}(h:okW l):pQ (qd l):=by
 intro x hx
 simp only [c8,qd,List.mem_cons,List.not_mem_nil,or_false] at hx
 rcases hx with rfl|rfl|rfl|rfl|rfl|rfl|rfl|rfl<;>exact Jx h _
theorem E3(b:List UInt8)(n:Int):(tail b n).length=b.length+1+dL b.length+8:=eQ b n 8
theorem TH(b:List UInt8)(n:Int):(tail b n).length=64*blocks (tail b n):=by
 simp only [blocks,E3,dL];omega
theorem Rf(b:List UInt8)(h:small b):(b.length:Int)%18446744073709551616*8%18446744073709551616=iy b 0:=by
 simp only [small] at h;simp [iy];omega
theorem HQ(b:List UInt8)(x:Nat):iy b x/256=iy b (x+1):=by
 simp only [iy,Int.pow_succ]
 rw [Int.ediv_ediv_of_nonneg (Int.le_of_lt (Int.pow_pos (by omega)))]
theorem Eu(b:List UInt8)(x:Nat)(hx:x<8): [UInt8.ofNat (Int.toNat (iy b x%256%256))]++gG b x=gG b (x+1):=by
 have hl:7-x<(len8 ((b.length:Int)*8) 8).length:=by rw [yK];omega
 have hd:=List.drop_eq_getElem_cons hl
 simp only [gG]
 rw [show 8-(x+1)=7-x by omega,hd,show 7-x+1=8-x by omega]
 have he:(len8 ((b.length:Int)*8) 8)[7-x]=UInt8.ofNat (Int.toNat (iy b x%256%256)):=by
  simp only [len8,List.getElem_map,List.getElem_range,iy,Int.emod_emod]
  rw [show 56-8*(7-x)=8*x by omega,Int.pow_mul]
  rfl
 rw [he];rfl
theorem LM(b:List UInt8):gG b 8=len8 (jy b*8) 8:=rfl
theorem xy(b:List UInt8)(k:Nat)(h:k≤8):(gG b k).length=k:=by simp [gG,yK];omega
theorem TI(T:List UInt8)(x:Nat):List.take (Int.toNat (((64*x:Nat):Int)+64)-Int.toNat ((64*x:Nat):Int)) (List.drop (Int.toNat ((64*x:Nat):Int)) T)=(T.drop (64*x)).take 64:=by
 rw [show Int.toNat (((64*x:Nat):Int)+64)-Int.toNat ((64*x:Nat):Int)=64 by omega,Int.toNat_natCast]
theorem Ľ(s:H8)(x:Nat)(hx:x<8):jP s x++ [UInt8.ofNat (Int.toNat (List.getD (c8 s) (Int.toNat (x:Int)) 0/16777216%256)),UInt8.ofNat (Int.toNat (List.getD (c8 s) (Int.toNat (x:Int)) 0/65536%256%256)),
  UInt8.ofNat (Int.toNat (List.getD (c8 s) (Int.toNat (x:Int)) 0/256%256%256)),UInt8.ofNat (Int.toNat (List.getD (c8 s) (Int.toNat (x:Int)) 0%256%256))]=jP s (x+1):=by
 rw [←Ch s x hx]
 simp only [b32,Int.toNat_natCast,Int.emod_emod]
end Go.S

end
section
namespace Go.S
def sZ:Nat→Nat→List UInt8
 |0,_=> []
 |f+1,v=>if v<128 then [UInt8.ofNat v] else UInt8.ofNat (v%128+128)::sZ f (v/128)
def num(v:Int):List UInt8:=sZ 9 v.toNat
def text(s:List UInt8):List UInt8:=num s.length++s
def rj(v:Int):Bool:=decide (v<0) || decide (4611686018427387904<v)
def mS(b:List UInt8)(v:Int):List UInt8:=if rj v then [] else b++num v
def Ck(v:Int):Int:=if rj v then 1 else 0
def ng(l:List UInt8)(v:Int)(m:List UInt8)(u:Int):Prop :=0≤u∧u≤v∧m++num u=l++num v
def xz(l:List UInt8)(v:Int):Prop :=0≤v∧l.length≤70368744177664
def kR(l s:List UInt8):Prop :=l.length≤35184372088832∧s.length≤35184372088832
def lead(b:List UInt8):Nat:=(b.takeWhile fun x=>decide (128≤x.toNat)).length
def HR:List UInt8→Nat
 | []=>0
 |x::l=>x.toNat%128+128*HR l
def first(b:List UInt8):Int×Int×Int:=
 if 9≤lead b then(0,0,2)
 else if lead b=b.length then(0,0,4)
 else if HR (b.take (lead b+1))>4611686018427387904∨num (HR (b.take (lead b+1)))≠b.take (lead b+1) then(0,0,2)
 else(HR (b.take (lead b+1)),lead b+1,0)
def afo(b:List UInt8)(at':Int):Prop :=0≤at'∧at'≤b.length
def ao8(at':Int)(x:Int×Int×Int):Int×Int×Int:=(x.1,if x.2.2=0 then at'+x.2.1 else 0,x.2.2)
def ae5(b:List UInt8)(at':Int):Int×Int×Int:=ao8 at' (first (b.drop at'.toNat))
def inside(b:List UInt8)(a:Int):Bool:=decide (0≤a)&&decide (a≤b.length)
def afz(b:List UInt8)(a e:Int):Int:=if e=0∧inside b a=false then 1 else e
abbrev Rd:=List UInt8×Int×Int
def aab(b:List UInt8)(a e:Int):Rd×Int:=
 if afz b a e≠0 then((b,a,afz b a e),0)
 else if(ae5 b a).2.2≠0 then((b,a,(ae5 b a).2.2),0)
 else((b,(ae5 b a).2.1,0),(ae5 b a).1)
def aac(b:List UInt8)(a e:Int):Rd×List UInt8:=
 if afz b a e≠0 then((b,a,afz b a e),[])
 else if(b.length:Int)-a<32 then((b,a,4),[])
 else((b,a+32,0),(b.drop a.toNat).take 32)
def done(b:List UInt8)(a e:Int):Int:=if e≠0 then e else if inside b a=false then 1 else if a<b.length then 2 else 0
def afl(b:List UInt8)(a:Int)(n:Nat):Prop :=n≤9∧a+n≤b.length∧∀x∈(b.drop a.toNat).take n,128≤x.toNat
def afa(b:List UInt8)(a:Int)(n:Nat):Int:=(HR ((b.drop a.toNat).take n):Int)
def agH(b:List UInt8)(n:Nat):Prop :=n≤9∧n≤b.length∧∀x∈b.take n,128≤x.toNat
theorem E4:∀(f v:Nat),(sZ f v).length≤f
 |0,_=>by simp [sZ]
 |f+1,v=>by
  have :=E4 f (v/128)
  simp only [sZ];split<;>simp<;>omega
theorem jQ(v:Int):(num v).length≤9:=E4 9 _
theorem Cl:∀(f g v:Nat),v<128^f→1≤f→f≤g→sZ g v=sZ f v
 |0,g,v,_,h,_=>by omega
 |f+1,0,v,_,_,h=>by omega
 |f+1,g+1,v,h,_,hg=>by
  simp only [sZ]
  split
  · rfl
  · rename_i hv
    by_cases hf:f=0
    · subst hf;simp at h;omega
    · rw [Cl f g (v/128) (by rw [Nat.pow_succ] at h;omega) (by omega) (by omega)]
theorem M6(v:Int)(h:v<128):num v= [UInt8.ofNat v.toNat]:=by
 simp only [num,sZ];rw [if_pos (by omega)]
theorem M7(v:Int)(h:128≤v)(h1:v≤9223372036854775807):num v=UInt8.ofNat (v%128+128).toNat::num (v/128):=by
 simp only [num]
 rw [sZ,if_neg (by omega)]
 have e:(v/128).toNat=v.toNat/128:=by omega
 rw [e,Cl 8 9 (v.toNat/128) (by omega) (by omega) (by omega)]
 congr 2;omega
theorem agV:∀(l:List UInt8) (h:l≠ []),HR l=0→(l.getLast h).toNat<128→(l.getLast h).toNat=0
 | [x],_,h,hx=>by simp [HR] at h hx ⊢;omega
 |x::y::l,_,h,hx=>by
  simp only [HR] at h
  rw [List.getLast_cons (by simp)] at hx ⊢
  exact agV (y::l) (by simp) (by simp only [HR];omega) hx
theorem anL:∀(f:Nat) (l:List UInt8) (h:l≠ []),l.length≤f→(∀x∈l.dropLast,128≤x.toNat)→(l.getLast h).toNat<128→(sZ f (HR l)=l↔(l.length=1∨(l.getLast h).toNat≠0))
 |0,l,h,hl,_,_=>by
  have :l.length=0:=by omega
  exact absurd (List.eq_nil_of_length_eq_zero this) h
 |f+1,[x],_,_,_,hx=>by
  simp only [List.getLast_singleton] at hx
  have hv:HR [x]=x.toNat:=by simp only [HR];omega
  rw [sZ,hv,if_pos hx]
  simp
 |f+1,x::y::l,_,hl,hd,hx=>by
  rw [List.getLast_cons (by simp)] at hx ⊢
  have AX:128≤x.toNat:=hd x (by simp)
  have hx2:=x.toNat_lt
  have ih:=anL f (y::l) (by simp) (by simpa using hl) (fun z hz=>hd z (by simp only [List.dropLast_cons_cons,List.mem_cons];exact .inr hz)) hx
  have e:HR (x::y::l)=x.toNat%128+128*HR (y::l):=rfl
  rw [sZ,e]
  by_cases hV:HR (y::l)=0
  · have h0:=agV (y::l) (by simp) hV hx
    rw [hV,if_pos (by omega)]
    simp [h0]
  · rw [if_neg (by omega)]
    have e1:(x.toNat%128+128*HR (y::l))%128+128=x.toNat:=by omega
    have e2:(x.toNat%128+128*HR (y::l))/128=HR (y::l):=by omega
    rw [e1,e2,UInt8.ofNat_toNat]
    simp only [List.cons.injEq,true_and,ih]
    constructor
    · rintro(h|h)
      · refine .inr fun h0=> ?_
        have :l= []:=by simpa using h
        subst this
        simp [HR] at hV h0
        omega
      · exact .inr h
    · rintro(h|h)
      · simp at h
      · exact .inr h
theorem agM:∀(l:List UInt8),HR l<128^l.length
 | []=>by simp [HR]
 |x::l=>by
  have :=agM l
  simp only [HR,List.length_cons,Nat.pow_succ];omega
theorem agB:∀(l m:List UInt8),HR (l++m)=HR l+128^l.length*HR m
 | [],m=>by simp [HR]
 |x::l,m=>by
  simp only [List.cons_append,HR,agB l m,List.length_cons,Nat.pow_succ]
  rw [Nat.mul_add,←Nat.mul_assoc,Nat.mul_comm 128 (128^l.length)];omega
theorem ao9(b:List UInt8)(n:Nat)(h:∀x∈b.take n,128≤x.toNat)(hn:n≤b.length)(he:n=b.length∨(b.getD n 0).toNat<128):lead b=n:=by
 induction b generalizing n with
 |nil=>simp at hn;subst hn;rfl
 |cons x b ih=>
  cases n with
  |zero=>
   rcases he with he|he
   · simp at he
   · simp only [List.getD_cons_zero] at he
     simp only [lead,List.takeWhile_cons]
     rw [if_neg (by simp;omega)];rfl
  |succ n=>
   have hx:=h x (by simp)
   have :=ih n (fun y hy=>h y (by simp [hy])) (by simpa using hn) (by simpa using he)
   simp only [lead,List.takeWhile_cons] at this ⊢
   rw [if_pos (by simpa using hx),List.length_cons,this]
theorem arM(b:List UInt8)(n:Nat)(h:∀x∈b.take n,128≤x.toNat)(hn:n≤b.length):n≤lead b:=by
 induction b generalizing n with
 |nil=>simp at hn;omega
 |cons x b ih=>
  cases n with
  |zero=>omega
  |succ n=>
   have hx:=h x (by simp)
   have :=ih n (fun y hy=>h y (by simp [hy])) (by simpa using hn)
   simp only [lead,List.takeWhile_cons] at this ⊢
   rw [if_pos (by simpa using hx),List.length_cons];omega
theorem apN(b:List UInt8)(n:Nat)(hn:n<b.length):∃h,(b.take (n+1)).getLast h=b.getD n 0:=by
 refine⟨by intro h;have :=congrArg List.length h;rw [List.length_take,List.length_nil] at this;omega,?_⟩
 rw [List.getLast_eq_getElem]
 simp only [List.length_take,List.getElem_take]
 rw [List.getD_eq_getElem?_getD,List.getElem?_eq_getElem hn,Option.getD_some]
 congr 1;omega
theorem anP(b:List UInt8)(n:Nat)(h:∀x∈b.take n,128≤x.toNat)(hn:n<b.length)(h9:n<9)(he:(b.getD n 0).toNat<128):
  first b=if((1≤n∧(b.getD n 0).toNat=0)∨HR (b.take (n+1))>4611686018427387904) then(0,0,2) else((HR (b.take (n+1)):Int),(n:Int)+1,0):=by
 have hl:=ao9 b n h (by omega) (.inr he)
 obtain⟨dp,afx⟩:=apN b n hn
 have hlen:(b.take (n+1)).length=n+1:=by rw [List.length_take];omega
 have hc:=anL 9 (b.take (n+1)) dp (by omega) (by
  intro x hx
  rw [List.dropLast_eq_take,hlen,List.take_take] at hx
  exact h x (by rwa [show min (n+1-1) (n+1)=n by omega] at hx)) (by rw [afx];exact he)
 simp only [first,hl,num,Int.toNat_natCast]
 rw [if_neg (by omega),if_neg (by omega)]
 rw [afx,hlen] at hc
 have e:((HR (b.take (n+1))>4611686018427387904∨¬sZ 9 (HR (b.take (n+1)))=b.take (n+1))↔((1≤n∧(b.getD n 0).toNat=0)∨HR (b.take (n+1))>4611686018427387904)):=by
  rw [hc]
  constructor
  · rintro(h|h)
    · exact .inr h
    · by_cases h0:1≤n∧(b.getD n 0).toNat=0
      · exact .inl h0
      · exact absurd (by omega) h
  · rintro(h|h)
    · exact .inr (by omega)
    · exact .inl h
 simp only [ne_eq,e]
theorem arN(b:List UInt8)(h:∀x∈b.take 9,128≤x.toNat)(hn:9≤b.length):first b=(0,0,2):=by
 have :=arM b 9 h hn
 simp only [first];rw [if_pos this]
theorem apO(b:List UInt8)(n:Nat)(h:∀x∈b.take n,128≤x.toNat)(hn:n=b.length)(h9:n<9):first b=(0,0,4):=by
 have :=ao9 b n h (by omega) (.inl hn)
 simp only [first];rw [if_neg (by omega),if_pos (by omega)]
theorem afd(b:List UInt8):0≤(first b).1∧(first b).1≤4611686018427387904∧0≤(first b).2.1∧(first b).2.1≤b.length∧((first b).2.2=0∨(first b).2.2=2∨(first b).2.2=4):=by
 have hl:=anC (fun x:UInt8=>decide (128≤x.toNat)) b
 unfold first
 split
 · simp
 · split
   · simp
   · split
     · simp
     · simp only [lead,not_or,Nat.not_lt] at *;simp only [true_or,and_true];omega
theorem arC {b:List UInt8} {x:Nat}(h:agH b x)(h1:x<b.length)(h2:x<9)(h3:128≤(b.getD x 0).toNat):agH b (x+1):=by
 refine⟨by omega,by omega,fun y hy=> ?_⟩
 rw [aA b x 0 h1] at hy
 rcases List.mem_append.1 hy with hy|hy
 · exact h.2.2 y hy
 · simp only [List.mem_singleton] at hy;subst hy;exact h3
theorem auz {b:List UInt8}(h:agH b 9):first b=(0,0,2):=arN b h.2.2 h.2.1
theorem arO {b:List UInt8} {x:Nat}(h:agH b x)(h1:x=b.length)(h2:x≠9):first b=(0,0,4):=apO b x h.2.2 h1 (by have :=h.1;omega)
theorem ayK {b:List UInt8} {p:Int}(h:afo b p):afl b p 0:=by simp only [afo] at h;simp [afl];omega
theorem aww {b:List UInt8} {p:Int} {x:Nat}(h:afl b p x):x≤9∧p+x≤b.length:=⟨h.1,h.2.1⟩
theorem agv(b:List UInt8)(p:Int)(x:Nat)(hp:0≤p):(b.drop p.toNat).getD x 0=b.getD (p+x).toNat 0:=by
 simp only [List.getD_eq_getElem?_getD,List.getElem?_drop];congr 2;omega
theorem ag3 {b:List UInt8} {p:Int} {x:Nat}(hp:afo b p)(h:afl b p x):agH (b.drop p.toNat) x:=by
 simp only [afo] at hp
 exact⟨h.1,by rw [List.length_drop];have :=h.2.1;omega,h.2.2⟩
theorem avd {b:List UInt8} {p:Int} {x:Nat}(hp:afo b p)(h:afl b p x)(h1:p+x<b.length)(h2:x≠9)(h3:128≤(b.getD (p+x).toNat 0).toNat):afl b p (x+1):=by
 have į:=hp
 simp only [afo] at į
 have :=arC (ag3 hp h) (by rw [List.length_drop];omega) (by have :=h.1;omega) (by rw [agv _ _ _ į.1];exact h3)
 exact⟨this.1,by omega,this.2.2⟩
theorem axI {b:List UInt8} {p:Int}(hp:afo b p)(h:afl b p 9):ae5 b p=(0,0,2):=by
 simp [ae5,auz (ag3 hp h),ao8]
theorem avS {b:List UInt8} {p:Int} {x:Nat}(hp:afo b p)(h:afl b p x)(h1:(x:Int)=b.length-p)(h2:x≠9):ae5 b p=(0,0,4):=by
 have į:=hp
 simp only [afo] at į
 have :=arO (ag3 hp h) (by rw [List.length_drop];omega) h2
 simp [ae5,this,ao8]
theorem asf {b:List UInt8} {p:Int} {x:Nat}(hp:afo b p)(h:afl b p x)(h1:p+x<b.length):
  Vg.cP (afa b p x) (Vg.aZ ((b.getD (p+x).toNat 0).toNat:Int) 127*2^(7*(x:Int)).toNat)=afa b p (x+1):=by
 have į:=hp
 simp only [afo] at į
 have hx:x<(b.drop p.toNat).length:=by rw [List.length_drop];omega
 rw [Jv _ (by omega),zE,e9 _ _ _ (by omega) (by simp [afa])]
 · simp only [afa]
   rw [aA _ x 0 hx,agB,agv _ _ _ į.1,List.length_take,Nat.min_eq_left (by omega)]
   simp only [HR,show(7*(x:Int)).toNat=7*x by omega,Nat.mul_zero,Nat.add_zero]
   rw [Int.natCast_add,Int.natCast_mul,Int.natCast_pow,Int.natCast_emod]
   rw [show((128:Nat):Int)=2^7 by rfl,←Int.pow_mul,Int.mul_comm (2^(7*x)),Int.add_comm]
   rfl
 · simp only [afa,show(7*(x:Int)).toNat=7*x by omega]
   have :=agM ((b.drop p.toNat).take x)
   have e:(128:Nat)^((b.drop p.toNat).take x).length≤128^x:=Nat.pow_le_pow_right (by omega) (by rw [List.length_take];omega)
   have e2:((2:Int)^(7*x))=((128^x:Nat):Int):=by rw [Int.natCast_pow,show((128:Nat):Int)=2^7 by rfl,←Int.pow_mul]
   rw [e2];omega
theorem ayL(b:List UInt8)(p:Int):afa b p 0=0:=by simp [afa,HR]
theorem awx {b:List UInt8} {p:Int} {x:Nat}(h:x≤9):0≤afa b p x∧afa b p x≤9223372036854775807:=by
 have :=agM ((b.drop p.toNat).take x)
 have e:(128:Nat)^((b.drop p.toNat).take x).length≤128^9:=Nat.pow_le_pow_right (by omega) (by rw [List.length_take];omega)
 simp only [afa];omega
theorem awy(c:Int)(x:Nat)(h0:0≤c)(h1:c≤127)(hx:x≤8):0≤c*2^(7*(x:Int)).toNat∧c*2^(7*(x:Int)).toNat≤9223372036854775807:=by
 have la:(2:Nat)^(7*(x:Int)).toNat≤2^56:=Nat.pow_le_pow_right (by omega) (by omega)
 have e:(2:Int)^(7*(x:Int)).toNat=((2^(7*(x:Int)).toNat:Nat):Int):=by simp
 have hp:(2:Int)^(7*(x:Int)).toNat≤72057594037927936:=by rw [e];omega
 have hq:(0:Int)<2^(7*(x:Int)).toNat:=Int.pow_pos (by omega)
 constructor
 · exact Int.mul_nonneg h0 (by omega)
 · have :=Int.mul_le_mul h1 hp (by omega) (by omega)
   omega
theorem arP {b:List UInt8} {p:Int} {x:Nat}(hp:afo b p)(h:afl b p x)(h1:p+x<b.length)(h2:x≠9)(h3:(b.getD (p+x).toNat 0).toNat<128):
  ae5 b p=if((1≤x∧(b.getD (p+x).toNat 0).toNat=0)∨afa b p (x+1)>4611686018427387904) then(0,0,2) else(afa b p (x+1),p+(x+1),0):=by
 have į:=hp
 simp only [afo] at į
 have :=anP (b.drop p.toNat) x h.2.2 (by rw [List.length_drop];omega) (by have :=h.1;omega) (by rw [agv _ _ _ į.1];exact h3)
 rw [agv _ _ _ į.1] at this
 simp only [ae5,this,afa]
 have e:(HR ((b.drop p.toNat).take (x+1))>4611686018427387904)↔((HR ((b.drop p.toNat).take (x+1)):Int)>4611686018427387904):=by omega
 simp only [e]
 rw [apply_ite (ao8 p)]
 rfl
theorem TJ(v:Int):1≤(num v).length:=by
 simp only [num,sZ];split<;>simp
theorem ta {l m:List UInt8} {v u:Int}(h:ng l v m u):m.length+1≤l.length+9:=by
 have :=congrArg List.length h.2.2
 have h1:=jQ v
 have h2:=TJ u
 simp only [List.length_append] at this;omega
theorem Rg {l m:List UInt8} {v u:Int}(h:ng l v m u)(h1:127<u)(h2:v≤9223372036854775807):
  ng l v (m++ [UInt8.ofNat (Vg.cP (Vg.aZ u 127%256) 128).toNat]) (u/2^(7:Int).toNat):=by
 have h4:=h.2.1
 have e:=M7 u (by omega) (by omega)
 have e2:Vg.cP (Vg.aZ u 127%256) 128=u%128+128:=by
  rw [Jv _ (by omega),Cc _ (by omega) (by omega)];omega
 have h3:=h.2.2
 rw [e] at h3
 refine⟨by simp;omega,by simp;omega,?_⟩
 rw [e2,List.append_assoc,←h3];rfl
theorem TK {l m:List UInt8} {v u:Int}(h:ng l v m u)(h1:¬127<u):m++ [UInt8.ofNat (u%256).toNat]=l++num v:=by
 have e:=M6 u (by omega)
 rw [←h.2.2,e]
 have :=h.1
 rw [show u%256=u by omega]
theorem xA {l m:List UInt8} {v u:Int}(h:ng l v m u):0≤u:=h.1
theorem auA(x:Int)(h:0≤x)(P Q:Prop) [Decidable P] [Decidable Q]:((bif decide (1<x+1) then bif decide P then true else decide Q else decide Q)=true)↔((1≤x∧P)∨Q):=by
 by_cases h1:1<x+1<;>by_cases h2:P<;>by_cases h3:Q<;>simp [h1,h2,h3]<;>omega
theorem apd {b:List UInt8} {p:Int} {x:Nat}(hp:afo b p)(h:afl b p x)(h1:p+x<b.length)(h2:x≠9)(h3:(b.getD (p+x).toNat 0).toNat<128) {c:Bool}
  (hc:(bif decide (1<(x:Int)+1) then bif decide (((b.getD (p+((x:Int)+1)-1).toNat 0).toNat:Int)=0) then true else decide (4611686018427387904<Vg.cP (afa b p x) (Vg.aZ ((b.getD (p+x).toNat 0).toNat:Int) 127*2^(7*(x:Int)).toNat)) else decide (4611686018427387904<Vg.cP (afa b p x) (Vg.aZ ((b.getD (p+x).toNat 0).toNat:Int) 127*2^(7*(x:Int)).toNat)))=c):
  ae5 b p=if c=true then(0,0,2) else(Vg.cP (afa b p x) (Vg.aZ ((b.getD (p+x).toNat 0).toNat:Int) 127*2^(7*(x:Int)).toNat),p+(x+1),0):=by
 have hf:=arP hp h h1 h2 h3
 rw [←hc,hf]
 rw [asf hp h h1,show p+((x:Int)+1)-1=p+x by omega]
 simp only [auA _ (by omega :0≤(x:Int))]
 have e:(1≤x∧(b.getD (p+x).toNat 0).toNat=0)↔(1≤(x:Int)∧((b.getD (p+x).toNat 0).toNat:Int)=0):=by omega
 simp only [e,gt_iff_lt]
theorem ave {b:List UInt8} {p:Int} {x:Nat}(hp:afo b p)(h:afl b p x)(h1:p+x<b.length)(h2:x≠9)(h3:(b.getD (p+x).toNat 0).toNat<128)
  (hc:(bif decide (1<(x:Int)+1) then bif decide (((b.getD (p+((x:Int)+1)-1).toNat 0).toNat:Int)=0) then true else decide (4611686018427387904<Vg.cP (afa b p x) (Vg.aZ ((b.getD (p+x).toNat 0).toNat:Int) 127*2^(7*(x:Int)).toNat)) else decide (4611686018427387904<Vg.cP (afa b p x) (Vg.aZ ((b.getD (p+x).toNat 0).toNat:Int) 127*2^(7*(x:Int)).toNat)))=true):
  0=(ae5 b p).1∧0=(ae5 b p).2.1∧2=(ae5 b p).2.2:=by
 rw [apd hp h h1 h2 h3 hc];exact⟨rfl,rfl,rfl⟩
theorem avf {b:List UInt8} {p:Int} {x:Nat}(hp:afo b p)(h:afl b p x)(h1:p+x<b.length)(h2:x≠9)(h3:(b.getD (p+x).toNat 0).toNat<128)
  (hc:(bif decide (1<(x:Int)+1) then bif decide (((b.getD (p+((x:Int)+1)-1).toNat 0).toNat:Int)=0) then true else decide (4611686018427387904<Vg.cP (afa b p x) (Vg.aZ ((b.getD (p+x).toNat 0).toNat:Int) 127*2^(7*(x:Int)).toNat)) else decide (4611686018427387904<Vg.cP (afa b p x) (Vg.aZ ((b.getD (p+x).toNat 0).toNat:Int) 127*2^(7*(x:Int)).toNat)))=false):
  Vg.cP (afa b p x) (Vg.aZ ((b.getD (p+x).toNat 0).toNat:Int) 127*2^(7*(x:Int)).toNat)=(ae5 b p).1∧p+(x+1)=(ae5 b p).2.1∧0=(ae5 b p).2.2:=by
 rw [apd hp h h1 h2 h3 hc];exact⟨rfl,rfl,rfl⟩
theorem avg {b:List UInt8} {a e:Int}(h:afz b a e=0):0≤a∧a≤b.length∧e=0:=by
 unfold afz at h
 split at h
 · omega
 · rename_i h1
   subst h
   have :inside b a=true :=by
    cases hi:inside b a with
    |true=>rfl
    |false=>exact absurd ⟨rfl,hi⟩ h1
   simp [inside] at this
   exact⟨this.1,this.2,rfl⟩
end Go.S

end
section
namespace Go.S
def dN(kind:UInt8)(parts:List (List UInt8)):List UInt8:=kind::parts.flatten
def jo(kind:UInt8)(parts:List (List UInt8))(k:Nat):List UInt8:=dN kind (parts.take k)
def iQ(parts:List (List UInt8)):Prop :=parts.flatten.length≤35184372088832
def iR(kind:Nat)(b:List UInt8):List UInt8:=UInt8.ofNat kind::b
def fF(kind:Int)(b:List UInt8):List UInt8:=UInt8.ofNat (kind%256).toNat::b
def oi(kind:Nat)(b:List UInt8):List UInt8:=sum (iR kind b)
def lI(kind:Int)(b:List UInt8):List UInt8:=sum (fF kind b)
def leaf(b:List UInt8):List UInt8:=oi 0 b
def HS(l r:List UInt8):List UInt8:=oi 1 (l++r)
def Cm(l r:List UInt8):Bool:=decide (l.length=32)&&decide (r.length=32)
def cM(l r:List UInt8):List UInt8:=if Cm l r then HS l r else []
def j8(l r:List UInt8):Int:=if Cm l r then 0 else 1
def bj(b:List UInt8):Prop :=b.length<1099511627776
theorem uq(k:Nat)(b:List UInt8):(oi k b).length=32:=Ci _
theorem Rh {parts:List (List UInt8)} {n:Nat}(h:iQ parts)(hn:n<parts.length):(dN 0 (parts.take n)).length+(parts.getD n []).length≤140737488355328:=by
 have h1:(parts.take (n+1)).flatten.length≤parts.flatten.length:=by
  conv=>rhs;rw [←List.take_append_drop (n+1) parts]
  rw [List.flatten_append,List.length_append];omega
 rw [aA parts n [] hn,List.flatten_append,List.length_append] at h1
 simp only [iQ] at h
 simp only [dN,List.length_cons]
 simp only [List.flatten_cons,List.flatten_nil,List.append_nil] at h1;omega
theorem LN {parts:List (List UInt8)} {n:Nat}(k:UInt8)(h:iQ parts)(hn:n<parts.length):(dN k (parts.take n)).length+(parts.getD n []).length≤140737488355328:=by
 have :=Rh h hn;simpa [dN] using this
theorem Ri(k:UInt8)(p:List (List UInt8)): [UInt8.ofNat (Int.toNat (k.toNat:Int))]=jo k p 0:=by simp [jo,dN]
theorem HT(k:UInt8)(p:List (List UInt8))(x:Nat)(h:x<p.length):jo k p x++List.getD p (Int.toNat (x:Int)) []=jo k p (x+1):=by
 simp only [jo,dN,Int.toNat_natCast]
 rw [aA p x [] h,List.flatten_append]
 simp
theorem JC(k:UInt8)(p:List (List UInt8))(x:Nat)(h:¬x<p.length):jo k p x=dN k p:=by
 simp only [jo,List.take_of_length_le (Nat.not_lt.1 h)]
end Go.S

end
section
namespace Go.S
def bh(c:Int):Bool:=decide (0≤c)&&(decide (c≤1114111)&&(decide (c<55296) || decide (57343<c)))
def cI(c:Int):Int:=if c<128 then 1 else if c<2048 then 2 else if c<65536 then 3 else 4
def u8(c:Int):UInt8:=UInt8.ofNat c.toNat
def more(c:Int):UInt8:=u8 (128+c%64)
def enc(c:Int):List UInt8:=if c<128 then [u8 c] else if c<2048 then [u8 (192+c/64),more c] else if c<65536 then [u8 (224+c/4096),more (c/64),more c]
 else [u8 (240+c/262144),more (c/4096),more (c/64),more c]
def dZ(c:Int):List UInt8:=if bh c then enc c else []
def rP(c:Int):Int:=if bh c then 0 else 1
def bZ(b:List UInt8):Int:=((b.getD 0 0).toNat:Int)
def uN(b:List UInt8):Nat:=if bZ b<128 then 1 else if bZ b/32=6 then 2 else if bZ b/16=14 then 3 else if bZ b/8=30 then 4 else 0
def uC(b:List UInt8):Int:=if bZ b/32=6 then bZ b%32 else if bZ b/16=14 then bZ b%16 else bZ b%8
def bq(b:List UInt8):Nat→Int
 |0=>uC b
 |k+1=>bq b k*64+((b.getD (k+1) 0).toNat:Int)%64
def om(b:List UInt8)(n:Nat):Bool:=((b.drop 1).take (n-1)).all fun x=>x.toNat/64==2
def aK(b:List UInt8):Int×Int:=
 if uN b=1 then(bZ b,1)
 else if uN b=0∨b.length<uN b∨om b (uN b)=false∨bh (bq b (uN b-1))=false∨cI (bq b (uN b-1))≠uN b then(65533,1)
 else(bq b (uN b-1),uN b)
def pg:Nat→List UInt8→List Int
 |0,_=> []
 |f+1,b=>if b.isEmpty then [] else(aK b).1::pg f (b.drop (aK b).2.toNat)
def decode(b:List UInt8):List Int:=pg b.length b
def jR:List (Int×Int):= [(65,90),(97,122),(192,214),(216,246),(248,255),(913,929),(931,937),(945,969),(1024,1119)]
def iz:List (Int×Int×Int):= [(65,90,32),(192,214,32),(216,222,32),(913,929,32),(931,937,32),(1024,1039,80),(1040,1071,32)]
def jq(c:Int)(s:Int×Int):Bool:=decide (s.1≤c)&&decide (c≤s.2)
def letter(c:Int):Bool:=jR.any (jq c)
def digit(c:Int):Bool:=decide (48≤c)&&decide (c≤57)
def aR(c:Int):Int:=match iz.find? (fun s=>jq c (s.1,s.2.1)) with
 |some s=>c+s.2.2
 |none=>c
def kt(c:Int)(k:Nat):Prop :=k≤9∧∀s∈jR.take k,jq c s=false
def kS(c:Int)(k:Nat):Prop :=k≤7∧∀s∈iz.take k,jq c (s.1,s.2.1)=false
def ku(b:List UInt8)(k:Nat):Prop :=(2≤uN b∧k+1≤uN b∧uN b≤b.length)∧∀x∈(b.drop 1).take k,x.toNat/64=2
def gq(b:List UInt8)(r:List UInt8)(l:List Int):Prop :=l++decode r=decode b∧r.length+l.length≤b.length
theorem bI(b:List UInt8)(m:Int)(h1:1≤m)(h:m≤b.length):(List.drop (Int.toNat 1) (List.take (Int.toNat m) b)).length=m.toNat-1:=by
 rw [List.length_drop,List.length_take];omega
theorem gH(b:List UInt8)(m:Int)(x:Nat)(h:(x:Int)+1<m):List.getD (List.drop (Int.toNat 1) (List.take (Int.toNat m) b)) (Int.toNat (x:Int)) 0=b.getD (x+1) 0:=by
 simp only [List.getD_eq_getElem?_getD,List.getElem?_drop,List.getElem?_take,Int.toNat_natCast,show Int.toNat 1=1 by rfl]
 rw [if_pos (by omega),Nat.add_comm]
theorem jr(b:List UInt8)(m:Int)(x:Nat)(h:(x:Int)+1<m):List.getD (List.drop (Int.toNat 1) (List.take (Int.toNat m) b)) x 0=b.getD (x+1) 0:=gH b m x h
section
variable {b:List UInt8} {n x:Nat}
theorem oq(h1:¬((b.getD (Int.toNat 0) 0).toNat:Int)<128)(h2:((b.getD (Int.toNat 0) 0).toNat:Int)/2^Int.toNat 5=6):uN b=2:=by
 have e:((b.getD (Int.toNat 0) 0).toNat:Int)=bZ b:=rfl
 simp only [e,show Int.toNat 5=5 by rfl,show Int.toNat 4=4 by rfl,show Int.toNat 3=3 by rfl] at *
 unfold uN
 (repeat' split)<;>omega
theorem ot(h1:¬((b.getD (Int.toNat 0) 0).toNat:Int)<128)(h2:¬((b.getD (Int.toNat 0) 0).toNat:Int)/2^Int.toNat 5=6)(h3:((b.getD (Int.toNat 0) 0).toNat:Int)/2^Int.toNat 4=14):uN b=3:=by
 have e:((b.getD (Int.toNat 0) 0).toNat:Int)=bZ b:=rfl
 simp only [e,show Int.toNat 5=5 by rfl,show Int.toNat 4=4 by rfl,show Int.toNat 3=3 by rfl] at *
 unfold uN
 (repeat' split)<;>omega
theorem ou(h1:¬((b.getD (Int.toNat 0) 0).toNat:Int)<128)(h2:¬((b.getD (Int.toNat 0) 0).toNat:Int)/2^Int.toNat 5=6)(h3:¬((b.getD (Int.toNat 0) 0).toNat:Int)/2^Int.toNat 4=14)
  (h4:((b.getD (Int.toNat 0) 0).toNat:Int)/2^Int.toNat 3=30):uN b=4:=by
 have e:((b.getD (Int.toNat 0) 0).toNat:Int)=bZ b:=rfl
 simp only [e,show Int.toNat 5=5 by rfl,show Int.toNat 4=4 by rfl,show Int.toNat 3=3 by rfl] at *
 unfold uN
 (repeat' split)<;>omega
theorem uf1(h1:((b.getD (Int.toNat 0) 0).toNat:Int)<128):aK b=(((b.getD (Int.toNat 0) 0).toNat:Int),1):=by
 have hn:uN b=1:=by
  unfold uN;exact if_pos h1
 simp only [aK,hn,if_true];rfl
theorem uf0(h1:¬((b.getD (Int.toNat 0) 0).toNat:Int)<128)(h2:¬((b.getD (Int.toNat 0) 0).toNat:Int)/2^Int.toNat 5=6)(h3:¬((b.getD (Int.toNat 0) 0).toNat:Int)/2^Int.toNat 4=14)
  (h4:¬((b.getD (Int.toNat 0) 0).toNat:Int)/2^Int.toNat 3=30):aK b=(65533,1):=by
 have hn:uN b=0:=by
  have e:((b.getD (Int.toNat 0) 0).toNat:Int)=bZ b:=rfl
  simp only [e,show Int.toNat 5=5 by rfl,show Int.toNat 4=4 by rfl,show Int.toNat 3=3 by rfl] at *
  unfold uN
  (repeat' split)<;>omega
 simp [aK,hn]
theorem HU(hn:uN b=n)(h2:2≤n)(h:b.length<n∨om b n=false∨bh (bq b (n-1))=false∨cI (bq b (n-1))≠n):aK b=(65533,1):=by
 subst hn
 simp only [aK]
 rw [if_neg (by omega),if_pos (.inr h)]
theorem nC(hn:uN b=n)(h2:2≤n)(h:(b.length:Int)<n):aK b=(65533,1):=HU hn h2 (.inl (by omega))
theorem LO(hn:uN b=n)(h2:2≤n)(h:¬(b.length:Int)<n):ku b 0:=⟨by omega,by simp⟩
theorem anM(h2:((b.getD (Int.toNat 0) 0).toNat:Int)/2^Int.toNat 5=6):Vg.aZ ((b.getD (Int.toNat 0) 0).toNat:Int) 31=bq b 0:=by
 rw [wh _ (by omega)]
 have e:((b.getD (Int.toNat 0) 0).toNat:Int)=bZ b:=rfl
 simp only [e,show Int.toNat 5=5 by rfl,show Int.toNat 4=4 by rfl,show Int.toNat 3=3 by rfl] at *
 unfold bq uC
 (repeat' split)<;>omega
theorem anN(h2:¬((b.getD (Int.toNat 0) 0).toNat:Int)/2^Int.toNat 5=6)(h3:((b.getD (Int.toNat 0) 0).toNat:Int)/2^Int.toNat 4=14):Vg.aZ ((b.getD (Int.toNat 0) 0).toNat:Int) 15=bq b 0:=by
 rw [LJ _ (by omega)]
 have e:((b.getD (Int.toNat 0) 0).toNat:Int)=bZ b:=rfl
 simp only [e,show Int.toNat 5=5 by rfl,show Int.toNat 4=4 by rfl,show Int.toNat 3=3 by rfl] at *
 unfold bq uC
 (repeat' split)<;>omega
theorem anO(h2:¬((b.getD (Int.toNat 0) 0).toNat:Int)/2^Int.toNat 5=6)(h3:¬((b.getD (Int.toNat 0) 0).toNat:Int)/2^Int.toNat 4=14):Vg.aZ ((b.getD (Int.toNat 0) 0).toNat:Int) 7=bq b 0:=by
 rw [Q7 _ (by omega)]
 have e:((b.getD (Int.toNat 0) 0).toNat:Int)=bZ b:=rfl
 simp only [e,show Int.toNat 5=5 by rfl,show Int.toNat 4=4 by rfl,show Int.toNat 3=3 by rfl] at *
 unfold bq uC
 (repeat' split)<;>omega
theorem JD(b:List UInt8):∀k,k≤4→0≤bq b k∧bq b k*64^(4-k)≤536870911
 |0,_=>by simp only [bq,uC];split<;>(try split)<;>omega
 |k+1,h=>by
  have ih:=JD b k (by omega)
  simp only [bq]
  refine⟨by omega,?_⟩
  rw [show 4-k=(4-(k+1))+1 by omega,Int.pow_succ] at ih
  have :k=0∨k=1∨k=2∨k=3:=by omega
  rcases this with rfl|rfl|rfl|rfl<;>simp at ih ⊢ <;>omega
theorem bn(h:ku b x):x≤3∧0≤bq b x∧bq b x≤536870911∧2≤uN b∧uN b≤4∧x+1≤uN b∧uN b≤b.length:=by
 have h4:uN b≤4:=by simp only [uN];repeat' split<;>try omega
 have hx:x≤3:=by have :=h.1;omega
 have :=JD b x (by omega)
 have hp:(1:Int)≤64^(4-x):=by
  have :x=0∨x=1∨x=2∨x=3:=by omega
  rcases this with rfl|rfl|rfl|rfl<;>decide
 have hm:bq b x*1≤bq b x*64^(4-x):=Int.mul_le_mul_of_nonneg_left hp this.1
 exact⟨hx,this.1,by omega,h.1.1,h4,h.1.2.1,h.1.2.2⟩
theorem LP(h1:1≤x)(h:x<b.length)(m:Nat)(hm:x≤m):b.getD x 0∈(b.drop 1).take m:=by
 have dX:x-1<((b.drop 1).take m).length:=by rw [List.length_take,List.length_drop];omega
 have :((b.drop 1).take m)[x-1]=b.getD x 0:=by
  rw [List.getElem_take,List.getElem_drop,List.getD_eq_getElem?_getD]
  rw [List.getElem?_eq_getElem h,Option.getD_some]
  congr 1;omega
 rw [←this];exact List.getElem_mem dX
theorem qe(hn:uN b=n)(h:ku b x)(hx:x+1<n)(hb:¬((b.getD (x+1) 0).toNat:Int)/2^Int.toNat 6=2):aK b=(65533,1):=by
 have bu:=bn h
 refine HU hn (by omega) (.inr (.inl ?_))
 cases hc:om b n with
 |false=>rfl
 |true=>
  simp only [om,List.all_eq_true] at hc
  have :=hc _ (LP (b:=b) (x:=x+1) (by omega) (by omega) (n-1) (by omega))
  simp only [beq_iff_eq] at this
  simp only [show Int.toNat 6=6 by rfl] at hb
  omega
theorem HV(h:ku b x)(hb:((b.getD (x+1) 0).toNat:Int)/2^Int.toNat 6=2)(hx:x+1<uN b):ku b (x+1):=by
 refine⟨by have :=h.1;omega,fun y hy=> ?_⟩
 have bu:=bn h
 have hl:x<(b.drop 1).length:=by rw [List.length_drop];omega
 rw [aA _ x 0 hl] at hy
 rcases List.mem_append.1 hy with hy|hy
 · exact h.2 y hy
 · simp only [List.mem_singleton,List.getD_eq_getElem?_getD,List.getElem?_drop] at hy
   subst hy
   simp only [List.getD_eq_getElem?_getD,show Int.toNat 6=6 by rfl,Nat.add_comm x 1] at hb
   omega
theorem LQ(h:ku b x)(hx:x+1<uN b):Vg.cP (bq b x*2^Int.toNat 6) (Vg.aZ ((b.getD (x+1) 0).toNat:Int) 63)=bq b (x+1):=by
 have :=bn h
 rw [Cb _ (by omega),show Int.toNat 6=6 by rfl,e9 _ _ 6 this.2.1 (by omega) (by omega)]
 rfl
theorem JE(h:ku b x)(hx:x+1=uN b):om b (uN b)=true :=by
 simp only [om,List.all_eq_true,←hx,Nat.add_sub_cancel]
 intro y hy
 simpa using h.2 y hy
theorem ľ {c:Bool}(hn:uN b=n)(h:ku b x)(hx:x+1=n)(hc:(bif !bh (bq b x) then true else !decide (cI (bq b x)=(n:Int)))=c):aK b=if c=true then(65533,1) else(bq b x,(n:Int)):=by
 have hb:=bn h
 have afX:=JE h (by omega)
 subst hn
 simp only [aK,←hx,Nat.add_sub_cancel]
 rw [hx,afX]
 rw [if_neg (by omega)]
 rw [hx] at *
 cases hr:bh (bq b x)<;>by_cases hs:cI (bq b x)=(uN b:Int)<;>simp [hr,hs] at hc ⊢ <;>subst hc<;>simp<;>omega
end
theorem Ŀ(c:Int):Vg.cP (c%64) 128=((more c).toNat:Int):=by
 rw [Cc _ (by omega) (by omega)]
 simp only [more,u8]
 rw [UInt8.toNat_ofNat'];omega
theorem cZ {c:Int}(h:bh c=true):0≤c∧c≤1114111:=by
 simp only [bh,Bool.and_eq_true,decide_eq_true_eq] at h;exact⟨h.1,h.2.1⟩
theorem LR(x:UInt8):UInt8.ofNat (Int.toNat (x.toNat:Int))=x:=by simp
theorem M8(c:Int)(h0:0≤c)(h:c<128): [UInt8.ofNat (Int.toNat (c%256))]=enc c:=by
 simp only [enc,if_pos h,u8,show c%256=c by omega]
theorem ŀ(d:Int)(h0:0≤d)(h:d<32):Vg.cP 192 d=192+d:=by
 rw [show(192:Int)=6*2^5 by rfl,e9 6 d 5 (by omega) h0 h]
theorem Ł(d:Int)(h0:0≤d)(h:d<16):Vg.cP 224 d=224+d:=by
 rw [show(224:Int)=14*2^4 by rfl,e9 14 d 4 (by omega) h0 h]
theorem ł(d:Int)(h0:0≤d)(h:d<8):Vg.cP 240 d=240+d:=by
 rw [show(240:Int)=30*2^3 by rfl,e9 30 d 3 (by omega) h0 h]
theorem Ń(c:Int)(h0:0≤c)(h:128≤c∧c<2048): [UInt8.ofNat (Int.toNat (Vg.cP 192 (c/2^Int.toNat 6%256))),UInt8.ofNat (Int.toNat ((more c).toNat:Int))]=enc c:=by
 simp only [enc,if_neg (by omega :¬c<128),if_pos h.2,LR,u8,show Int.toNat 6=6 by rfl]
 rw [show c/2^6%256=c/64 by omega,ŀ _ (by omega) (by omega)]
theorem ń(c:Int)(h0:0≤c)(h:2048≤c∧c<65536): [UInt8.ofNat (Int.toNat (Vg.cP 224 (c/2^Int.toNat 12%256))),UInt8.ofNat (Int.toNat ((more (c/2^Int.toNat 6)).toNat:Int)),UInt8.ofNat (Int.toNat ((more c).toNat:Int))]=enc c:=by
 simp only [enc,if_neg (by omega :¬c<128),if_neg (by omega :¬c<2048),if_pos h.2,LR,u8,show Int.toNat 6=6 by rfl,show Int.toNat 12=12 by rfl]
 rw [show c/2^12%256=c/4096 by omega,Ł _ (by omega) (by omega),show c/2^6=c/64 by omega]
theorem Ņ(c:Int)(h0:0≤c)(h1:c≤1114111)(h:65536≤c): [UInt8.ofNat (Int.toNat (Vg.cP 240 (c/2^Int.toNat 18%256))),UInt8.ofNat (Int.toNat ((more (c/2^Int.toNat 12)).toNat:Int)),UInt8.ofNat (Int.toNat ((more (c/2^Int.toNat 6)).toNat:Int)),UInt8.ofNat (Int.toNat ((more c).toNat:Int))]=enc c:=by
 simp only [enc,if_neg (by omega :¬c<128),if_neg (by omega :¬c<2048),if_neg (by omega :¬c<65536),LR,u8,show Int.toNat 6=6 by rfl,show Int.toNat 12=12 by rfl,show Int.toNat 18=18 by rfl]
 rw [show c/2^18%256=c/262144 by omega,ł _ (by omega) (by omega),show c/2^6=c/64 by omega,show c/2^12=c/4096 by omega]
theorem lJ(b:List UInt8)(h:0<b.length):1≤(aK b).2∧(aK b).2≤b.length∧0≤(aK b).1∧(aK b).1≤1114111:=by
 unfold aK
 split
 · have :=(b.getD 0 0).toNat_lt
   simp only [bZ];omega
 · split
   · simp only;omega
   · rename_i h1 h2
     simp only [not_or,Bool.not_eq_false] at h2
     have :=cZ h2.2.2.2.1
     simp only;omega
theorem xB:∀(f g:Nat) (b:List UInt8),b.length≤f→b.length≤g→pg f b=pg g b
 |0,0,b,_,_=>rfl
 |0,g+1,b,h,_=>by
  have :b= []:=List.eq_nil_of_length_eq_zero (by omega)
  subst this;simp [pg]
 |f+1,0,b,_,h=>by
  have :b= []:=List.eq_nil_of_length_eq_zero (by omega)
  subst this;simp [pg]
 |f+1,g+1,b,h1,h2=>by
  simp only [pg]
  cases hb:b.isEmpty with
  |true=>rfl
  |false=>
   have hl:0<b.length:=by
    rw [List.isEmpty_eq_false_iff] at hb
    exact List.length_pos_iff.2 hb
   have :=lJ b hl
   simp only [Bool.false_eq_true,if_false]
   rw [xB f g _ (by rw [List.length_drop];omega) (by rw [List.length_drop];omega)]
theorem JF:decode []= []:=rfl
theorem rk(b:List UInt8)(h:0<b.length):decode b=(aK b).1::decode (b.drop (aK b).2.toNat):=by
 have hb:=lJ b h
 unfold decode
 obtain⟨n,hn⟩:∃n,b.length=n+1:=⟨b.length-1,by omega⟩
 rw [hn]
 simp only [pg]
 have :b.isEmpty=false :=by rw [List.isEmpty_eq_false_iff];exact List.length_pos_iff.1 h
 rw [this]
 simp only [Bool.false_eq_true,if_false]
 rw [xB n _ _ (by rw [List.length_drop];omega) (Nat.le_refl _)]
theorem afY(b:List UInt8):gq b b []:=⟨rfl,by simp⟩
theorem HW {b r:List UInt8} {l:List Int}(h:gq b r l)(hr:0<(r.length:Int)):1≤(aK r).2∧(aK r).2≤r.length∧r.length+l.length≤b.length:=by
 have :=lJ r (by omega)
 exact⟨this.1,this.2.1,h.2⟩
theorem E5 {b r:List UInt8} {l:List Int}(h:gq b r l)(hr:0<(r.length:Int)):gq b (r.drop (aK r).2.toNat) (l++ [(aK r).1]):=by
 have hb:=lJ r (by omega)
 refine⟨?_,?_⟩
 · rw [List.append_assoc,List.singleton_append,←rk r (by omega)];exact h.1
 · have :=h.2
   rw [List.length_drop,List.length_append];simp;omega
theorem JG {b r:List UInt8} {l:List Int}(h:gq b r l)(hr:¬0<(r.length:Int)):l=decode b:=by
 have :r= []:=List.eq_nil_of_length_eq_zero (by omega)
 subst this
 have :=h.1
 rw [JF,List.append_nil] at this;exact this
theorem my(b:List UInt8):(decode b).length≤b.length:=by
 have :∀f (c:List UInt8),(pg f c).length≤f:=by
  intro f
  induction f with
  |zero=>intro c;simp [pg]
  |succ f ih=>intro c;simp only [pg];split;simp;have :=ih (c.drop (aK c).2.toNat);simp;omega
 exact this _ _
theorem qf(a b:Bool):(bif a then b else false)=(a&&b):=by cases a<;>rfl
theorem nine {x:Nat}(h:(x:Int)<9):x=0∨x=1∨x=2∨x=3∨x=4∨x=5∨x=6∨x=7∨x=8:=by omega
theorem Cn {c:Int} {x:Nat}(h:(x:Int)<9):(bif decide (List.getD [65,97,192,216,248,913,931,945,1024] (Int.toNat (x:Int)) 0≤c) then decide (c≤List.getD [90,122,214,246,255,929,937,969,1119] (Int.toNat (x:Int)) 0) else false)=jq c (jR.getD x (0,0)):=by
 rcases nine h with rfl|rfl|rfl|rfl|rfl|rfl|rfl|rfl|rfl<;>simp only [jq,jR,Int.toNat_natCast,List.getD_cons_zero,List.getD_cons_succ,qf]
theorem LS {c:Int} {x:Nat}(h:(x:Int)<9)(hc:(bif decide (List.getD [65,97,192,216,248,913,931,945,1024] (Int.toNat (x:Int)) 0≤c) then decide (c≤List.getD [90,122,214,246,255,929,937,969,1119] (Int.toNat (x:Int)) 0) else false)=true):true=letter c:=by
 rw [Cn h] at hc
 symm
 simp only [letter,List.any_eq_true]
 exact⟨_,bQ jR x (0,0) (by simp only [jR,List.length_cons,List.length_nil];omega),hc⟩
theorem LU {c:Int} {x:Nat}(hi:kt c x)(h:(x:Int)<9)(hc:(bif decide (List.getD [65,97,192,216,248,913,931,945,1024] (Int.toNat (x:Int)) 0≤c) then decide (c≤List.getD [90,122,214,246,255,929,937,969,1119] (Int.toNat (x:Int)) 0) else false)=false):kt c (x+1):=by
 rw [Cn h] at hc
 refine⟨by omega,fun s hs=> ?_⟩
 rw [aA jR x (0,0) (by simp only [jR,List.length_cons,List.length_nil];omega)] at hs
 rcases List.mem_append.1 hs with hs|hs
 · exact hi.2 s hs
 · rw [List.mem_singleton.1 hs];exact hc
theorem LV {c:Int} {x:Nat}(hi:kt c x)(h:¬(x:Int)<9):false=letter c:=by
 symm
 have hx:x=9:=by have :=hi.1;omega
 subst hx
 simp only [letter,List.any_eq_false]
 intro s hs
 have :=hi.2 s (by simpa [jR] using hs)
 rw [this];simp
theorem seven {x:Nat}(h:(x:Int)<7):x=0∨x=1∨x=2∨x=3∨x=4∨x=5∨x=6:=by omega
theorem E6 {c:Int} {x:Nat}(h:(x:Int)<7):(bif decide (List.getD [65,192,216,913,931,1024,1040] (Int.toNat (x:Int)) 0≤c) then decide (c≤List.getD [90,214,222,929,937,1039,1071] (Int.toNat (x:Int)) 0) else false)=jq c ((iz.getD x (0,0,0)).1,(iz.getD x (0,0,0)).2.1)∧
  List.getD ([32,32,32,32,32,80,32]:List Int) (Int.toNat (x:Int)) 0=(iz.getD x (0,0,0)).2.2:=by
 rcases seven h with rfl|rfl|rfl|rfl|rfl|rfl|rfl<;>simp only [jq,iz,Int.toNat_natCast,List.getD_cons_zero,List.getD_cons_succ,qf,and_self]
theorem zG {α:Type}(p:α→Bool)(d:α):∀(l:List α) (x:Nat),x<l.length→(∀s∈l.take x,p s=false)→p (l.getD x d)=true→l.find? p=some (l.getD x d)
 | [],x,h,_,_=>by simp at h
 |a::l,0,_,_,h=>by simp only [List.getD_cons_zero] at h ⊢;simp [List.find?_cons,h]
 |a::l,x+1,hx,h1,h=>by
  have ha:=h1 a (by simp)
  simp only [List.getD_cons_succ] at h ⊢
  rw [List.find?_cons,ha]
  exact zG p d l x (by simpa using hx) (fun s hs=>h1 s (by simp [hs])) h
theorem E7 {c:Int} {x:Nat}(hi:kS c x)(h:(x:Int)<7)(hc:(bif decide (List.getD [65,192,216,913,931,1024,1040] (Int.toNat (x:Int)) 0≤c) then decide (c≤List.getD [90,214,222,929,937,1039,1071] (Int.toNat (x:Int)) 0) else false)=true):
  c+List.getD ([32,32,32,32,32,80,32]:List Int) (Int.toNat (x:Int)) 0=aR c∧(c≤1071∧65≤c∧List.getD ([32,32,32,32,32,80,32]:List Int) (Int.toNat (x:Int)) 0≤80∧0≤List.getD ([32,32,32,32,32,80,32]:List Int) (Int.toNat (x:Int)) 0):=by
 have Rj:=E6 (c:=c) h
 refine⟨?_,?_⟩
 · rw [Rj.1] at hc
   rw [Rj.2]
   simp only [aR]
   rw [zG (fun s=>jq c (s.1,s.2.1)) (0,0,0) iz x (by simp only [iz,List.length_cons,List.length_nil];omega) hi.2 hc]
 · rcases seven h with rfl|rfl|rfl|rfl|rfl|rfl|rfl<;>simp [List.getD] at hc ⊢ <;>omega
theorem Rk {c:Int} {x:Nat}(hi:kS c x)(h:(x:Int)<7)(hc:(bif decide (List.getD [65,192,216,913,931,1024,1040] (Int.toNat (x:Int)) 0≤c) then decide (c≤List.getD [90,214,222,929,937,1039,1071] (Int.toNat (x:Int)) 0) else false)=false):kS c (x+1):=by
 rw [(E6 h).1] at hc
 refine⟨by omega,fun s hs=> ?_⟩
 rw [aA iz x (0,0,0) (by simp only [iz,List.length_cons,List.length_nil];omega)] at hs
 rcases List.mem_append.1 hs with hs|hs
 · exact hi.2 s hs
 · rw [List.mem_singleton.1 hs];exact hc
theorem Rl {c:Int} {x:Nat}(hi:kS c x)(h:¬(x:Int)<7):c=aR c:=by
 have hx:x=7:=by have :=hi.1;omega
 subst hx
 simp only [aR]
 rw [List.find?_eq_none.2 (fun s hs=>by rw [hi.2 s (by simpa [iz] using hs)];simp)]
theorem qg {b:List UInt8} {n x:Nat} {m:Int}(hn:uN b=n)(h:ku b x)(hx:x+1=n)(hc:bh (bq b x)=false∨¬cI (bq b x)=m)(hm:(n:Int)=m):aK b=(65533,1):=by
 subst hm
 have hb:=bn h
 refine HU hn (by omega) ?_
 rw [show n-1=x by omega]
 rcases hc with hc|hc
 · exact .inr (.inr (.inl hc))
 · exact .inr (.inr (.inr hc))
theorem qh {b:List UInt8} {n x:Nat} {m:Int}(hn:uN b=n)(h:ku b x)(hx:x+1=n)(hc:bh (bq b x)=true∧cI (bq b x)=m)(hm:(n:Int)=m):aK b=(bq b x,m):=by
 subst hm
 have :=ľ (c:=false) hn h hx (by simp [hc.1,hc.2])
 simpa using this
theorem LW {A B:Prop} [Decidable A] [Decidable B](h:A∧B):(bif decide A then decide B else false)=true :=by simp [h.1,h.2]
theorem TL {A B:Prop} [Decidable A] [Decidable B](h:¬A∨¬B):(bif decide A then decide B else false)=false :=by
 by_cases ha:A<;>by_cases hb:B<;>simp_all
end Go.S
namespace Go.S
def gY(c:Int):Bool:=(decide (0≤c)&&decide (c<55296)) || (decide (57343<c)&&decide (c<1114112))
def bz(c a b:Int):Bool:=decide (a≤c)&&decide (c≤b)
def iA(a b:Int):Int:=if a<b then a else b
def xC(n:Int):Int:= [0,0,192,224,240].getD n.toNat 0
def jS(b:List UInt8)(n:Int):Nat→Int
 |0=>bZ b-xC n
 |k+1=>jS b n k*64+((b.getD (k+1) 0).toNat:Int)-128
def aX(b:List UInt8)(n:Int):Int:=if(b.length:Int)<n then -1 else jS b n (n.toNat-1)
def ur(b:List UInt8)(n:Int):Prop :=0<b.length∧1≤n∧n≤4
def lY(b:List UInt8)(n:Int)(k:Nat):Prop :=(n≤b.length)∧1≤k∧k≤n
def mz(b:List UInt8)(k:Nat):Bool:=gY (aX b k)&&decide (enc (aX b k)=b.take k)
def eD(b:List UInt8):Nat→Int×Int
 |0=>(65533,1)
 |k+1=>if mz b (k+1) then(aX b (k+1:Nat),((k+1:Nat):Int)) else eD b k
theorem Co(c:Int):gY c=bh c:=by
 simp only [gY,bh]
 by_cases h1:0≤c<;>by_cases h2:c<55296<;>by_cases h3:57343<c<;>by_cases h4:c≤1114111<;>simp [h1,h2,h3,h4]<;>omega
theorem yN {c:Int} {y:UInt8}(h0:0≤c)(h1:c<256):u8 c=y↔c=(y.toNat:Int):=by
 have hy:=y.toNat_lt
 constructor
 · intro h
   have :=congrArg UInt8.toNat h
   simp only [u8] at this
   rw [UInt8.toNat_ofNat'] at this
   omega
 · intro h
   subst h;simp [u8]
theorem Cp {c:Int} {y:UInt8}:more c=y↔128+c%64=(y.toNat:Int):=yN (by omega) (by omega)
theorem afZ {c:Int} {y0:UInt8}(h0:0≤c)(h1:c≤1114111):enc c= [y0]↔c<128∧c=(y0.toNat:Int):=by
 unfold enc
 split
 · simp only [List.cons.injEq,and_true,yN h0 (by omega), *,true_and]
 · (repeat' split)<;>simp<;>omega
theorem TM {c:Int} {y0 y1:UInt8}(h0:0≤c)(h1:c≤1114111):enc c= [y0,y1]↔128≤c∧c<2048∧192+c/64=(y0.toNat:Int)∧128+c%64=(y1.toNat:Int):=by
 unfold enc
 split
 · simp;omega
 · split
   · simp only [List.cons.injEq,and_true,yN (c:=192+c/64) (by omega) (by omega),Cp];omega
   · (repeat' split)<;>simp<;>omega
theorem TN {c:Int} {y0 y1 y2:UInt8}(h0:0≤c)(h1:c≤1114111):enc c= [y0,y1,y2]↔2048≤c∧c<65536∧224+c/4096=(y0.toNat:Int)∧128+c/64%64=(y1.toNat:Int)∧128+c%64=(y2.toNat:Int):=by
 unfold enc
 split
 · simp;omega
 · split
   · simp;omega
   · split
     · simp only [List.cons.injEq,and_true,yN (c:=224+c/4096) (by omega) (by omega),Cp];omega
     · simp;omega
theorem TO {c:Int} {y0 y1 y2 y3:UInt8}(h0:0≤c)(h1:c≤1114111):enc c= [y0,y1,y2,y3]↔65536≤c∧240+c/262144=(y0.toNat:Int)∧128+c/4096%64=(y1.toNat:Int)∧128+c/64%64=(y2.toNat:Int)∧128+c%64=(y3.toNat:Int):=by
 unfold enc
 split
 · simp;omega
 · split
   · simp;omega
   · split
     · simp;omega
     · simp only [List.cons.injEq,and_true,yN (c:=240+c/262144) (by omega) (by omega),Cp];omega
def gI(b:List UInt8)(k:Nat):Prop :=uN b=k∧k≤b.length∧(k=1∨(om b k=true∧bh (bq b (k-1))=true∧cI (bq b (k-1))=(k:Int)))
theorem qi(b:List UInt8)(k:Nat):mz b k=true↔bh (aX b k)=true∧enc (aX b k)=b.take k:=by
 simp only [mz,Co,Bool.and_eq_true,decide_eq_true_eq]
theorem LX {b:List UInt8} {k:Nat}(h:b.length<k):mz b k=false :=by
 have :aX b k= -1:=by simp only [aX];rw [if_pos (by omega)]
 simp only [mz,this,gY];rfl
theorem Cq(b:List UInt8):0≤bZ b∧bZ b<256:=by have :=(b.getD 0 0).toNat_lt;simp only [bZ];omega
theorem HX(x0:UInt8)(l:List UInt8):(mz (x0::l) 1=true↔gI (x0::l) 1)∧aX (x0::l) 1=bZ (x0::l):=by
 have hb:aX (x0::l) 1=bZ (x0::l):=by
  simp only [aX];rw [if_neg (by simp;omega)];simp [jS,xC]
 refine⟨?_,hb⟩
 have hl:=Cq (x0::l)
 rw [qi]
 show bh (aX (x0::l) 1)=true∧enc (aX (x0::l) 1)= [x0]↔_
 rw [hb]
 have hr:bh (bZ (x0::l))=true :=by simp [bh];omega
 rw [afZ hl.1 (by omega),hr]
 simp only [gI,uN,true_or,and_true,List.length_cons,true_and]
 have :bZ (x0::l)=(x0.toNat:Int):=rfl
 constructor
 · intro h;rw [if_pos h.1];exact⟨rfl,by omega⟩
 · intro h
   refine⟨?_,this⟩
   by_cases h1:bZ (x0::l)<128
   · exact h1
   · rw [if_neg h1] at h;(repeat' split at h)<;>omega
theorem Rm(b:List UInt8):uN b=2↔bZ b/32=6:=by unfold uN;(repeat' split)<;>omega
theorem Rn(b:List UInt8):uN b=3↔bZ b/16=14:=by unfold uN;(repeat' split)<;>omega
theorem Ro(b:List UInt8):uN b=4↔bZ b/8=30:=by unfold uN;(repeat' split)<;>omega
theorem JH(c:Int):cI c=2↔128≤c∧c<2048:=by unfold cI;(repeat' split)<;>omega
theorem JI(c:Int):cI c=3↔2048≤c∧c<65536:=by unfold cI;(repeat' split)<;>omega
theorem JJ(c:Int):cI c=4↔65536≤c:=by unfold cI;(repeat' split)<;>omega
theorem cO(c:Int):bh c=true↔0≤c∧c≤1114111∧(c<55296∨57343<c):=by simp [bh]
theorem TP(x0 x1:UInt8)(l:List UInt8):(mz (x0::x1::l) 2=true↔gI (x0::x1::l) 2)∧(gI (x0::x1::l) 2→aX (x0::x1::l) 2=bq (x0::x1::l) 1):=by
 have h0:=x0.toNat_lt;have h1:=x1.toNat_lt
 have hb:aX (x0::x1::l) 2=((x0.toNat:Int)-192)*64+x1.toNat-128:=by
  simp only [aX];rw [if_neg (by simp;omega)];rfl
 have hl:bZ (x0::x1::l)=(x0.toNat:Int):=rfl
 have ha:bZ (x0::x1::l)/32=6→bq (x0::x1::l) 1=(x0.toNat:Int)%32*64+(x1.toNat:Int)%64:=by
  intro h
  simp only [bq,uC];rw [if_pos h];rfl
 have hg:gI (x0::x1::l) 2↔(bZ (x0::x1::l)/32=6∧(x1.toNat/64=2∧bh (bq (x0::x1::l) 1)=true∧cI (bq (x0::x1::l) 1)=2)):=by
  simp only [gI,Rm]
  simp [om]
 rw [hg,qi]
 show(bh (aX (x0::x1::l) 2)=true∧enc (aX (x0::x1::l) 2)= [x0,x1]↔_)∧_
 rw [hb]
 refine⟨⟨fun⟨g1,g2⟩=> ?_,fun⟨g1,g2,g3,g4⟩=> ?_⟩,fun⟨g1,g2,g3,g4⟩=> ?_⟩
 · rw [cO] at g1
   rw [TM (by omega) (by omega)] at g2
   have g6:bZ (x0::x1::l)/32=6:=by rw [hl];omega
   refine⟨g6,by omega,?_,?_⟩
   · rw [ha g6,cO];omega
   · rw [ha g6,JH];omega
 · rw [ha g1] at g3 g4
   rw [cO] at g3;rw [JH] at g4;rw [hl] at g1
   have :((x0.toNat:Int)-192)*64+x1.toNat-128=(x0.toNat:Int)%32*64+(x1.toNat:Int)%64:=by omega
   rw [this,cO]
   refine⟨g3,?_⟩
   rw [TM (by omega) (by omega)];omega
 · rw [ha g1];rw [hl] at g1;omega
theorem TQ(x0 x1 x2:UInt8)(l:List UInt8):(mz (x0::x1::x2::l) 3=true↔gI (x0::x1::x2::l) 3)∧(gI (x0::x1::x2::l) 3→aX (x0::x1::x2::l) 3=bq (x0::x1::x2::l) 2):=by
 have h0:=x0.toNat_lt;have h1:=x1.toNat_lt;have h2:=x2.toNat_lt
 have hb:aX (x0::x1::x2::l) 3=(((x0.toNat:Int)-224)*64+x1.toNat-128)*64+x2.toNat-128:=by
  simp only [aX];rw [if_neg (by simp;omega)];rfl
 have hl:bZ (x0::x1::x2::l)=(x0.toNat:Int):=rfl
 have ha:bZ (x0::x1::x2::l)/16=14→bq (x0::x1::x2::l) 2=((x0.toNat:Int)%16*64+(x1.toNat:Int)%64)*64+(x2.toNat:Int)%64:=by
  intro h
  simp only [bq,uC];rw [if_neg (by omega),if_pos h];rfl
 have hg:gI (x0::x1::x2::l) 3↔(bZ (x0::x1::x2::l)/16=14∧((x1.toNat/64=2∧x2.toNat/64=2)∧bh (bq (x0::x1::x2::l) 2)=true∧cI (bq (x0::x1::x2::l) 2)=3)):=by
  simp only [gI,Rn]
  simp [om]
 rw [hg,qi]
 show(bh (aX (x0::x1::x2::l) 3)=true∧enc (aX (x0::x1::x2::l) 3)= [x0,x1,x2]↔_)∧_
 rw [hb]
 refine⟨⟨fun⟨g1,g2⟩=> ?_,fun⟨g1,g2,g3,g4⟩=> ?_⟩,fun⟨g1,g2,g3,g4⟩=> ?_⟩
 · rw [cO] at g1
   rw [TN (by omega) (by omega)] at g2
   have g6:bZ (x0::x1::x2::l)/16=14:=by rw [hl];omega
   refine⟨g6,by omega,?_,?_⟩
   · rw [ha g6,cO];omega
   · rw [ha g6,JI];omega
 · rw [ha g1] at g3 g4
   rw [cO] at g3;rw [JI] at g4;rw [hl] at g1
   have :(((x0.toNat:Int)-224)*64+x1.toNat-128)*64+x2.toNat-128=((x0.toNat:Int)%16*64+(x1.toNat:Int)%64)*64+(x2.toNat:Int)%64:=by omega
   rw [this,cO]
   refine⟨g3,?_⟩
   rw [TN (by omega) (by omega)];omega
 · rw [ha g1];rw [hl] at g1;omega
theorem TR(x0 x1 x2 x3:UInt8)(l:List UInt8):(mz (x0::x1::x2::x3::l) 4=true↔gI (x0::x1::x2::x3::l) 4)∧(gI (x0::x1::x2::x3::l) 4→aX (x0::x1::x2::x3::l) 4=bq (x0::x1::x2::x3::l) 3):=by
 have h0:=x0.toNat_lt;have h1:=x1.toNat_lt;have h2:=x2.toNat_lt;have h3:=x3.toNat_lt
 have hb:aX (x0::x1::x2::x3::l) 4=((((x0.toNat:Int)-240)*64+x1.toNat-128)*64+x2.toNat-128)*64+x3.toNat-128:=by
  simp only [aX];rw [if_neg (by simp;omega)];rfl
 have hl:bZ (x0::x1::x2::x3::l)=(x0.toNat:Int):=rfl
 have ha:bZ (x0::x1::x2::x3::l)/8=30→bq (x0::x1::x2::x3::l) 3=(((x0.toNat:Int)%8*64+(x1.toNat:Int)%64)*64+(x2.toNat:Int)%64)*64+(x3.toNat:Int)%64:=by
  intro h
  simp only [bq,uC];rw [if_neg (by omega),if_neg (by omega)];rfl
 have hg:gI (x0::x1::x2::x3::l) 4↔(bZ (x0::x1::x2::x3::l)/8=30∧((x1.toNat/64=2∧x2.toNat/64=2∧x3.toNat/64=2)∧bh (bq (x0::x1::x2::x3::l) 3)=true∧cI (bq (x0::x1::x2::x3::l) 3)=4)):=by
  simp only [gI,Ro]
  simp [om]
 rw [hg,qi]
 show(bh (aX (x0::x1::x2::x3::l) 4)=true∧enc (aX (x0::x1::x2::x3::l) 4)= [x0,x1,x2,x3]↔_)∧_
 rw [hb]
 refine⟨⟨fun⟨g1,g2⟩=> ?_,fun⟨g1,g2,g3,g4⟩=> ?_⟩,fun⟨g1,g2,g3,g4⟩=> ?_⟩
 · rw [cO] at g1
   rw [TO (by omega) (by omega)] at g2
   have g6:bZ (x0::x1::x2::x3::l)/8=30:=by rw [hl];omega
   refine⟨g6,by omega,?_,?_⟩
   · rw [ha g6,cO];omega
   · rw [ha g6,JJ];omega
 · rw [ha g1] at g3 g4
   rw [cO] at g3;rw [JJ] at g4;rw [hl] at g1
   have :((((x0.toNat:Int)-240)*64+x1.toNat-128)*64+x2.toNat-128)*64+x3.toNat-128=(((x0.toNat:Int)%8*64+(x1.toNat:Int)%64)*64+(x2.toNat:Int)%64)*64+(x3.toNat:Int)%64:=by omega
   rw [this,cO]
   refine⟨g3,?_⟩
   rw [TO (by omega) (by omega)];omega
 · rw [ha g1];rw [hl] at g1;omega
theorem ov(b:List UInt8)(k:Nat)(hb:0<b.length)(h1:1≤k)(h4:k≤4):(mz b k=true↔gI b k)∧(gI b k→aX b k=bq b (k-1)∨(k=1∧aX b k=bZ b)):=by
 by_cases hs:b.length<k
 · rw [LX hs]
   exact⟨⟨fun h=>absurd h (by decide),fun h=>absurd h.2.1 (by omega)⟩,fun h=>absurd h.2.1 (by omega)⟩
 · have :k=1∨k=2∨k=3∨k=4:=by omega
   match b,this with
   | [],_=>simp at hb
   |x0::l, .inl h=>subst h;exact⟨(HX x0 l).1,fun _=> .inr ⟨rfl,(HX x0 l).2⟩⟩
   |x0::x1::l, .inr (.inl h)=>subst h;exact⟨(TP x0 x1 l).1,fun g=> .inl ((TP x0 x1 l).2 g)⟩
   |x0::x1::x2::l, .inr (.inr (.inl h))=>subst h;exact⟨(TQ x0 x1 x2 l).1,fun g=> .inl ((TQ x0 x1 x2 l).2 g)⟩
   |x0::x1::x2::x3::l, .inr (.inr (.inr h))=>subst h;exact⟨(TR x0 x1 x2 x3 l).1,fun g=> .inl ((TR x0 x1 x2 x3 l).2 g)⟩
   | [_], .inr (.inl h)=>subst h;simp at hs
   | [_], .inr (.inr (.inl h))=>subst h;simp at hs
   | [_,_], .inr (.inr (.inl h))=>subst h;simp at hs
   | [_], .inr (.inr (.inr h))=>subst h;simp at hs
   | [_,_], .inr (.inr (.inr h))=>subst h;simp at hs
   | [_,_,_], .inr (.inr (.inr h))=>subst h;simp at hs
theorem JK {b:List UInt8} {k:Nat}(h:gI b k)(h1:1≤k)(h4:k≤4)(hb:0<b.length):aK b=(aX b k,(k:Int)):=by
 have ht:=(ov b k hb h1 h4).2 h
 obtain⟨hn,hl,hr⟩:=h
 simp only [aK,hn]
 by_cases hk:k=1
 · subst hk
   rw [if_pos rfl]
   rcases ht with ht|ht
   · obtain⟨x0,l,rfl⟩:∃x0 l,b=x0::l:=by cases b with
      |nil=>simp at hb
      |cons x l=>exact⟨x,l,rfl⟩
     have e:aX (x0::l) ((1:Nat):Int)=bZ (x0::l):=(HX x0 l).2
     rw [e];rfl
   · rw [ht.2];rfl
 · rw [if_neg hk]
   rcases hr with hr|hr
   · omega
   · rw [if_neg (by simp only [not_or];refine⟨by omega,by omega,by simp [hr.1],by simp [hr.2.1],by simp [hr.2.2]⟩)]
     rcases ht with ht|ht
     · rw [ht]
     · omega
theorem E8 {b:List UInt8}(hb:0<b.length)(n:Nat):∀k,k≤4→(∀j,j≤k→1≤j→¬gI b j)→eD b k=(65533,1)
 |0,_,_=>rfl
 |k+1,h4,h=>by
  simp only [eD]
  have :mz b (k+1)=false :=by
   cases ht:mz b (k+1) with
   |false=>rfl
   |true=>exact absurd ((ov b (k+1) hb (by omega) h4).1.1 ht) (h _ (Nat.le_refl _) (by omega))
  rw [this]
  exact E8 hb n k (by omega) (fun j hj=>h j (by omega))
theorem wi {b:List UInt8}(hb:0<b.length) {n:Nat}(hg:gI b n)(h1:1≤n):∀k,k≤4→n≤k→eD b k=(aX b n,(n:Int))
 |0,_,h=>by omega
 |k+1,h4,h=>by
  simp only [eD]
  by_cases hk:n=k+1
  · subst hk
    rw [(ov b (k+1) hb (by omega) h4).1.2 hg,if_pos rfl]
  · have :mz b (k+1)=false :=by
     cases ht:mz b (k+1) with
     |false=>rfl
     |true=>
      have :=(ov b (k+1) hb (by omega) h4).1.1 ht
      have h2:=this.1;have h3:=hg.1;omega
    rw [this]
    exact wi hb hg h1 k (by omega) (by omega)
theorem TS(b:List UInt8):uN b≤4:=by unfold uN;(repeat' split)<;>omega
theorem tc(b:List UInt8)(hb:0<b.length):eD b 4=aK b:=by
 by_cases hg:gI b (uN b)∧1≤uN b
 · rw [wi hb hg.1 hg.2 4 (Nat.le_refl _) (TS b),JK hg.1 hg.2 (TS b) hb]
 · rw [E8 hb 0 4 (Nat.le_refl _) (fun j hj h1 h=>hg (by have :=h.1;rw [this];exact⟨h,h1⟩))]
   symm
   simp only [aK]
   by_cases h1:uN b=1
   · exfalso;apply hg
     exact⟨⟨rfl,by omega, .inl h1⟩,by omega⟩
   · rw [if_neg h1]
     rw [if_pos]
     by_cases h0:uN b=0
     · exact .inl h0
     · refine .inr ?_
       by_cases hl:b.length<uN b
       · exact .inl hl
       · refine .inr ?_
         cases hc:om b (uN b) with
         |false=>exact .inl rfl
         |true=>
          cases hr:bh (bq b (uN b-1)) with
          |false=>exact .inr (.inl rfl)
          |true=>
           refine .inr (.inr fun hs=>hg ⟨⟨rfl,by omega, .inr ⟨hc,hr,hs⟩⟩,by omega⟩)
theorem ņ(c:Int)(h0:0≤c)(h:c<128): [UInt8.ofNat (Int.toNat (c%256))]=enc c:=M8 c h0 h
theorem Ň(c:Int)(h0:0≤c)(h:128≤c∧c<2048): [UInt8.ofNat (Int.toNat ((192+c/64)%256)),UInt8.ofNat (Int.toNat ((128+c%64)%256))]=enc c:=by
 simp only [enc,if_neg (by omega :¬c<128),if_pos h.2,more,u8]
 rw [show(192+c/64)%256=192+c/64 by omega,show(128+c%64)%256=128+c%64 by omega]
theorem ň(c:Int)(h0:0≤c)(h:2048≤c∧c<65536): [UInt8.ofNat (Int.toNat ((224+c/4096)%256)),UInt8.ofNat (Int.toNat ((128+c/64%64)%256)),UInt8.ofNat (Int.toNat ((128+c%64)%256))]=enc c:=by
 simp only [enc,if_neg (by omega :¬c<128),if_neg (by omega :¬c<2048),if_pos h.2,more,u8]
 rw [show(224+c/4096)%256=224+c/4096 by omega,show(128+c/64%64)%256=128+c/64%64 by omega,show(128+c%64)%256=128+c%64 by omega]
theorem ŉ(c:Int)(h0:0≤c)(h1:c≤1114111)(h:65536≤c): [UInt8.ofNat (Int.toNat ((240+c/262144)%256)),UInt8.ofNat (Int.toNat ((128+c/4096%64)%256)),UInt8.ofNat (Int.toNat ((128+c/64%64)%256)),UInt8.ofNat (Int.toNat ((128+c%64)%256))]=enc c:=by
 simp only [enc,if_neg (by omega :¬c<128),if_neg (by omega :¬c<2048),if_neg (by omega :¬c<65536),more,u8]
 rw [show(240+c/262144)%256=240+c/262144 by omega,show(128+c/4096%64)%256=128+c/4096%64 by omega,show(128+c/64%64)%256=128+c/64%64 by omega,show(128+c%64)%256=128+c%64 by omega]
theorem Cr(c:Int):letter c=(bz c 65 90 || (bz c 97 122 || (bz c 192 214 || (bz c 216 246 || (bz c 248 255 || (bz c 913 929 || (bz c 931 937 || (bz c 945 969 || bz c 1024 1119)))))))):=by
 simp only [letter,jR,jq,bz,List.any_cons,List.any_nil,Bool.or_false]
theorem qj {c:Int}(h:bz c 1024 1039=true):c+80=aR c∧c≤1039∧1024≤c:=by
 simp only [bz,Bool.and_eq_true,decide_eq_true_eq] at h
 refine⟨?_,by omega⟩
 have :∀a e:Int,e<1024→(decide (a≤c)&&decide (c≤e))=false :=fun a e he=>by
  rw [decide_eq_false (p:=c≤e) (by omega),Bool.and_false]
 simp only [aR,iz,jq,List.find?_cons]
 rw [this _ _ (by decide),this _ _ (by decide),this _ _ (by decide),this _ _ (by decide),this _ _ (by decide)]
 simp only [decide_eq_true h.1,decide_eq_true h.2,Bool.and_self]
theorem qk {c:Int}(h:bz c 1024 1039=false)(hc:bz c 65 90=true∨bz c 192 214=true∨bz c 216 222=true∨bz c 913 929=true∨bz c 931 937=true∨bz c 1040 1071=true):c+32=aR c∧c≤1071∧65≤c:=by
 have hb:c≤1071∧65≤c:=by
  simp only [bz,Bool.and_eq_true,decide_eq_true_eq] at hc;omega
 refine⟨?_,hb⟩
 have e:∀a b:Int,jq c (a,b)=bz c a b:=fun _ _=>rfl
 simp only [aR,iz,List.find?_cons,e,h]
 cases h1:bz c 65 90<;>cases h2:bz c 192 214<;>cases h3:bz c 216 222<;>cases h4:bz c 913 929<;>cases h5:bz c 931 937<;>cases h6:bz c 1040 1071<;>simp_all
theorem ql {c:Int}(h:bz c 1024 1039=false)(hc:bz c 65 90=false∧bz c 192 214=false∧bz c 216 222=false∧bz c 913 929=false∧bz c 931 937=false∧bz c 1040 1071=false):c=aR c:=by
 have e:∀a b:Int,jq c (a,b)=bz c a b:=fun _ _=>rfl
 simp only [aR,iz,List.find?_cons,e,h,hc,List.find?_nil]
theorem Cs(b:List UInt8)(n:Int):∀k,k≤4→ -(1000*128^k)≤jS b n k∧jS b n k≤1000*128^k
 |0,_=>by
  have :=Cq b
  have h2:0≤xC n∧xC n≤240:=by
   unfold xC
   match n.toNat with
   |0=>decide
   |1=>decide
   |2=>decide
   |3=>decide
   |4=>decide
   |k+5=>simp
  simp only [jS];omega
 |k+1,h=>by
  have ih:=Cs b n k (by omega)
  simp only [jS]
  have hx:=(b.getD (k+1) 0).toNat_lt
  generalize (b.getD (k+1) 0).toNat=y at hx ⊢
  have :k=0∨k=1∨k=2∨k=3:=by omega
  rcases this with rfl|rfl|rfl|rfl<;>simp at ih ⊢ <;>omega
theorem M9 {b:List UInt8} {n:Int} {k:Nat}(h:lY b n k)(hp:ur b n): -268435456000≤jS b n (k-1)∧jS b n (k-1)≤268435456000:=by
 obtain⟨h1,h2,h3⟩:=h
 obtain⟨_,_,hp⟩:=hp
 have :=Cs b n (k-1) (by omega)
 have hk:k-1=0∨k-1=1∨k-1=2∨k-1=3:=by omega
 rcases hk with hk|hk|hk|hk<;>rw [hk] at this ⊢ <;>omega
theorem Rp {b:List UInt8} {n:Int} {k:Nat}(h:lY b n k):jS b n (k-1)*64+((b.getD (Int.toNat (k:Int)) 0).toNat:Int)-128=jS b n (k+1-1):=by
 obtain⟨j,rfl⟩:∃j,k=j+1:=⟨k-1,by have :=h.2.1;omega⟩
 rfl
theorem E9 {b:List UInt8} {n:Int}:((b.getD (Int.toNat 0) 0).toNat:Int)- [0,0,192,224,240].getD n.toNat 0=jS b n 0:=rfl
theorem TT {b:List UInt8} {n:Int} {k:Nat}(h:lY b n k)(hk:¬(k:Int)<n):jS b n (k-1)=aX b n:=by
 have h1:=h.1;have h2:=h.2
 have :k=n.toNat:=by omega
 simp only [aX];rw [if_neg (by omega),this]
theorem JL {b:List UInt8} {n:Int}(h:(b.length:Int)<n): -1=aX b n:=by simp only [aX];rw [if_pos h]
theorem Rq {b:List UInt8} {i j:Nat}(hi:i<b.length):List.drop (Int.toNat (i:Int)) (List.take (Int.toNat (iA ((i:Int)+(j:Int)) (b.length:Int))) b)=(b.drop i).take j:=by
 simp only [iA]
 split
 · rw [show Int.toNat ((i:Int)+(j:Int))=i+j by omega,Int.toNat_natCast,List.drop_take,Nat.add_sub_cancel_left]
 · rw [Int.toNat_natCast,Int.toNat_natCast,List.take_length]
   rw [List.take_of_length_le];rw [List.length_drop];omega
theorem LY(b:List UInt8)(k:Nat):eD b (k+1)=if gY (aX b ((k+1:Nat):Int))=true∧enc (aX b ((k+1:Nat):Int))=b.take (k+1) then(aX b ((k+1:Nat):Int),((k+1:Nat):Int)) else eD b k:=by
 simp only [eD,mz,Bool.and_eq_true,decide_eq_true_eq]
theorem LZ {c:Int}(h:gY c=true):0≤c∧c≤1114111:=by rw [Co] at h;exact cZ h
theorem Ŋ(b:List UInt8):gq b (b.drop 0) []:=⟨rfl,by simp⟩
theorem lK {b:List UInt8} {x1:Nat×List Int} {x4:Nat×Nat}(h2:gq b (b.drop x1.1) x1.2∧x1.1≤b.length)(h3:(x1.1:Int)<b.length)(h5:x4.1≤4∧(x1.1:Int)=x4.2)(h9:¬((x4.1+1:Nat):Int)≤4):
  1≤(eD (b.drop x4.2) x4.1).2∧(x1.1:Int)+(eD (b.drop x4.2) x4.1).2≤b.length∧
  gq b (b.drop (Int.toNat ((x1.1:Int)+(eD (b.drop x4.2) x4.1).2))) (x1.2++ [(eD (b.drop x4.2) x4.1).1])∧x1.2.length+1≤b.length:=by
 have e1:x4.1=4:=by omega
 have e2:x4.2=x1.1:=by omega
 have hl:0<(b.drop x1.1).length:=by rw [List.length_drop];omega
 rw [e1,e2,tc _ hl]
 have hb:=lJ _ hl
 have hs:=E5 h2.1 (by omega)
 rw [List.drop_drop] at hs
 rw [List.length_drop] at hb
 have h6:=h2.1.2
 rw [List.length_drop] at h6
 refine⟨hb.1,by omega,?_,by omega⟩
 rw [show Int.toNat ((x1.1:Int)+(aK (b.drop x1.1)).2)=x1.1+(aK (b.drop x1.1)).2.toNat by omega]
 exact hs
theorem Fa {b:List UInt8} {x1:Nat×List Int} {x4:Nat×Nat}(h3:(x1.1:Int)<b.length)(h5:x4.1≤4∧(x1.1:Int)=x4.2):
  eD (b.drop x1.1) (x4.1+1)=bif (bif gY (aX (b.drop (Int.toNat (x1.1:Int))) ((x4.1+1:Nat):Int)) then decide (enc (aX (b.drop (Int.toNat (x1.1:Int))) ((x4.1+1:Nat):Int))=List.drop (Int.toNat (x1.1:Int)) (List.take (Int.toNat (iA ((x1.1:Int)+((x4.1+1:Nat):Int)) (b.length:Int))) b)) else false)
   then(aX (b.drop (Int.toNat (x1.1:Int))) ((x4.1+1:Nat):Int),((x4.1+1:Nat):Int)) else eD (b.drop x4.2) x4.1:=by
 rw [Rq (by omega),LY,show x4.2=x1.1 by omega,Int.toNat_natCast]
 by_cases hr:gY (aX (b.drop x1.1) ((x4.1+1:Nat):Int))=true
 · by_cases he:enc (aX (b.drop x1.1) ((x4.1+1:Nat):Int))=(b.drop x1.1).take (x4.1+1)
   · rw [if_pos ⟨hr,he⟩,hr,decide_eq_true he];rfl
   · rw [if_neg (fun h=>he h.2),hr,decide_eq_false he];rfl
 · rw [if_neg (fun h=>hr h.1),Bool.not_eq_true _ |>.mp hr];rfl
theorem Rr {α β:Type}(c:Bool)(p q:α×β):(bif c then p else q).1=(bif c then p.1 else q.1):=by cases c<;>rfl
theorem Rs {α β:Type}(c:Bool)(p q:α×β):(bif c then p else q).2=(bif c then p.2 else q.2):=by cases c<;>rfl
end Go.S

end
section
namespace Go.S
def dU(c:Int):Bool:=letter c || digit c
def gZ(t:List UInt8):List Int→List UInt8
 | []=>t
 |c::w=>if 64<t.length+(dZ (aR c)).length then t else gZ (t++dZ (aR c)) w
def c9(w:List Int):List UInt8:=gZ [] w
def Ew(w:List Int):Prop :=w.length≤1099511627776∧∀c∈w,bh c=true
def gJ(w:List Int)(k:Nat)(t:List UInt8):Prop :=gZ t (w.drop k)=c9 w∧k≤w.length∧t.length≤64
def im(acc:List Int):List Int→List (List Int)
 | []=>if acc.isEmpty then [] else [acc]
 |c::l=>if dU c then im (acc++ [c]) l else if acc.isEmpty then im [] l else acc::im [] l
def aS(b:List UInt8):List (List UInt8):=(im [] (decode b)).map c9
def gr(d:List Int)(k:Nat)(T:List (List UInt8))(W:List Int):Prop :=
 T++(im W (d.drop k)).map c9=(im [] d).map c9∧k≤d.length∧T.length≤k∧W.length≤k∧(∀c∈W,c∈d)
def iS(d:List Int)(k:Nat)(T:List (List UInt8)):Prop :=
 T++(im [] (d.drop k)).map c9=(im [] d).map c9∧k≤d.length+1∧T.length≤k
def nh(d:List Int)(i k:Nat):Prop :=i≤k∧k≤d.length∧∀c∈(d.drop i).take (k-i),dU c=true
def isTerm(s:List UInt8):Bool:=decide (aS s= [s])
def cu(l:List (List UInt8)):Nat→Nat
 |0=>0
 |k+1=>if Op.bytesLess (l.getD k []) (l.getD (cu l k) []) then k else cu l k
def cm(l:List (List UInt8)):Nat:=cu l l.length
def nD(l:List (List UInt8))(k:Nat):Prop :=1≤k∧(k≤l.length∨k=1)
theorem HY(c:Int):aR c=c∨(65≤c∧c≤1071∧(aR c=c+32∨aR c=c+80)):=by
 cases h:bz c 1024 1039 with
 |true=>have :=qj h;omega
 |false=>
  by_cases h2:bz c 65 90=true∨bz c 192 214=true∨bz c 216 222=true∨bz c 913 929=true∨bz c 931 937=true∨bz c 1040 1071=true
  · have :=qk h h2;omega
  · simp only [not_or,Bool.not_eq_true] at h2
    exact .inl (ql h h2).symm
theorem rl {c:Int}(h:bh c=true):bh (aR c)=true :=by
 have :=HY c
 rw [cO] at *
 omega
theorem Ey(b:List UInt8):bh (aK b).1=true :=by
 unfold aK
 split
 · rename_i h
   have :=Cq b
   have e:bh (bZ b)=true :=(cO _).2 (by omega)
   exact e
 · split
   · have e:bh 65533=true :=by rw [cO];omega
     exact e
   · rename_i h1 h2
     simp only [not_or,Bool.not_eq_false] at h2
     have e:bh (bq b (uN b-1))=true :=by have :=h2.2.2.2.1;assumption
     simp only;exact e
theorem jT(b:List UInt8):∀c∈decode b,bh c=true :=by
 have :∀f (x:List UInt8),∀c∈pg f x,bh c=true :=by
  intro f
  induction f with
  |zero=>intro x c h;simp [pg] at h
  |succ f ih=>
   intro x c h
   simp only [pg] at h
   split at h
   · cases h
   · rcases List.mem_cons.1 h with h|h
     · rw [h];exact Ey x
     · exact ih _ c h
 exact this _ b
theorem j9 {α:Type}(l:List α)(k:Nat)(d:α)(h:k<l.length):l.drop k=l.getD k d::l.drop (k+1):=by
 rw [List.drop_eq_getElem_cons h,List.getD_eq_getElem?_getD,List.getElem?_eq_getElem h,Option.getD_some]
theorem Na(w:List Int):gJ w 0 []:=⟨rfl,Nat.zero_le _,by simp⟩
theorem Ct {w:List Int} {k:Nat} {t:List UInt8}(h:gJ w k t)(hk:(k:Int)<w.length)(hs:¬(64:Int)<(t.length:Int)+((dZ (aR (w.getD (Int.toNat (k:Int)) 0))).length:Int)):gJ w (k+1) (t++dZ (aR (w.getD (Int.toNat (k:Int)) 0))):=by
 obtain⟨h1,h2,h3⟩:=h
 rw [Int.toNat_natCast] at *
 rw [j9 w k 0 (by omega)] at h1
 simp only [gZ] at h1
 rw [if_neg (by omega)] at h1
 exact⟨h1,by omega,by rw [List.length_append];omega⟩
theorem Cu {w:List Int} {k:Nat} {t:List UInt8}(h:gJ w k t)(hk:(k:Int)<w.length)(hs:(64:Int)<(t.length:Int)+((dZ (aR (w.getD (Int.toNat (k:Int)) 0))).length:Int)):t=c9 w:=by
 obtain⟨h1,h2,h3⟩:=h
 rw [Int.toNat_natCast] at *
 rw [j9 w k 0 (by omega)] at h1
 simp only [gZ] at h1
 rw [if_pos (by omega)] at h1
 exact h1
theorem Fb {w:List Int} {k:Nat} {t:List UInt8}(h:gJ w k t)(hk:¬(k:Int)<w.length):t=c9 w:=by
 obtain⟨h1,h2,h3⟩:=h
 rw [List.drop_eq_nil_of_le (by omega)] at h1
 exact h1
theorem Cv(c:Int):(enc c).length≤4:=by unfold enc;(repeat' split)<;>simp
theorem Fc(c:Int):(dZ c).length≤4:=by unfold dZ;split;exact Cv c;simp
theorem ow {w:List Int} {k:Nat}(h:Ew w)(hk:(k:Int)<w.length):dZ (aR (w.getD (Int.toNat (k:Int)) 0))=enc (aR (w.getD (Int.toNat (k:Int)) 0))∧0≤aR (w.getD (Int.toNat (k:Int)) 0)∧aR (w.getD (Int.toNat (k:Int)) 0)≤1114111:=by
 rw [Int.toNat_natCast]
 have :=rl (h.2 _ (bQ w k 0 (by omega)))
 refine⟨by simp only [dZ,this,if_true],?_⟩
 rw [cO] at this;omega
theorem af0(d:List Int):gr d 0 [] []:=⟨rfl,Nat.zero_le _,by simp,by simp,by simp⟩
theorem Rt {d:List Int} {k:Nat} {T:List (List UInt8)} {W:List Int}(h:gr d k T W)(hk:(k:Int)<d.length)(hw:dU (d.getD (Int.toNat (k:Int)) 0)=true):gr d (k+1) T (W++ [d.getD (Int.toNat (k:Int)) 0]):=by
 obtain⟨h1,h2,h3,h4,h5⟩:=h
 rw [Int.toNat_natCast] at *
 rw [j9 d k 0 (by omega)] at h1
 simp only [im] at h1
 rw [if_pos hw] at h1
 refine⟨h1,by omega,by omega,by simp;omega,fun c hc=> ?_⟩
 rcases List.mem_append.1 hc with hc|hc
 · exact h5 c hc
 · rw [List.mem_singleton.1 hc];exact bQ d k 0 (by omega)
theorem TU {d:List Int} {k:Nat} {T:List (List UInt8)} {W:List Int}(h:gr d k T W)(hk:(k:Int)<d.length)(hw:dU (d.getD (Int.toNat (k:Int)) 0)=false)(hW:(0:Int)<W.length):gr d (k+1) (T++ [c9 W]) []:=by
 obtain⟨h1,h2,h3,h4,h5⟩:=h
 rw [Int.toNat_natCast] at *
 rw [j9 d k 0 (by omega)] at h1
 simp only [im] at h1
 rw [if_neg (by rw [hw];decide),if_neg (by cases W;simp at hW;simp)] at h1
 refine⟨?_,by omega,by simp;omega,by simp,by simp⟩
 rw [List.append_assoc];exact h1
theorem Ru {d:List Int} {k:Nat} {T:List (List UInt8)} {W:List Int}(h:gr d k T W)(hk:(k:Int)<d.length)(hw:dU (d.getD (Int.toNat (k:Int)) 0)=false)(hW:¬(0:Int)<W.length):gr d (k+1) T W:=by
 obtain⟨h1,h2,h3,h4,h5⟩:=h
 rw [Int.toNat_natCast] at *
 have :W= []:=List.eq_nil_of_length_eq_zero (by omega)
 subst this
 rw [j9 d k 0 (by omega)] at h1
 simp only [im] at h1
 rw [if_neg (by rw [hw];decide),if_pos (by simp)] at h1
 exact⟨h1,by omega,by omega,by simp,by simp⟩
theorem Rv {b:List UInt8} {k:Nat} {T:List (List UInt8)} {W:List Int}(h:gr (decode b) k T W)(hk:¬(k:Int)<(decode b).length)(hW:(0:Int)<W.length):T++ [c9 W]=aS b:=by
 obtain⟨h1,h2,h3,h4,h5⟩:=h
 rw [List.drop_eq_nil_of_le (by omega)] at h1
 simp only [im] at h1
 rw [if_neg (by cases W;simp at hW;simp)] at h1
 exact h1
theorem Rw {b:List UInt8} {k:Nat} {T:List (List UInt8)} {W:List Int}(h:gr (decode b) k T W)(hk:¬(k:Int)<(decode b).length)(hW:¬(0:Int)<W.length):T=aS b:=by
 obtain⟨h1,h2,h3,h4,h5⟩:=h
 have :W= []:=List.eq_nil_of_length_eq_zero (by omega)
 subst this
 rw [List.drop_eq_nil_of_le (by omega)] at h1
 simp only [im,List.isEmpty_nil,if_true,List.map_nil,List.append_nil] at h1
 exact h1
theorem kT {b:List UInt8} {k:Nat} {T:List (List UInt8)} {W:List Int}(h:gr (decode b) k T W)(hb:b.length≤1099511627776):Ew W∧T.length≤1099511627776∧W.length≤1099511627776∧k≤1099511627776:=by
 obtain⟨h1,h2,h3,h4,h5⟩:=h
 have :=my b
 exact⟨⟨by omega,fun c hc=>jT b c (h5 c hc)⟩,by omega,by omega,by omega⟩
theorem ŋ(d:List Int):iS d 0 []:=⟨rfl,Nat.zero_le _,by simp⟩
theorem af1 {d:List Int} {k:Nat}(h:(k:Int)<d.length):nh d k k:=⟨Nat.le_refl _,by omega,by simp⟩
theorem Rx {d:List Int} {i k:Nat}(h:nh d i k)(hk:(k:Int)<d.length)(hw:dU (d.getD (Int.toNat (k:Int)) 0)=true):nh d i (k+1):=by
 obtain⟨h1,h2,h3⟩:=h
 rw [Int.toNat_natCast] at hw
 refine⟨by omega,by omega,fun c hc=> ?_⟩
 rw [show k+1-i=(k-i)+1 by omega,aA _ _ 0 (by rw [List.length_drop];omega)] at hc
 rcases List.mem_append.1 hc with hc|hc
 · exact h3 c hc
 · rw [List.mem_singleton.1 hc,List.getD_eq_getElem?_getD,List.getElem?_drop,show i+(k-i)=k by omega,←List.getD_eq_getElem?_getD];exact hw
theorem Cw:∀(u acc rest:List Int),(∀c∈u,dU c=true)→im acc (u++rest)=im (acc++u) rest
 | [],acc,rest,_=>by simp
 |c::u,acc,rest,h=>by
  simp only [List.cons_append,im]
  rw [if_pos (h c (by simp)),Cw u _ rest (fun x hx=>h x (by simp [hx]))]
  rw [List.append_assoc];rfl
theorem Ry {d:List Int} {i k:Nat} {T:List (List UInt8)}(h:iS d i T)(hr:nh d i k)(hs:¬(k:Int)<d.length∨dU (d.getD (Int.toNat (k:Int)) 0)=false)(hik:(i:Int)<k):
  iS d (k+1) (T++ [c9 (List.take (Int.toNat (k:Int)-Int.toNat (i:Int)) (List.drop (Int.toNat (i:Int)) d))]):=by
 obtain⟨h1,h2,h3⟩:=h
 obtain⟨r1,r2,r3⟩:=hr
 rw [Int.toNat_natCast] at *
 rw [Int.toNat_natCast]
 refine⟨?_,by omega,by simp;omega⟩
 rw [←List.take_append_drop (k-i) (d.drop i),Cw _ _ _ r3,List.nil_append,List.drop_drop,show i+(k-i)=k by omega] at h1
 have dp:(List.take (k-i) (List.drop i d)).isEmpty=false :=by
  rw [List.isEmpty_eq_false_iff];intro h0
  have :=congrArg List.length h0
  rw [List.length_take,List.length_drop] at this;simp at this;omega
 by_cases hk:k<d.length
 · rw [j9 d k 0 hk] at h1
   simp only [im] at h1
   rw [if_neg (by rcases hs with hs|hs;omega;rw [hs];decide),dp,if_neg (by simp)] at h1
   rw [List.append_assoc];exact h1
 · rw [List.drop_eq_nil_of_le (show d.length≤k by omega)] at h1
   rw [List.drop_eq_nil_of_le (show d.length≤k+1 by omega)]
   simp only [im] at h1
   rw [dp,if_neg (by simp)] at h1
   simp only [im,List.isEmpty_nil,if_true,List.map_nil,List.append_nil,List.map_cons] at h1 ⊢
   exact h1
theorem L0 {d:List Int} {i k:Nat} {T:List (List UInt8)}(h:iS d i T)(hi:(i:Int)<d.length)(hr:nh d i k)(hs:¬(k:Int)<d.length∨dU (d.getD (Int.toNat (k:Int)) 0)=false)(hik:¬(i:Int)<k):iS d (k+1) T:=by
 obtain⟨h1,h2,h3⟩:=h
 have :i=k:=by have :=hr.1;omega
 subst this
 rw [Int.toNat_natCast] at *
 rw [j9 d i 0 (by omega)] at h1
 simp only [im] at h1
 rw [if_neg (by rcases hs with hs|hs;omega;rw [hs];decide),if_pos (by simp)] at h1
 exact⟨h1,by omega,by omega⟩
theorem Rz {b:List UInt8} {i:Nat} {T:List (List UInt8)}(h:iS (decode b) i T)(hi:¬(i:Int)<(decode b).length):T=aS b:=by
 obtain⟨h1,h2,h3⟩:=h
 rw [List.drop_eq_nil_of_le (by omega)] at h1
 simp only [im,List.isEmpty_nil,if_true,List.map_nil,List.append_nil] at h1
 exact h1
theorem Ō {b:List UInt8} {i k:Nat}(hb:b.length≤1099511627776):Ew (List.take (Int.toNat (k:Int)-Int.toNat (i:Int)) (List.drop (Int.toNat (i:Int)) (decode b))):=by
 have :=my b
 refine⟨by rw [List.length_take,List.length_drop];omega,fun c hc=>jT b c (List.mem_of_mem_drop (List.mem_of_mem_take hc))⟩
theorem RA(s:List UInt8):(bif decide (((aS s).length:Int)=1) then decide (List.getD (aS s) (Int.toNat 0) []=s) else false)=isTerm s:=by
 unfold isTerm
 match h:aS s with
 | []=>simp
 | [x]=>by_cases hx:x=s<;>simp [hx]
 |x::y::l=>simp;omega
theorem tf {l:List (List UInt8)}:∀k,0<l.length→k≤l.length→cu l k<l.length
 |0,h,_=>h
 |k+1,h,hk=>by
  simp only [cu];split
  · omega
  · exact tf k h (by omega)
theorem JM(l:List (List UInt8)):cu l 1=0:=by
 have :∀b:Bool,(if b=true then 0 else 0)=(0:Nat):=by intro b;cases b<;>rfl
 exact this _
theorem L1 {l:List (List UInt8)} {k:Nat}(h:nD l k)(hk:¬(k:Int)<l.length):cu l k=cm l:=by
 obtain⟨h1,h2⟩:=h
 rcases h2 with h2|h2
 · rw [show k=l.length by omega];rfl
 · subst h2
   by_cases h0:l.length=0
   · unfold cm;rw [h0,JM];rfl
   · rw [show 1=l.length by omega];rfl
theorem TV {c:Int}(h:letter c=true∨digit c=true):dU c=true :=by simpa [dU] using h
theorem JN {c:Int}(h:letter c=false∧digit c=false):dU c=false :=by simpa [dU] using h
theorem RB(c:Int):(bif letter c then true else bif decide (48≤c) then decide (c≤57) else false)=dU c:=by
 unfold dU digit
 cases letter c<;>simp
theorem JO(l:List (List UInt8))(x:Nat):(bif Op.bytesLess (List.getD l (Int.toNat (x:Int)) []) (List.getD l (Int.toNat ((cu l x:Nat):Int)) []) then(x:Int) else((cu l x:Nat):Int))=((cu l (x+1):Nat):Int):=by
 rw [Int.toNat_natCast,Int.toNat_natCast]
 rw [show cu l (x+1)=if Op.bytesLess (l.getD x []) (l.getD (cu l x) [])=true then x else cu l x from rfl]
 by_cases h:Op.bytesLess (l.getD x []) (l.getD (cu l x) [])=true
 · rw [if_pos h,h];rfl
 · rw [if_neg h,Bool.not_eq_true _ |>.mp h];rfl
def pR:Nat→List (List UInt8)→List (List UInt8)
 |0,_=> []
 |f+1,l=>if l.isEmpty then [] else l.getD (cm l) []::pR f (l.filter (fun x=> !decide (x=l.getD (cm l) [])))
def sorted(l:List (List UInt8)):List (List UInt8):=pR l.length l
def mA(l0 l out:List (List UInt8)):Prop :=out++sorted l=sorted l0∧out.length+l.length≤l0.length
def fW(l:List (List UInt8))(s:List UInt8)(k:Nat)(r:List (List UInt8)):Prop :=r=(l.take k).filter (fun x=> !decide (x=s))∧k≤l.length
def qm(l:List (List UInt8))(t:List UInt8)(k:Nat):List Int:=((List.range k).filter (fun i=>decide (l.getD i []=t))).map (fun(i:Nat)=>(i:Int))
def places(b t:List UInt8):List Int:=qm (aS b) t (aS b).length
def gK(l:List (List UInt8))(t:List UInt8)(k:Nat)(r:List Int):Prop :=r=qm l t k∧k≤l.length∧r.length≤k
def L2(c:Int):Bool:=dU c&&decide (aR c=c)
def L3(s:List UInt8):Bool:=(decode s).all L2&&(decide (0<((decode s).length:Int))&&decide ((s.length:Int)≤64))
theorem tg {l:List (List UInt8)}(h:0<l.length):cm l<l.length:=tf _ h (Nat.le_refl _)
theorem oz {l:List (List UInt8)}(h:0<l.length):(l.filter (fun x=> !decide (x=l.getD (cm l) []))).length<l.length:=by
 have hm:=bQ l (cm l) [] (tg h)
 exact List.length_filter_lt_length_iff_exists.2 ⟨_,hm,by simp⟩
theorem vo:∀(f g:Nat) (l:List (List UInt8)),l.length≤f→l.length≤g→pR f l=pR g l
 |0,0,_,_,_=>rfl
 |0,g+1,l,h,_=>by
  have :l= []:=List.eq_nil_of_length_eq_zero (by omega)
  subst this;rfl
 |f+1,0,l,_,h=>by
  have :l= []:=List.eq_nil_of_length_eq_zero (by omega)
  subst this;rfl
 |f+1,g+1,l,h1,h2=>by
  simp only [pR]
  cases hl:l.isEmpty with
  |true=>rfl
  |false=>
   have hp:0<l.length:=by rw [List.isEmpty_eq_false_iff] at hl;exact List.length_pos_iff.2 hl
   have :=oz hp
   rw [if_neg (by simp),if_neg (by simp),vo f g _ (by omega) (by omega)]
theorem xD {l:List (List UInt8)}(h:0<l.length):sorted l=l.getD (cm l) []::sorted (l.filter (fun x=> !decide (x=l.getD (cm l) []))):=by
 have hr:=oz h
 unfold sorted
 obtain⟨n,hn⟩:∃n,l.length=n+1:=⟨l.length-1,by omega⟩
 rw [hn]
 simp only [pR]
 have :l.isEmpty=false :=by rw [List.isEmpty_eq_false_iff];exact List.length_pos_iff.1 h
 rw [this,if_neg (by simp),vo n _ _ (by omega) (Nat.le_refl _)]
theorem ō(l:List (List UInt8)):mA l l []:=⟨rfl,by simp⟩
theorem RC {l m out:List (List UInt8)}(h:mA l m out)(hm:¬(0:Int)<m.length):out=sorted l:=by
 have :m= []:=List.eq_nil_of_length_eq_zero (by omega)
 subst this
 have h1:=h.1
 simpa [sorted,pR] using h1
theorem Ŏ(l:List (List UInt8))(s:List UInt8):fW l s 0 []:=⟨by simp,Nat.zero_le _⟩
theorem L4 {l:List (List UInt8)} {s:List UInt8} {k:Nat} {r:List (List UInt8)}(h:fW l s k r)(hk:(k:Int)<l.length)(hs:(!decide (l.getD (Int.toNat (k:Int)) []=s))=true):fW l s (k+1) (r++ [l.getD (Int.toNat (k:Int)) []]):=by
 rw [Int.toNat_natCast] at *
 refine⟨?_,by omega⟩
 rw [aA l k [] (by omega),List.filter_append,←h.1,List.filter_cons,hs]
 simp
theorem L5 {l:List (List UInt8)} {s:List UInt8} {k:Nat} {r:List (List UInt8)}(h:fW l s k r)(hk:(k:Int)<l.length)(hs:(!decide (l.getD (Int.toNat (k:Int)) []=s))=false):fW l s (k+1) r:=by
 rw [Int.toNat_natCast] at *
 refine⟨?_,by omega⟩
 rw [aA l k [] (by omega),List.filter_append,←h.1,List.filter_cons,hs]
 simp
theorem RD {l:List (List UInt8)} {s:List UInt8} {k:Nat} {r:List (List UInt8)}(h:fW l s k r):r.length≤k:=by
 rw [h.1]
 have :=List.length_filter_le (fun x=> !decide (x=s)) (l.take k)
 rw [List.length_take] at this;omega
theorem Cx {l m out r:List (List UInt8)} {k:Nat}(h:mA l m out)(hm:(0:Int)<m.length)(hr:fW m (m.getD (Int.toNat ((cm m:Nat):Int)) []) k r)(hk:¬(k:Int)<m.length):mA l r (out++ [m.getD (Int.toNat ((cm m:Nat):Int)) []])∧r.length<m.length:=by
 rw [Int.toNat_natCast] at *
 obtain⟨h1,h2⟩:=h
 have :k=m.length:=by have :=hr.2;omega
 have e:r=m.filter (fun x=> !decide (x=m.getD (cm m) [])):=by rw [hr.1,this,List.take_length]
 have hl:=oz (l:=m) (by omega)
 rw [xD (by omega)] at h1
 rw [e]
 refine⟨⟨?_,?_⟩,hl⟩
 · rw [List.append_assoc];exact h1
 · rw [List.length_append];simp only [List.length_cons,List.length_nil];omega
theorem HZ {l:List (List UInt8)} {t:List UInt8} {k:Nat} {r:List Int}(h:gK l t k r)(hk:(k:Int)<l.length)(hs:l.getD (Int.toNat (k:Int)) []=t):gK l t (k+1) (r++ [(k:Int)]):=by
 rw [Int.toNat_natCast] at *
 refine⟨?_,by omega,by have :=h.2.2;simp;omega⟩
 rw [h.1]
 simp only [qm,List.range_succ,List.filter_append,List.map_append,List.filter_cons,hs,decide_true,if_true,List.filter_nil,List.map_cons,List.map_nil]
theorem H2 {l:List (List UInt8)} {t:List UInt8} {k:Nat} {r:List Int}(h:gK l t k r)(hk:(k:Int)<l.length)(hs:¬l.getD (Int.toNat (k:Int)) []=t):gK l t (k+1) r:=by
 rw [Int.toNat_natCast] at *
 refine⟨?_,by omega,by have :=h.2.2;omega⟩
 rw [h.1]
 have :∀(a:List Nat) (p:Nat→Bool),p k=false→(a++ [k]).filter p=a.filter p:=by
  intro a p hp
  rw [List.filter_append,List.filter_cons,hp];simp
 simp only [qm,List.range_succ]
 rw [this _ _ (decide_eq_false hs)]
theorem RE(l:List (List UInt8))(t:List UInt8):gK l t 0 []:=⟨rfl,Nat.zero_le _,Nat.le_refl _⟩
theorem JP {b t:List UInt8} {k:Nat} {r:List Int}(h:gK (aS b) t k r)(hk:¬(k:Int)<(aS b).length):r=places b t:=by
 rw [h.1,show k=(aS b).length by have :=h.2.1;omega];rfl
theorem rm(b:List UInt8):(aS b).length≤b.length:=by
 have h0:∀(l acc:List Int),(im acc l).length≤l.length+acc.length:=by
  intro l
  induction l with
  |nil=>intro acc;simp only [im];cases acc<;>simp
  |cons c l ih=>
   intro acc
   simp only [im]
   split
   · have :=ih (acc++ [c]);simp at this ⊢;omega
   · split
     · have :=ih [];simp at this ⊢;omega
     · rename_i h1 h2
       have :0<acc.length:=by cases acc;simp at h2;simp
       have :=ih [];simp at this ⊢;omega
 have :=h0 (decode b) []
 have :=my b
 simp only [aS,List.length_map]
 simp at *;omega
theorem xE {m l':List (List UInt8)} {s s':List UInt8} {k:Nat} {r:List (List UInt8)}(h:fW l' s' k r∧m=l'∧s=s'):fW m s k r:=by rw [h.2.1,h.2.2];exact h.1
end Go.S

end
section
namespace Go.S
theorem Fe(b:List UInt8):∀k,(eD b k).1≠65533→enc (eD b k).1=b.take (eD b k).2.toNat
 |0,h=>absurd rfl h
 |k+1,h=>by
  simp only [eD] at h ⊢
  by_cases ht:mz b (k+1)=true
  · rw [if_pos ht] at h ⊢
    have :=((qi b (k+1)).1 ht).2
    simpa using this
  · rw [if_neg ht] at h ⊢
    exact Fe b k h
theorem JQ {b:List UInt8}(hb:0<b.length)(h:(aK b).1≠65533):enc (aK b).1=b.take (aK b).2.toNat:=by
 rw [←tc b hb] at h ⊢;exact Fe b 4 h
theorem H3:∀(n:Nat) (b:List UInt8),b.length≤n→(∀c∈decode b,c≠65533)→(decode b).flatMap enc=b:=by
 intro n
 induction n with
 |zero=>intro b h _;have :b= []:=List.eq_nil_of_length_eq_zero (by omega)
        subst this;rfl
 |succ n ih=>
  intro b h hc
  by_cases h0:b.length=0
  · have :b= []:=List.eq_nil_of_length_eq_zero h0
    subst this;rfl
  · have hb:=lJ b (by omega)
    rw [rk b (by omega)] at hc ⊢
    rw [List.flatMap_cons,JQ (by omega) (hc _ (by simp)),ih _ (by rw [List.length_drop];omega) (fun c h'=>hc c (by simp [h']))]
    exact List.take_append_drop _ _
theorem lZ {c:Int}(h0:0≤c)(h1:c<256):((u8 c).toNat:Int)=c:=((yN h0 h1).1 rfl).symm
theorem th {c:Int}(hr:bh c=true)(r:List UInt8):aX (enc c++r) ((enc c).length:Nat)=c∧1≤(enc c).length∧(enc c).length≤4:=by
 have hb:=cZ hr
 unfold enc
 split
 · refine⟨?_,by simp,by simp⟩
   have e:=(HX (u8 c) r).2
   have e2:bZ (u8 c::r)=c:=lZ hb.1 (by omega)
   rw [e2] at e;exact e
 · split
   · refine⟨?_,by simp,by simp⟩
     show aX (u8 (192+c/64)::more c::r) 2=c
     have h1:=lZ (c:=192+c/64) (by omega) (by omega)
     have h2:((more c).toNat:Int)=128+c%64:=lZ (c:=128+c%64) (by omega) (by omega)
     have e:aX (u8 (192+c/64)::more c::r) 2=(((u8 (192+c/64)).toNat:Int)-192)*64+(more c).toNat-128:=by
      simp only [aX];rw [if_neg (by simp;omega)];rfl
     rw [e,h1,h2];omega
   · split
     · refine⟨?_,by simp,by simp⟩
       show aX (u8 (224+c/4096)::more (c/64)::more c::r) 3=c
       have h1:=lZ (c:=224+c/4096) (by omega) (by omega)
       have h2:((more (c/64)).toNat:Int)=128+c/64%64:=lZ (c:=128+c/64%64) (by omega) (by omega)
       have h3:((more c).toNat:Int)=128+c%64:=lZ (c:=128+c%64) (by omega) (by omega)
       have e:aX (u8 (224+c/4096)::more (c/64)::more c::r) 3=((((u8 (224+c/4096)).toNat:Int)-224)*64+(more (c/64)).toNat-128)*64+(more c).toNat-128:=by
        simp only [aX];rw [if_neg (by simp;omega)];rfl
       rw [e,h1,h2,h3];omega
     · refine⟨?_,by simp,by simp⟩
       show aX (u8 (240+c/262144)::more (c/4096)::more (c/64)::more c::r) 4=c
       have h1:=lZ (c:=240+c/262144) (by omega) (by omega)
       have h2:((more (c/4096)).toNat:Int)=128+c/4096%64:=lZ (c:=128+c/4096%64) (by omega) (by omega)
       have h3:((more (c/64)).toNat:Int)=128+c/64%64:=lZ (c:=128+c/64%64) (by omega) (by omega)
       have h4:((more c).toNat:Int)=128+c%64:=lZ (c:=128+c%64) (by omega) (by omega)
       have e:aX (u8 (240+c/262144)::more (c/4096)::more (c/64)::more c::r) 4=(((((u8 (240+c/262144)).toNat:Int)-240)*64+(more (c/4096)).toNat-128)*64+(more (c/64)).toNat-128)*64+(more c).toNat-128:=by
        simp only [aX];rw [if_neg (by simp;omega)];rfl
       rw [e,h1,h2,h3,h4];omega
theorem L6 {c:Int}(hr:bh c=true)(r:List UInt8):aK (enc c++r)=(c,((enc c).length:Int)):=by
 obtain⟨hb,h1,h4⟩:=th hr r
 have hl:0<(enc c++r).length:=by rw [List.length_append];omega
 have ht:mz (enc c++r) (enc c).length=true :=by
  rw [qi,hb];exact⟨hr,by rw [List.take_left'];rfl⟩
 have hg:=(ov _ _ hl h1 h4).1.1 ht
 rw [←tc _ hl,wi hl hg h1 4 (Nat.le_refl _) h4,hb]
theorem ti:∀(P:List Int),(∀c∈P,bh c=true)→decode (P.flatMap enc)=P
 | [],_=>rfl
 |c::P,h=>by
  have hr:=h c (by simp)
  have h1:=(th hr []).2.1
  rw [List.flatMap_cons,rk _ (by rw [List.length_append];omega),L6 hr]
  simp only
  rw [Int.toNat_natCast,List.drop_left' rfl,ti P (fun x hx=>h x (by simp [hx]))]
theorem Cy:∀(w:List Int) (t:List UInt8),t.length+(w.flatMap fun c=>dZ (aR c)).length≤64→gZ t w=t++w.flatMap fun c=>dZ (aR c)
 | [],t,_=>by simp [gZ]
 |c::w,t,h=>by
  rw [List.flatMap_cons,List.length_append] at h
  simp only [gZ]
  rw [if_neg (by omega),Cy w _ (by rw [List.length_append];omega),List.flatMap_cons,List.append_assoc]
theorem tj:∀(w:List Int) (t:List UInt8),∃p:List Int,(∀c∈p,c∈w)∧gZ t w=t++p.flatMap fun c=>dZ (aR c)
 | [],t=>⟨[],by simp,by simp [gZ]⟩
 |c::w,t=>by
  simp only [gZ]
  split
  · exact⟨[],by simp,by simp⟩
  · obtain⟨p,h1,h2⟩:=tj w (t++dZ (aR c))
    refine⟨c::p,?_,by rw [h2,List.flatMap_cons,List.append_assoc]⟩
    intro x hx
    rcases List.mem_cons.1 hx with hx|hx
    · simp [hx]
    · simp [h1 x hx]
theorem uu:∀(w:List Int) (t:List UInt8),t.length≤64→(gZ t w).length≤64
 | [],t,h=>h
 |c::w,t,h=>by
  simp only [gZ]
  split
  · exact h
  · exact uu w _ (by rw [List.length_append];omega)
theorem xF:∀(l acc:List Int),(∀c∈acc,dU c=true)→∀W∈im acc l,∀c∈W,dU c=true∧(c∈acc∨c∈l)
 | [],acc,ha,W,hW,c,hc=>by
   simp only [im] at hW
   split at hW
   · cases hW
   · rw [List.mem_singleton.1 hW] at hc;exact⟨ha c hc, .inl hc⟩
 |x::l,acc,ha,W,hW,c,hc=>by
  simp only [im] at hW
  by_cases hx:dU x=true
  · rw [if_pos hx] at hW
    have :=xF l (acc++ [x]) (fun y hy=>by
     rcases List.mem_append.1 hy with hy|hy
     · exact ha y hy
     · rw [List.mem_singleton.1 hy];exact hx) W hW c hc
    refine⟨this.1,?_⟩
    rcases this.2 with h|h
    · rcases List.mem_append.1 h with h|h
      · exact .inl h
      · exact .inr (by simp [List.mem_singleton.1 h])
    · exact .inr (by simp [h])
  · rw [if_neg hx] at hW
    have hn:∀W'∈im [] l,∀c∈W',dU c=true∧(c∈acc∨c∈x::l):=fun W' h' y hy=>by
     have :=xF l [] (by simp) W' h' y hy
     refine⟨this.1, .inr ?_⟩
     rcases this.2 with h|h
     · cases h
     · simp [h]
    split at hW
    · exact hn W hW c hc
    · rcases List.mem_cons.1 hW with h|h
      · rw [h] at hc;exact⟨ha c hc, .inl hc⟩
      · exact hn W h c hc
theorem rn {c a b:Int}(h:c<a∨b<c):bz c a b=false :=by
 simp only [bz,Bool.and_eq_false_iff,decide_eq_false_iff_not];omega
theorem Cz {c a b:Int}:bz c a b=true↔a≤c∧c≤b:=by simp [bz]
theorem xG(c:Int):aR (aR c)=aR c:=by
 have stay:∀x:Int,(97≤x∧x<192)∨(223≤x∧x<913)∨(938≤x∧x<1024)∨1072≤x→aR x=x:=fun x h=>by
  refine(ql (rn (by omega)) ⟨rn (by omega),rn (by omega),rn (by omega),rn (by omega),rn (by omega),rn (by omega)⟩).symm
 cases h:bz c 1024 1039 with
 |true=>have :=qj h;exact stay _ (by omega)
 |false=>
  by_cases h2:bz c 65 90=true∨bz c 192 214=true∨bz c 216 222=true∨bz c 913 929=true∨bz c 931 937=true∨bz c 1040 1071=true
  · have :=qk h h2
    simp only [Cz] at h2
    exact stay _ (by omega)
  · simp only [not_or,Bool.not_eq_true] at h2
    rw [←ql h h2,←ql h h2]
theorem tk(c:Int):letter c=true↔(65≤c∧c≤90)∨(97≤c∧c≤122)∨(192≤c∧c≤214)∨(216≤c∧c≤246)∨(248≤c∧c≤255)∨(913≤c∧c≤929)∨(931≤c∧c≤937)∨(945≤c∧c≤969)∨(1024≤c∧c≤1119):=by
 rw [Cr];simp only [Bool.or_eq_true,Cz]
theorem yO(c:Int):dU c=true↔letter c=true∨(48≤c∧c≤57):=by simp [dU,digit]
theorem zH {c:Int}(h:dU c=true):dU (aR c)=true :=by
 cases h1:bz c 1024 1039 with
 |true=>have :=qj h1;rw [yO,tk];omega
 |false=>
  by_cases h2:bz c 65 90=true∨bz c 192 214=true∨bz c 216 222=true∨bz c 913 929=true∨bz c 931 937=true∨bz c 1040 1071=true
  · have :=qk h1 h2
    simp only [Cz] at h2
    rw [yO,tk];omega
  · simp only [not_or,Bool.not_eq_true] at h2
    rw [←ql h1 h2];exact h
theorem tm {α β:Type} {l:List α} {f g:α→List β}(h:∀x∈l,f x=g x):l.flatMap f=l.flatMap g:=by
 induction l with
 |nil=>rfl
 |cons a l ih=>rw [List.flatMap_cons,List.flatMap_cons,h a (by simp),ih (fun x hx=>h x (by simp [hx]))]
theorem xH {c:Int}(h:bh c=true):dZ c=enc c:=by simp only [dZ,h,if_true]
theorem RF(s:List UInt8):L3 s=isTerm s:=by
 rw [Bool.eq_iff_iff]
 simp only [L3,isTerm,Bool.and_eq_true,decide_eq_true_eq,List.all_eq_true,L2]
 constructor
 · rintro⟨hg,h0,hl⟩
   have hf:=H3 s.length s (Nat.le_refl _) (fun c hc e=>by
    have :=(hg c hc).1;rw [e,yO,tk] at this;omega)
   have hw:im [] (decode s)= [decode s]:=by
    have :=Cw (decode s) [] [] (fun c hc=>(hg c hc).1)
    rw [List.append_nil,List.nil_append] at this
    rw [this];simp only [im]
    rw [if_neg];intro he
    rw [List.isEmpty_iff.1 he] at h0;simp at h0
   have he:(decode s).flatMap (fun c=>dZ (aR c))=s:=by
    rw [tm (g:=enc) (fun c hc=>by rw [(hg c hc).2,xH (jT s c hc)]),hf]
   simp only [aS,hw,List.map_cons,List.map_nil,c9]
   rw [Cy _ _ (by rw [he];simp;omega),he];rfl
 · intro h
   have hlen:s.length≤64:=by
    have hm:s∈aS s:=by rw [h];simp
    simp only [aS,List.mem_map] at hm
    obtain⟨w,_,hw⟩:=hm
    rw [←hw];exact uu w [] (by simp)
   have hm:s∈aS s:=by rw [h];simp
   simp only [aS,List.mem_map] at hm
   obtain⟨W,hW,hs⟩:=hm
   have aG:=xF (decode s) [] (by simp) W hW
   obtain⟨p,hp,hpf⟩:=tj W []
   have hr:∀c∈p,bh (aR c)=true :=fun c hc=>rl (jT s c (by
    rcases(aG c (hp c hc)).2 with h|h
    · cases h
    · exact h))
   have G9:s=(p.map aR).flatMap enc:=by
    rw [←hs];show gZ [] W=_
    rw [hpf,List.nil_append,List.flatMap_map]
    exact tm fun c hc=>xH (hr c hc)
   have hd:decode s=p.map aR:=by
    conv=>lhs;rw [G9]
    exact ti _ (fun c hc=>by
     obtain⟨c',h',rfl⟩:=List.mem_map.1 hc;exact hr c' h')
   refine⟨fun c hc=> ?_,?_,by omega⟩
   · rw [hd] at hc
     obtain⟨c',h',rfl⟩:=List.mem_map.1 hc
     exact⟨zH (aG c' (hp c' h')).1,xG c'⟩
   · by_cases h0:decode s= []
     · rw [h0] at hW;simp [im] at hW
     · have :=List.length_pos_iff.2 h0;omega
end Go.S

end
section
namespace Go.S
theorem bO:∀a:List UInt8,Op.bytesLess a a=false
 | []=>rfl
 |a::x=>by simp [Op.bytesLess,bO x]
theorem js:∀a b c:List UInt8,Op.bytesLess a b=true→Op.bytesLess b c=true→Op.bytesLess a c=true
 |_,[],_,h,_=>by simp [Op.bytesLess] at h
 |_,_::_,[],_,h=>by simp [Op.bytesLess] at h
 | [],_::_,_::_,_,_=>rfl
 |a::x,b::y,c::z,h1,h2=>by
  simp only [Op.bytesLess,Bool.or_eq_true,decide_eq_true_eq,Bool.and_eq_true,beq_iff_eq] at h1 h2 ⊢
  rcases h1 with h1|⟨rfl,h1⟩
  · rcases h2 with h2|⟨rfl,h2⟩
    · left;rw [UInt8.lt_iff_toNat_lt] at *;omega
    · left;exact h1
  · rcases h2 with h2|⟨rfl,h2⟩
    · left;exact h2
    · right;exact⟨rfl,js x y z h1 h2⟩
theorem fX:∀a b:List UInt8,Op.bytesLess a b=true∨a=b∨Op.bytesLess b a=true
 | [],[]=> .inr (.inl rfl)
 | [],_::_=> .inl rfl
 |_::_,[]=> .inr (.inr rfl)
 |a::x,b::y=>by
  simp only [Op.bytesLess,Bool.or_eq_true,decide_eq_true_eq,Bool.and_eq_true,beq_iff_eq,List.cons.injEq]
  by_cases h:a=b
  · subst h
    rcases fX x y with h|h|h
    · exact .inl (.inr ⟨rfl,h⟩)
    · exact .inr (.inl ⟨rfl,h⟩)
    · exact .inr (.inr (.inr ⟨rfl,h⟩))
  · have :a.toNat≠b.toNat:=fun e=>h (UInt8.toNat_inj.1 e)
    by_cases h2:a.toNat<b.toNat
    · exact .inl (.inl (UInt8.lt_iff_toNat_lt.2 h2))
    · exact .inr (.inr (.inl (UInt8.lt_iff_toNat_lt.2 (by omega))))
theorem gM {a b:List UInt8}(h:Op.bytesLess a b=true):Op.bytesLess b a=false :=by
 cases h2:Op.bytesLess b a with
 |false=>rfl
 |true=>have :=js _ _ _ h h2;rw [bO] at this;cases this
def lp(l:List (List UInt8)):Prop :=l.Pairwise fun a b=>Op.bytesLess a b=true
theorem rp:∀(l m:List (List UInt8)),lp l→lp m→(∀x,x∈l↔x∈m)→l=m
 | [],[],_,_,_=>rfl
 | [],b::m,_,_,h=>by have :=(h b).2 (by simp);cases this
 |a::l,[],_,_,h=>by have :=(h a).1 (by simp);cases this
 |a::l,b::m,hl,hm,h=>by
  obtain⟨hl1,hl2⟩:=List.pairwise_cons.1 hl
  obtain⟨Ī,ī⟩:=List.pairwise_cons.1 hm
  have eV:a=b:=by
   rcases List.mem_cons.1 ((h a).1 (by simp)) with e|e
   · exact e
   · rcases List.mem_cons.1 ((h b).2 (by simp)) with e2|e2
     · exact e2.symm
     · have q1:=Ī a e
       have q2:=gM (hl1 b e2)
       rw [q1] at q2;cases q2
  subst eV
  have :=rp l m hl2 ī (fun x=>by
   constructor
   · intro hx
     rcases List.mem_cons.1 ((h x).1 (by simp [hx])) with e|e
     · have :=hl1 x hx;rw [e,bO] at this;cases this
     · exact e
   · intro hx
     rcases List.mem_cons.1 ((h x).2 (by simp [hx])) with e|e
     · have :=Ī x hx;rw [e,bO] at this;cases this
     · exact e)
  rw [this]
theorem CA(l:List (List UInt8)):∀k,k≤l.length→∀i,i<k→Op.bytesLess (l.getD i []) (l.getD (cu l k) [])=false
 |0,_,i,hi=>by omega
 |k+1,hk,i,hi=>by
  have ih:=CA l k (by omega)
  rw [show cu l (k+1)=if Op.bytesLess (l.getD k []) (l.getD (cu l k) [])=true then k else cu l k from rfl]
  by_cases h:Op.bytesLess (l.getD k []) (l.getD (cu l k) [])=true
  · rw [if_pos h]
    by_cases e:i=k
    · rw [e];exact bO _
    · have q:=ih i (by omega)
      cases hq:Op.bytesLess (l.getD i []) (l.getD k []) with
      |false=>rfl
      |true=>have :=js _ _ _ hq h;rw [this] at q;cases q
  · rw [if_neg h]
    by_cases e:i=k
    · rw [e];simpa using h
    · exact ih i (by omega)
theorem CB:∀(n:Nat) (l:List (List UInt8)),l.length≤n→lp (sorted l)∧∀x,x∈sorted l↔x∈l:=by
 intro n
 induction n with
 |zero=>
  intro l h
  have :l= []:=List.eq_nil_of_length_eq_zero (by omega)
  subst this
  exact⟨List.Pairwise.nil,fun x=>Iff.rfl⟩
 |succ n ih=>
  intro l h
  by_cases h0:l.length=0
  · have :l= []:=List.eq_nil_of_length_eq_zero h0
    subst this
    exact⟨List.Pairwise.nil,fun x=>Iff.rfl⟩
  · have hp:0<l.length:=by omega
    have hr:=oz hp
    obtain⟨i1,i2⟩:=ih (l.filter (fun x=> !decide (x=l.getD (cm l) []))) (by omega)
    have hm:l.getD (cm l) []∈l:=bQ l _ [] (tg hp)
    rw [xD hp]
    refine⟨List.pairwise_cons.2 ⟨fun x hx=> ?_,i1⟩,fun x=> ?_⟩
    · have wX:=(i2 x).1 hx
      simp only [List.mem_filter,Bool.not_eq_true',decide_eq_false_iff_not] at wX
      obtain⟨i,hi,e⟩:=List.mem_iff_getElem.1 wX.1
      have e2:l.getD i []=x:=by rw [List.getD_eq_getElem?_getD,List.getElem?_eq_getElem hi];exact e
      have q:=CA l l.length (Nat.le_refl _) i hi
      rw [e2] at q
      rcases fX (l.getD (cm l) []) x with t|t|t
      · exact t
      · exact absurd t.symm wX.2
      · have q':Op.bytesLess x (l.getD (cm l) [])=false :=q
        rw [t] at q';cases q'
    · rw [List.mem_cons,i2 x,List.mem_filter]
      simp only [Bool.not_eq_true',decide_eq_false_iff_not]
      constructor
      · rintro(h|h)
        · rw [h];exact hm
        · exact h.1
      · intro hx
        by_cases e:x=l.getD (cm l) []
        · exact .inl e
        · exact .inr ⟨hx,e⟩
theorem jt(l:List (List UInt8)):lp (sorted l):=(CB _ l (Nat.le_refl _)).1
theorem fk(l:List (List UInt8))(x:List UInt8):x∈sorted l↔x∈l:=(CB _ l (Nat.le_refl _)).2 x
theorem L7 {l m:List (List UInt8)}(h1:lp m)(h2:∀x,x∈m↔x∈l):m=sorted l:=
 rp _ _ h1 (jt l) (fun x=>(h2 x).trans (fk l x).symm)
def bJ:List (List UInt8)→List (List UInt8)
 | []=> []
 |a::l=>match bJ l with
  | []=> [a]
  |b::r=>if a=b then b::r else a::b::r
theorem ni:∀(l:List (List UInt8)) (x:List UInt8),x∈bJ l↔x∈l
 | [],_=>Iff.rfl
 |a::l,x=>by
  have ih:=ni l x
  simp only [bJ]
  split
  · rename_i h;rw [h] at ih
    rw [List.mem_singleton,List.mem_cons]
    constructor
    · exact .inl
    · rintro(h|h)
      · exact h
      · have :=ih.2 h;cases this
  · rename_i b r h;rw [h] at ih
    split
    · rename_i e;subst e
      rw [ih,List.mem_cons]
      constructor
      · exact .inr
      · rintro(h2|h2)
        · rw [←ih,h2];simp
        · exact h2
    · rw [List.mem_cons,ih,List.mem_cons]
theorem vq:∀(l:List (List UInt8)),(l.Pairwise fun a b=>Op.bytesLess b a=false)→lp (bJ l)
 | [],_=>List.Pairwise.nil
 |a::l,h=>by
  obtain⟨h1,h2⟩:=List.pairwise_cons.1 h
  have ih:=vq l h2
  simp only [bJ]
  split
  · exact List.pairwise_singleton _ _
  · rename_i b r hb
    rw [hb] at ih
    split
    · exact ih
    · rename_i dp
      refine List.pairwise_cons.2 ⟨fun x hx=> ?_,ih⟩
      have tp:b∈l:=by rw [←ni l,hb];simp
      have eV:Op.bytesLess a b=true :=by
       rcases fX a b with t|t|t
       · exact t
       · exact absurd t dp
       · rw [h1 b tp] at t;cases t
      rcases List.mem_cons.1 hx with e|e
      · rw [e];exact eV
      · exact js _ _ _ eV ((List.pairwise_cons.1 ih).1 x e)
theorem Ah {l m:List (List UInt8)}(h1:m.Pairwise fun a b=>Op.bytesLess b a=false)(h2:∀x,x∈m↔x∈l):bJ m=sorted l:=
 L7 (vq m h1) (fun x=>(ni m x).trans (h2 x))
end Go.S
namespace Go.S
def fA(a b:List UInt8):Int:=if Op.bytesLess a b then -1 else if Op.bytesLess b a then 1 else 0
theorem ŏ(a b:List UInt8):decide (fA a b=0)=decide (a=b):=by
 rw [decide_eq_decide]
 unfold fA
 rcases fX a b with h|h|h
 · rw [if_pos h]
   constructor
   · intro e;exact absurd e (by decide)
   · intro e;rw [e,bO] at h;cases h
 · subst h;simp [bO]
 · rw [if_neg (by rw [gM h];decide),if_pos h]
   constructor
   · intro e;exact absurd e (by decide)
   · intro e;rw [e,bO] at h;cases h
end Go.S
namespace Go.S
def nj(l:List (List UInt8))(k:Nat):Prop :=1≤k∧k≤l.length∧∀j,j+1<k→¬l.getD (j+1) []=l.getD j []
def iT(l:List (List UInt8))(x i k:Nat)(m:List (List UInt8)):Prop :=1≤k∧x+k≤l.length∧1≤i∧i+1≤x+k∧m.length=l.length∧m.drop i=l.drop i∧m.take i=bJ (l.take (x+k))
theorem JR {l:List (List UInt8)}(h:l≠ []):∃b r,bJ l=b::r:=by
 cases hc:bJ l with
 |nil=>
  cases l with
  |nil=>exact absurd rfl h
  |cons a l=>have :=(ni (a::l) a).2 (by simp);rw [hc] at this;cases this
 |cons b r=>exact⟨b,r,rfl⟩
theorem vr(a b:List UInt8):∀p:List (List UInt8),bJ (p++ [a,b])=if a=b then bJ (p++ [a]) else bJ (p++ [a])++ [b]
 | []=>by
   by_cases h:a=b
   · subst h;simp [bJ]
   · simp [bJ,h]
 |c::p=>by
  have ih:=vr a b p
  obtain⟨h,r,e⟩:=JR (l:=p++ [a]) (by simp)
  simp only [List.cons_append,bJ]
  rw [ih,e]
  by_cases eV:a=b
  · simp only [if_pos eV]
  · simp only [if_neg eV,List.cons_append]
    by_cases hc:c=h
    · simp only [if_pos hc,List.cons_append]
    · simp only [if_neg hc,List.cons_append]
theorem l4 {l:List (List UInt8)} {n:Nat}(h:n+1<l.length):bJ (l.take (n+2))=if l.getD n []=l.getD (n+1) [] then bJ (l.take (n+1)) else bJ (l.take (n+1))++ [l.getD (n+1) []]:=by
 rw [aA l (n+1) [] h,aA l n [] (by omega),List.append_assoc,List.singleton_append]
 exact vr _ _ _
theorem yP {l:List (List UInt8)}:∀k,k≤l.length→(∀j,j+1<k→¬l.getD (j+1) []=l.getD j [])→bJ (l.take k)=l.take k
 |0,_,_=>by simp [bJ]
 |1,h,_=>by
  cases l with
  |nil=>simp at h
  |cons a l=>simp [bJ]
 |k+2,hk,h=>by
  rw [l4 (by omega),if_neg (fun e=>h k (by omega) e.symm),yP (k+1) (by omega) (fun j hj=>h j (by omega)),←aA l (k+1) [] (by omega)]
theorem L8 {l:List (List UInt8)}(h:(l.length:Int)<2):l=bJ l:=by
 match l,h with
 | [],_=>rfl
 | [a],_=>rfl
 |a::b::l,h=>simp at h;omega
theorem af3 {l:List (List UInt8)}(h:¬(l.length:Int)<2):nj l 1:=⟨Nat.le_refl _,by omega,fun j hj=>by omega⟩
theorem RG {l:List (List UInt8)} {k:Nat}(h:nj l k)(hk:(k:Int)<l.length)(hn:¬l.getD k []=l.getD (Int.toNat ((k:Int)-1)) []):nj l (k+1):=by
 obtain⟨h1,h2,h3⟩:=h
 rw [show Int.toNat ((k:Int)-1)=k-1 by omega] at hn
 refine⟨by omega,by omega,fun j hj=> ?_⟩
 by_cases e:j+1=k
 · rw [show j=k-1 by omega,show k-1+1=k by omega];exact hn
 · exact h3 j (by omega)
theorem TW {l:List (List UInt8)} {k:Nat}(h:nj l k)(hk:¬(k:Int)<l.length):l=bJ l:=by
 obtain⟨h1,h2,h3⟩:=h
 have e:=yP k h2 h3
 rw [List.take_of_length_le (by omega)] at e
 exact e.symm
theorem Ő {l:List (List UInt8)} {x:Nat}(h:nj l x)(hx:(x:Int)<l.length)(he:l.getD x []=l.getD (Int.toNat ((x:Int)-1)) []):iT l x x 1 l:=by
 obtain⟨h1,h2,h3⟩:=h
 rw [show Int.toNat ((x:Int)-1)=x-1 by omega] at he
 refine⟨Nat.le_refl _,by omega,h1,Nat.le_refl _,rfl,rfl,?_⟩
 obtain⟨y,rfl⟩:∃y,x=y+1:=⟨x-1,by omega⟩
 rw [Nat.add_sub_cancel] at he
 rw [show y+1+1=y+2 by omega,l4 (by omega),if_pos he.symm,yP (y+1) (by omega) h3]
theorem Ff {l m:List (List UInt8)} {x i k:Nat}(h:iT l x i k m)(hk:x+k<l.length):m.getD (x+k) []=l.getD (x+k) []∧m.getD (x+k-1) []=l.getD (x+k-1) []:=by
 obtain⟨h1,h2,h3,h4,h5,h6,h7⟩:=h
 have key:∀j,i≤j→m.getD j []=l.getD j []:=fun j hj=>by
  have :=congrArg (fun q=>q.getD (j-i) []) h6
  simp only [List.getD_eq_getElem?_getD,List.getElem?_drop] at this ⊢
  rwa [show i+(j-i)=j by omega] at this
 exact⟨key _ (by omega),key _ (by omega)⟩
theorem L9 {l m:List (List UInt8)} {x i k:Nat}(h:iT l x i k m)(hk:x+k<l.length)(he:m.getD (x+k) []=m.getD (x+k-1) []):iT l x i (k+1) m:=by
 have hg:=Ff h hk
 obtain⟨h1,h2,h3,h4,h5,h6,h7⟩:=h
 rw [hg.1,hg.2] at he
 refine⟨by omega,by omega,h3,by omega,h5,h6,?_⟩
 rw [h7]
 obtain⟨n,hn⟩:∃n,x+k=n+1:=⟨x+k-1,by omega⟩
 rw [show x+(k+1)=n+2 by omega,hn,l4 (by omega),if_pos]
 rw [hn,Nat.add_sub_cancel] at he;exact he.symm
theorem RH {l m:List (List UInt8)} {x i k:Nat}(h:iT l x i k m)(hk:x+k<l.length)(he:¬m.getD (x+k) []=m.getD (x+k-1) []):iT l x (i+1) (k+1) (m.set i (m.getD (x+k) [])):=by
 have hg:=Ff h hk
 obtain⟨h1,h2,h3,h4,h5,h6,h7⟩:=h
 rw [hg.1,hg.2] at he
 rw [hg.1]
 refine⟨by omega,by omega,by omega,by omega,by rw [List.length_set];exact h5,?_,?_⟩
 · rw [List.drop_set,if_pos (by omega)]
   have :=congrArg (List.drop 1) h6
   rwa [List.drop_drop,List.drop_drop] at this
 · have hi:i<(m.set i (l.getD (x+k) [])).length:=by rw [List.length_set];omega
   rw [aA _ _ [] hi,List.take_set,List.set_eq_of_length_le (by rw [List.length_take];omega),h7]
   rw [List.getD_eq_getElem?_getD,List.getElem?_set_self (by omega),Option.getD_some]
   obtain⟨n,hn⟩:∃n,x+k=n+1:=⟨x+k-1,by omega⟩
   rw [show x+(k+1)=n+2 by omega,hn,l4 (by omega),if_neg]
   rw [hn,Nat.add_sub_cancel] at he;exact fun e=>he e.symm
theorem RJ {l m:List (List UInt8)} {x i k:Nat}(h:iT l x i k m)(hk:¬x+k<l.length):m.take i=bJ l:=by
 obtain⟨h1,h2,h3,h4,h5,h6,h7⟩:=h
 rw [h7,List.take_of_length_le (by omega)]
end Go.S

end
section
namespace Go.S
def up(l:List (List UInt8)):Prop :=l.Pairwise fun a b=>Op.bytesLess b a=false
def fB(l:List (List UInt8)):List (List UInt8):=l.mergeSort fun a b=> !Op.bytesLess b a
theorem RK(l:List (List UInt8)):up (fB l):=by
 have :=List.pairwise_mergeSort (le:=fun a b=> !Op.bytesLess b a) (fun a b c h1 h2=>by
  simp only [Bool.not_eq_true'] at h1 h2 ⊢
  cases h:Op.bytesLess c a with
  |false=>rfl
  |true=>
   rcases fX a b with t|t|t
   · rw [js _ _ _ h t] at h2;cases h2
   · subst t;rw [h] at h2;cases h2
   · rw [t] at h1;cases h1) (fun a b=>by
  simp only [Bool.or_eq_true,Bool.not_eq_true']
  rcases fX a b with t|t|t
  · exact .inl (gM t)
  · subst t;exact .inl (bO _)
  · exact .inr (gM t)) l
 exact this.imp (fun h=>by simpa using h)
theorem JS(l:List (List UInt8)):(fB l).Perm l:=List.mergeSort_perm l _
theorem TX(l:List (List UInt8)):bJ (fB l)=sorted l:=Ah (RK l) (fun _=>(JS l).mem_iff)
end Go.S

end
section
namespace Go.S
def sp(n:Nat):Nat:=2^Nat.log2 (n-1)
def split(n:Int):Int:=if n<2∨1099511627776<n then 0 else((sp n.toNat:Nat):Int)
def ju(n:Int)(k:Int)(t:Nat):Prop :=k=((2^t:Nat):Int)∧k<n
def pS:Nat→List (List UInt8)→List UInt8
 |0,_=>sum []
 |f+1,l=>if l.length=0 then sum [] else if l.length=1 then l.getD 0 [] else cM (pS f (l.take (sp l.length))) (pS f (l.drop (sp l.length)))
def root(l:List (List UInt8)):List UInt8:=pS l.length l
def mT(l:List (List UInt8)):Bool:=l.all fun d=>decide ((d.length:Int)=32)
def mB(l:List (List UInt8))(k:Nat):Prop :=(∀d∈l.take k,(d.length:Int)=32)∧k≤l.length
def eb(l:List (List UInt8)):Prop :=mT l=true∧l.length≤1099511627776
def rq(l:List (List UInt8)):List UInt8:=if mT l then root l else []
def ru(l:List (List UInt8)):Int:=if mT l then 0 else 1
def leaves(l:List (List UInt8)):List (List UInt8):=l.map leaf
def db(l:List (List UInt8))(k:Nat):List (List UInt8):=(l.take k).map leaf
def iU(l:List (List UInt8)):Prop :=l.length≤1099511627776∧∀b∈l,b.length<1099511627776
def comb(s:List (List UInt8)):List (List UInt8):=s.take (s.length-2)++ [cM (s.getD (s.length-2) []) (s.getD (s.length-1) [])]
def qn(s:List (List UInt8)):Prop :=2≤s.length∧s.length≤1099511627776
def nk(l:List (List UInt8))(t a:Nat):List UInt8:=root ((l.drop (2^t*a)).take (2^t))
def mN(l:List (List UInt8))(t j:Nat):List (List UInt8):=
 if j=0 then [] else if j%2=1 then mN l (t+1) (j/2)++ [nk l t (j-1)] else mN l (t+1) (j/2)
termination_by j
def kU(l:List (List UInt8))(i:Nat)(s:List (List UInt8)):Prop :=s=mN l 0 i∧i≤l.length
def jY(l:List (List UInt8))(i t j:Nat)(s:List (List UInt8)):Prop :=
 s=mN l t j++ [nk l t j]∧mN l 0 (i+1)=mN l t (j+1)∧2^t*(j+1)=i+1∧i<l.length
def kV(l:List (List UInt8))(s:List (List UInt8)):Prop :=∃t j,s=mN l t j++ [root (l.drop (2^t*j))]∧2^t*j<l.length∧l.length-2^t*j≤2^t
theorem TY {m t:Nat}(h1:2^t≤m)(h2:m<2^(t+1)):Nat.log2 m=t:=by
 have h0:m≠0:=by have :=Nat.two_pow_pos t;omega
 exact(Nat.log2_eq_iff h0).2 ⟨h1,h2⟩
theorem Ma {n t:Nat}(h1:2^t<n)(h2:n≤2^(t+1)):sp n=2^t:=by
 unfold sp;rw [TY (m:=n-1) (t:=t) (by omega) (by omega)]
theorem H4 {n:Nat}(h:2≤n):1≤sp n∧sp n<n:=by
 unfold sp
 have :=Nat.log2_self_le (n:=n-1) (by omega)
 have :=Nat.two_pow_pos (Nat.log2 (n-1))
 omega
theorem l6:∀(f g:Nat) (l:List (List UInt8)),l.length≤f→l.length≤g→pS f l=pS g l
 |0,0,_,_,_=>rfl
 |0,g+1,l,h,_=>by
  simp only [pS];rw [if_pos (by omega)]
 |f+1,0,l,_,h=>by
  simp only [pS];rw [if_pos (by omega)]
 |f+1,g+1,l,h1,h2=>by
  simp only [pS]
  by_cases h0:l.length=0
  · rw [if_pos h0,if_pos h0]
  · by_cases h3:l.length=1
    · rw [if_neg h0,if_neg h0,if_pos h3,if_pos h3]
    · have :=H4 (n:=l.length) (by omega)
      rw [if_neg h0,if_neg h0,if_neg h3,if_neg h3,l6 f g _ (by rw [List.length_take];omega) (by rw [List.length_take];omega),l6 f g _ (by rw [List.length_drop];omega) (by rw [List.length_drop];omega)]
theorem yQ {l:List (List UInt8)}(h:l.length=0):root l=sum []:=by
 unfold root;rw [h];rfl
theorem yR {l:List (List UInt8)}(h:l.length=1):root l=l.getD 0 []:=by
 unfold root;rw [h];simp only [pS];rw [if_neg (by omega),if_pos h]
theorem uv {l:List (List UInt8)} {k:Nat}(h:2≤l.length)(hk:sp l.length=k):root l=cM (root (l.take k)) (root (l.drop k)):=by
 have hb:=H4 h
 subst hk
 unfold root
 obtain⟨n,hn⟩:∃n,l.length=n+1:=⟨l.length-1,by omega⟩
 have e1:=l6 n (l.take (sp l.length)).length (l.take (sp l.length)) (by rw [List.length_take];omega) (Nat.le_refl _)
 have e2:=l6 n (l.drop (sp l.length)).length (l.drop (sp l.length)) (by rw [List.length_drop];omega) (Nat.le_refl _)
 rw [←e1,←e2]
 conv=>lhs;rw [hn]
 simp only [pS]
 rw [if_neg (by omega),if_neg (by omega)]
theorem ie(l:List (List UInt8)):mT l=true↔∀d∈l,d.length=32:=by
 simp only [mT,List.all_eq_true,decide_eq_true_eq]
 constructor
 · intro h d hd;have :=h d hd;omega
 · intro h d hd;have :=h d hd;omega
theorem RL:∀(n:Nat) (l:List (List UInt8)),l.length≤n→mT l=true→(root l).length=32:=by
 intro n
 induction n with
 |zero=>intro l h _;rw [yQ (by omega)];exact Ci _
 |succ n ih=>
  intro l h hd
  by_cases h0:l.length=0
  · rw [yQ h0];exact Ci _
  · by_cases h1:l.length=1
    · rw [yR h1];exact(ie l).1 hd _ (bQ l 0 [] (by omega))
    · have hb:=H4 (n:=l.length) (by omega)
      rw [uv (by omega) rfl]
      have e1:=ih (l.take (sp l.length)) (by rw [List.length_take];omega) ((ie _).2 fun d oJ=>(ie l).1 hd d (List.mem_of_mem_take oJ))
      have e2:=ih (l.drop (sp l.length)) (by rw [List.length_drop];omega) ((ie _).2 fun d oJ=>(ie l).1 hd d (List.mem_of_mem_drop oJ))
      simp only [cM,Cm,e1,e2,decide_true,Bool.and_self,if_true]
      exact uq _ _
theorem Nb {l:List (List UInt8)}(h:mT l=true):(root l).length=32:=RL _ l (Nat.le_refl _) h
theorem af4 {l:List (List UInt8)} {a:Nat}(h:a<l.length):nk l 0 a=l.getD a []:=by
 unfold nk
 rw [yR (by simp;omega)]
 simp [List.getD_eq_getElem?_getD]
theorem two_pos(t:Nat):0<2^t:=Nat.two_pow_pos t
theorem RM {l:List (List UInt8)} {t a:Nat}(h:2^(t+1)*(a+1)≤l.length):cM (nk l t (2*a)) (nk l t (2*a+1))=nk l (t+1) a:=by
 have hp:=two_pos t
 have e0:2^(t+1)*a=2^t*(2*a):=by rw [Nat.pow_succ,Nat.mul_assoc]
 have e1:2^t*(2*a+1)=2^t*(2*a)+2^t:=by rw [Nat.mul_add,Nat.mul_one]
 have e2:2^(t+1)*(a+1)=2^t*(2*a)+(2^t+2^t):=by rw [Nat.mul_add,e0,Nat.mul_one,Nat.pow_succ];omega
 have e3:2^(t+1)=2^t+2^t:=by rw [Nat.pow_succ];omega
 have hl:((l.drop (2^(t+1)*a)).take (2^(t+1))).length=2^t+2^t:=by rw [List.length_take,List.length_drop];omega
 have vM:sp ((l.drop (2^(t+1)*a)).take (2^(t+1))).length=2^t:=by rw [hl];exact Ma (by omega) (by omega)
 unfold nk
 rw [uv (l:=(l.drop (2^(t+1)*a)).take (2^(t+1))) (by omega) vM]
 congr 2
 · rw [List.take_take,e0,Nat.min_eq_left (by omega)]
 · rw [List.drop_take,List.drop_drop,e0,e1]
   congr 1;omega
theorem tq(l:List (List UInt8)) {t j:Nat}(h:j%2=1):mN l t j=mN l (t+1) (j/2)++ [nk l t (j-1)]:=by
 rw [mN,if_neg (by omega),if_pos h]
theorem qo(l:List (List UInt8)) {t j:Nat}(h:j%2=0):mN l t j=mN l (t+1) (j/2):=by
 by_cases h0:j=0
 · subst h0;rw [mN,if_pos rfl,mN,if_pos rfl]
 · rw [mN,if_neg h0,if_neg (by omega)]
theorem CC(l:List (List UInt8))(t:Nat):mN l t 0= []:=by rw [mN,if_pos rfl]
theorem xI(l:List (List UInt8)):∀(n t j:Nat),j≤n→(mN l t j).length≤j∧(0<j→0<(mN l t j).length):=by
 intro n
 induction n with
 |zero=>intro t j h;have :j=0:=by omega
        subst this;rw [CC];simp
 |succ n ih=>
  intro t j h
  by_cases h0:j=0
  · subst h0;rw [CC];simp
  · by_cases h1:j%2=1
    · rw [tq l h1,List.length_append]
      have :=ih (t+1) (j/2) (by omega)
      simp only [List.length_cons,List.length_nil];omega
    · rw [qo l (by omega)]
      have :=ih (t+1) (j/2) (by omega)
      omega
theorem Fg(s:List (List UInt8))(a b:List UInt8):comb (s++ [a]++ [b])=s++ [cM a b]:=by
 unfold comb
 have hl:(s++ [a]++ [b]).length=s.length+2:=by simp
 rw [hl,show s.length+2-2=s.length by omega,show s.length+2-1=s.length+1 by omega,List.append_assoc,List.take_left']
 · simp [List.getD_eq_getElem?_getD]
 · rfl
theorem ő(l:List (List UInt8)):kU l 0 []:=⟨(CC l 0).symm,Nat.zero_le _⟩
theorem af5 {l s:List (List UInt8)} {i:Nat}(h:kU l i s)(hi:(i:Int)<l.length):jY l i 0 i (s++ [l.getD (Int.toNat (i:Int)) []]):=by
 rw [Int.toNat_natCast]
 refine⟨?_,rfl,by simp,by omega⟩
 rw [h.1,af4 (by omega)]
theorem and_1 {j:Nat}:Vg.aZ (j:Int) 1=((j%2:Nat):Int):=by
 have :Vg.aZ (j:Int) 1=((j&&&1:Nat):Int):=rfl
 rw [this,Nat.and_one_is_mod]
theorem yS {l s:List (List UInt8)} {i t j:Nat}(h:jY l i t j s)(hj:Vg.aZ (j:Int) 1=1):jY l i (t+1) (j/2) (comb s)∧j/2<j∧2≤s.length:=by
 rw [and_1] at hj
 obtain⟨h1,h2,h3,h4⟩:=h
 have ho:j%2=1:=by omega
 have hs:s=mN l (t+1) (j/2)++ [nk l t (j-1)]++ [nk l t j]:=by rw [h1,tq l ho]
 have e3:2^(t+1)*(j/2+1)=2^t*(j+1):=by
  rw [Nat.pow_succ,Nat.mul_assoc];congr 1;omega
 refine⟨⟨?_,?_,by rw [e3];exact h3,h4⟩,by omega,by rw [hs];simp⟩
 · have e:=RM (l:=l) (t:=t) (a:=j/2) (by rw [e3];omega)
   rw [show 2*(j/2)+1=j by omega,show 2*(j/2)=j-1 by omega] at e
   rw [hs,Fg,e]
 · rw [h2,qo l (by omega),show(j+1)/2=j/2+1 by omega]
theorem TZ {l s:List (List UInt8)} {i t j:Nat}(h:jY l i t j s)(hj:¬Vg.aZ (j:Int) 1=1):kU l (i+1) s:=by
 rw [and_1] at hj
 obtain⟨h1,h2,h3,h4⟩:=h
 refine⟨?_,by omega⟩
 rw [h2,tq l (by omega),show(j+1)/2=j/2 by omega,Nat.add_sub_cancel,←qo l (by omega)]
 exact h1
theorem T0 {l s:List (List UInt8)} {i t j:Nat}(h:jY l i t j s):s.length≤l.length:=by
 obtain⟨h1,h2,h3,h4⟩:=h
 have :=(xI l j t j (Nat.le_refl _)).1
 have hp:=two_pos t
 have :j+1≤i+1:=by rw [←h3];exact Nat.le_mul_of_pos_left _ hp
 rw [h1,List.length_append];simp;omega
theorem Œ(l:List (List UInt8)):∀(n t m:Nat),m≤n→0<m→2^t*m=l.length→kV l (mN l t m):=by
 intro n
 induction n with
 |zero=>intro t m h h0 _;omega
 |succ n ih=>
  intro t m h h0 he
  by_cases h1:m%2=1
  · refine⟨t+1,m/2,?_,?_,?_⟩
    · have e:2^(t+1)*(m/2)=2^t*(m-1):=by rw [Nat.pow_succ,Nat.mul_assoc];congr 1;omega
      rw [tq l h1,e]
      unfold nk
      rw [List.take_of_length_le]
      rw [List.length_drop,←he,Nat.mul_sub,Nat.mul_one]
      have :=Nat.le_mul_of_pos_right (2^t) h0
      have :=two_pos t
      omega
    · have e:2^(t+1)*(m/2)=2^t*(m-1):=by rw [Nat.pow_succ,Nat.mul_assoc];congr 1;omega
      rw [e,←he]
      exact Nat.mul_lt_mul_of_pos_left (by omega) (two_pos t)
    · have e:2^(t+1)*(m/2)=2^t*(m-1):=by rw [Nat.pow_succ,Nat.mul_assoc];congr 1;omega
      rw [e,←he,Nat.mul_sub,Nat.mul_one,Nat.pow_succ]
      have :=Nat.le_mul_of_pos_right (2^t) h0
      omega
  · rw [qo l (by omega)]
    exact ih (t+1) (m/2) (by omega) (by omega) (by rw [←he,Nat.pow_succ,Nat.mul_assoc];congr 1;omega)
theorem af6 {l s:List (List UInt8)} {i:Nat}(h:kU l i s)(hi:¬(i:Int)<l.length)(h0:¬(l.length:Int)=0):kV l s:=by
 have :i=l.length:=by have :=h.2;omega
 rw [h.1,this]
 exact Œ l l.length 0 l.length (Nat.le_refl _) (by omega) (by simp)
theorem T1(l:List (List UInt8)):∀(n t j:Nat),j≤n→0<j→2^t*j<l.length→l.length-2^t*j≤2^t→kV l (comb (mN l t j++ [root (l.drop (2^t*j))]))∧(comb (mN l t j++ [root (l.drop (2^t*j))])).length<(mN l t j++ [root (l.drop (2^t*j))]).length:=by
 intro n
 induction n with
 |zero=>intro t j h h0 _ _;omega
 |succ n ih=>
  intro t j h h0 h1 h2
  have hp:=two_pos t
  by_cases ho:j%2=1
  · have e:2^(t+1)*(j/2)=2^t*(j-1):=by rw [Nat.pow_succ,Nat.mul_assoc];congr 1;omega
    have em:2^t*j=2^t*(j-1)+2^t:=by
     have :j=(j-1)+1:=by omega
     conv=>lhs;rw [this,Nat.mul_add,Nat.mul_one]
    have hl:(l.drop (2^t*(j-1))).length=2^t+(l.length-2^t*j):=by rw [List.length_drop];omega
    have vM:sp (l.drop (2^t*(j-1))).length=2^t:=by rw [hl];exact Ma (by omega) (by rw [Nat.pow_succ];omega)
    have er:cM (nk l t (j-1)) (root (l.drop (2^t*j)))=root (l.drop (2^t*(j-1))):=by
     rw [uv (l:=l.drop (2^t*(j-1))) (by omega) vM,List.drop_drop,←em];rfl
    rw [tq l ho,Fg,er]
    refine⟨⟨t+1,j/2,by rw [e],by rw [e];omega,?_⟩,by simp⟩
    rw [e,Nat.pow_succ];omega
  · have e:2^(t+1)*(j/2)=2^t*j:=by rw [Nat.pow_succ,Nat.mul_assoc];congr 1;omega
    have :=ih (t+1) (j/2) (by omega) (by omega) (by rw [e];exact h1) (by rw [e,Nat.pow_succ];omega)
    rw [e] at this
    rw [qo l (by omega)]
    exact this
theorem Fh {l s:List (List UInt8)}(h:kV l s)(hs:(1:Int)<s.length):kV l (comb s)∧(comb s).length<s.length:=by
 obtain⟨t,j,h1,h2,h3⟩:=h
 have hj:0<j:=by
  cases j with
  |zero=>rw [h1,CC] at hs;simp at hs
  |succ j=>omega
 rw [h1]
 exact T1 l j t j (Nat.le_refl _) hj h2 h3
theorem JT {l s:List (List UInt8)}(h:kV l s)(hs:¬(1:Int)<s.length):s.getD (Int.toNat 0) []=root l∧s.length=1:=by
 obtain⟨t,j,h1,h2,h3⟩:=h
 have hl:s.length=(mN l t j).length+1:=by rw [h1];simp
 have hj:j=0:=by
  have :=(xI l j t j (Nat.le_refl _)).2
  omega
 subst hj
 rw [CC] at h1
 refine⟨?_,by rw [h1];rfl⟩
 rw [h1];simp
theorem T2 {l s:List (List UInt8)}(h:kV l s):s.length≤l.length:=by
 obtain⟨t,j,h1,h2,h3⟩:=h
 have :=(xI l j t j (Nat.le_refl _)).1
 have hp:=two_pos t
 have :=Nat.le_mul_of_pos_left j hp
 rw [h1,List.length_append];simp;omega
theorem œ {s:List (List UInt8)}(h:qn s):List.take (Int.toNat ((s.length:Int)-2+1)) (List.set s (Int.toNat ((s.length:Int)-2)) (cM (List.getD s (Int.toNat ((s.length:Int)-2)) []) (List.getD s (Int.toNat ((s.length:Int)-2+1)) [])))=comb s:=by
 have h1:=h.1
 rw [show Int.toNat ((s.length:Int)-2+1)=s.length-2+1 by omega,show Int.toNat ((s.length:Int)-2)=s.length-2 by omega,show s.length-2+1=s.length-1 by omega]
 unfold comb
 generalize cM (List.getD s (s.length-2) []) (List.getD s (s.length-1) [])=x
 have hl:s.length-2<(s.set (s.length-2) x).length:=by rw [List.length_set];omega
 rw [show s.length-1=s.length-2+1 by omega,aA _ _ [] hl,List.take_set,List.set_eq_of_length_le (by rw [List.length_take];omega)]
 rw [List.getD_eq_getElem?_getD,List.getElem?_set_self (by omega)];rfl
theorem T3 {n:Int}(h:n<2∨1099511627776<n):0=split n:=by unfold split;rw [if_pos h]
theorem JU {n:Int}(h:¬n<2):ju n 1 0:=⟨rfl,by omega⟩
theorem CD {n k:Int} {t:Nat}(h:ju n k t)(hk:2*k<n):ju n (2*k) (t+1)∧1≤k:=by
 have hp:=two_pos t
 obtain⟨h1,h2⟩:=h
 refine⟨⟨?_,hk⟩,by omega⟩
 rw [h1,Nat.pow_succ];push_cast;omega
theorem CE {n:Int}(h1:2≤n)(h2:n≤1099511627776):split n=((sp n.toNat:Nat):Int):=by unfold split;rw [if_neg (by omega)]
theorem Ez {n k:Int} {t:Nat}(h:ju n k t)(h1:¬n<2)(h2:¬1099511627776<n)(hk:¬2*k<n):k=split n:=by
 have hp:=two_pos t
 obtain⟨e1,e2⟩:=h
 rw [CE (by omega) (by omega),Ma (t:=t) (by omega) (by rw [Nat.pow_succ];omega)]
 exact e1
theorem kW {n k:Int} {t:Nat}(h:ju n k t):1≤k∧k<n:=by
 have hp:=two_pos t
 obtain⟨e1,e2⟩:=h
 omega
theorem kv {l:List (List UInt8)}(h:eb l)(h2:2≤l.length):
  (0≤split (l.length:Int)∧split (l.length:Int)≤(l.length:Int))∧(l.take (Int.toNat (split (l.length:Int)))).length<l.length∧eb (l.take (Int.toNat (split (l.length:Int))))∧
    (l.drop (Int.toNat (split (l.length:Int)))).length<l.length∧eb (l.drop (Int.toNat (split (l.length:Int))))∧
    bj (root (l.take (Int.toNat (split (l.length:Int))))++root (l.drop (Int.toNat (split (l.length:Int)))))∧
    lI 1 (root (l.take (Int.toNat (split (l.length:Int))))++root (l.drop (Int.toNat (split (l.length:Int)))))=root l:=by
 have hb:=H4 h2
 have e:split (l.length:Int)=((sp l.length:Nat):Int):=CE (by omega) (by have :=h.2;omega)
 rw [e,Int.toNat_natCast]
 have p1:eb (l.take (sp l.length)):=⟨(ie _).2 fun d hd=>(ie l).1 h.1 d (List.mem_of_mem_take hd),by rw [List.length_take];have :=h.2;omega⟩
 have p2:eb (l.drop (sp l.length)):=⟨(ie _).2 fun d hd=>(ie l).1 h.1 d (List.mem_of_mem_drop hd),by rw [List.length_drop];have :=h.2;omega⟩
 have r1:=Nb p1.1
 have r2:=Nb p2.1
 refine⟨by omega,by rw [List.length_take];omega,p1,by rw [List.length_drop];omega,p2,?_,?_⟩
 · unfold bj;rw [List.length_append];omega
 · rw [uv h2 rfl]
   simp only [cM,Cm,r1,r2,decide_true,Bool.and_self,if_true]
   rfl
theorem Ŕ(l:List (List UInt8)):mB l 0:=⟨by simp,Nat.zero_le _⟩
theorem Mb {l:List (List UInt8)} {k:Nat}(h:mB l k)(hk:(k:Int)<l.length)(hd:((l.getD (Int.toNat (k:Int)) []).length:Int)=32):mB l (k+1):=by
 rw [Int.toNat_natCast] at *
 refine⟨fun d oJ=> ?_,by omega⟩
 rw [aA l k [] (by omega)] at oJ
 rcases List.mem_append.1 oJ with oJ|oJ
 · exact h.1 d oJ
 · rw [List.mem_singleton.1 oJ];exact hd
theorem RN {l:List (List UInt8)} {k:Nat}(hk:(k:Int)<l.length)(hd:¬((l.getD (Int.toNat (k:Int)) []).length:Int)=32):false=mT l:=by
 rw [Int.toNat_natCast] at *
 symm
 simp only [mT,List.all_eq_false]
 exact⟨_,bQ l k [] (by omega),by simpa using hd⟩
theorem RO {l:List (List UInt8)} {k:Nat}(h:mB l k)(hk:¬(k:Int)<l.length):true=mT l:=by
 symm
 simp only [mT,List.all_eq_true,decide_eq_true_eq]
 have h1:=h.1
 rw [show k=l.length by have :=h.2;omega,List.take_length] at h1
 exact h1
theorem xJ {l:List (List UInt8)} {k:Nat}(hk:(k:Int)<l.length):db l k++ [leaf (l.getD (Int.toNat (k:Int)) [])]=db l (k+1):=by
 rw [Int.toNat_natCast]
 simp only [db]
 rw [aA l k [] (by omega),List.map_append];rfl
theorem zI {l:List (List UInt8)} {k:Nat}(hk:¬(k:Int)<l.length):db l k=leaves l:=by
 simp only [db,leaves];rw [List.take_of_length_le (by omega)]
theorem zJ {l:List (List UInt8)} {k:Nat}(h:iU l)(hk:(k:Int)<l.length):bj (l.getD (Int.toNat (k:Int)) []):=by
 rw [Int.toNat_natCast]
 exact h.2 _ (bQ l k [] (by omega))
theorem vt(l:List (List UInt8))(k:Nat):(db l k).length≤l.length:=by simp only [db,List.length_map,List.length_take];omega
theorem AD {l s:List (List UInt8)} {i i' t j:Nat}(h:jY l i' t j s∧(i:Int)=(i':Int)):jY l i t j s:=by
 have :i=i':=by omega
 subst this;exact h.1
theorem T4 {l s:List (List UInt8)} {i t j:Nat}(h:jY l i t j s)(hj:Vg.aZ (j:Int) 1=1)(hp:eb l):qn s:=by
 have :=T0 h
 exact⟨(yS h hj).2.2,by have :=hp.2;omega⟩
theorem JV {l s:List (List UInt8)} {i:Nat}(h:kU l i s):s.length≤l.length:=by
 rw [h.1]
 have :=(xI l i 0 i (Nat.le_refl _)).1
 have :=h.2;omega
theorem Fi {l:List (List UInt8)}(h:(l.length:Int)=0):sum (Vg.cq UInt8)=root l:=(yQ (by omega)).symm
end Go.S

end
section
namespace Go.S
def dV(l:List Int)(i:Nat):Int:=if i=0 then -1 else l.getD (i-1) 0
def CF(l:List Int)(i:Nat):Bool:=decide (dV l i<l.getD i 0)&&decide (l.getD i 0<1000)
def bR(l:List Int):Bool:=(List.range l.length).all (CF l)
def hY(l:List Int)(k:Nat):Prop :=(∀i,i<k→CF l i=true)∧k≤l.length
def cB(l:List Int)(k:Nat):List UInt8:=num l.length++(List.range k).flatMap (fun i=>num (l.getD i 0-dV l i-1))
def rv(l:List Int):List UInt8:=cB l l.length
def oA(l:List Int):List UInt8:=if bR l then rv l else []
def jD(l:List Int):Int:=if bR l then 0 else 1
def oB(l:List Int):List UInt8:=if bR l then oi 2 (rv l) else []
def eJ(l:List Int):List UInt8:=oi 2 (rv l)
def oC(n a b:Int):Bool:=decide (a≤n)&&decide (n<b)
def fa:List Int:= []
def RP(l:List Int):List Int:=if bR l then l else []
def CG(l:List Int)(a b:Int):List Int:=(RP l).filter (fun n=>oC n a b)
def iV(l:List Int)(a b:Int)(r out:List Int):Prop :=out++r.filter (fun n=>oC n a b)=CG l a b∧out.length+r.length≤1000
def ph(a b:List Int)(k:Nat):Prop :=a.length=b.length∧a.take k=b.take k∧k≤a.length
def lL(a b:List Int):Bool:=decide (a=b)
theorem ka(l:List Int):bR l=true↔∀i,i<l.length→CF l i=true :=by
 simp only [bR,List.all_eq_true,List.mem_range]
theorem ke(l:List Int)(i:Nat):CF l i=true↔dV l i<l.getD i 0∧l.getD i 0<1000:=by
 simp only [CF,Bool.and_eq_true,decide_eq_true_eq]
theorem kz(l:List Int)(k:Nat):dV l (k+1)=l.getD k 0:=by
 simp only [dV];rw [if_neg (by omega),Nat.add_sub_cancel]
theorem tu(l:List Int):dV l 0= -1:=rfl
theorem AE {l:List Int} {k:Nat}(h:hY l k):∀i,i<k→(i:Int)≤l.getD i 0∧l.getD i 0<1000
 |0,hi=>by have :=(ke l 0).1 (h.1 0 hi);rw [tu] at this;omega
 |i+1,hi=>by
  have :=(ke l (i+1)).1 (h.1 (i+1) hi)
  rw [kz] at this
  have :=AE h i (by omega)
  omega
theorem Fj {l:List Int} {k:Nat}(h:hY l k): -1≤dV l k∧dV l k<1000:=by
 cases k with
 |zero=>rw [tu];omega
 |succ k=>rw [kz];have :=AE h k (by omega);omega
theorem JW {l:List Int}(h:bR l=true):hY l l.length:=⟨(ka l).1 h,Nat.le_refl _⟩
theorem Nc {l:List Int} {k:Nat}(h:bR l=true)(hk:k≤l.length):hY l k:=⟨fun i hi=>(ka l).1 h i (by omega),hk⟩
theorem qp {l:List Int}(h:bR l=true):l.length≤1000:=by
 by_cases h0:l.length=0
 · omega
 · have :=AE (JW h) (l.length-1) (by omega);omega
theorem ŕ(l:List Int):hY l 0:=⟨fun i hi=>by omega,Nat.zero_le _⟩
theorem Mc {l:List Int} {k:Nat}(h:hY l k)(hk:(k:Int)<l.length)(hg:¬l.getD (Int.toNat (k:Int)) 0≤dV l k∧¬1000≤l.getD (Int.toNat (k:Int)) 0):hY l (k+1):=by
 rw [Int.toNat_natCast] at hg
 refine⟨fun i hi=> ?_,by omega⟩
 by_cases he:i=k
 · subst he;exact(ke l i).2 (by omega)
 · exact h.1 i (by omega)
theorem RQ {l:List Int} {k:Nat}(hk:(k:Int)<l.length)(hg:l.getD (Int.toNat (k:Int)) 0≤dV l k∨1000≤l.getD (Int.toNat (k:Int)) 0):false=bR l:=by
 rw [Int.toNat_natCast] at hg
 cases hp:bR l with
 |false=>rfl
 |true=>have :=(ke l k).1 ((ka l).1 hp k (by omega));omega
theorem RR {l:List Int} {k:Nat}(h:hY l k)(hk:¬(k:Int)<l.length):true=bR l:=by
 symm
 exact(ka l).2 fun i hi=>h.1 i (by omega)
theorem CH {l:List Int} {k:Nat}(hk:0<(k:Int)):l.getD (Int.toNat ((k:Int)-1)) 0=dV l k:=by
 simp only [dV];rw [if_neg (by omega),show Int.toNat ((k:Int)-1)=k-1 by omega]
theorem yT(l:List Int):cB l 0=num l.length:=by simp [cB]
theorem nm(l:List Int)(k:Nat):cB l k++num (l.getD k 0-dV l k-1)=cB l (k+1):=by
 simp only [cB,List.range_succ,List.flatMap_append,List.flatMap_cons,List.flatMap_nil,List.append_nil,List.append_assoc]
theorem tv(l:List Int):∀k,(cB l k).length≤9+9*k
 |0=>by rw [yT];have :=jQ (l.length:Int);omega
 |k+1=>by
  rw [←nm,List.length_append]
  have :=tv l k
  have :=jQ (l.getD k 0-dV l k-1)
  omega
theorem Fk {v:Int}(h0:0≤v)(h:v≤4611686018427387904):mS (Vg.cq UInt8) v=num v:=by
 have :rj v=false :=by simp only [rj,Bool.or_eq_false_iff,decide_eq_false_iff_not];omega
 simp only [mS,this];rfl
theorem uw {l:List Int} {k:Nat}(h:bR l=true)(hk:(k:Int)<l.length):0≤l.getD (Int.toNat (k:Int)) 0-dV l k-1∧l.getD (Int.toNat (k:Int)) 0-dV l k≤1001∧0≤l.getD (Int.toNat (k:Int)) 0:=by
 rw [Int.toNat_natCast]
 have h1:=(ke l k).1 ((ka l).1 h k (by omega))
 have h2:=Fj (Nc (k:=k) h (by omega))
 have h3:=AE (JW h) k (by omega)
 omega
theorem CI {l:List Int} {k:Nat}(h:bR l=true)(hk:(k:Int)<l.length):cB l k++mS (Vg.cq UInt8) (l.getD (Int.toNat (k:Int)) 0-dV l k-1)=cB l (k+1):=by
 have :=uw h hk
 rw [Fk this.1 (by omega),Int.toNat_natCast,nm]
theorem pT {l:List Int} {k:Nat}(h:bR l=true)(hk:(k:Int)<l.length)(v:Int):(cB l k).length+(mS (Vg.cq UInt8) v).length≤20000∧(cB l k).length+(num v).length≤20000:=by
 have h1:=tv l k
 have h2:=qp h
 have h3:=jQ v
 have h4:(mS (Vg.cq UInt8) v).length≤9:=by
  simp only [mS];split
  · simp
  · exact h3
 omega
theorem CJ {l:List Int}(h:bR l=true):(rv l).length≤20000:=by
 have h1:=tv l l.length
 have h2:=qp h
 unfold rv;omega
theorem H5 {l:List Int} {k:Nat}(hk:(k:Int)=0):cB l k++num (l.getD (Int.toNat 0) 0)=cB l (k+1):=by
 have :k=0:=by omega
 subst this
 rw [←nm,tu];congr 2
 show l.getD 0 0=l.getD 0 0- -1-1
 omega
theorem JX {l:List Int} {k:Nat}(hk:¬(k:Int)=0):cB l k++num (l.getD (Int.toNat (k:Int)) 0-l.getD (Int.toNat ((k:Int)-1)) 0-1)=cB l (k+1):=by
 rw [CH (by omega),Int.toNat_natCast,nm]
theorem RS {l:List Int}(h:bR l=true):cB l l.length=oA l:=by simp only [oA,h,if_true];rfl
theorem Ŗ(a:List Int)(s1 s2:Int):iV a s1 s2 (RP a) []:=by
 refine⟨rfl,?_⟩
 unfold RP;split
 · rename_i h;have :=qp h;simp;omega
 · simp
theorem RT {a:List Int} {s1 s2 n:Int} {r out:List Int}(h:iV a s1 s2 (n::r) out)(hn:oC n s1 s2=true):iV a s1 s2 r (out++ [n]):=by
 obtain⟨h1,h2⟩:=h
 rw [List.filter_cons,if_pos hn] at h1
 refine⟨by rw [List.append_assoc];exact h1,by simp at h2 ⊢;omega⟩
theorem T5 {a:List Int} {s1 s2 n:Int} {r out:List Int}(h:iV a s1 s2 (n::r) out)(hn:oC n s1 s2=false):iV a s1 s2 r out:=by
 obtain⟨h1,h2⟩:=h
 rw [List.filter_cons,if_neg (by rw [hn];decide)] at h1
 exact⟨h1,by simp at h2 ⊢;omega⟩
theorem RU {a:List Int} {s1 s2:Int} {out:List Int}(h:iV a s1 s2 [] out):out=CG a s1 s2:=by
 have :=h.1;simpa using this
theorem ŗ {a b:List Int}(h:(a.length:Int)=b.length):ph a b 0:=⟨by omega,by simp,Nat.zero_le _⟩
theorem Md {a b:List Int} {k:Nat}(h:ph a b k)(hk:(k:Int)<a.length)(he:a.getD (Int.toNat (k:Int)) 0=b.getD (Int.toNat (k:Int)) 0):ph a b (k+1):=by
 rw [Int.toNat_natCast] at he
 obtain⟨h1,h2,h3⟩:=h
 exact⟨h1,by rw [aA a k 0 (by omega),aA b k 0 (by omega),h2,he],by omega⟩
theorem RV {a b:List Int} {k:Nat}(he:¬a.getD (Int.toNat (k:Int)) 0=b.getD (Int.toNat (k:Int)) 0):false=lL a b:=by
 symm;simp only [lL,decide_eq_false_iff_not];intro h;rw [h] at he;exact he rfl
theorem RW {a b:List Int}(h:¬(a.length:Int)=b.length):false=lL a b:=by
 symm;simp only [lL,decide_eq_false_iff_not];intro e;rw [e] at h;exact h rfl
theorem RX {a b:List Int} {k:Nat}(h:ph a b k)(hk:¬(k:Int)<a.length):true=lL a b:=by
 obtain⟨h1,h2,h3⟩:=h
 symm;simp only [lL,decide_eq_true_eq]
 rw [List.take_of_length_le (by omega),List.take_of_length_le (by omega)] at h2;exact h2
end Go.S

end
section
namespace Go.S
abbrev cr:=List UInt8×List Int
def Ai(a b:List UInt8):Bool:=Op.bytesLess a b || decide (a=b)
def bA(d:List cr)(i:Nat):List UInt8:=(d.getD i ([],[])).1
def fl(d:List cr)(i:Nat):List Int:=(d.getD i ([],[])).2
def bB(d:List cr):Prop :=d.length≤1048576∧∀e∈d,e.1.length≤1099511627776
def ry(d:List cr)(i:Nat):Bool:= !(decide (0<i)&&Ai (bA d i) (bA d (i-1)))&&(!decide ((fl d i).length=0)&&(bR (fl d i)&&isTerm (bA d i)))
def bl(d:List cr):Bool:=(List.range d.length).all (ry d)
def zK(d:List cr)(k:Nat):Prop :=(∀i,i<k→ry d i=true)∧k≤d.length
def iB(a b c:List UInt8):Bool:=decide ((a.length:Int)≤64)&&(decide ((b.length:Int)≤64)&&decide ((c.length:Int)=32))
def wj(a b c:List UInt8):List UInt8:=text a++text b++c
def oD(a b c:List UInt8):List UInt8:=if iB a b c then wj a b c else []
def wk(a b c:List UInt8):Int:=if iB a b c then 0 else 1
def xK(d:List cr)(i:Nat):List UInt8:=
 wj (if i=0 then [] else bA d (i-1)) (if i<d.length then bA d i else []) (eJ (if i=0 then [] else fl d (i-1)))
def dy(d:List cr)(k:Nat):List (List UInt8):=(List.range k).map (xK d)
def iq(d:List cr):List (List UInt8):=dy d (d.length+1)
def fb(d:List cr):List (List UInt8):=if bl d then iq d else []
def dE(d:List cr):Int:=if bl d then 0 else 1
def l7(d:List cr):List UInt8:=root (leaves (iq d))
def rz(d:List cr):List UInt8:=if bl d then l7 d else []
def acR(d:List cr)(t:List UInt8):Nat→Int
 |0=> -1
 |k+1=>if Ai (bA d k) t then(k:Int) else acR d t k
def aff(d:List cr)(t:List UInt8):Int:=if bl d then acR d t d.length else -1
def afm(d:List cr)(t:List UInt8):Bool:=decide (0≤aff d t)&&decide (bA d (aff d t).toNat=t)
def agr(d:List cr)(t:List UInt8):List Int:=if afm d t then fl d (aff d t).toNat else []
def eR(a b:List cr):Bool:=decide (a=b)
def hZ(a b:List cr)(k:Nat):Prop :=a.length=b.length∧a.take k=b.take k∧k≤a.length
def afh(a b:List (List UInt8)):Bool:=decide (a=b)
def afD(a b:List (List UInt8))(k:Nat):Prop :=a.length=b.length∧a.take k=b.take k∧k≤a.length
def cJ(docs:List (List UInt8))(s1 s2:Int):Bool:=
 docs.all (fun b=>decide ((b.length:Int)≤2000))&&(decide ((docs.length:Int)≤1000)&&(decide (0≤s1)&&(decide (s1≤s2)&&decide (s2≤(docs.length:Int)))))
def kX(docs:List (List UInt8))(k:Nat):Prop :=(∀b∈docs.take k,b.length≤2000)∧k≤docs.length
def oE(b t:List UInt8):Bool:=decide (0<((places b t).length:Int))
theorem ux(d:List cr):bl d=true↔∀i,i<d.length→ry d i=true :=by
 simp only [bl,List.all_eq_true,List.mem_range]
theorem anQ(d:List cr):zK d 0:=⟨fun i hi=>by omega,Nat.zero_le _⟩
theorem Nd {d:List cr} {k:Nat}(hk:(k:Int)<d.length)(h:ry d k=false):false=bl d:=by
 cases hr:bl d with
 |false=>rfl
 |true=>have :=(ux d).1 hr k (by omega);rw [h] at this;cases this
theorem T6 {d:List cr} {k:Nat}(h:zK d k)(hk:(k:Int)<d.length)(he:ry d k=true):zK d (k+1):=by
 refine⟨fun i hi=> ?_,by omega⟩
 by_cases e:i=k
 · subst e;exact he
 · exact h.1 i (by omega)
theorem Ř {d:List cr} {k:Nat}(h:zK d k)(hk:¬(k:Int)<d.length):true=bl d:=by
 symm;exact(ux d).2 fun i hi=>h.1 i (by omega)
theorem RY {d:List cr} {k:Nat}(h:bB d):(d.getD k ([],[])).1.length≤1099511627776:=by
 by_cases hk:k<d.length
 · exact h.2 _ (bQ d k _ hk)
 · rw [List.getD_eq_getElem?_getD,List.getElem?_eq_none (by omega)];simp
theorem qq(d:List cr)(i:Nat):ry d i=true↔(i=0∨Ai (bA d i) (bA d (i-1))=false)∧(fl d i).length≠0∧bR (fl d i)=true∧isTerm (bA d i)=true :=by
 simp only [ry,Bool.and_eq_true,Bool.not_eq_true',Bool.and_eq_false_iff,decide_eq_false_iff_not]
 constructor
 · rintro⟨h1,h2,h3,h4⟩;exact⟨h1.imp (by omega) id,h2,h3,h4⟩
 · rintro⟨h1,h2,h3,h4⟩;exact⟨h1.imp (by omega) id,h2,h3,h4⟩
theorem CK(d:List cr)(i:Nat):ry d i=false↔(0<i∧Ai (bA d i) (bA d (i-1))=true)∨(fl d i).length=0∨bR (fl d i)=false∨isTerm (bA d i)=false :=by
 have :=qq d i
 cases h:ry d i with
 |true=>
  have h1:=this.1 h
  simp only [Bool.true_eq_false,false_iff]
  rintro(⟨h2,h3⟩|h2|h2|h2)
  · rcases h1.1 with h4|h4
    · omega
    · rw [h4] at h3;cases h3
  · exact h1.2.1 h2
  · rw [h1.2.2.1] at h2;cases h2
  · rw [h1.2.2.2] at h2;cases h2
 |false=>
  simp only [true_iff]
  by_cases a1:0<i∧Ai (bA d i) (bA d (i-1))=true
  · exact .inl a1
  · by_cases a2:(fl d i).length=0
    · exact .inr (.inl a2)
    · cases a3:bR (fl d i) with
      |false=>exact .inr (.inr (.inl rfl))
      |true=>
       cases a4:isTerm (bA d i) with
       |false=>exact .inr (.inr (.inr rfl))
       |true=>
        exfalso
        rw [h] at this
        have :false=true :=this.2 ⟨by
         cases hl:Ai (bA d i) (bA d (i-1)) with
         |false=>exact .inr rfl
         |true=>rw [hl] at a1;left;by_cases h0:0<i;exact absurd ⟨h0,rfl⟩ a1;omega,a2,a3,a4⟩
        cases this
theorem CL:∀(w:List Int) (t:List UInt8),t.length≤64→(gZ t w).length≤64
 | [],t,h=>h
 |c::w,t,h=>by
  simp only [gZ]
  split
  · exact h
  · exact CL w _ (by rw [List.length_append];omega)
theorem zL {s:List UInt8}(h:isTerm s=true):s.length≤64:=by
 simp only [isTerm,decide_eq_true_eq] at h
 have hm:s∈aS s:=by rw [h];simp
 simp only [aS,List.mem_map] at hm
 obtain⟨w,_,hw⟩:=hm
 rw [←hw];exact CL w [] (by simp)
theorem tw {d:List cr}(h:bl d=true) {i:Nat}(hi:i<d.length):(bA d i).length≤64∧bR (fl d i)=true :=by
 have :=(qq d i).1 ((ux d).1 h i hi)
 exact⟨zL this.2.2.2,this.2.2.1⟩
theorem RZ {l:List Int}(h:bR l=true):oB l=eJ l∧(eJ l).length=32:=by
 refine⟨by simp only [oB,h,if_true];rfl,uq _ _⟩
theorem CM {d:List cr}(h:bl d=true) {k:Nat}:iB (if k=0 then [] else bA d (k-1)) (if k<d.length then bA d k else []) (eJ (if k=0 then [] else fl d (k-1)))=true∨d.length<k:=by
 by_cases hk:d.length<k
 · exact .inr hk
 · refine .inl ?_
   have e3:(eJ (if k=0 then [] else fl d (k-1))).length=32:=uq _ _
   simp only [iB,e3,Bool.and_eq_true,decide_eq_true_eq]
   refine⟨?_,?_,rfl⟩
   · by_cases h0:k=0
     · rw [if_pos h0];simp
     · rw [if_neg h0];have :=(tw h (i:=k-1) (by omega)).1;omega
   · by_cases h0:k<d.length
     · rw [if_pos h0];have :=(tw h h0).1;omega
     · rw [if_neg h0];simp
theorem ř {d:List cr}(h:bl d=true) {k:Nat}(hk:k≤d.length):oD (if k=0 then [] else bA d (k-1)) (if k<d.length then bA d k else []) (oB (if k=0 then [] else fl d (k-1)))=xK d k:=by
 have hp:bR (if k=0 then [] else fl d (k-1))=true :=by
  by_cases h0:k=0
  · rw [if_pos h0];rfl
  · rw [if_neg h0];exact(tw h (i:=k-1) (by omega)).2
 rw [(RZ hp).1]
 rcases CM h (k:=k) with hl|hl
 · simp only [oD,hl,if_true];rfl
 · omega
theorem zM(d:List cr)(k:Nat):dy d k++ [xK d k]=dy d (k+1):=by
 simp only [dy,List.range_succ,List.map_append,List.map_cons,List.map_nil]
theorem wm(d:List cr)(k:Nat):(dy d k).length=k:=by simp [dy]
theorem Me {a b c:List UInt8}(h:iB a b c=true):(wj a b c).length≤200:=by
 simp only [iB,Bool.and_eq_true,decide_eq_true_eq] at h
 have h1:=jQ (a.length:Int);have h2:=jQ (b.length:Int)
 simp only [wj,text,List.length_append];omega
theorem lM {d:List cr}(hp:bB d)(h:bl d=true):iU (iq d)∧eb (leaves (iq d)):=by
 have hl:(iq d).length=d.length+1:=wm d _
 have hd:=hp.1
 refine⟨⟨by omega,fun b hb=> ?_⟩,⟨?_,?_⟩⟩
 · simp only [iq,dy,List.mem_map,List.mem_range] at hb
   obtain⟨i,hi,rfl⟩:=hb
   rcases CM h (k:=i) with hk|hk
   · have :=Me hk;unfold xK;omega
   · omega
 · rw [ie];intro x hx
   simp only [leaves,List.mem_map] at hx
   obtain⟨b,_,rfl⟩:=hx
   exact uq _ _
 · simp only [leaves,List.length_map];omega
theorem apv {d:List cr} {t:List UInt8}:∀k,-1≤acR d t k∧acR d t k<k
 |0=>by simp only [acR];omega
 |k+1=>by
  have :=apv (d:=d) (t:=t) k
  simp only [acR];split<;>omega
theorem apQ {d:List cr} {t:List UInt8} {k:Nat}(h:Ai (bA d k) t=true):(k:Int)=acR d t (k+1):=by
 simp only [acR];rw [if_pos h]
theorem apR {d:List cr} {t:List UInt8} {k:Nat}(h:Ai (bA d k) t=false):acR d t k=acR d t (k+1):=by
 simp only [acR];rw [if_neg (by rw [h];decide)]
theorem T7 {a b:List cr}(h:(a.length:Int)=b.length):hZ a b 0:=⟨by omega,by simp,Nat.zero_le _⟩
theorem JY {a b:List cr} {k:Nat}(h:hZ a b k)(hk:(k:Int)<a.length)(he:a.getD k ([],[])=b.getD k ([],[])):hZ a b (k+1):=by
 obtain⟨h1,h2,h3⟩:=h
 exact⟨h1,by rw [aA a k ([],[]) (by omega),aA b k ([],[]) (by omega),h2,he],by omega⟩
theorem Mf {a b:List cr} {k:Nat}(he:¬a.getD k ([],[])=b.getD k ([],[])):false=eR a b:=by
 symm;simp only [eR,decide_eq_false_iff_not];intro h;rw [h] at he;exact he rfl
theorem Mg {a b:List cr}(h:¬(a.length:Int)=b.length):false=eR a b:=by
 symm;simp only [eR,decide_eq_false_iff_not];intro e;rw [e] at h;exact h rfl
theorem Mh {a b:List cr} {k:Nat}(h:hZ a b k)(hk:¬(k:Int)<a.length):true=eR a b:=by
 obtain⟨h1,h2,h3⟩:=h
 symm;simp only [eR,decide_eq_true_eq]
 rw [List.take_of_length_le (by omega),List.take_of_length_le (by omega)] at h2;exact h2
theorem arQ {a b:List (List UInt8)}(h:(a.length:Int)=b.length):afD a b 0:=⟨by omega,by simp,Nat.zero_le _⟩
theorem apw {a b:List (List UInt8)} {k:Nat}(h:afD a b k)(hk:(k:Int)<a.length)(he:a.getD k []=b.getD k []):afD a b (k+1):=by
 obtain⟨h1,h2,h3⟩:=h
 exact⟨h1,by rw [aA a k [] (by omega),aA b k [] (by omega),h2,he],by omega⟩
theorem apS {a b:List (List UInt8)} {k:Nat}(he:¬a.getD k []=b.getD k []):false=afh a b:=by
 symm;simp only [afh,decide_eq_false_iff_not];intro h;rw [h] at he;exact he rfl
theorem apT {a b:List (List UInt8)}(h:¬(a.length:Int)=b.length):false=afh a b:=by
 symm;simp only [afh,decide_eq_false_iff_not];intro e;rw [e] at h;exact h rfl
theorem apU {a b:List (List UInt8)} {k:Nat}(h:afD a b k)(hk:¬(k:Int)<a.length):true=afh a b:=by
 obtain⟨h1,h2,h3⟩:=h
 symm;simp only [afh,decide_eq_true_eq]
 rw [List.take_of_length_le (by omega),List.take_of_length_le (by omega)] at h2;exact h2
theorem Nf(docs:List (List UInt8)):kX docs 0:=⟨by simp,Nat.zero_le _⟩
theorem CN {docs:List (List UInt8)} {k:Nat}(h:kX docs k)(hk:(k:Int)<docs.length)(hl:((docs.getD k []).length:Int)≤2000):kX docs (k+1):=by
 refine⟨fun b hb=> ?_,by omega⟩
 rw [aA docs k [] (by omega)] at hb
 rcases List.mem_append.1 hb with hb|hb
 · exact h.1 b hb
 · rw [List.mem_singleton.1 hb];omega
theorem Fl {docs:List (List UInt8)} {k:Nat} {s1 s2:Int}(hk:(k:Int)<docs.length)(hl:2000<((docs.getD k []).length:Int)):false=cJ docs s1 s2:=by
 have :docs.all (fun b=>decide ((b.length:Int)≤2000))=false :=by
  rw [List.all_eq_false]
  exact⟨_,bQ docs k [] (by omega),by rw [decide_eq_true_eq];omega⟩
 simp only [cJ,this,Bool.false_and]
theorem Fm {docs:List (List UInt8)} {k:Nat}(h:kX docs k)(hk:¬(k:Int)<docs.length):docs.all (fun b=>decide ((b.length:Int)≤2000))=true :=by
 rw [List.all_eq_true]
 have h1:=h.1
 rw [List.take_of_length_le (by omega)] at h1
 intro b hb
 have :=h1 b hb
 simp;omega
theorem JZ:∀(a b:List UInt8),Ai b a= !Op.bytesLess a b
 | [],[]=>rfl
 | [],b::y=>by simp [Ai,Op.bytesLess]
 |a::x,[]=>by simp [Ai,Op.bytesLess]
 |a::x,b::y=>by
  have ih:=JZ x y
  simp only [Ai] at ih
  simp only [Ai,Op.bytesLess]
  rcases UInt8.lt_or_lt_of_ne (a:=a) (b:=b) |> fun h=>Classical.em (a=b) with h|h
  · subst h
    simp only [UInt8.lt_irrefl,decide_false,Bool.false_or,beq_self_eq_true,Bool.true_and,List.cons.injEq,true_and]
    exact ih
  · have hba:(b==a)=false :=by simpa using fun e=>h e.symm
    have eV:(a==b)=false :=by simpa using h
    have dp:¬(b::y=a::x):=by simp only [List.cons.injEq];exact fun e=>h e.1.symm
    rw [hba,eV,decide_eq_false dp]
    simp only [Bool.false_and,Bool.or_false]
    have :a.toNat≠b.toNat:=fun e=>h (UInt8.toNat_inj.1 e)
    rw [←decide_not,decide_eq_decide,UInt8.lt_iff_toNat_lt,UInt8.lt_iff_toNat_lt];omega
theorem Ś {d:List cr}(h:bl d=true) {k:Nat}(hk:k≤d.length):
  oD (bif decide ((k:Int)<(d.length:Int)) then bif decide (0<(k:Int)) then(List.getD d (Int.toNat ((k:Int)-1)) ([],[])).1 else [] else bif decide (0<(k:Int)) then(List.getD d (Int.toNat ((k:Int)-1)) ([],[])).1 else [])
   (bif decide ((k:Int)<(d.length:Int)) then(List.getD d (Int.toNat (k:Int)) ([],[])).1 else bif decide (0<(k:Int)) then [] else [])
   (oB (bif decide (0<(k:Int)) then(List.getD d (Int.toNat ((k:Int)-1)) ([],[])).2 else []))=xK d k:=by
 rw [←ř h hk]
 have e1:Int.toNat ((k:Int)-1)=k-1:=by omega
 rw [e1,Int.toNat_natCast]
 by_cases h0:k=0
 · subst h0
   by_cases h1:0<d.length
   · simp [bA,fl,h1]
   · have :d= []:=List.eq_nil_of_length_eq_zero (by omega)
     subst this;simp
 · have h2:(0:Int)<(k:Int):=by omega
   by_cases h1:k<d.length
   · have h3:(k:Int)<(d.length:Int):=by omega
     simp only [decide_eq_true h2,decide_eq_true h3,if_neg h0,if_pos h1,cond_true];rfl
   · have h3:¬(k:Int)<(d.length:Int):=by omega
     simp only [decide_eq_true h2,decide_eq_false h3,if_neg h0,if_neg h1,cond_true,cond_false];rfl
theorem avW {d:List cr} {t:List UInt8}(h:bl d=true):acR d t d.length=aff d t:=by simp only [aff,h,if_true]
theorem Ng {d:List cr}(h:dE d=0):bl d=true :=by
 cases hr:bl d with
 |true=>rfl
 |false=>simp only [dE,hr] at h;exact absurd h (by decide)
theorem anR {d:List cr}(h:¬dE d=0):bl d=false :=by
 cases hr:bl d with
 |false=>rfl
 |true=>exact absurd (by simp only [dE,hr];rfl) h
theorem zN {l s:List UInt8}(h1:l.length≤1000)(h2:s.length≤1000):kR l s:=⟨by omega,by omega⟩
theorem fO {s:List UInt8}:(text s).length≤s.length+9:=by
 have :=jQ (s.length:Int)
 simp only [text,List.length_append];omega
theorem gS(a b c:List UInt8):iB a b c=true↔a.length≤64∧b.length≤64∧c.length=32:=by
 simp only [iB,Bool.and_eq_true,decide_eq_true_eq];omega
theorem CO {a b c:List UInt8}(h:64<(a.length:Int)∨64<(b.length:Int)∨¬(c.length:Int)=32):iB a b c=false :=by
 cases hl:iB a b c with
 |false=>rfl
 |true=>have :=(gS a b c).1 hl;omega
theorem mC {a b c:List UInt8}(h:¬64<(a.length:Int)∧¬64<(b.length:Int)∧(c.length:Int)=32):iB a b c=true :=(gS a b c).2 (by omega)
theorem avh {d:List cr} {t:List UInt8}(h:bl d=false): -1=aff d t∧false=afm d t:=by
 have :aff d t= -1:=by simp only [aff,h];rfl
 exact⟨this.symm,by simp [afm,this]⟩
theorem awz(d:List cr)(t:List UInt8)(x:Nat):(bif Op.bytesLess (List.getD d (Int.toNat (x:Int)) ([],[])).1 t || decide ((List.getD d (Int.toNat (x:Int)) ([],[])).1=t) then(x:Int) else acR d t x)=acR d t (x+1):=by
 rw [Int.toNat_natCast]
 show(bif Ai (bA d x) t then(x:Int) else acR d t x)=_
 cases h:Ai (bA d x) t with
 |true=>rw [←apQ h];rfl
 |false=>rw [←apR h];rfl
theorem avX {d:List cr} {t:List UInt8}(h:bl d=true):(bif decide (0≤acR d t d.length) then decide ((List.getD d (Int.toNat (acR d t d.length)) ([],[])).1=t) else false)=afm d t:=by
 simp only [afm,aff,h,if_true]
 cases decide (0≤acR d t d.length)<;>rfl
theorem Nh(d:List cr)(x:Nat):
  (bif decide ((x:Int)-1+1<(d.length:Int)) then bif decide (0≤(x:Int)-1) then(List.getD d (Int.toNat ((x:Int)-1)) ([],[])).1 else [] else bif decide (0≤(x:Int)-1) then(List.getD d (Int.toNat ((x:Int)-1)) ([],[])).1 else [])=(if x=0 then [] else bA d (x-1))∧
  (bif decide ((x:Int)-1+1<(d.length:Int)) then(List.getD d (Int.toNat ((x:Int)-1+1)) ([],[])).1 else bif decide (0≤(x:Int)-1) then [] else [])=(if x<d.length then bA d x else [])∧
  (bif decide ((x:Int)-1+1<(d.length:Int)) then bif decide (0≤(x:Int)-1) then eJ (List.getD d (Int.toNat ((x:Int)-1)) ([],[])).2 else eJ (Vg.cq Int) else bif decide (0≤(x:Int)-1) then eJ (List.getD d (Int.toNat ((x:Int)-1)) ([],[])).2 else eJ (Vg.cq Int))=eJ (if x=0 then [] else fl d (x-1)):=by
 have e1:Int.toNat ((x:Int)-1)=x-1:=by omega
 have e2:Int.toNat ((x:Int)-1+1)=x:=by omega
 rw [e1,e2]
 have c1:decide ((x:Int)-1+1<(d.length:Int))=decide (x<d.length):=by rw [decide_eq_decide];omega
 have c2:decide (0≤(x:Int)-1)= !decide (x=0):=by rw [←decide_not,decide_eq_decide];omega
 rw [c1,c2]
 by_cases h0:x=0
 · subst h0
   by_cases h1:0<d.length
   · simp only [decide_eq_true h1,if_pos h1,decide_true,Bool.not_true,cond_true,cond_false,if_true]
     all_goals first|exact⟨rfl,rfl,rfl⟩|(refine⟨?_,?_,?_⟩<;>first|trivial|rfl)
   · simp only [decide_eq_false h1,if_neg h1,decide_true,Bool.not_true,cond_false,if_true]
     all_goals first|exact⟨rfl,rfl,rfl⟩|(refine⟨?_,?_,?_⟩<;>first|trivial|rfl)
 · by_cases h1:x<d.length
   · simp only [decide_eq_true h1,if_pos h1,decide_eq_false h0,Bool.not_false,cond_true,if_neg h0]
     all_goals first|exact⟨rfl,rfl,rfl⟩|(refine⟨?_,?_,?_⟩<;>first|trivial|rfl)
   · simp only [decide_eq_false h1,if_neg h1,decide_eq_false h0,Bool.not_false,cond_false,cond_true,if_neg h0]
     all_goals first|exact⟨rfl,rfl,rfl⟩|(refine⟨?_,?_,?_⟩<;>first|trivial|rfl)
theorem ap9 {d:List cr} {t:List UInt8}(h:afm d t=true):0≤aff d t∧aff d t<(d.length:Int)∧(List.getD d (Int.toNat (aff d t)) ([],[])).2=agr d t:=by
 have h1:=h
 simp only [afm,Bool.and_eq_true,decide_eq_true_eq] at h1
 refine⟨h1.1,?_,by simp only [agr,h,if_true];rfl⟩
 unfold aff
 split
 · exact(apv (d:=d) (t:=t) d.length).2
 · omega
end Go.S
namespace Go.S
def fC(docs:List (List UInt8))(a:Int)(k:Nat):List (List UInt8):=(List.range k).flatMap fun(i:Nat)=>sorted (aS (docs.getD (a+i).toNat []))
def bC(docs:List (List UInt8))(a:Int)(t:List UInt8)(k:Nat):List Int:=((List.range k).filter fun(i:Nat)=>oE (docs.getD (a+i).toNat []) t).map fun(i:Nat)=>a+i
def bP(docs:List (List UInt8))(a b:Int):List (List UInt8):=sorted (fC docs a (b-a).toNat)
def iC(docs:List (List UInt8))(a b:Int)(k:Nat):List cr:=((bP docs a b).take k).map fun t=>(t,bC docs a t (b-a).toNat)
def make(docs:List (List UInt8))(a b:Int):List cr:=(bP docs a b).map fun t=>(t,bC docs a t (b-a).toNat)
def ec(docs:List (List UInt8))(a b:Int):Prop :=0≤a∧a≤b∧b≤docs.length∧docs.length≤1000∧∀d∈docs,d.length≤4000
def dz(a b:Int)(k:Nat):Prop :=a+k≤b
end Go.S
namespace Go.S
theorem Fo:∀(f:Nat) (l:List (List UInt8)),(pR f l).length≤l.length
 |0,l=>by simp [pR]
 |f+1,l=>by
  simp only [pR]
  split
  · simp
  · rename_i h
    have h0:0<l.length:=by cases l;simp at h;simp
    have :=Fo f (l.filter (fun x=> !decide (x=l.getD (cm l) [])))
    have :=oz h0
    rw [List.length_cons];omega
theorem lN(l:List (List UInt8)):(sorted l).length≤l.length:=Fo _ l
theorem J0 {docs:List (List UInt8)} {a b:Int}(hp:ec docs a b)(i:Nat):(docs.getD i []).length≤4000:=by
 by_cases h:i<docs.length
 · exact hp.2.2.2.2 _ (bQ docs i [] h)
 · rw [List.getD_eq_getElem?_getD,List.getElem?_eq_none (by omega)];simp
theorem CP {docs:List (List UInt8)} {a b:Int}(hp:ec docs a b)(i:Nat):small (docs.getD i []):=by
 have :=J0 hp i;unfold small;omega
theorem T8(docs:List (List UInt8))(a:Int): []=fC docs a 0:=rfl
theorem pj(docs:List (List UInt8))(a:Int)(k:Nat):fC docs a k++sorted (aS (docs.getD (Int.toNat (a+(k:Int))) []))=fC docs a (k+1):=by
 simp only [fC,List.range_succ,List.flatMap_append,List.flatMap_cons,List.flatMap_nil,List.append_nil]
theorem tx {docs:List (List UInt8)} {a b:Int}(hp:ec docs a b)(i:Nat):(sorted (aS (docs.getD i []))).length≤4000:=by
 have :=J0 hp i
 have :=rm (docs.getD i [])
 have :=lN (aS (docs.getD i []))
 omega
theorem oF {docs:List (List UInt8)} {a b:Int}(hp:ec docs a b):∀k,(fC docs a k).length≤4000*k
 |0=>by simp [fC]
 |k+1=>by
  rw [←pj,List.length_append]
  have :=oF hp k
  have :=tx hp (Int.toNat (a+(k:Int)))
  omega
theorem R0(docs:List (List UInt8))(a:Int)(t:List UInt8): []=bC docs a t 0:=rfl
theorem tz {docs:List (List UInt8)} {a:Int} {t:List UInt8} {k:Nat}(h:oE (docs.getD (Int.toNat (a+(k:Int))) []) t=true):bC docs a t k++ [a+(k:Int)]=bC docs a t (k+1):=by
 simp only [bC,List.range_succ,List.filter_append,List.map_append,List.filter_cons,h,if_true,List.filter_nil,List.map_cons,List.map_nil]
theorem wo {docs:List (List UInt8)} {a:Int} {t:List UInt8} {k:Nat}(h:oE (docs.getD (Int.toNat (a+(k:Int))) []) t=false):bC docs a t k=bC docs a t (k+1):=by
 simp only [bC,List.range_succ,List.filter_append,List.map_append,List.filter_cons,h,List.filter_nil]
 simp
theorem zO(docs:List (List UInt8))(a:Int)(t:List UInt8)(k:Nat):(bC docs a t k).length≤k:=by
 simp only [bC,List.length_map]
 have :=List.length_filter_le (fun(i:Nat)=>oE (docs.getD (a+i).toNat []) t) (List.range k)
 rw [List.length_range] at this;exact this
theorem qs {docs:List (List UInt8)} {a b:Int} {k:Nat}(h:dz a b k)(hk:¬a+(k:Int)<b):sorted (fC docs a k)=bP docs a b∧k=(b-a).toNat:=by
 unfold dz at h
 have :k=(b-a).toNat:=by omega
 exact⟨by rw [this];rfl,this⟩
theorem xL {docs:List (List UInt8)} {a b:Int} {k j:Nat} {t:List UInt8}(hk:k<(bP docs a b).length)(hj:j=(b-a).toNat)(ht:(bP docs a b).getD k []=t):iC docs a b k++ [(t,bC docs a t j)]=iC docs a b (k+1):=by
 subst ht;subst hj
 simp only [iC]
 rw [aA (bP docs a b) k [] hk,List.map_append];rfl
theorem J1(docs:List (List UInt8))(a b:Int)(k:Nat):(iC docs a b k).length≤k:=by
 simp only [iC,List.length_map,List.length_take];omega
theorem zP {docs:List (List UInt8)} {a b:Int} {k:Nat}(h:¬k<(bP docs a b).length):iC docs a b k=make docs a b:=by
 simp only [iC,make];rw [List.take_of_length_le (by omega)]
theorem CQ {a b:Int} {k:Nat}(h:dz a b k)(hp:a≤b):(k:Int)≤b-a:=by unfold dz at h;omega
end Go.S

end
section
namespace Go.S
end Go.S

end
section
namespace Go.S
theorem qt(b t:List UInt8):oE b t=true↔t∈aS b:=by
 unfold oE
 rw [decide_eq_true_iff]
 simp only [places,qm,List.length_map]
 constructor
 · intro h
   have h1:0<((List.range (aS b).length).filter (fun i=>decide ((aS b).getD i []=t))).length:=by omega
   obtain⟨i,hi⟩:=List.exists_mem_of_length_pos h1
   simp only [List.mem_filter,List.mem_range,decide_eq_true_eq] at hi
   rw [←hi.2,List.getD_eq_getElem?_getD,List.getElem?_eq_getElem hi.1]
   exact List.getElem_mem _
 · intro h
   obtain⟨i,hi,he⟩:=List.getElem_of_mem h
   have :i∈(List.range (aS b).length).filter (fun i=>decide ((aS b).getD i []=t)):=by
    simp only [List.mem_filter,List.mem_range,decide_eq_true_eq]
    exact⟨hi,by rw [List.getD_eq_getElem?_getD,List.getElem?_eq_getElem hi];exact he⟩
   have :=List.length_pos_of_mem this
   omega
def aaf(docs:List (List UInt8))(a:Int)(k:Nat):List (List UInt8):=sorted (aS (docs.getD (a+(k:Int)).toNat []))
def rA(docs:List (List UInt8))(a:Int)(k j:Nat)(s:List UInt8):List Int:=bC docs a s k++if s∈(aaf docs a k).take j then [a+(k:Int)] else []
theorem af7(docs:List (List UInt8))(a:Int)(s:List UInt8):rA docs a 0 0 s= []:=by simp [rA,bC]
theorem tA {l:List (List UInt8)}(h:lp l):l.Nodup:=h.imp fun {a b} eV dp=>by
 subst dp
 rw [bO] at eV;cases eV
theorem kY {l:List (List UInt8)} {j:Nat}(hj:j<l.length)(s:List UInt8):s∈l.take (j+1)↔s∈l.take j∨s=l.getD j []:=by
 rw [List.take_add_one,List.mem_append,List.getElem?_eq_getElem hj,List.getD_eq_getElem?_getD,List.getElem?_eq_getElem hj]
 simp
theorem zQ {l:List (List UInt8)}(h:l.Nodup) {j:Nat}(hj:j<l.length):l.getD j []∉l.take j:=by
 intro hm
 rw [List.getD_eq_getElem?_getD,List.getElem?_eq_getElem hj] at hm
 obtain⟨i,hi,he⟩:=List.getElem_of_mem hm
 simp only [List.length_take] at hi
 rw [List.getElem_take] at he
 exact(List.pairwise_iff_getElem.1 h) i j (by omega) hj (by omega) he
theorem T9 {docs:List (List UInt8)} {a:Int} {k j:Nat}(hj:j<(aaf docs a k).length):rA docs a k (j+1) ((aaf docs a k).getD j [])=rA docs a k j ((aaf docs a k).getD j [])++ [a+(k:Int)]:=by
 have h1:(aaf docs a k).getD j []∉(aaf docs a k).take j:=zQ (tA (jt (aS (docs.getD (a+(k:Int)).toNat [])))) hj
 have h2:=(kY hj ((aaf docs a k).getD j [])).2 (.inr rfl)
 simp only [rA]
 rw [if_pos h2,if_neg h1,List.append_nil]
theorem R1 {docs:List (List UInt8)} {a:Int} {k j:Nat}(hj:j<(aaf docs a k).length) {s:List UInt8}(hs:s≠(aaf docs a k).getD j []):rA docs a k (j+1) s=rA docs a k j s:=by
 simp only [rA]
 by_cases h:s∈(aaf docs a k).take j
 · rw [if_pos h,if_pos ((kY hj s).2 (.inl h))]
 · rw [if_neg h,if_neg (fun h'=>by rcases(kY hj s).1 h' with h'|h';exact h h';exact hs h')]
theorem R2 {docs:List (List UInt8)} {a:Int} {k j:Nat}(hj:¬j<(aaf docs a k).length)(s:List UInt8):rA docs a k j s=rA docs a (k+1) 0 s:=by
 simp only [rA,List.take_zero,List.not_mem_nil,if_false,List.append_nil]
 rw [List.take_of_length_le (by omega)]
 by_cases h:s∈aaf docs a k
 · rw [if_pos h]
   exact tz ((qt _ _).2 ((fk _ _).1 h))
 · rw [if_neg h,List.append_nil]
   refine wo ?_
   cases hh:oE (docs.getD (Int.toNat (a+(k:Int))) []) s with
   |false=>rfl
   |true=>exact absurd ((fk _ _).2 ((qt _ _).1 hh)) h
theorem Ua(docs:List (List UInt8))(a:Int)(k j:Nat)(s:List UInt8):(rA docs a k j s).length≤k+1:=by
 have :=zO docs a s k
 simp only [rA,List.length_append]
 split<;>simp<;>omega
theorem wu(docs:List (List UInt8))(a:Int)(x:List UInt8):∀k,x∈fC docs a k↔bC docs a x k≠ []
 |0=>by simp [fC,bC]
 |k+1=>by
  rw [←pj,List.mem_append,wu docs a x k,fk,←qt]
  cases h:oE (docs.getD (Int.toNat (a+(k:Int))) []) x with
  |true=>rw [←tz h];simp
  |false=>rw [←wo h];simp
end Go.S
namespace Go.S
def fK(docs:List (List UInt8))(a b:Int):List cr×Int:=if cJ docs a b then(make docs a b,0) else([],1)
end Go.S

end
section
namespace Go.S
abbrev Sg:=Int×Int×Int×List UInt8
def iD(a b:Int):Bool:=decide (0≤a)&&(decide (a<b)&&decide (b≤1000))
def yU(d:List cr)(a b:Int)(i:Nat):Bool:=decide (((CG (fl d i) a b).length:Int)=((fl d i).length:Int))
def dh(a b:Int)(d:List cr):Bool:=(iD a b&&bl d)&&(List.range d.length).all (yU d a b)
def pn(a b:Int)(d:List cr)(k:Nat):Prop :=iD a b=true∧bl d=true∧(∀i,i<k→yU d a b i=true)∧k≤d.length
def lh(a b:Int)(d:List cr):(Int×Int×Int×List UInt8)×Int:=if dh a b d then((a,b,(d.length:Int)+1,l7 d),0) else((0,0,0,[]),1)
def yV(a b:Int)(d:List cr):Int×Int×Int×List UInt8:=(a,b,((iq d).length:Int),l7 d)
def af8(a b n:Int)(r:List UInt8):Bool:=iD a b&&(decide (1≤n)&&(decide (n≤1099511627776)&&decide ((r.length:Int)=32)))
def cC(docs:List (List UInt8))(a b:Int):Bool:=cJ docs a b&&decide (a<b)
def sg(l:List Sg)(i:Nat):Sg:=l.getD i (0,0,0,[])
def anS(l:List Sg)(i:Nat):Bool:=af8 (sg l i).1 (sg l i).2.1 (sg l i).2.2.1 (sg l i).2.2.2&& !(decide (0<i)&& !decide ((sg l i).1=(sg l (i-1)).2.1))
def aga(l:List Sg)(n:Int):Bool:=
 if l.length=0 then decide (n=0)
 else(List.range l.length).all (anS l)&&(decide ((l.length:Int)≤64)&&(decide ((sg l 0).1=0)&&decide ((sg l (l.length-1)).2.1=n)))
theorem ś {l:List Int} {a b:Int}(h:bR l=true)(h0:l.length≠0):(CG l a b).length=l.length↔a≤l.getD 0 0∧l.getD (l.length-1) 0<b:=by
 have hs:∀n,n<l.length→∀i,i≤n→l.getD i 0≤l.getD n 0:=by
  intro n
  induction n with
  |zero=>intro _ i hi;rw [show i=0 by omega];exact Int.le_refl _
  |succ n ih=>
   intro hn i hi
   by_cases e:i=n+1
   · rw [e];exact Int.le_refl _
   · have h1:=ih (by omega) i (by omega)
     have h2:=(ke l (n+1)).1 ((ka l).1 h (n+1) hn)
     rw [kz] at h2;omega
 simp only [CG,RP,h,if_true]
 rw [List.length_filter_eq_length_iff]
 constructor
 · intro hX
   have h1:=hX _ (bQ l 0 0 (by omega))
   have h2:=hX _ (bQ l (l.length-1) 0 (by omega))
   simp only [oC,Bool.and_eq_true,decide_eq_true_eq] at h1 h2
   exact⟨h1.1,h2.2⟩
 · rintro⟨h1,h2⟩ x hx
   obtain⟨i,hi,rfl⟩:=List.mem_iff_getElem.1 hx
   have e:l[i]=l.getD i 0:=by rw [List.getD_eq_getElem?_getD,List.getElem?_eq_getElem hi];rfl
   rw [e]
   have q1:=hs i hi 0 (Nat.zero_le _)
   have q2:=hs (l.length-1) (by omega) i (by omega)
   simp only [oC,Bool.and_eq_true,decide_eq_true_eq];omega
theorem af9 {a b:Int} {d:List cr}(h1:iD a b=true)(h2:bl d=true):pn a b d 0:=⟨h1,h2,fun i hi=>by omega,Nat.zero_le _⟩
theorem R3 {a b:Int} {d:List cr} {k:Nat}(h:pn a b d k)(hk:(k:Int)<d.length)(he:yU d a b k=true):pn a b d (k+1):=by
 refine⟨h.1,h.2.1,fun i hi=> ?_,by omega⟩
 by_cases e:i=k
 · subst e;exact he
 · exact h.2.2.1 i (by omega)
theorem Ub {a b:Int} {d:List cr} {k:Nat}(hk:(k:Int)<d.length)(he:yU d a b k=false):false=dh a b d:=by
 symm
 simp only [dh]
 have :(List.range d.length).all (yU d a b)=false :=by
  rw [List.all_eq_false];exact⟨k,by rw [List.mem_range];omega,by rw [he];decide⟩
 rw [this,Bool.and_false]
theorem Uc {a b:Int} {d:List cr} {k:Nat}(h:pn a b d k)(hk:¬(k:Int)<d.length):true=dh a b d:=by
 symm
 simp only [dh,h.1,h.2.1,Bool.true_and,List.all_eq_true,List.mem_range]
 intro i hi;exact h.2.2.1 i (by have :=h.2.2.2;omega)
theorem Ŝ {a b:Int} {d:List cr}(h:iD a b=false∨bl d=false):false=dh a b d:=by
 symm
 rcases h with h|h<;>simp only [dh,h,Bool.false_and,Bool.and_false]
theorem R4 {a b:Int} {d:List cr}(h:dh a b d=true):bl d=true :=by
 simp only [dh,Bool.and_eq_true] at h;exact h.1.2
end Go.S
namespace Go.S
theorem arD {d:List cr} {k:Nat}(h:bl d=true)(hk:(k:Int)<d.length):0<(fl d k).length∧(fl d k).length≤1000:=by
 have hq:=(qq d k).1 ((ux d).1 h k (by omega))
 exact⟨by have :=hq.2.1;omega,qp hq.2.2.1⟩
theorem CR {a b:Int} {d:List cr}(h:dh a b d=false):lh a b d=((0,0,0,[]),1):=by simp only [lh,h];rfl
theorem mD {a b:Int} {d:List cr}(h:dh a b d=true):lh a b d=((a,b,(d.length:Int)+1,l7 d),0)∧dE d=0∧rz d=l7 d:=by
 have hd:=R4 h
 refine⟨by simp only [lh,h,if_true],by simp only [dE,hd,if_true],by simp only [rz,hd,if_true]⟩
end Go.S

end
section
namespace Go.S
def cb(docs:List (List UInt8))(a b:Int):(Int×Int×List cr)×Int:=if cC docs a b then((a,b,make docs a b),0) else((0,0,[]),1)
def rB(a1 a2:Int)(a3:List cr)(b1 b2:Int)(b3:List cr):Bool:=decide (a1=b1)&&(decide (a2=b2)&&decide (a3=b3))
def rowAt(l:List Sg)(k:Nat):Int:=if k=0 then 0 else(sg l (k-1)).2.1
def M1(l:List Sg)(k:Nat):Prop :=(∀i,i<k→anS l i=true)∧k≤l.length∧l.length≤64∧(0<k→(sg l 0).1=0)
end Go.S
namespace Go.S
theorem J2 {m r d:List (List UInt8)} {i:Nat}(h:i≤m.length):(m.take i++r++d).take i=m.take i:=by
 rw [List.append_assoc,List.take_append_of_le_length (by rw [List.length_take];omega),List.take_take,Nat.min_self]
theorem H6 {b:List UInt8}(h:small b):small (aS b):=by
 have :=rm b
 simp only [small] at *
 omega
theorem H7 {l:List (List UInt8)}(h:small l):small (fB l):=by
 simp only [small,fB,List.length_mergeSort] at *
 exact h
end Go.S
namespace Go.S
theorem Ud(a b:Bool):(Bool.rec false b a:Bool)=(a&&b):=by cases a<;>rfl
theorem J3 {docs:List (List UInt8)} {a b:Int}(h:¬(fK docs a b).2=0):cb docs a b=((0,0,[]),1)∧(fK docs a b).2=1:=by
 unfold fK at *
 by_cases hf:cJ docs a b=true
 · rw [if_pos hf] at h;exact absurd rfl h
 · rw [if_neg hf]
   refine⟨?_,rfl⟩
   unfold cb cC
   have :cJ docs a b=false :=by simpa using hf
   rw [this];rfl
theorem Ue {docs:List (List UInt8)} {a b:Int}(h:(fK docs a b).2=0):cJ docs a b=true∧fK docs a b=(make docs a b,0):=by
 unfold fK at *
 by_cases hf:cJ docs a b=true
 · exact⟨hf,by rw [if_pos hf]⟩
 · rw [if_neg hf] at h;cases h
theorem J4 {docs:List (List UInt8)} {a b:Int}(h:a=b):cb docs a b=((0,0,[]),1):=by
 unfold cb cC
 have :decide (a<b)=false :=decide_eq_false (by omega)
 rw [this,Bool.and_false];rfl
theorem J5 {docs:List (List UInt8)} {a b:Int}(h:(fK docs a b).2=0)(dp:¬a=b):cb docs a b=((a,b,(fK docs a b).1),0):=by
 obtain⟨h1,h2⟩:=Ue h
 rw [h2]
 unfold cb cC
 have hp:a≤b:=by
  simp only [cJ,Bool.and_eq_true,decide_eq_true_eq] at h1
  exact h1.2.2.2.1
 have :decide (a<b)=true :=decide_eq_true (by omega)
 rw [h1,this];rfl
def afL(l:List Sg)(k:Nat):Bool:=decide ((sg l k).1=rowAt l k)&&af8 (sg l k).1 (sg l k).2.1 (sg l k).2.2.1 (sg l k).2.2.2
theorem avY {l:List Sg} {n:Int}(h:(64:Int)<l.length):false=aga l n:=by
 symm
 unfold aga
 rw [if_neg (by omega)]
 have :decide ((l.length:Int)≤64)=false :=decide_eq_false (by omega)
 rw [this,Bool.false_and,Bool.and_false]
theorem awA {l:List Sg}(h:¬(64:Int)<l.length):M1 l 0:=⟨fun i hi=>by omega,Nat.zero_le _,by omega,fun h=>by omega⟩
theorem apx(l:List Sg):rowAt l 0=0:=rfl
theorem atL(l:List Sg)(k:Nat):rowAt l (k+1)=(sg l k).2.1:=by simp [rowAt]
theorem anV {l:List Sg} {k:Nat}(h:0<k):anS l k=afL l k:=by
 unfold anS afL rowAt
 rw [if_neg (by omega),decide_eq_true h,Bool.true_and,Bool.not_not,Bool.and_comm]
theorem ag4 {l:List Sg}:anS l 0=af8 (sg l 0).1 (sg l 0).2.1 (sg l 0).2.2.1 (sg l 0).2.2.2:=by simp [anS]
theorem avi {l:List Sg} {k:Nat} {n:Int}(hc:M1 l k)(hk:(k:Int)<l.length)(h:afL l k=false):false=aga l n:=by
 symm
 unfold aga
 rw [if_neg (by omega)]
 by_cases h0:k=0
 · subst h0
   unfold afL at h
   rw [apx] at h
   by_cases h1:(sg l 0).1=0
   · rw [decide_eq_true h1,Bool.true_and] at h
     have :(List.range l.length).all (anS l)=false :=by
      rw [List.all_eq_false]
      exact⟨0,by rw [List.mem_range];omega,by rw [ag4,h];decide⟩
     rw [this,Bool.false_and]
   · rw [decide_eq_false h1,Bool.false_and,Bool.and_false,Bool.and_false]
 · have :(List.range l.length).all (anS l)=false :=by
    rw [List.all_eq_false]
    exact⟨k,by rw [List.mem_range];omega,by rw [anV (by omega),h];decide⟩
   rw [this,Bool.false_and]
theorem auC {l:List Sg} {k:Nat}(hc:M1 l k)(hk:(k:Int)<l.length)(h:afL l k=true):M1 l (k+1):=by
 refine⟨fun i hi=> ?_,by omega,hc.2.2.1,fun _=> ?_⟩
 · by_cases e:i=k
   · subst e
     by_cases h0:i=0
     · subst h0
       unfold afL at h
       rw [Bool.and_eq_true] at h
       rw [ag4];exact h.2
     · rw [anV (by omega)];exact h
   · exact hc.1 i (by omega)
 · by_cases h0:k=0
   · subst h0
     unfold afL at h
     rw [Bool.and_eq_true,decide_eq_true_eq] at h
     exact h.1
   · exact hc.2.2.2 (by omega)
theorem avj {l:List Sg} {k:Nat} {n:Int}(hc:M1 l k)(hk:¬(k:Int)<l.length):decide (rowAt l k=n)=aga l n:=by
 obtain⟨h1,h2,h3,h4⟩:=hc
 have Ss:k=l.length:=by omega
 subst Ss
 unfold aga
 by_cases h0:l.length=0
 · rw [if_pos h0,h0,apx,decide_eq_decide]
   omega
 · rw [if_neg h0]
   have e1:(List.range l.length).all (anS l)=true :=by
    rw [List.all_eq_true];intro i hi;exact h1 i (by simpa using hi)
   have e2:decide ((l.length:Int)≤64)=true :=decide_eq_true (by omega)
   have e3:decide ((sg l 0).1=0)=true :=decide_eq_true (h4 (by omega))
   rw [e1,e2,e3,Bool.true_and,Bool.true_and,Bool.true_and]
   unfold rowAt
   rw [if_neg h0]
end Go.S
namespace Go.S
theorem asg {d:List cr} {t:List UInt8}(h:afm d t=false): []=agr d t:=by unfold agr;rw [h];rfl
theorem awB {d:List cr} {t:List UInt8}(h:afm d t=true):small (List.getD d (Int.toNat (aff d t)) ([],[])).2:=by
 obtain⟨h0,h1,_⟩:=ap9 h
 have hr:bl d=true :=by
  cases hd:bl d with
  |true=>rfl
  |false=>
   have :aff d t= -1:=by unfold aff;rw [hd];rfl
   omega
 have :=arD (d:=d) (k:=Int.toNat (aff d t)) hr (by omega)
 unfold small
 unfold fl at this
 omega
end Go.S
namespace Go.S
theorem atM {l:List Sg} {k:Nat}(h:¬(sg l k).1=rowAt l k∨af8 (sg l k).1 (sg l k).2.1 (sg l k).2.2.1 (sg l k).2.2.2=false):afL l k=false :=by
 unfold afL
 rcases h with h|h
 · rw [decide_eq_false h,Bool.false_and]
 · rw [h,Bool.and_false]
theorem auD {l:List Sg} {k:Nat}(h:(sg l k).1=rowAt l k∧af8 (sg l k).1 (sg l k).2.1 (sg l k).2.2.1 (sg l k).2.2.2=true):afL l k=true :=by
 unfold afL
 rw [decide_eq_true h.1,h.2];rfl
end Go.S

end
section
namespace Go.S
def po(e:cr):Bool:=decide ((200:Int)<e.1.length) || decide ((200:Int)<e.2.length)
def fG(d:List cr):Bool:=d.any po || decide ((100:Int)<d.length)
def tB(d:List cr)(k:Nat):Prop :=(∀e∈d.take k,po e=false)∧k≤d.length
def jZ(docs:List (List UInt8)):Bool:=docs.any (fun b=>decide ((2500:Int)<b.length)) || decide ((40:Int)<docs.length)
def tC(docs:List (List UInt8))(k:Nat):Prop :=(∀b∈docs.take k,b.length≤2500)∧k≤docs.length
theorem anT(d:List cr):tB d 0:=⟨by simp,Nat.zero_le _⟩
theorem take_one {α:Type}(l:List α)(k:Nat)(x:α)(hk:k<l.length):l.take (k+1)=l.take k++ [l.getD k x]:=by
 rw [List.take_add_one,List.getElem?_eq_getElem hk,List.getD_eq_getElem?_getD,List.getElem?_eq_getElem hk];rfl
theorem Uf {d:List cr} {k:Nat}(h:tB d k)(hk:(k:Int)<d.length)(he:po (d.getD k ([],[]))=false):tB d (k+1):=by
 refine⟨fun e hm=> ?_,by omega⟩
 rw [take_one d k ([],[]) (by omega),List.mem_append] at hm
 rcases hm with hm|hm
 · exact h.1 e hm
 · simp at hm;subst hm;simpa using he
theorem ŝ {d:List cr} {k:Nat}(hk:(k:Int)<d.length)(he:po (d.getD k ([],[]))=true):true=fG d:=by
 symm
 unfold fG
 have :d.any po=true :=by
  rw [List.any_eq_true]
  exact⟨_,bQ d k ([],[]) (by omega),he⟩
 rw [this,Bool.true_or]
theorem Ş {d:List cr} {k:Nat}(h:tB d k)(hk:¬(k:Int)<d.length):decide ((100:Int)<d.length)=fG d:=by
 symm
 unfold fG
 have :d.any po=false :=by
  rw [List.any_eq_false]
  intro e he
  have :=h.1 e (by rw [List.take_of_length_le (by omega)];exact he)
  rw [this];decide
 rw [this,Bool.false_or]
theorem anU(d:List (List UInt8)):tC d 0:=⟨by simp,Nat.zero_le _⟩
theorem Ug {d:List (List UInt8)} {k:Nat}(h:tC d k)(hk:(k:Int)<d.length)(he:¬(2500:Int)<(d.getD k []).length):tC d (k+1):=by
 refine⟨fun e hm=> ?_,by omega⟩
 rw [take_one d k [] (by omega),List.mem_append] at hm
 rcases hm with hm|hm
 · exact h.1 e hm
 · simp at hm;subst hm
   rw [List.getD_eq_getElem?_getD] at he
   omega
theorem ş {d:List (List UInt8)} {k:Nat}(hk:(k:Int)<d.length)(he:(2500:Int)<(d.getD k []).length):true=jZ d:=by
 symm
 unfold jZ
 have :d.any (fun b=>decide ((2500:Int)<b.length))=true :=by
  rw [List.any_eq_true]
  exact⟨_,bQ d k [] (by omega),by simpa using he⟩
 rw [this,Bool.true_or]
theorem Š {d:List (List UInt8)} {k:Nat}(h:tC d k)(hk:¬(k:Int)<d.length):decide ((40:Int)<d.length)=jZ d:=by
 symm
 unfold jZ
 have :d.any (fun b=>decide ((2500:Int)<b.length))=false :=by
  rw [List.any_eq_false]
  intro e he
  have :=h.1 e (by rw [List.take_of_length_le (by omega)];exact he)
  simp only [decide_eq_true_eq];omega
 rw [this,Bool.false_or]
end Go.S

end
section
namespace Go.S
theorem lO {docs:List (List UInt8)} {f t:Int}(h:cC docs f t=true):ec docs f t:=by
 simp only [cC,cJ,Bool.and_eq_true,List.all_eq_true,decide_eq_true_eq] at h
 obtain⟨⟨h1,h2,h3,h4,h5⟩,h6⟩:=h
 exact⟨h3,h4,h5,by omega,fun d hd=>by have :=h1 d hd;omega⟩
theorem J6(a b:Int)(d:List cr):rB a b d a b d=true :=by simp [rB]
theorem Ni {a b:Int} {d:List cr}(h:dh a b d=true):lh a b d=((a,b,(d.length:Int)+1,l7 d),0):=by unfold lh;rw [h];rfl
theorem Nj(a b:Int)(d:List cr):yV a b d=(a,b,(d.length:Int)+1,l7 d):=by simp [yV,iq,dy]
end Go.S
namespace Go.S
theorem afs(l:List (List UInt8)):mT (leaves l)=true :=by
 rw [ie]
 intro d hd
 simp only [leaves,List.mem_map] at hd
 obtain⟨b,_,rfl⟩:=hd
 exact Ci _
theorem arR {a b:Int} {d:List cr}(h:dh a b d=true)(hp:bB d):af8 a b ((d.length:Int)+1) (l7 d)=true :=by
 have hw:iD a b=true :=by
  unfold dh at h
  simp only [Bool.and_eq_true] at h
  exact h.1.1
 have hr:(l7 d).length=32:=Nb (afs (iq d))
 unfold af8
 rw [hw,hr]
 have :=hp.1
 simp only [Bool.true_and,Bool.and_eq_true,decide_eq_true_eq]
 exact⟨by omega,by omega,rfl⟩
end Go.S

end
section
namespace Go.S
theorem AF:∀(l acc:List Int),∀W∈im acc l,W≠ []
 | [],acc,W,hW=>by
   simp only [im] at hW
   split at hW
   · cases hW
   · rename_i h
     rw [List.mem_singleton.1 hW]
     intro e;rw [e] at h;exact h rfl
 |x::l,acc,W,hW=>by
  simp only [im] at hW
  split at hW
  · exact AF l _ W hW
  · split at hW
    · exact AF l _ W hW
    · rename_i h
      rcases List.mem_cons.1 hW with e|hW
      · subst e
        intro e;rw [e] at h;exact h rfl
      · exact AF l _ W hW
theorem J7 {b t:List UInt8}(h:t∈aS b):isTerm t=true :=by
 rw [←RF]
 simp only [aS,List.mem_map] at h
 obtain⟨W,hW,hs⟩:=h
 have aG:=xF (decode b) [] (by simp) W hW
 have dp:=AF (decode b) [] W hW
 have hrW:∀c∈W,bh (aR c)=true :=fun c hc=>rl (jT b c (by
  rcases(aG c hc).2 with h|h
  · cases h
  · exact h))
 have hlen:t.length≤64:=by rw [←hs];exact uu W [] (by simp)
 obtain⟨p,hp,hpf,hpn⟩:∃p:List Int,(∀c∈p,c∈W)∧gZ [] W=p.flatMap (fun c=>dZ (aR c))∧p≠ []:=by
  cases W with
  |nil=>exact absurd rfl dp
  |cons c w=>
   obtain⟨p,h1,h2⟩:=tj w ([]++dZ (aR c))
   have hl:(dZ (aR c)).length≤4:=by rw [xH (hrW c (by simp))];exact(th (hrW c (by simp)) []).2.2
   refine⟨c::p,fun x hx=> ?_,?_,by simp⟩
   · rcases List.mem_cons.1 hx with hx|hx
     · simp [hx]
     · simp [h1 x hx]
   · simp only [gZ,List.length_nil]
     rw [if_neg (by omega),h2,List.flatMap_cons,List.nil_append]
 have hr:∀c∈p,bh (aR c)=true :=fun c hc=>hrW c (hp c hc)
 have G9:t=(p.map aR).flatMap enc:=by
  rw [←hs];show gZ [] W=_
  rw [hpf,List.flatMap_map]
  exact tm fun c hc=>xH (hr c hc)
 have hd:decode t=p.map aR:=by
  rw [G9]
  exact ti _ (fun c hc=>by
   obtain⟨c',h',rfl⟩:=List.mem_map.1 hc;exact hr c' h')
 simp only [L3,Bool.and_eq_true,decide_eq_true_eq,List.all_eq_true,L2,hd]
 refine⟨fun c hc=> ?_,?_,by omega⟩
 · obtain⟨c',h',rfl⟩:=List.mem_map.1 hc
   exact⟨zH (aG c' (hp c' h')).1,xG c'⟩
 · have :=List.length_pos_iff.2 hpn
   simp;omega
end Go.S
namespace Go.S
theorem pq {docs:List (List UInt8)} {a:Int} {t:List UInt8} {k:Nat} {i:Int}:i∈bC docs a t k↔a≤i∧i<a+(k:Int)∧oE (docs.getD i.toNat []) t=true :=by
 simp only [bC,List.mem_map,List.mem_filter,List.mem_range]
 constructor
 · rintro⟨q,⟨h1,h2⟩,rfl⟩
   exact⟨by omega,by omega,h2⟩
 · rintro⟨h1,h2,h3⟩
   refine⟨(i-a).toNat,⟨by omega,?_⟩,by omega⟩
   rw [show a+(((i-a).toNat:Nat):Int)=i by omega];exact h3
theorem H9(docs:List (List UInt8))(a:Int)(t:List UInt8)(k:Nat):(bC docs a t k).Pairwise (· < ·):=by
 simp only [bC]
 refine List.pairwise_map.2 ?_
 refine List.Pairwise.filter _ ?_
 exact(List.pairwise_lt_range (n:=k)).imp fun {x y} h=>by omega
theorem R5 {l:List Int}(h:l.Pairwise (· < ·))(hb:∀x∈l,0≤x∧x<1000):bR l=true :=by
 rw [ka]
 intro i hi
 rw [ke]
 have hm:=hb _ (bQ l i 0 hi)
 refine⟨?_,hm.2⟩
 cases i with
 |zero=>simp only [dV,if_pos];omega
 |succ i=>
  rw [kz]
  have :=(List.pairwise_iff_getElem.1 h) i (i+1) (by omega) hi (by omega)
  rw [List.getD_eq_getElem?_getD,List.getD_eq_getElem?_getD,List.getElem?_eq_getElem hi,List.getElem?_eq_getElem (show i<l.length by omega)]
  exact this
theorem uy(docs:List (List UInt8))(a b:Int):(make docs a b).length=(bP docs a b).length:=by simp [make]
theorem Ia {docs:List (List UInt8)} {a b:Int} {i:Nat}(h:i<(bP docs a b).length):bA (make docs a b) i=(bP docs a b).getD i []:=by
 unfold bA make
 rw [List.getD_eq_getElem?_getD,List.getElem?_map,List.getElem?_eq_getElem h,List.getD_eq_getElem?_getD,List.getElem?_eq_getElem h];rfl
theorem Ib {docs:List (List UInt8)} {a b:Int} {i:Nat}(h:i<(bP docs a b).length):fl (make docs a b) i=bC docs a ((bP docs a b).getD i []) (b-a).toNat:=by
 unfold fl make
 rw [List.getD_eq_getElem?_getD,List.getElem?_map,List.getElem?_eq_getElem h,List.getD_eq_getElem?_getD,List.getElem?_eq_getElem h];rfl
theorem mE {docs:List (List UInt8)} {a b:Int} {t:List UInt8}:t∈bP docs a b↔bC docs a t (b-a).toNat≠ []:=by
 unfold bP
 rw [fk,wu]
theorem tD {docs:List (List UInt8)} {a b:Int}(hp:ec docs a b):bl (make docs a b)=true :=by
 rw [ux]
 intro i hi
 rw [uy] at hi
 rw [qq,Ia hi,Ib hi]
 have hm:=bQ (bP docs a b) i [] hi
 have dp:=mE.1 hm
 have h1:=hp.1
 have h2:=hp.2.1
 have h3:=hp.2.2.1
 have h4:=hp.2.2.2.1
 refine⟨?_,?_,?_,?_⟩
 · by_cases h0:i=0
   · exact .inl h0
   right
   rw [Ia (by omega)]
   have z6:lp (bP docs a b):=jt _
   have :=(List.pairwise_iff_getElem.1 z6) (i-1) i (by omega) hi (by omega)
   rw [JZ,List.getD_eq_getElem?_getD,List.getD_eq_getElem?_getD,List.getElem?_eq_getElem hi,List.getElem?_eq_getElem (show i-1<(bP docs a b).length by omega)]
   simpa using this
 · intro e
   exact dp (List.length_eq_zero_iff.1 e)
 · refine R5 (H9 _ _ _ _) fun x hx=> ?_
   have :=pq.1 hx
   omega
 · obtain⟨x,hx⟩:=List.exists_mem_of_ne_nil _ dp
   have :=pq.1 hx
   exact J7 ((qt _ _).1 this.2.2)
theorem Mi {docs:List (List UInt8)} {a b:Int}(hp:ec docs a b)(hn:(bP docs a b).length≤1048576):bB (make docs a b):=by
 refine⟨by rw [uy];exact hn,fun e he=> ?_⟩
 simp only [make,List.mem_map] at he
 obtain⟨t,ht,rfl⟩:=he
 obtain⟨x,hx⟩:=List.exists_mem_of_ne_nil _ (mE.1 ht)
 have h:=J7 ((qt _ _).1 (pq.1 hx).2.2)
 have :=zL h
 simp only;omega
theorem apy {d:List cr} {t:List UInt8}:∀k,(acR d t k= -1∧∀i,i<k→Ai (bA d i) t=false)∨(∃q:Nat,acR d t k=q∧q<k∧Ai (bA d q) t=true∧∀i,q<i→i<k→Ai (bA d i) t=false)
 |0=> .inl ⟨rfl,fun i hi=>by omega⟩
 |k+1=>by
  simp only [acR]
  split
  · rename_i h
    exact .inr ⟨k,rfl,by omega,h,fun i h1 h2=>by omega⟩
  · rename_i h
    rcases apy (d:=d) (t:=t) k with h1|⟨q,h1,h2,h3,h4⟩
    · refine .inl ⟨h1.1,fun i hi=> ?_⟩
      by_cases e:i=k
      · rw [e];simpa using h
      · exact h1.2 i (by omega)
    · refine .inr ⟨q,h1,by omega,h3,fun i g1 g2=> ?_⟩
      by_cases e:i=k
      · rw [e];simpa using h
      · exact h4 i g1 (by omega)
end Go.S

end
section
namespace Go.S
end Go.S
namespace Go.S
end Go.S
namespace Go.S
theorem Uh {docs:List (List UInt8)} {a b:Int}(hp:ec docs a b)(eV:a<b):dh a b (make docs a b)=true :=by
 have h1:=hp.1
 have h2:=hp.2.2.1
 have h3:=hp.2.2.2.1
 unfold dh
 rw [tD hp]
 have hw:iD a b=true :=by
  unfold iD
  simp only [Bool.and_eq_true,decide_eq_true_eq];omega
 rw [hw,Bool.true_and,Bool.true_and,List.all_eq_true]
 intro i hi
 rw [List.mem_range] at hi
 have hr:=(qq _ _).1 ((ux _).1 (tD hp) i hi)
 unfold yU
 rw [decide_eq_true_eq]
 have h:=(ś hr.2.2.1 hr.2.1 (a:=a) (b:=b)).2 ?_
 · omega
 · rw [uy] at hi
   have hd:∀x∈fl (make docs a b) i,a≤x∧x<b:=fun x hx=>by
    rw [Ib hi] at hx
    have :=pq.1 hx
    omega
   have hn:=hr.2.1
   exact⟨(hd _ (bQ _ 0 0 (by omega))).1,(hd _ (bQ _ _ 0 (by omega))).2⟩
end Go.S

end
section
namespace Go.S
theorem apV {b:List UInt8}(h:(first b).2.2=0):num (first b).1=b.take (first b).2.1.toNat∧(first b).2.1≤b.length:=by
 unfold first at h ⊢
 split at h
 · cases h
 · rename_i h1
   split at h
   · cases h
   · rename_i h2
     split at h
     · cases h
     · rename_i h3
       rw [if_neg h1,if_neg h2,if_neg h3]
       have q:lead b≤b.length:=List.Sublist.length_le (List.takeWhile_sublist _)
       refine⟨?_,by simp only;omega⟩
       have :num (HR (b.take (lead b+1)))=b.take (lead b+1):=Classical.byContradiction fun e=>h3 (.inr e)
       rw [this]
       congr 1
end Go.S
namespace Go.S
theorem ahE {d:List cr}(h:bl d=true):∀j i,i<j→j<d.length→Op.bytesLess (bA d i) (bA d j)=true
 |0,i,hi,_=>by omega
 |j+1,i,hi,hj=>by
  have h1:=((qq d (j+1)).1 ((ux d).1 h (j+1) hj)).1
  have h2:Op.bytesLess (bA d j) (bA d (j+1))=true :=by
   rcases h1 with h1|h1
   · omega
   · rw [JZ] at h1
     simpa using h1
  by_cases e:i=j
  · rw [e];exact h2
  · exact js _ _ _ (ahE h j i (by omega) (by omega)) h2
theorem apz {d:List cr}(hr:bl d=true)(s:List UInt8):(∃q,q<d.length∧bA d q=s∧afm d s=true)∨(afm d s=false∧∃i,i≤d.length∧(∀q,q<i→Op.bytesLess (bA d q) s=true)∧(∀q,i≤q→q<d.length→Op.bytesLess s (bA d q)=true)):=by
 have hn:∀q,Ai (bA d q) s=false→Op.bytesLess s (bA d q)=true :=fun q h=>by
  rw [JZ] at h;simpa using h
 unfold afm aff
 rw [if_pos hr]
 rcases apy (d:=d) (t:=s) d.length with⟨h1,h2⟩|⟨q,h1,h2,h3,h4⟩
 · right
   rw [h1]
   exact⟨rfl,0,Nat.zero_le _,fun q hq=>by omega,fun q _ hq=>hn q (h2 q hq)⟩
 · rw [h1]
   by_cases e:bA d q=s
   · left
     refine⟨q,h2,e,?_⟩
     rw [show((q:Nat):Int).toNat=q from rfl,e];simp
   · right
     refine⟨?_,q+1,by omega,fun p hp=> ?_,fun p hp hd=>hn p (h4 p (by omega) hd)⟩
     · rw [show((q:Nat):Int).toNat=q from rfl,decide_eq_false e,Bool.and_false]
     · have hq:Op.bytesLess (bA d q) s=true :=by
        unfold Ai at h3
        rw [decide_eq_false e,Bool.or_false] at h3;exact h3
       by_cases ep:p=q
       · rw [ep];exact hq
       · exact js _ _ _ (ahE hr q p (by omega) h2) hq
end Go.S
namespace Go.S
end Go.S
namespace Go.S
end Go.S

end
section
namespace Go.S
abbrev aD:=Int×Int×List cr
def aq(l:List aD)(i:Nat):aD:=l.getD i (0,0,[])
def dT(d:List cr):List (List UInt8):=d.map (·.1)
def zR(l:List aD):List (List UInt8):=l.flatMap fun s=>dT s.2.2
def uT(l:List aD):List (List UInt8):=sorted (zR l)
def l8(t:List UInt8)(d:List cr):List Int:=(d.filter fun e=>decide (e.1=t)).flatMap (·.2)
def mO(l:List aD)(t:List UInt8):List Int:=l.flatMap fun s=>l8 t s.2.2
def cc(l:List aD)(k:Nat):List cr:=((uT l).take k).map fun t=>(t,mO l t)
def l9(l:List aD):List cr:=(uT l).map fun t=>(t,mO l t)
def bS(l:List aD)(k:Nat)(s:aD):Int:=(((dT s.2.2).filter fun t=>decide (t∈(uT l).take k)).length:Nat)
def ay(l:List aD)(k:Nat):List Int:=l.map (bS l k)
def aY(l:List aD)(k i:Nat):List Int:=(ay l (k+1)).take i++(ay l k).drop i
def cv(l:List aD)(nx:List Int):Nat→Int
 |0=> -1
 |i+1=>if nx.getD i 0=((aq l i).2.2.length:Int) then cv l nx i
  else if cv l nx i<0∨Op.bytesLess (bA (aq l i).2.2 (nx.getD i 0).toNat) (bA (aq l (cv l nx i).toNat).2.2 (nx.getD (cv l nx i).toNat 0).toNat)=true then(i:Int)
  else cv l nx i
def mF(l:List aD):Prop :=l.length≤1000∧∀s∈l,bl s.2.2=true∧s.2.2.length≤1048576
def ia(s:aD):Bool:=dh s.1 s.2.1 s.2.2
def CS(l:List aD)(i:Nat):Bool:=decide ((aq l (i+1)).1=(aq l i).2.1)
def xM(l:List aD):Bool:=(List.range (l.length-1)).all (CS l)
def tE(l:List aD):Prop :=l.length≤1000∧∀s∈l,bB s.2.2
def dC(l:List aD):(Int×Int×List cr)×Int:=
 if l.length=0 then((0,0,[]),1)
 else if l.all ia=false then((0,0,[]),1)
 else if xM l=false then((0,0,[]),7)
 else(((aq l 0).1,(aq l (l.length-1)).2.1,l9 l),0)
theorem zS {P:List UInt8→Bool}:∀ {l:List (List UInt8)},lp l→(∀x∈l,∀y∈l,Op.bytesLess x y=true→P y=true→P x=true)→
  l.take (l.filter P).length=l.filter P∧l.drop (l.filter P).length=l.filter fun x=> !P x
 | [],_,_=>⟨rfl,rfl⟩
 |x::l,h,hP=>by
  have h1:=List.pairwise_cons.1 h
  have ih:=zS (l:=l) h1.2 fun a ha b hb=>hP a (List.mem_cons_of_mem _ ha) b (List.mem_cons_of_mem _ hb)
  cases hx:P x with
  |true=>
   rw [List.filter_cons,if_pos hx,List.filter_cons,hx]
   simp only [List.length_cons,List.take_succ_cons,List.drop_succ_cons,Bool.not_true]
   exact⟨by rw [ih.1],ih.2⟩
  |false=>
   have hn:∀y∈l,P y=false :=fun y hy=>by
    cases hy':P y with
    |false=>rfl
    |true=>have :=hP x (List.mem_cons_self ..) y (List.mem_cons_of_mem _ hy) (h1.1 y hy) hy';rw [hx] at this;cases this
   have e:(x::l).filter P= []:=by
    rw [List.filter_eq_nil_iff]
    intro y hy
    rcases List.mem_cons.1 hy with rfl|hy
    · rw [hx];decide
    · rw [hn y hy];decide
   have e2:(x::l).filter (fun x=> !P x)=x::l:=by
    rw [List.filter_eq_self]
    intro y hy
    rcases List.mem_cons.1 hy with rfl|hy
    · rw [hx];rfl
    · rw [hn y hy];rfl
   rw [e,e2];exact⟨rfl,rfl⟩
theorem wv {T:List (List UInt8)}(h:lp T)(k:Nat) {x y:List UInt8}(hx:x∈T)(hxy:Op.bytesLess x y=true)(hy:y∈T.take k):x∈T.take k:=by
 have e:=List.take_append_drop k T
 rw [←e,List.mem_append] at hx
 rcases hx with hx|hx
 · exact hx
 · have h2:lp (T.take k++T.drop k):=by rw [e];exact h
   have :=(List.pairwise_append.1 h2).2.2 y hy x hx
   rw [gM hxy] at this;cases this
theorem pr(d:List cr):(dT d).length=d.length:=by simp [dT]
theorem AG(d:List cr)(i:Nat):(dT d).getD i []=bA d i:=by
 simp only [dT,bA,List.getD_eq_getElem?_getD,List.getElem?_map]
 cases d[i]? <;>rfl
theorem R6 {a b:List UInt8}(h:Ai a b=false):Op.bytesLess b a=true :=by
 simp only [Ai,Bool.or_eq_false_iff,decide_eq_false_iff_not] at h
 rcases fX a b with h1|h1|h1
 · rw [h1] at h;cases h.1
 · exact absurd h1 h.2
 · exact h1
theorem gT {d:List cr}(h:bl d=true):lp (dT d):=by
 have hs:∀n i,i<n→n<d.length→Op.bytesLess (bA d i) (bA d n)=true :=by
  intro n
  induction n with
  |zero=>intro i hi;omega
  |succ n ih=>
   intro i hi hn
   have h1:=(qq d (n+1)).1 ((ux d).1 h (n+1) hn)
   have h2:Op.bytesLess (bA d n) (bA d (n+1))=true :=by
    rcases h1.1 with h0|h0
    · omega
    · exact R6 h0
   by_cases e:i=n
   · subst e;exact h2
   · exact js _ _ _ (ih i (by omega) (by omega)) h2
 unfold lp
 rw [List.pairwise_iff_getElem]
 intro i j hi hj hij
 have e:∀q (hq:q<(dT d).length),(dT d)[q]=bA d q:=fun q hq=>by
  rw [←AG,List.getD_eq_getElem?_getD,List.getElem?_eq_getElem hq];rfl
 rw [e i hi,e j hj]
 exact hs j i hij (by rw [pr] at hj;exact hj)
theorem yW {l:List aD} {s:aD}(hs:s∈l) {t:List UInt8}(ht:t∈dT s.2.2):t∈uT l:=by
 rw [uT,fk,zR,List.mem_flatMap];exact⟨s,hs,ht⟩
theorem tF(l:List aD):lp (uT l):=jt _
theorem J8 {l:List aD} {s:aD}(hs:s∈l)(hd:bl s.2.2=true)(k:Nat):
  (dT s.2.2).take (bS l k s).toNat=(dT s.2.2).filter (fun t=>decide (t∈(uT l).take k))∧(dT s.2.2).drop (bS l k s).toNat=(dT s.2.2).filter fun t=> !decide (t∈(uT l).take k):=by
 have :=zS (P:=fun t=>decide (t∈(uT l).take k)) (gT hd) fun x hx y hy hxy hPy=>by
  simp only [decide_eq_true_eq] at hPy ⊢
  exact wv (tF l) k (yW hs hx) hxy hPy
 simpa only [bS,Int.toNat_natCast] using this
theorem rC(l:List aD)(k:Nat)(s:aD):0≤bS l k s∧bS l k s≤s.2.2.length:=by
 unfold bS
 have :=List.length_filter_le (fun t=>decide (t∈(uT l).take k)) (dT s.2.2)
 rw [pr] at this;omega
theorem Ic {l:List aD} {s:aD}(hs:s∈l)(hd:bl s.2.2=true) {k:Nat}(h:bS l k s<s.2.2.length):
  bA s.2.2 (bS l k s).toNat∈dT s.2.2∧bA s.2.2 (bS l k s).toNat∈uT l∧bA s.2.2 (bS l k s).toNat∉(uT l).take k∧∀t∈dT s.2.2,t∉(uT l).take k→t=bA s.2.2 (bS l k s).toNat∨Op.bytesLess (bA s.2.2 (bS l k s).toNat) t=true :=by
 have h0:=rC l k s
 have hc:=(J8 hs hd k).2
 have hn:(bS l k s).toNat<(dT s.2.2).length:=by rw [pr];omega
 have Mj:(dT s.2.2).drop (bS l k s).toNat=bA s.2.2 (bS l k s).toNat::(dT s.2.2).drop ((bS l k s).toNat+1):=by
  rw [←AG,List.getD_eq_getElem?_getD,List.getElem?_eq_getElem hn]
  exact List.drop_eq_getElem_cons hn
 have hm:bA s.2.2 (bS l k s).toNat∈(dT s.2.2).filter fun t=> !decide (t∈(uT l).take k):=by
  rw [←hc,Mj];exact List.mem_cons_self ..
 rw [List.mem_filter] at hm
 simp only [Bool.not_eq_true',decide_eq_false_iff_not] at hm
 refine⟨hm.1,yW hs hm.1,hm.2,fun t ht hk=> ?_⟩
 have ht2:t∈(dT s.2.2).filter fun t=> !decide (t∈(uT l).take k):=by
  rw [List.mem_filter];exact⟨ht,by simp [hk]⟩
 rw [←hc,Mj,List.mem_cons] at ht2
 rcases ht2 with h2|h2
 · exact .inl h2
 · right
   have hi:lp ((dT s.2.2).drop (bS l k s).toNat):=(gT hd).sublist (List.drop_sublist _ _)
   rw [Mj] at hi
   exact(List.pairwise_cons.1 hi).1 t h2
theorem R7 {l:List aD} {s:aD}(hs:s∈l) {k:Nat}(h:∀t∈dT s.2.2,t∈(uT l).take k):bS l k s=s.2.2.length:=by
 unfold bS
 rw [List.filter_eq_self.2 fun t ht=>by simp [h t ht],pr]
theorem iW {T:List (List UInt8)} {k:Nat}(hk:k<T.length)(t:List UInt8):t∈T.take (k+1)↔t∈T.take k∨t=T.getD k []:=kY hk t
theorem Ie {l:List aD} {k:Nat}(hk:k<(uT l).length):(uT l).getD k []∉(uT l).take k:=zQ (tA (tF l)) hk
theorem Mk {ts:List (List UInt8)}(h:lp ts) {T:List (List UInt8)} {k:Nat}(hk:k<T.length)(hn:T.getD k []∉T.take k):
  (ts.filter fun t=>decide (t∈T.take (k+1))).length=(ts.filter fun t=>decide (t∈T.take k)).length+(if T.getD k []∈ts then 1 else 0):=by
 induction ts with
 |nil=>simp
 |cons x r ih=>
  have h1:=List.pairwise_cons.1 h
  have hx:T.getD k []=x→T.getD k []∉r:=fun e hr=>by
   rw [e] at hr
   have :=h1.1 x hr
   rw [bO] at this;cases this
  have ih:=ih h1.2
  simp only [List.filter_cons,iW hk,decide_eq_true_eq,List.mem_cons] at ih ⊢
  by_cases e:x=T.getD k []
  · have hr:=hx e.symm
    rw [if_neg hr] at ih
    have hxn:¬x∈T.take k:=by rw [e];exact hn
    rw [if_pos (Or.inr e),if_neg hxn,if_pos (Or.inl e.symm),List.length_cons,ih]
  · have e2:¬T.getD k []=x:=fun h=>e h.symm
    by_cases š:x∈T.take k
    · rw [if_pos (Or.inl š),if_pos š,List.length_cons,List.length_cons,ih]
      by_cases hr:T.getD k []∈r
      · rw [if_pos hr,if_pos (Or.inr hr)]
      · rw [if_neg hr,if_neg (by rintro(h|h);exact e2 h;exact hr h)]
    · rw [if_neg (by rintro(h|h);exact š h;exact e h),if_neg š,ih]
      by_cases hr:T.getD k []∈r
      · rw [if_pos hr,if_pos (Or.inr hr)]
      · rw [if_neg hr,if_neg (by rintro(h|h);exact e2 h;exact hr h)]
def hit(l:List aD)(k:Nat)(s:aD):Prop :=bS l k s<s.2.2.length∧bA s.2.2 (bS l k s).toNat=(uT l).getD k []
theorem CT {l:List aD} {s:aD}(hs:s∈l)(hd:bl s.2.2=true) {k:Nat}(hk:k<(uT l).length):hit l k s↔(uT l).getD k []∈dT s.2.2:=by
 constructor
 · rintro⟨h1,h2⟩;rw [←h2];exact(Ic hs hd h1).1
 · intro hm
   have dX:bS l k s<s.2.2.length:=by
    have h0:=rC l k s
    by_cases h:bS l k s<s.2.2.length
    · exact h
    · exfalso
      have hc:=(J8 hs hd k).2
      rw [List.drop_eq_nil_of_le (by rw [pr];omega)] at hc
      have :(uT l).getD k []∈(dT s.2.2).filter fun t=> !decide (t∈(uT l).take k):=by
       rw [List.mem_filter];exact⟨hm,by rw [decide_eq_false (Ie hk)];rfl⟩
      rw [←hc] at this;cases this
   refine⟨dX,?_⟩
   obtain⟨h1,h2,h3,h4⟩:=Ic hs hd dX
   rcases h4 _ hm (Ie hk) with h5|h5
   · exact h5.symm
   · exfalso
     apply h3
     refine(iW hk _).1 (wv (tF l) (k+1) h2 h5 ((iW hk _).2 (.inr rfl))) |>.resolve_right fun e=> ?_
     rw [e,bO] at h5;cases h5
theorem Fp {l:List aD} {s:aD}(hs:s∈l)(hd:bl s.2.2=true) {k:Nat}(hk:k<(uT l).length):
  (hit l k s→bS l (k+1) s=bS l k s+1)∧(¬hit l k s→bS l (k+1) s=bS l k s):=by
 have :=Mk (gT hd) hk (Ie hk)
 unfold bS
 rw [CT hs hd hk]
 constructor<;>intro h
 · rw [if_pos h] at this;omega
 · rw [if_neg h] at this;omega
theorem oG {t:List UInt8} {d:List cr}(h:t∉dT d):l8 t d= []:=by
 have :d.filter (fun e=>decide (e.1=t))= []:=by
  rw [List.filter_eq_nil_iff]
  intro e he
  simp only [decide_eq_true_eq]
  intro e2;exact h (by rw [←e2];exact List.mem_map.2 ⟨e,he,rfl⟩)
 rw [l8,this];rfl
theorem nE:∀ {d:List cr},lp (dT d)→∀ {i:Nat},i<d.length→l8 (bA d i) d=fl d i
 | [],_,i,hi=>by simp at hi
 |e::d,h,0,_=>by
  have h1:=List.pairwise_cons.1 h
  have hn:e.1∉dT d:=fun hm=>by have :=h1.1 _ hm;rw [bO] at this;cases this
  have :=oG hn
  simp only [l8] at this
  simp [l8,bA,fl,List.filter_cons,this]
 |e::d,h,i+1,hi=>by
  have h1:=List.pairwise_cons.1 h
  have hm:bA d i∈dT d:=by
   rw [←AG,List.getD_eq_getElem?_getD,List.getElem?_eq_getElem (by rw [pr];simpa using hi)]
   exact List.getElem_mem _
  have dp:¬e.1=bA d i:=fun he=>by have h5:=h1.1 _ hm;simp only [he,bO] at h5;cases h5
  have ih:=nE (d:=d) h1.2 (i:=i) (by simpa using hi)
  have e1:bA (e::d) (i+1)=bA d i:=rfl
  have e2:fl (e::d) (i+1)=fl d i:=rfl
  rw [e1,e2,←ih]
  simp only [l8,List.filter_cons,decide_eq_true_eq,if_neg dp]
end Go.S

end
section
namespace Go.S
theorem fp {l:List aD} {i:Nat}(h:i<l.length):aq l i∈l:=bQ l i _ h
theorem gN {l:List aD} {k i:Nat}(h:i<l.length):(ay l k).getD i 0=bS l k (aq l i):=by
 simp only [ay,aq,List.getD_eq_getElem?_getD,List.getElem?_map,List.getElem?_eq_getElem h,Option.map_some,Option.getD_some]
theorem fq(l:List aD)(k:Nat):(ay l k).length=l.length:=by simp [ay]
theorem AH {l:List aD}(k:Nat):∀i,i≤l.length→
  (cv l (ay l k) i= -1∧∀j,j<i→bS l k (aq l j)=(aq l j).2.2.length)∨
  (∃q:Nat,cv l (ay l k) i=q∧q<i∧bS l k (aq l q)<(aq l q).2.2.length∧∀j,j<i→bS l k (aq l j)<(aq l j).2.2.length→
    Op.bytesLess (bA (aq l j).2.2 (bS l k (aq l j)).toNat) (bA (aq l q).2.2 (bS l k (aq l q)).toNat)=false)
 |0,_=> .inl ⟨rfl,fun j hj=>by omega⟩
 |i+1,hi=>by
  have ih:=AH (l:=l) k i (by omega)
  have h0:=rC l k (aq l i)
  simp only [cv]
  rw [gN (k:=k) (show i<l.length by omega)]
  by_cases he:bS l k (aq l i)=((aq l i).2.2.length:Int)
  · rw [if_pos he]
    rcases ih with⟨h1,h2⟩|⟨q,h1,h2,h3,h4⟩
    · refine .inl ⟨h1,fun j hj=> ?_⟩
      by_cases e:j=i
      · rw [e];exact he
      · exact h2 j (by omega)
    · refine .inr ⟨q,h1,by omega,h3,fun j hj rX=> ?_⟩
      by_cases e:j=i
      · rw [e] at rX;omega
      · exact h4 j (by omega) rX
  · rw [if_neg he]
    rcases ih with⟨h1,h2⟩|⟨q,h1,h2,h3,h4⟩
    · rw [if_pos (Or.inl (by rw [h1];decide))]
      refine .inr ⟨i,rfl,by omega,by omega,fun j hj rX=> ?_⟩
      by_cases e:j=i
      · rw [e];exact bO _
      · have :=h2 j (by omega);omega
    · rw [h1]
      have e1:((q:Int)).toNat=q:=Int.toNat_natCast q
      rw [e1,gN (k:=k) (show q<l.length by omega)]
      cases hb:Op.bytesLess (bA (aq l i).2.2 (bS l k (aq l i)).toNat) (bA (aq l q).2.2 (bS l k (aq l q)).toNat) with
      |true=>
       rw [if_pos (Or.inr rfl)]
       refine .inr ⟨i,rfl,by omega,by omega,fun j hj rX=> ?_⟩
       by_cases e:j=i
       · rw [e];exact bO _
       · have h5:=h4 j (by omega) rX
         cases hc:Op.bytesLess (bA (aq l j).2.2 (bS l k (aq l j)).toNat) (bA (aq l i).2.2 (bS l k (aq l i)).toNat) with
         |false=>rfl
         |true=>rw [js _ _ _ hc hb] at h5;cases h5
      |false=>
       rw [if_neg (by rintro(h|h);omega;cases h)]
       refine .inr ⟨q,rfl,by omega,h3,fun j hj rX=> ?_⟩
       by_cases e:j=i
       · rw [e];exact hb
       · exact h4 j (by omega) rX
theorem age {l:List aD} {t:List UInt8}(h:t∈uT l):∃j,j<l.length∧t∈dT (aq l j).2.2:=by
 rw [uT,fk,zR,List.mem_flatMap] at h
 obtain⟨s,hs,ht⟩:=h
 obtain⟨j,hj,rfl⟩:=List.mem_iff_getElem.1 hs
 refine⟨j,hj,?_⟩
 rw [aq,List.getD_eq_getElem?_getD,List.getElem?_eq_getElem hj];exact ht
theorem Ig {T:List (List UInt8)} {k:Nat}(hk:k<T.length):T.getD k []∈T:=bQ T k [] hk
theorem Fq {l:List aD}(hp:mF l) {k:Nat}(hk:k<(uT l).length):
  ∃q:Nat,cv l (ay l k) l.length=q∧q<l.length∧bS l k (aq l q)<(aq l q).2.2.length∧bA (aq l q).2.2 (bS l k (aq l q)).toNat=(uT l).getD k []:=by
 obtain⟨j,hj,hjt⟩:=age (Ig hk)
 have hsj:=fp hj
 obtain⟨h1,h2⟩:=(CT hsj (hp.2 _ hsj).1 hk).2 hjt
 rcases AH (l:=l) k l.length (Nat.le_refl _) with⟨_,h4⟩|⟨q,h3,h4,h5,h6⟩
 · have :=h4 j hj;omega
 · refine⟨q,h3,h4,h5,?_⟩
   have h7:=h6 j hj h1
   rw [h2] at h7
   have hsq:=fp h4
   obtain⟨g1,g2,g3,_⟩:=Ic hsq (hp.2 _ hsq).1 h5
   rcases fX ((uT l).getD k []) (bA (aq l q).2.2 (bS l k (aq l q)).toNat) with h8|h8|h8
   · rw [h7] at h8;cases h8
   · exact h8.symm
   · exfalso
     apply g3
     refine(iW hk _).1 (wv (tF l) (k+1) g2 h8 ((iW hk _).2 (.inr rfl))) |>.resolve_right fun e=> ?_
     rw [e,bO] at h8;cases h8
theorem R8 {l:List aD} {k:Nat}(hk:(uT l).length≤k):cv l (ay l k) l.length= -1:=by
 rcases AH (l:=l) k l.length (Nat.le_refl _) with⟨h,_⟩|⟨q,h3,h4,h5,h6⟩
 · exact h
 · have hs:=fp h4
   have :=R7 hs (k:=k) fun t ht=>by rw [List.take_of_length_le hk];exact yW hs ht
   omega
theorem J9 {l:List aD}(hp:mF l)(k:Nat):cv l (ay l k) l.length<0↔(uT l).length≤k:=by
 constructor
 · intro h
   by_cases hk:k<(uT l).length
   · obtain⟨q,h1,_⟩:=Fq hp hk;omega
   · omega
 · intro h;rw [R8 h];decide
def cw(l:List aD)(t:List UInt8)(i:Nat):List Int:=mO (l.take i) t
theorem Ui(l:List aD)(k i:Nat)(h:i≤l.length):(aY l k i).length=l.length:=by
 simp only [aY,List.length_append,List.length_take,List.length_drop,fq];omega
theorem agf(l:List aD)(k:Nat):ay l k=aY l k 0:=by simp [aY]
theorem Uj {l:List aD} {k:Nat}:aY l k l.length=ay l (k+1):=by
 rw [aY,List.take_of_length_le (by rw [fq];exact Nat.le_refl _),List.drop_eq_nil_of_le (by rw [fq];exact Nat.le_refl _),List.append_nil]
theorem CU {l:List aD} {k i:Nat}(h:i<l.length):(aY l k i).getD i 0=bS l k (aq l i):=by
 rw [←gN h]
 have hl:((ay l (k+1)).take i).length=i:=by rw [List.length_take,fq];omega
 simp only [aY,List.getD_eq_getElem?_getD]
 rw [List.getElem?_append_right (by omega),hl,List.getElem?_drop]
 simp
theorem R9 {l:List aD} {k i:Nat}(h:i<l.length)(he:bS l (k+1) (aq l i)=bS l k (aq l i)):aY l k i=aY l k (i+1):=by
 have e1:(ay l (k+1)).take (i+1)=(ay l (k+1)).take i++ [bS l (k+1) (aq l i)]:=by
  rw [aA _ i 0 (by rw [fq];exact h),gN h]
 have hn:i<(ay l k).length:=by rw [fq];exact h
 have e2:(ay l k).drop i=bS l k (aq l i)::(ay l k).drop (i+1):=by
  rw [List.drop_eq_getElem_cons hn]
  congr 1
  rw [←gN (k:=k) h,List.getD_eq_getElem?_getD,List.getElem?_eq_getElem hn];rfl
 rw [aY,aY,e1,e2,he,List.append_assoc];rfl
theorem Uk {l:List aD} {k i:Nat}(h:i<l.length)(he:bS l (k+1) (aq l i)=bS l k (aq l i)+1):(aY l k i).set i (bS l k (aq l i)+1)=aY l k (i+1):=by
 have hn:i<(ay l k).length:=by rw [fq];exact h
 have e1:(ay l (k+1)).take (i+1)=(ay l (k+1)).take i++ [bS l (k+1) (aq l i)]:=by
  rw [aA _ i 0 (by rw [fq];exact h),gN h]
 have e2:(ay l k).drop i=bS l k (aq l i)::(ay l k).drop (i+1):=by
  rw [List.drop_eq_getElem_cons hn]
  congr 1
  rw [←gN (k:=k) h,List.getD_eq_getElem?_getD,List.getElem?_eq_getElem hn];rfl
 have hl:((ay l (k+1)).take i).length=i:=by rw [List.length_take,fq];omega
 rw [aY,aY,e1,e2,he,List.append_assoc,List.set_append_right _ _ (by omega),hl,Nat.sub_self];rfl
theorem Ml(l:List aD)(t:List UInt8):cw l t l.length=mO l t:=by simp [cw]
theorem tG {l:List aD} {t:List UInt8} {i:Nat}(h:i<l.length):cw l t (i+1)=cw l t i++l8 t (aq l i).2.2:=by
 have :l.take (i+1)=l.take i++ [aq l i]:=aA l i _ h
 simp only [cw,mO,this,List.flatMap_append,List.flatMap_cons,List.flatMap_nil,List.append_nil]
theorem Mm {l:List aD}(hp:mF l) {k i:Nat}(hk:k<(uT l).length)(hi:i<l.length)(h1:bS l k (aq l i)<(aq l i).2.2.length)(h2:bA (aq l i).2.2 (bS l k (aq l i)).toNat=(uT l).getD k []):
  cw l ((uT l).getD k []) i++fl (aq l i).2.2 (bS l k (aq l i)).toNat=cw l ((uT l).getD k []) (i+1)∧(aY l k i).set i (bS l k (aq l i)+1)=aY l k (i+1):=by
 have hs:=fp hi
 have hd:=(hp.2 _ hs).1
 have h0:=rC l k (aq l i)
 refine⟨?_,Uk hi ((Fp hs hd hk).1 ⟨h1,h2⟩)⟩
 rw [tG hi,←nE (gT hd) (i:=(bS l k (aq l i)).toNat) (by omega),h2]
theorem Ka {l:List aD}(hp:mF l) {k i:Nat}(hk:k<(uT l).length)(hi:i<l.length)(h:¬(bS l k (aq l i)<(aq l i).2.2.length∧bA (aq l i).2.2 (bS l k (aq l i)).toNat=(uT l).getD k [])):
  cw l ((uT l).getD k []) i=cw l ((uT l).getD k []) (i+1)∧aY l k i=aY l k (i+1):=by
 have hs:=fp hi
 have hd:=(hp.2 _ hs).1
 refine⟨?_,R9 hi ((Fp hs hd hk).2 h)⟩
 rw [tG hi,oG (fun hm=>h ((CT hs hd hk).2 hm)),List.append_nil]
theorem Kb {l:List aD} {k:Nat}(hk:k<(uT l).length):cc l k++ [((uT l).getD k [],mO l ((uT l).getD k []))]=cc l (k+1):=by
 simp only [cc]
 rw [aA (uT l) k [] hk,List.map_append];rfl
theorem Mn {l:List aD} {k:Nat}(hk:(uT l).length≤k):cc l k=l9 l:=by
 simp only [cc,l9];rw [List.take_of_length_le hk]
theorem Mo(l:List aD)(k:Nat):(cc l k).length≤k:=by simp [cc];omega
theorem Ţ {l:List aD}(hp:mF l):(uT l).length≤1048576000:=by
 have h1:=lN (zR l)
 have h2:∀m:List aD,(∀s∈m,s.2.2.length≤1048576)→(zR m).length≤1048576*m.length:=by
  intro m
  induction m with
  |nil=>intro _;simp [zR]
  |cons s m ih=>
   intro h
   have :=ih fun s hs=>h s (List.mem_cons_of_mem _ hs)
   have h3:=h s (List.mem_cons_self ..)
   simp only [zR,List.flatMap_cons,List.length_append,pr,List.length_cons] at this ⊢
   omega
 have :=h2 l fun s hs=>(hp.2 s hs).2
 have h3:=hp.1
 unfold uT
 have :1048576*l.length≤1048576000:=by omega
 omega
theorem tH {d:List cr}(h:bl d=true)(t:List UInt8):(l8 t d).length≤1000:=by
 by_cases hm:t∈dT d
 · obtain⟨i,hi,e⟩:=List.mem_iff_getElem.1 hm
   have e2:bA d i=t:=by rw [←AG,List.getD_eq_getElem?_getD,List.getElem?_eq_getElem hi];exact e
   have z6:i<d.length:=by rw [pr] at hi;exact hi
   rw [←e2,nE (gT h) z6]
   exact qp (tw h z6).2
 · rw [oG hm];simp
theorem CV {l:List aD}(hp:mF l)(t:List UInt8):∀i,i≤l.length→(cw l t i).length≤1000*i
 |0,_=>by simp [cw,mO]
 |i+1,hi=>by
  rw [tG (by omega),List.length_append]
  have :=CV hp t i (by omega)
  have :=tH (hp.2 _ (fp (show i<l.length by omega))).1 t
  omega
end Go.S

end
section
namespace Go.S
abbrev Sp:=Int×Int
def spD(l:List Sp)(i:Nat):Sp:=l.getD i (0,0)
def lg(n:Int):Int:=(Nat.log2 n.toNat:Nat)
def jE(a b:Int):Int:=if a<0∨b<0∨b≤a then -1 else lg (b-a)
def yX(l:List Sp)(i:Nat):Int:=jE (spD l i).1 (spD l i).2
def rD(l:List Sp):Nat→Int×Bool
 |0=>(0,false)
 |k+1=>if yX l k≤yX l (k+1) then((k:Int),true) else rD l k
def dw(l:List Sp):Int×Bool:=rD l (l.length-1)
def afg(l:List Sp)(i:Nat):List Sp:=l.take i++ [((spD l i).1,(spD l (i+1)).2)]++l.drop (i+2)
def qu:Nat→List Sp→List Sp
 |0,l=>l
 |n+1,l=>if(dw l).2 then qu n (afg l (dw l).1.toNat) else l
def mG(l:List Sp):List Sp:=qu l.length l
def b8(l:List aD):List Sp:=l.map fun s=>(s.1,s.2.1)
def kZ(a b:Int)(n:Nat):Prop :=0≤a∧a<b∧1≤n∧(n:Int)≤b-a
def jU(l:List Sp)(k:Nat):Prop :=(k+1≤l.length∨k=0)∧dw l=rD l (l.length-1-k)
theorem anY {n:Int}(h:n<2):0=lg n:=by
 unfold lg
 rw [Nat.log2_def,if_neg (by omega)];rfl
theorem ad7 {n:Int}(h:2≤n):1+lg (n/2)=lg n:=by
 unfold lg
 rw [Nat.log2_def n.toNat,if_pos (by omega),show(n/2).toNat=n.toNat/2 by omega]
 omega
theorem ad8(n:Int):0≤lg n:=by unfold lg;omega
theorem Ul(n:Int)(h:0≤n):lg n≤n:=by
 unfold lg
 by_cases h0:n.toNat=0
 · rw [h0];simp [Nat.log2];omega
 · have :=Nat.log2_lt (n:=n.toNat) (k:=n.toNat) h0
   have h2:n.toNat<2^n.toNat:=Nat.lt_two_pow_self
   have :=this.2 h2
   omega
theorem Nk(l:List Sp):∀k,0≤(rD l k).1∧((rD l k).2=true→(rD l k).1<k)
 |0=>⟨Int.le_refl _,fun h=>by cases h⟩
 |k+1=>by
  have :=Nk l k
  simp only [rD]
  split
  · exact⟨by simp only;omega,fun _=>by simp only;omega⟩
  · exact⟨this.1,fun h=>by have :=this.2 h;omega⟩
theorem Kc {l:List Sp}(h:(dw l).2=true):0≤(dw l).1∧(dw l).1+1<l.length:=by
 have :=Nk l (l.length-1)
 have h2:=this.2 h
 unfold dw at *
 omega
theorem Fu {l:List Sp} {i:Nat}(h:i+1<l.length):(afg l i).length+1=l.length:=by
 simp only [afg,List.length_append,List.length_take,List.length_drop,List.length_singleton];omega
theorem Mp {l:List Sp}(h:(dw l).2=false):mG l=l:=by
 unfold mG
 cases hl:l.length with
 |zero=>rfl
 |succ n=>simp only [qu,h];rfl
theorem Kd {l:List Sp}(h:(dw l).2=true):mG (afg l (dw l).1.toNat)=mG l:=by
 have hb:=Kc h
 have hj:=Fu (l:=l) (i:=(dw l).1.toNat) (by omega)
 unfold mG
 rw [←hj]
 show qu _ _=qu (_+1) l
 simp only [qu,h,if_true]
end Go.S

end
section
namespace Go.S
def aF(docs:List (List UInt8))(l:List Sp):List aD:=l.map fun s=>(s.1,s.2,make docs s.1 s.2)
def cD(l:List aD)(i:Nat):Int:=if i=0 then 0 else(aq l (i-1)).2.1
def fD(docs:List (List UInt8))(l:List aD)(i:Nat):Bool:=
 decide ((aq l i).1=cD l i)&&(cC docs (aq l i).1 (aq l i).2.1&&decide ((aq l i).2.2=make docs (aq l i).1 (aq l i).2.1))
def bE(docs:List (List UInt8))(l:List aD):Bool:=cJ docs 0 0&&(decide ((l.length:Int)≤64)&&(List.range l.length).all (fD docs l))
def ao(docs:List (List UInt8))(l:List aD):List (List UInt8)×List aD:=if bE docs l then(docs,l) else([],[])
def eE(l:List aD):Int:=cD l l.length
def iX(docs:List (List UInt8))(l:List aD):Int:=eE (ao docs l).2
def b6(docs:List (List UInt8))(l:List aD)(doc:List UInt8):(List (List UInt8)×List aD)×Int:=
 if(2000:Int)<doc.length then(ao docs l,1)
 else if(1000:Int)≤(ao docs l).1.length then(ao docs l,3)
 else(((ao docs l).1++ [doc],(ao docs l).2),0)
def cU(docs:List (List UInt8))(l:List aD):(List (List UInt8)×List aD)×Int:=
 if iX docs l=(ao docs l).1.length then(ao docs l,5)
 else if(64:Int)≤(ao docs l).2.length then(ao docs l,3)
 else(((ao docs l).1,(ao docs l).2++ [(iX docs l,((ao docs l).1.length:Int),make (ao docs l).1 (iX docs l) (ao docs l).1.length)]),0)
def qv(l:List aD)(i m:Nat)(s:aD):List aD:=l.take i++ [s]++l.drop (i+m)
def rQ(docs:List (List UInt8))(l:List aD)(i m:Nat):aD:=((aq l i).1,(aq l (i+m-1)).2.1,make docs (aq l i).1 (aq l (i+m-1)).2.1)
def anZ(l:List aD)(i m:Int):Bool:=decide (m<2) || (decide (i<0) || (decide ((l.length:Int)<m) || decide ((l.length:Int)-m<i)))
def ţ(docs:List (List UInt8))(l:List aD)(i m:Int):(List (List UInt8)×List aD)×Int:=
 if anZ (ao docs l).2 i m then(ao docs l,1)
 else(((ao docs l).1,qv (ao docs l).2 i.toNat m.toNat (rQ (ao docs l).1 (ao docs l).2 i.toNat m.toNat)),0)
def jV(docs:List (List UInt8))(l:List aD):List (List UInt8)×List aD:=((ao docs l).1,aF (ao docs l).1 (mG (b8 (ao docs l).2)))
def ad9(s:aD):Sg:=yV s.1 s.2.1 s.2.2
def dW(docs:List (List UInt8))(l:List aD):List Sg:=(ao docs l).2.map ad9
def oH(docs:List (List UInt8))(l:List aD)(k:Nat):Prop :=cJ docs 0 0=true∧l.length≤64∧(∀i,i<k→fD docs l i=true)∧k≤l.length
def eM(docs:List (List UInt8)):Int→List Sp→Bool
 |_,[]=>true
 |a,s::r=>decide (s.1=a)&&(cC docs s.1 s.2&&eM docs s.2 r)
def dx:Int→List Sp→Int
 |a,[]=>a
 |_,s::r=>dx s.2 r
theorem nF(docs:List (List UInt8)):∀(a:Int) (l m:List Sp),eM docs a (l++m)=(eM docs a l&&eM docs (dx a l) m)
 |a,[],m=>by simp [eM,dx]
 |a,s::r,m=>by simp only [List.cons_append,eM,dx];rw [nF docs s.2 r m,Bool.and_assoc,Bool.and_assoc]
theorem kg:∀(a:Int) (l m:List Sp),dx a (l++m)=dx (dx a l) m
 |_,[],_=>rfl
 |_,s::r,m=>by simp only [List.cons_append,dx];exact kg s.2 r m
theorem nG {docs:List (List UInt8)} {a b:Int}(h:cC docs a b=true):a<b∧0≤a∧b≤docs.length∧docs.length≤1000∧∀d∈docs,d.length≤2000:=by
 simp only [cC,cJ,Bool.and_eq_true,List.all_eq_true,decide_eq_true_eq] at h
 obtain⟨⟨h1,h2,h3,h4,h5⟩,h6⟩:=h
 exact⟨h6,h3,h5,by omega,fun d hd=>by have :=h1 d hd;omega⟩
theorem yY {docs:List (List UInt8)} {a b:Int}(h:cJ docs 0 0=true)(h1:0≤a)(h2:a<b)(h3:b≤docs.length):cC docs a b=true :=by
 simp only [cC,cJ,Bool.and_eq_true,List.all_eq_true,decide_eq_true_eq] at h ⊢
 exact⟨⟨h.1,h.2.1,h1,by omega,h3⟩,h2⟩
theorem Um {docs:List (List UInt8)} {a b:Int}(h:cC docs a b=true):cJ docs 0 0=true :=by
 simp only [cC,cJ,Bool.and_eq_true,List.all_eq_true,decide_eq_true_eq] at h ⊢
 exact⟨h.1.1,h.1.2.1,Int.le_refl _,Int.le_refl _,by omega⟩
theorem xN {docs:List (List UInt8)}:∀ {l:List Sp} {a:Int},eM docs a l=true→a≤dx a l∧(l≠ []→cC docs a (dx a l)=true)∧(dx a l≤docs.length∨l= [])
 | [],a,_=>⟨Int.le_refl _,fun h=>absurd rfl h, .inr rfl⟩
 |s::r,a,h=>by
  simp only [eM,Bool.and_eq_true,decide_eq_true_eq] at h
  obtain⟨h1,h2,h3⟩:=h
  have ih:=xN h3
  have h4:=nG h2
  have h5:dx s.2 r≤docs.length:=by
   rcases ih.2.2 with h|h
   · exact h
   · rw [h];exact h4.2.2.1
  simp only [dx]
  exact⟨by omega,fun _=>yY (Um h2) (by omega) (by omega) h5, .inl h5⟩
theorem nH {docs:List (List UInt8)}:∀ {l:List Sp} {a:Int},eM docs a l=true→∀s∈l,cC docs s.1 s.2=true
 | [],_,_,s,hs=>by cases hs
 |t::r,a,h,s,hs=>by
  simp only [eM,Bool.and_eq_true,decide_eq_true_eq] at h
  rcases List.mem_cons.1 hs with rfl|hs
  · exact h.2.1
  · exact nH h.2.2 s hs
theorem CW:∀(l:List aD),dx 0 (b8 l)=eE l:=by
 intro l
 unfold eE cD
 by_cases h:l.length=0
 · rw [if_pos h]
   have :l= []:=List.eq_nil_of_length_eq_zero h
   subst this;rfl
 · rw [if_neg h]
   obtain⟨m,s,rfl⟩:∃m s,l=m++ [s]:=⟨l.dropLast,l.getLast (by intro e;subst e;exact h rfl),(List.dropLast_concat_getLast _).symm⟩
   have e:aq (m++ [s]) ((m++ [s]).length-1)=s:=by
    simp only [aq,List.length_append,List.length_singleton,Nat.add_sub_cancel,List.getD_eq_getElem?_getD]
    rw [List.getElem?_append_right (Nat.le_refl _),Nat.sub_self];rfl
   rw [e]
   simp only [b8,List.map_append,List.map_cons,List.map_nil]
   rw [kg];rfl
theorem ig(docs:List (List UInt8))(l:List Sp):b8 (aF docs l)=l:=by
 simp only [b8,aF,List.map_map]
 have :((fun(s:aD)=>(s.1,s.2.1))∘fun(s:Sp)=>((s.1,s.2,make docs s.1 s.2):aD))=id:=by funext s;rfl
 rw [this,List.map_id]
theorem tI(docs:List (List UInt8))(l m:List Sp):aF docs (l++m)=aF docs l++aF docs m:=by simp [aF]
theorem CX(l m:List aD):b8 (l++m)=b8 l++b8 m:=by simp [b8]
theorem CY(l:List aD):(b8 l).length=l.length:=by simp [b8]
theorem dQ(docs:List (List UInt8))(l:List Sp):(aF docs l).length=l.length:=by simp [aF]
theorem wx {l m:List aD} {i:Nat}(h:i<l.length):aq (l++m) i=aq l i:=by
 simp only [aq,List.getD_eq_getElem?_getD];rw [List.getElem?_append_left h]
theorem Mq(l:List aD)(s:aD):aq (l++ [s]) l.length=s:=by
 simp only [aq,List.getD_eq_getElem?_getD];rw [List.getElem?_append_right (Nat.le_refl _),Nat.sub_self];rfl
theorem Ke {docs:List (List UInt8)}:∀(n:Nat) (l:List aD),l.length=n→((∀i,i<l.length→fD docs l i=true)↔eM docs 0 (b8 l)=true∧l=aF docs (b8 l))
 |0,l,h=>by
  have :l= []:=List.eq_nil_of_length_eq_zero h
  subst this
  exact⟨fun _=>⟨rfl,rfl⟩,fun _ i hi=>by simp at hi⟩
 |n+1,l,h=>by
  obtain⟨m,s,rfl⟩:∃m s,l=m++ [s]:=⟨l.dropLast,l.getLast (by intro e;subst e;simp at h),(List.dropLast_concat_getLast _).symm⟩
  have hm:m.length=n:=by simpa using h
  have ih:=Ke (docs:=docs) n m hm
  have e1:∀i,i<m.length→fD docs (m++ [s]) i=fD docs m i:=fun i hi=>by
   have h2:cD (m++ [s]) i=cD m i:=by
    unfold cD
    by_cases h0:i=0
    · rw [if_pos h0,if_pos h0]
    · rw [if_neg h0,if_neg h0,wx (by omega)]
   unfold fD
   rw [wx hi,h2]
  have e2:cD (m++ [s]) m.length=eE m:=by
   unfold eE cD
   by_cases h0:m.length=0
   · rw [if_pos h0,if_pos h0]
   · rw [if_neg h0,if_neg h0,wx (by omega)]
  have e3:fD docs (m++ [s]) m.length=true↔s.1=eE m∧cC docs s.1 s.2.1=true∧s.2.2=make docs s.1 s.2.1:=by
   unfold fD
   rw [e2,Mq]
   simp only [Bool.and_eq_true,decide_eq_true_eq]
  have e4:eM docs 0 (b8 (m++ [s]))=true↔eM docs 0 (b8 m)=true∧s.1=eE m∧cC docs s.1 s.2.1=true :=by
   rw [CX,nF,CW,Bool.and_eq_true]
   simp only [b8,List.map_cons,List.map_nil,eM,Bool.and_true,Bool.and_eq_true,decide_eq_true_eq]
  have e5:m++ [s]=aF docs (b8 (m++ [s]))↔m=aF docs (b8 m)∧s.2.2=make docs s.1 s.2.1:=by
   rw [CX,tI]
   constructor
   · intro h
     have h5:=List.append_inj h (by rw [dQ,CY])
     refine⟨h5.1,?_⟩
     have h6:=h5.2
     simp only [aF,b8,List.map_cons,List.map_nil,List.cons.injEq,and_true] at h6
     exact congrArg (fun(q:aD)=>q.2.2) h6
   · rintro⟨h5,h6⟩
     rw [←h5]
     congr 1
     simp only [aF,b8,List.map_cons,List.map_nil,List.cons.injEq,and_true]
     rw [←h6]
  rw [e4,e5]
  constructor
  · intro hX
    have h7:=ih.1 fun i hi=>by rw [←e1 i hi];exact hX i (by rw [List.length_append];omega)
    have h8:=e3.1 (hX m.length (by simp))
    exact⟨⟨h7.1,h8.1,h8.2.1⟩,h7.2,h8.2.2⟩
  · rintro⟨⟨h7,h8,h9⟩,c5,fM⟩ i hi
    by_cases z6:i<m.length
    · rw [e1 i z6];exact ih.2 ⟨h7,c5⟩ i z6
    · have :i=m.length:=by simp at hi;omega
      subst this
      exact e3.2 ⟨h8,h9,fM⟩
theorem xO {docs:List (List UInt8)} {l:List aD}:bE docs l=true↔cJ docs 0 0=true∧l.length≤64∧eM docs 0 (b8 l)=true∧l=aF docs (b8 l):=by
 unfold bE
 rw [Bool.and_eq_true,Bool.and_eq_true,decide_eq_true_eq,List.all_eq_true,←Ke (docs:=docs) l.length l rfl]
 simp only [List.mem_range]
 constructor
 · rintro⟨h1,h2,h3⟩;exact⟨h1,by omega,h3⟩
 · rintro⟨h1,h2,h3⟩;exact⟨h1,by omega,h3⟩
theorem Ť:bE [] []=true :=by decide
theorem Kf(docs:List (List UInt8))(l:List aD):bE (ao docs l).1 (ao docs l).2=true :=by
 unfold ao
 by_cases h:bE docs l=true
 · rw [if_pos h];exact h
 · rw [if_neg h];exact Ť
theorem rE {docs:List (List UInt8)} {l:List aD}(h:bE docs l=true):ao docs l=(docs,l):=by unfold ao;rw [if_pos h]
theorem agh {docs:List (List UInt8)} {l:List Sp}(h1:cJ docs 0 0=true)(h2:l.length≤64)(h3:eM docs 0 l=true):bE docs (aF docs l)=true :=
 xO.2 ⟨h1,by rw [dQ];exact h2,by rw [ig];exact h3,by rw [ig]⟩
end Go.S

end
section
namespace Go.S
theorem yZ:∀(l acc:List Int),2*(im acc l).length≤l.length+1+(if acc.isEmpty then 0 else 1)
 | [],acc=>by cases acc<;>simp [im]
 |c::l,acc=>by
  simp only [im,List.length_cons]
  by_cases hc:dU c=true
  · rw [if_pos hc]
    have :=yZ l (acc++ [c])
    have e:(acc++ [c]).isEmpty=false :=by cases acc<;>rfl
    rw [e] at this
    simp only [Bool.false_eq_true,if_false] at this
    cases acc.isEmpty<;>simp<;>omega
  · rw [if_neg hc]
    have :=yZ l []
    simp only [List.isEmpty_nil,if_true] at this
    cases acc.isEmpty with
    |true=>simp only [if_true];omega
    |false=>simp only [Bool.false_eq_true,if_false,List.length_cons];omega
theorem Kg(b:List UInt8):2*(aS b).length≤b.length+1:=by
 have h:=yZ (decode b) []
 simp only [List.isEmpty_nil,if_true] at h
 have h2:=my b
 simp only [aS,List.length_map];omega
theorem Fv {docs:List (List UInt8)}(h:∀d∈docs,d.length≤2000)(a:Int):∀k,(fC docs a k).length≤1000*k
 |0=>by simp [fC]
 |k+1=>by
  rw [←pj,List.length_append]
  have :=Fv h a k
  have h2:=lN (aS (docs.getD (Int.toNat (a+(k:Int))) []))
  have h3:=Kg (docs.getD (Int.toNat (a+(k:Int))) [])
  have h4:(docs.getD (Int.toNat (a+(k:Int))) []).length≤2000:=by
   by_cases e:Int.toNat (a+(k:Int))<docs.length
   · exact h _ (bQ docs _ _ e)
   · rw [List.getD_eq_getElem?_getD,List.getElem?_eq_none (by omega)];exact Nat.zero_le _
  omega
theorem Kh {docs:List (List UInt8)} {a b:Int}(h:cC docs a b=true):bB (make docs a b):=by
 have hg:=nG h
 refine Mi (lO h) ?_
 have h1:=Fv hg.2.2.2.2 a (b-a).toNat
 have h2:=lN (fC docs a (b-a).toNat)
 unfold bP;omega
theorem Mr {docs:List (List UInt8)} {t:List UInt8} {a b c:Int}(h:a≤b)(h2:b≤c):bC docs a t (b-a).toNat++bC docs b t (c-b).toNat=bC docs a t (c-a).toNat:=by
 have e:List.range (c-a).toNat=List.range (b-a).toNat++(List.range (c-b).toNat).map ((b-a).toNat+ ·):=by
  rw [←List.range_add];congr 1;omega
 simp only [bC]
 rw [e,List.filter_append,List.map_append,List.filter_map,List.map_map]
 congr 1
 have hq:((fun(i:Nat)=>oE (docs.getD (a+(i:Int)).toNat []) t)∘fun x=>(b-a).toNat+x)=fun(i:Nat)=>oE (docs.getD (b+(i:Int)).toNat []) t:=by
  funext i
  simp only [Function.comp]
  rw [show(a+(((b-a).toNat+i:Nat):Int))=b+(i:Int) by omega]
 rw [hq]
 refine List.map_congr_left fun i _=> ?_
 simp only [Function.comp];omega
theorem Ki(docs:List (List UInt8))(a b:Int):dT (make docs a b)=bP docs a b:=by
 simp only [dT,make,List.map_map]
 have :((fun(e:cr)=>e.1)∘fun t=>((t,bC docs a t (b-a).toNat):cr))=id:=by funext t;rfl
 rw [this,List.map_id]
theorem xP {docs:List (List UInt8)} {a b:Int}(hp:ec docs a b)(t:List UInt8):l8 t (make docs a b)=bC docs a t (b-a).toNat:=by
 by_cases hm:t∈bP docs a b
 · obtain⟨i,hi,e⟩:=List.mem_iff_getElem.1 hm
   have e2:(bP docs a b).getD i []=t:=by rw [List.getD_eq_getElem?_getD,List.getElem?_eq_getElem hi];exact e
   have e3:bA (make docs a b) i=t:=by rw [Ia hi,e2]
   rw [←e3,nE (gT (tD hp)) (by rw [uy];exact hi),Ib hi,e2,e3]
 · rw [oG (by rw [Ki];exact hm)]
   by_cases he:bC docs a t (b-a).toNat= []
   · exact he.symm
   · exact absurd (mE.2 he) hm
theorem tJ {docs:List (List UInt8)} {t:List UInt8}:∀ {m:List Sp} {a:Int},eM docs a m=true→mO (aF docs m) t=bC docs a t (dx a m-a).toNat
 | [],a,_=>by simp [mO,aF,dx,bC]
 |s::r,a,h=>by
  simp only [eM,Bool.and_eq_true,decide_eq_true_eq] at h
  obtain⟨h1,h2,h3⟩:=h
  have ih:=tJ (t:=t) h3
  have h4:=nG h2
  have h5:=xN h3
  simp only [mO,aF,List.map_cons,List.flatMap_cons,dx] at ih ⊢
  rw [ih,xP (lO h2),←h1]
  exact Mr (by omega) h5.1
theorem ť {l:List aD} {t:List UInt8}:t∈uT l↔∃s∈l,t∈dT s.2.2:=by
 rw [uT,fk,zR,List.mem_flatMap]
theorem Ms {docs:List (List UInt8)} {m:List Sp} {a:Int}(h:eM docs a m=true)(hm:m≠ []):l9 (aF docs m)=make docs a (dx a m):=by
 have hK:uT (aF docs m)=bP docs a (dx a m):=by
  refine rp _ _ (tF _) (jt _) fun t=> ?_
  rw [mE,←tJ h,ť]
  constructor
  · rintro⟨s,hs,ht⟩ he
    simp only [mO,List.flatMap_eq_nil_iff] at he
    have h1:=he s hs
    simp only [aF,List.mem_map] at hs
    obtain⟨p,hp,rfl⟩:=hs
    simp only at h1 ht
    rw [Ki] at ht
    rw [xP (lO (nH h p hp))] at h1
    exact mE.1 ht h1
  · intro dp
    obtain⟨x,hx⟩:=List.exists_mem_of_ne_nil _ dp
    simp only [mO,List.mem_flatMap] at hx
    obtain⟨s,hs,Un⟩:=hx
    refine⟨s,hs,?_⟩
    by_cases ht:t∈dT s.2.2
    · exact ht
    · rw [oG ht] at Un;cases Un
 unfold l9 make
 rw [hK]
 refine List.map_congr_left fun t _=> ?_
 rw [tJ h]
theorem wy {docs:List (List UInt8)} {m:List Sp} {a:Int}(h:eM docs a m=true)(hm:m≠ []):(spD m 0).1=a:=by
 cases m with
 |nil=>exact absurd rfl hm
 |cons s r=>
  simp only [eM,Bool.and_eq_true,decide_eq_true_eq] at h
  exact h.1
theorem CZ:∀(m:List Sp) (a:Int),m≠ []→dx a m=(spD m (m.length-1)).2
 | [],_,h=>absurd rfl h
 | [s],a,_=>rfl
 |s::t::r,a,_=>by
  have :=CZ (t::r) s.2 (by simp)
  simp only [dx,List.length_cons,spD] at this ⊢
  rw [this];rfl
theorem pt(docs:List (List UInt8))(m:List Sp)(i:Nat)(h:i<m.length):aq (aF docs m) i=((spD m i).1,(spD m i).2,make docs (spD m i).1 (spD m i).2):=by
 simp only [aq,aF,spD,List.getD_eq_getElem?_getD,List.getElem?_map,List.getElem?_eq_getElem h,Option.map_some,Option.getD_some]
theorem C0 {docs:List (List UInt8)}:∀ {m:List Sp} {a:Int},eM docs a m=true→∀i,i+1<m.length→(spD m (i+1)).1=(spD m i).2
 | [],_,_,i,hi=>by simp at hi
 |s::r,a,h,0,hi=>by
  simp only [eM,Bool.and_eq_true,decide_eq_true_eq] at h
  have :r≠ []:=by intro e;subst e;simp at hi
  exact wy h.2.2 this
 |s::r,a,h,i+1,hi=>by
  simp only [eM,Bool.and_eq_true,decide_eq_true_eq] at h
  exact C0 h.2.2 i (by simpa using hi)
theorem Uo {docs:List (List UInt8)} {m:List Sp} {a:Int}(h:eM docs a m=true)(hl:m.length≤1000):tE (aF docs m):=by
 refine⟨by rw [dQ];exact hl,fun s hs=> ?_⟩
 simp only [aF,List.mem_map] at hs
 obtain⟨p,hp,rfl⟩:=hs
 exact Kh (nH h p hp)
theorem zT {docs:List (List UInt8)} {m:List Sp} {a:Int}(h:eM docs a m=true):∀s∈aF docs m,ia s=true :=by
 intro s hs
 simp only [aF,List.mem_map] at hs
 obtain⟨p,hp,rfl⟩:=hs
 have h1:=nH h p hp
 exact Uh (lO h1) (nG h1).1
theorem Up {docs:List (List UInt8)} {m:List Sp} {a:Int}(h:eM docs a m=true)(hm:m≠ []):dC (aF docs m)=((a,dx a m,make docs a (dx a m)),0):=by
 have hl:0<m.length:=List.length_pos_iff.2 hm
 unfold dC
 rw [dQ,if_neg (by omega)]
 have h1:(aF docs m).all ia=true :=List.all_eq_true.2 (zT h)
 rw [h1,if_neg (by decide)]
 have h2:xM (aF docs m)=true :=by
  unfold xM
  rw [List.all_eq_true]
  intro i hi
  rw [List.mem_range,dQ] at hi
  simp only [CS,decide_eq_true_eq]
  rw [pt _ _ _ (by omega),pt _ _ _ (by omega)]
  exact C0 h i (by omega)
 rw [h2,if_neg (by decide),pt _ _ _ hl,pt _ _ _ (by omega),wy h hm,←CZ m a hm,Ms h hm]
theorem C1 {docs:List (List UInt8)} {S:List Sp} {i m:Nat}(h:eM docs 0 S=true)(hm:0<m)(hi:i+m≤S.length):
  eM docs (spD S i).1 ((S.drop i).take m)=true∧dx (spD S i).1 ((S.drop i).take m)=(spD S (i+m-1)).2∧(S.drop i).take m≠ []∧
  eM docs 0 (S.take i++ [((spD S i).1,(spD S (i+m-1)).2)]++S.drop (i+m))=true∧dx 0 (S.take i++ [((spD S i).1,(spD S (i+m-1)).2)]++S.drop (i+m))=dx 0 S:=by
 have e:S=S.take i++((S.drop i).take m++S.drop (i+m)):=by
  rw [←List.drop_drop,List.take_append_drop,List.take_append_drop]
 have hl:((S.drop i).take m).length=m:=by rw [List.length_take,List.length_drop];omega
 have dp:(S.drop i).take m≠ []:=by intro e;rw [e] at hl;simp at hl;omega
 have h1:=h
 rw [e,nF,nF,Bool.and_eq_true,Bool.and_eq_true] at h1
 obtain⟨h2,h3,h4⟩:=h1
 have ef:(spD ((S.drop i).take m) 0)=spD S i:=by
  simp only [spD,List.getD_eq_getElem?_getD]
  rw [List.getElem?_take_of_lt hm,List.getElem?_drop];rfl
 have el:(spD ((S.drop i).take m) (m-1))=spD S (i+m-1):=by
  simp only [spD,List.getD_eq_getElem?_getD]
  rw [List.getElem?_take_of_lt (by omega),List.getElem?_drop,show i+(m-1)=i+m-1 by omega]
 have h5:=wy h3 dp
 rw [ef] at h5
 have h6:=CZ _ (dx 0 (S.take i)) dp
 rw [hl,el] at h6
 rw [←h5] at h3 h4 h6
 have h7:=(xN h3).2.1 dp
 rw [h6] at h7 h4
 refine⟨h3,h6,dp,?_,?_⟩
 · rw [nF,nF,h2]
   simp only [eM,kg,dx,h4,←h5,h7,Bool.and_true,decide_true]
 · conv=>rhs;rw [e,kg,kg]
   rw [kg,kg]
   simp only [dx]
   rw [←h5,h6]
theorem rF(docs:List (List UInt8))(l:List Sp)(i:Nat):(aF docs l).take i=aF docs (l.take i):=by simp [aF,List.map_take]
theorem rG(docs:List (List UInt8))(l:List Sp)(i:Nat):(aF docs l).drop i=aF docs (l.drop i):=by simp [aF,List.map_drop]
theorem C2(docs:List (List UInt8)) {S:List Sp} {i m:Nat}(hm:0<m)(hi:i+m≤S.length):
  qv (aF docs S) i m (rQ docs (aF docs S) i m)=aF docs (S.take i++ [((spD S i).1,(spD S (i+m-1)).2)]++S.drop (i+m)):=by
 unfold qv rQ
 rw [rF,rG,pt _ _ _ (by omega),pt _ _ _ (by omega),tI,tI];rfl
theorem Uq {docs:List (List UInt8)} {S:List Sp} {i m:Nat}(h:eM docs 0 S=true)(hm:0<m)(hi:i+m≤S.length):
  dC (((aF docs S).drop i).take m)=(rQ docs (aF docs S) i m,0):=by
 have hc:=C1 h hm hi
 rw [rG,rF,Up hc.1 hc.2.2.1,hc.2.1]
 unfold rQ
 rw [pt _ _ _ (by omega),pt _ _ _ (by omega)]
theorem Ur {docs:List (List UInt8)} {S:List Sp} {i m:Nat}(h:eM docs 0 S=true)(hm:0<m)(hi:i+m≤S.length)(hl:S.length≤1000):
  tE (((aF docs S).drop i).take m):=by
 have hc:=C1 h hm hi
 rw [rG,rF]
 exact Uo hc.1 (by rw [List.length_take,List.length_drop];omega)
theorem arE {docs:List (List UInt8)} {S:List Sp}(h:eM docs 0 S=true) {i:Nat}(hi:i+1<S.length):eM docs 0 (afg S i)=true∧dx 0 (afg S i)=dx 0 S:=by
 have hc:=C1 (m:=2) h (by omega) (by omega :i+2≤S.length)
 exact⟨hc.2.2.2.1,hc.2.2.2.2⟩
theorem agW {docs:List (List UInt8)}:∀(n:Nat) {S:List Sp},eM docs 0 S=true→eM docs 0 (qu n S)=true∧dx 0 (qu n S)=dx 0 S∧(qu n S).length≤S.length
 |0,S,h=>⟨h,rfl,Nat.le_refl _⟩
 |n+1,S,h=>by
  simp only [qu]
  by_cases hb:(dw S).2=true
  · rw [if_pos hb]
    have h1:=Kc hb
    have h2:=arE h (i:=(dw S).1.toNat) (by omega)
    have h3:=agW n h2.1
    have h4:=Fu (l:=S) (i:=(dw S).1.toNat) (by omega)
    exact⟨h3.1,by rw [h3.2.1,h2.2],by omega⟩
  · rw [if_neg hb];exact⟨h,rfl,Nat.le_refl _⟩
end Go.S

end
section
namespace Go.S
abbrev Ŧ:=List (List UInt8)×List aD
abbrev Fw:=Int×Int×Int×List UInt8
def agi(docs:List (List UInt8))(l:List aD)(a b c:Int)(d:List UInt8):Ŧ×Int:=
 if a=0 then b6 docs l d else if a=1 then cU docs l else if a=2 then ţ docs l b c else(jV docs l,0)
def Kj(l:List Fw)(i:Nat):Fw:=l.getD i (0,0,0,[])
def AI(x:Ŧ)(l:List Fw):Nat→Ŧ
 |0=>x
 |k+1=>if(2500:Int)<(Kj l k).2.2.2.length then AI x l k else(agi (AI x l k).1 (AI x l k).2 (Kj l k).1 (Kj l k).2.1 (Kj l k).2.2.1 (Kj l k).2.2.2).1
def aea(l:List Fw):Ŧ:=AI ([],[]) l (min l.length 40)
def afb(l:List Fw):Nat→Nat
 |0=>0
 |k+1=>if(Kj l k).1=1 then afb l k+1 else afb l k
structure RI (docs:List (List UInt8)) (l:List aD) (S:List Sp):Prop where
 fair:cJ docs 0 0=true
 le:S.length≤64
 row:eM docs 0 S=true
 eq:l=aF docs S
theorem RI.right {docs:List (List UInt8)} {l:List aD} {S:List Sp}(h:RI docs l S):bE docs l=true :=by
 rw [h.eq];exact agh h.fair h.le h.row
theorem RI.of {docs:List (List UInt8)} {l:List aD}(h:bE docs l=true):RI docs l (b8 l):=by
 have :=xO.1 h
 exact⟨this.1,by rw [CY];exact this.2.1,this.2.2.1,this.2.2.2⟩
theorem qw(docs:List (List UInt8))(l:List aD):RI (ao docs l).1 (ao docs l).2 (b8 (ao docs l).2):=RI.of (Kf docs l)
theorem RI.cov {docs:List (List UInt8)} {l:List aD} {S:List Sp}(h:RI docs l S):eE l=dx 0 S:=by
 rw [←CW,h.eq,ig]
theorem RI.bd {docs:List (List UInt8)} {l:List aD} {S:List Sp}(h:RI docs l S):0≤eE l∧eE l≤docs.length∧docs.length≤1000∧l.length=S.length:=by
 have h1:=xN h.row
 rw [h.cov]
 have h2:docs.length≤1000:=by
  have :=h.fair
  simp only [cJ,Bool.and_eq_true,decide_eq_true_eq] at this
  omega
 refine⟨h1.1,?_,h2,by rw [h.eq,dQ]⟩
 rcases h1.2.2 with h|h
 · exact h
 · rw [h];simp [dx]
theorem apW {docs:List (List UInt8)} {a b:Int}(d:List UInt8)(h0:0≤a)(hb:b≤docs.length):make (docs++ [d]) a b=make docs a b:=by
 have e:∀i:Nat,i<(b-a).toNat→(docs++ [d]).getD (a+(i:Int)).toNat []=docs.getD (a+(i:Int)).toNat []:=fun i hi=>by
  simp only [List.getD_eq_getElem?_getD]
  rw [List.getElem?_append_left (by omega)]
 have e1:∀t,bC (docs++ [d]) a t (b-a).toNat=bC docs a t (b-a).toNat:=fun t=>by
  simp only [bC]
  congr 1
  refine List.filter_congr fun i hi=> ?_
  rw [e i (List.mem_range.1 hi)]
 have e2:fC (docs++ [d]) a (b-a).toNat=fC docs a (b-a).toNat:=by
  unfold fC
  refine tm fun i hi=> ?_
  rw [e i (List.mem_range.1 hi)]
 unfold make bP
 rw [e2]
 exact List.map_congr_left fun t _=>by rw [e1]
theorem apA {docs:List (List UInt8)} {d:List UInt8}(h:cJ docs 0 0=true)(hd:(d.length:Int)≤2000)(hl:(docs.length:Int)<1000):cJ (docs++ [d]) 0 0=true :=by
 simp only [cJ,Bool.and_eq_true,List.all_eq_true,decide_eq_true_eq,List.length_append,List.length_singleton] at h ⊢
 refine⟨fun b hb=> ?_,by omega,Int.le_refl _,Int.le_refl _,by omega⟩
 rcases List.mem_append.1 hb with hb|hb
 · exact h.1 b hb
 · rw [List.mem_singleton.1 hb];exact hd
theorem ahF {docs:List (List UInt8)} {d:List UInt8}(hf:cJ (docs++ [d]) 0 0=true) {S:List Sp} {a:Int}(h:eM docs a S=true):eM (docs++ [d]) a S=true∧aF (docs++ [d]) S=aF docs S:=by
 induction S generalizing a with
 |nil=>exact⟨rfl,rfl⟩
 |cons s r ih=>
  simp only [eM,Bool.and_eq_true,decide_eq_true_eq] at h
  have ih:=ih h.2.2
  have h4:=nG h.2.1
  have h5:cC (docs++ [d]) s.1 s.2=true :=yY hf h4.2.1 h4.1 (by rw [List.length_append];simp only [List.length_singleton];omega)
  refine⟨by rw [eM,h5,ih.1,decide_eq_true h.1];rfl,?_⟩
  have h6:=ih.2
  simp only [aF] at h6
  simp only [aF,List.map_cons,h6,apW d h4.2.1 h4.2.2.1]
theorem RI.snoc {docs:List (List UInt8)} {l:List aD} {S:List Sp}(h:RI docs l S) {d:List UInt8}(hd:¬(2000:Int)<d.length)(hl:¬(1000:Int)≤docs.length):RI (docs++ [d]) l S:=by
 have hf:=apA h.fair (d:=d) (by omega) (by omega)
 have hr:=ahF (d:=d) hf h.row
 exact⟨hf,h.le,hr.1,by rw [hr.2];exact h.eq⟩
theorem RI.flush {docs:List (List UInt8)} {l:List aD} {S:List Sp}(h:RI docs l S)(h1:¬eE l=docs.length)(h2:¬(64:Int)≤l.length):
  RI docs (l++ [(eE l,(docs.length:Int),make docs (eE l) docs.length)]) (S++ [(eE l,(docs.length:Int))])∧cC docs (eE l) docs.length=true :=by
 have hb:=h.bd
 have hf:=yY h.fair (a:=eE l) (b:=docs.length) hb.1 (by omega) (by omega)
 refine⟨⟨h.fair,by rw [List.length_append,List.length_singleton];omega,?_,?_⟩,hf⟩
 · rw [nF,h.row,←h.cov]
   simp only [eM,hf,decide_true,Bool.and_true]
 · rw [tI,←h.eq];rfl
theorem ahG {l:List aD} {i m:Int}(h:anZ l i m=false):2≤m∧0≤i∧i+m≤l.length∧i.toNat+m.toNat≤l.length∧0<m.toNat:=by
 simp only [anZ,Bool.or_eq_false_iff,decide_eq_false_iff_not] at h
 omega
theorem RI.cut {docs:List (List UInt8)} {l:List aD} {S:List Sp}(h:RI docs l S) {i m:Nat}(hm:0<m)(hi:i+m≤l.length):
  RI docs (qv l i m (rQ docs l i m)) (S.take i++ [((spD S i).1,(spD S (i+m-1)).2)]++S.drop (i+m))∧dC ((l.drop i).take m)=(rQ docs l i m,0)∧tE ((l.drop i).take m)∧(qv l i m (rQ docs l i m)).length+m=l.length+1∧eE (qv l i m (rQ docs l i m))=eE l:=by
 have hb:=h.bd
 have hc:=C1 h.row hm (by omega :i+m≤S.length)
 have hl:(S.take i++ [((spD S i).1,(spD S (i+m-1)).2)]++S.drop (i+m)).length+m=S.length+1:=by
  simp only [List.length_append,List.length_take,List.length_drop,List.length_singleton];omega
 have hle:=h.le
 have e:=C2 docs hm (by omega :i+m≤S.length)
 have R:RI docs (qv l i m (rQ docs l i m)) (S.take i++ [((spD S i).1,(spD S (i+m-1)).2)]++S.drop (i+m)):=by
  rw [h.eq,e];exact⟨h.fair,by omega,hc.2.2.2.1,rfl⟩
 refine⟨R,?_,?_,?_,?_⟩
 · rw [h.eq];exact Uq h.row hm (by omega)
 · rw [h.eq];exact Ur h.row hm (by omega) (by omega)
 · have :=R.bd.2.2.2;omega
 · rw [R.cov,h.cov,hc.2.2.2.2]
theorem RI.an0 {docs:List (List UInt8)} {S:List Sp}(h:RI docs (aF docs S) S) {i:Nat}(hi:i+2≤S.length):
  RI docs (aF docs (afg S i)) (afg S i)∧qv (aF docs S) i 2 (rQ docs (aF docs S) i 2)=aF docs (afg S i)∧dC (((aF docs S).drop i).take 2)=(rQ docs (aF docs S) i 2,0)∧tE (((aF docs S).drop i).take 2):=by
 have hc:=h.cut (i:=i) (m:=2) (by omega) (by rw [dQ];omega)
 have e:=C2 docs (S:=S) (i:=i) (m:=2) (by omega) (by omega)
 have e2:afg S i=S.take i++ [((spD S i).1,(spD S (i+2-1)).2)]++S.drop (i+2):=rfl
 refine⟨?_,by rw [e,e2],hc.2.1,hc.2.2.1⟩
 have :=hc.1
 rw [e,←e2] at this
 exact this
theorem RI.settle {docs:List (List UInt8)} {l:List aD} {S:List Sp}(h:RI docs l S):RI docs (aF docs (mG S)) (mG S)∧dx 0 (mG S)=dx 0 S∧(mG S).length≤S.length:=by
 have hs:=agW S.length h.row
 have hle:=h.le
 exact⟨⟨h.fair,by unfold mG;omega,hs.1,rfl⟩,hs.2.1,hs.2.2⟩
theorem append_right(docs:List (List UInt8))(l:List aD)(d:List UInt8):bE (b6 docs l d).1.1 (b6 docs l d).1.2=true :=by
 unfold b6
 by_cases h1:(2000:Int)<d.length
 · rw [if_pos h1];exact Kf docs l
 · rw [if_neg h1]
   by_cases h2:(1000:Int)≤(ao docs l).1.length
   · rw [if_pos h2];exact Kf docs l
   · rw [if_neg h2];exact((qw docs l).snoc h1 h2).right
theorem agI(docs:List (List UInt8))(l:List aD):bE (cU docs l).1.1 (cU docs l).1.2=true :=by
 unfold cU
 by_cases h1:iX docs l=(ao docs l).1.length
 · rw [if_pos h1];exact Kf docs l
 · rw [if_neg h1]
   by_cases h2:(64:Int)≤(ao docs l).2.length
   · rw [if_pos h2];exact Kf docs l
   · rw [if_neg h2];exact((qw docs l).flush h1 h2).1.right
theorem merge_right(docs:List (List UInt8))(l:List aD)(i m:Int):bE (ţ docs l i m).1.1 (ţ docs l i m).1.2=true :=by
 unfold ţ
 by_cases h1:anZ (ao docs l).2 i m=true
 · rw [if_pos h1];exact Kf docs l
 · rw [if_neg h1]
   have hb:=ahG (by simpa using h1)
   exact((qw docs l).cut hb.2.2.2.2 hb.2.2.2.1).1.right
theorem anD(docs:List (List UInt8))(l:List aD):bE (jV docs l).1 (jV docs l).2=true :=(qw docs l).settle.1.right
theorem afM(docs:List (List UInt8))(l:List aD)(a b c:Int)(d:List UInt8):bE (agi docs l a b c d).1.1 (agi docs l a b c d).1.2=true :=by
 unfold agi
 split
 · exact append_right docs l d
 · split
   · exact agI docs l
   · split
     · exact merge_right docs l b c
     · exact anD docs l
theorem agX {x:Ŧ}(h:bE x.1 x.2=true)(l:List Fw):∀k,bE (AI x l k).1 (AI x l k).2=true
 |0=>h
 |k+1=>by
  simp only [AI]
  split
  · exact agX h l k
  · exact afM _ _ _ _ _ _
theorem aox(l:List Fw)(k:Nat):bE (AI ([],[]) l k).1 (AI ([],[]) l k).2=true :=agX Ť l k
theorem ahH {docs:List (List UInt8)} {l:List aD}(h:bE docs l=true)(a b c:Int)(d:List UInt8):(agi docs l a b c d).1.2.length≤l.length+(if a=1 then 1 else 0):=by
 have hg:=rE h
 unfold agi
 by_cases h0:a=0
 · rw [if_pos h0]
   unfold b6;rw [hg]
   split
   · simp only;omega
   · split<;>simp only<;>omega
 · rw [if_neg h0]
   by_cases h1:a=1
   · rw [if_pos h1,if_pos h1]
     unfold cU;rw [hg]
     split
     · simp only;omega
     · split
       · simp only;omega
       · simp only [List.length_append,List.length_singleton];omega
   · rw [if_neg h1,if_neg h1]
     by_cases h2:a=2
     · rw [if_pos h2]
       unfold ţ;rw [hg]
       by_cases hb:anZ l b c=true
       · rw [if_pos hb];simp
       · rw [if_neg hb]
         have hb:=ahG (by simpa using hb)
         have :=((RI.of h).cut hb.2.2.2.2 hb.2.2.2.1).2.2.2.1
         simp only;omega
     · rw [if_neg h2]
       simp only [jV,hg,dQ]
       have :=(RI.of h).settle.2.2
       rw [CY] at this;omega
theorem agN(l:List Fw):∀k,(AI ([],[]) l k).2.length≤afb l k
 |0=>Nat.le_refl _
 |k+1=>by
  have ih:=agN l k
  have h:=ahH (aox l k) (Kj l k).1 (Kj l k).2.1 (Kj l k).2.2.1 (Kj l k).2.2.2
  have e:afb l (k+1)=afb l k+(if(Kj l k).1=1 then 1 else 0):=by
   rw [afb];by_cases h1:(Kj l k).1=1
   · rw [if_pos h1,if_pos h1]
   · rw [if_neg h1,if_neg h1];rfl
  rw [e,AI]
  by_cases h2:(2500:Int)<(Kj l k).2.2.2.length
  · rw [if_pos h2];omega
  · rw [if_neg h2];exact Nat.le_trans h (Nat.add_le_add_right ih _)
theorem alm(l:List Fw):∀k,afb l k≤k
 |0=>Nat.le_refl _
 |k+1=>by have :=alm l k;simp only [afb];split<;>omega
theorem keeps {docs:List (List UInt8)} {l:List aD}(h:bE docs l=true) {a:Int}(b c:Int)(d:List UInt8)(h0:a≠0):
  (agi docs l a b c d).1.1=docs∧(a=1→eE l≤eE (agi docs l a b c d).1.2∧((64:Int)≤l.length∨eE (agi docs l a b c d).1.2=docs.length))∧
  (a≠1→eE (agi docs l a b c d).1.2=eE l∧(agi docs l a b c d).1.2.length≤l.length):=by
 have hg:=rE h
 have R:=RI.of h
 have AT:=R.bd
 unfold agi
 rw [if_neg h0]
 by_cases h1:a=1
 · rw [if_pos h1]
   unfold cU iX;rw [hg]
   by_cases e1:eE l=(docs.length:Int)
   · rw [if_pos e1];exact⟨rfl,fun _=>⟨Int.le_refl _, .inr e1⟩,fun h=>absurd h1 h⟩
   · rw [if_neg e1]
     by_cases e2:(64:Int)≤l.length
     · rw [if_pos e2];exact⟨rfl,fun _=>⟨Int.le_refl _, .inl e2⟩,fun h=>absurd h1 h⟩
     · rw [if_neg e2]
       have :=(R.flush e1 e2).1.cov
       have h3:eE (l++ [(eE l,(docs.length:Int),make docs (eE l) docs.length)])=docs.length:=by
        rw [this,kg];rfl
       refine⟨rfl,fun _=>⟨?_, .inr ?_⟩,fun h=>absurd h1 h⟩
       · show eE l≤eE (l++_)
         rw [h3];omega
       · exact h3
 · rw [if_neg h1]
   by_cases h2:a=2
   · rw [if_pos h2]
     unfold ţ;rw [hg]
     by_cases hb:anZ l b c=true
     · rw [if_pos hb];exact⟨rfl,fun h=>absurd h h1,fun _=>⟨rfl,Nat.le_refl _⟩⟩
     · rw [if_neg hb]
       have hb:=ahG (by simpa using hb)
       have hc:=R.cut hb.2.2.2.2 hb.2.2.2.1
       refine⟨rfl,fun h=>absurd h h1,fun _=>⟨hc.2.2.2.2,?_⟩⟩
       simp only;omega
   · rw [if_neg h2]
     have hs:=R.settle
     refine⟨by simp only [jV,hg],fun h=>absurd h h1,fun _=> ?_⟩
     simp only [jV,hg]
     refine⟨by rw [hs.1.cov,hs.2.1,R.cov],?_⟩
     rw [dQ];have :=hs.2.2;rw [CY] at this;exact this
end Go.S

end
