import Derived.Test.YtfaedenbhlgnpaaGreatDoorPhB
set_option linter.unusedVariables false
set_option linter.unusedSimpArgs false
section
namespace Go.Vg
open Go
def St.xM(G:Nat→Option GD)(n:Nat)(cz:List AV)(hs:List AB):St:=
 {St.init G n cz with h:=fun k=>bif Nat.ble 50000 k&&Nat.blt k 60000 then hs[k-50000]? else none}
def sK:AB→Bool
 | .row _ _ _ true=>false
 |_=>true
def kindOk:AB→Bool
 | .row _ _ _ false=>true
 | .cells _=>true
 | .arr _ _=>true
 |_=>false
def W8:Option AB→Bool
 |some b=>kindOk b
 |none=>true
def OE(r:gg)(k:Nat):Bool:=ou k&&(match r.heap[k-50000]? with
 |some (some _)=>true
 |_=>false)
def iy(r:gg)(k:Nat):Bool:= !(OE r k)
def pG(st:St)(k n e:Nat)(row:List Ty)(l:List (Row row)):St:=
 {st with
  t:=fun i=>dw 70000 (st.t i)
  h:=fun j=>bif Nat.beq j 70000 then some (.row e row (l.take n) false) else bif Nat.beq j k then none else match st.h j with
   |some b=>some (mT 70000 b)
   |none=>none}
def pH(st:St)(x:AV):St×AV:=match x with
 | .pre k n=>match st.h k with
   |some (.row e row l false)=>(pG st k n e row l, .own 70000)
   |_=>(st,x)
 |_=>(st,x)
mutual
def sL(h:aS)(s:List (Nat×Option Nat))(bad:Nat→Bool):AV→AV→List Prop×List Nat
 | .sl r l, .own k=>xC h r l k
 | .agg xs, .agg ys=>k9 h s bad xs ys
 | .cD xs, .cD ys=>k9 h s bad xs ys
 | .own i,y=>(Dz s bad y (.own i),[])
 |x,y=>(Dz s bad (fD h y).1 x,(fD h y).2)
def k9(h:aS)(s:List (Nat×Option Nat))(bad:Nat→Bool):List AV→List AV→List Prop×List Nat
 | [],[]=>([],[])
 |x::xs,y::ys=>((sL h s bad x y).1++(k9 h s bad xs ys).1,(sL h s bad x y).2++(k9 h s bad xs ys).2)
 |_,_=>([False],[])
end
def qs(h:aS)(s:List (Nat×Option Nat))(bad:Nat→Bool):Option AB→AB→List Prop×List Nat
 |some (.cells xs), .cells ys=>k9 h s bad ys xs
 |o,b=>(DA s bad o b,[])
def js(h:aS)(s:List (Nat×Option Nat))(bad:Nat→Bool):Nat→List (Option AB)→List Prop×List Nat
 |_,[]=>([],[])
 |i,some b::bs=>((qs h s bad (h (50000+i)) b).1++(js h s bad (i+1) bs).1,(qs h s bad (h (50000+i)) b).2++(js h s bad (i+1) bs).2)
 |i,none::bs=>js h s bad (i+1) bs
def ti(h:aS)(s:List (Nat×Option Nat))(bad:Nat→Bool)(K:Nat)(b:AB):List Prop×List Nat:=match bT s K with
 |some (some k)=>qs h s bad (h k) b
 |some none=>match b with
  | .row _ _ l false=>([[]=l],[])
  |_=>([False],[])
 |none=>([False],[])
def pI(h:aS)(s:List (Nat×Option Nat))(bad:Nat→Bool):Nat→List AB→List Prop×List Nat
 |_,[]=>([],[])
 |j,b::bs=>((ti h s bad (60000+j) b).1++(pI h s bad (j+1) bs).1,(ti h s bad (60000+j) b).2++(pI h s bad (j+1) bs).2)
def Eb(h:aS):Nat→List (Option AB)→List (Nat×Option Nat)
 |_,[]=> []
 |i,some (.cells ys)::bs=>(match h (50000+i) with
  |some (.cells xs)=>pt ys xs
  |_=> [])++Eb h (i+1) bs
 |i,_::bs=>Eb h (i+1) bs
def Ki(h:aS)(s:List (Nat×Option Nat)):Nat→List AB→List (Nat×Option Nat)
 |_,[]=> []
 |j, .cells ys::bs=>(match bT s (60000+j) with
  |some (some k)=>match h k with
   |some (.cells xs)=>pt ys xs
   |_=> []
  |_=> [])++Ki h s (j+1) bs
 |j,_::bs=>Ki h s (j+1) bs
def ze(acc:List (Nat×Option Nat)):List (Nat×Option Nat)→List (Nat×Option Nat)
 | []=>acc
 |(k,x)::r=>bif Nat.ble 60000 k&&(match bT acc k with|none=>true|some _=>false) then ze ((k,x)::acc) r else ze acc r
def ajQ(h:aS)(x:AV)(r:gg):List (Nat×Option Nat):=ze [] (CF r.res x++Eb h 0 r.heap)
def ah3(h:aS)(r:gg)(s:List (Nat×Option Nat)):List (Nat×Option Nat):=ze s (Ki h s 0 r.new)
def asa(h:aS)(x:AV)(r:gg):List (Nat×Option Nat):=ah3 h r (ah3 h r (ajQ h x r))
def Ec(h:aS)(s:List (Nat×Option Nat))(x:AV)(r:gg):List Nat:=(sL h s (iy r) r.res x).2++((js h s (iy r) 0 r.heap).2++(pI h s (iy r) 0 r.new).2)
def Kj(h:aS)(x:AV)(r:gg)(s:List (Nat×Option Nat)):Prop :=
 bif ia (dA s)&&(((dA s).all (iy r))&&((s.all fun y=>Nat.ble 60000 y.1)&&(((Ec h s x r).all fun k=> !aG (dA s) k&&iy r k)&&(r.new.all kindOk&&r.heap.all W8)))) then
  Bb ((sL h s (iy r) r.res x).1++((js h s (iy r) 0 r.heap).1++(pI h s (iy r) 0 r.new).1)) else False
def Ed(T:bY)(st:St)(rs:List ResultVar)(r:gg):Prop :=match j8 T st rs with
 |none=>False
 |some aH=>Kj (pH st (fi aH)).1.h (pH st (fi aH)).2 r (asa (pH st (fi aH)).1.h (pH st (fi aH)).2 r)
def ac2(T:bY)(rs:List ResultVar)(r:gg)(e:Ex)(st:St):Prop :=match e with
 | .norm=>Ed T st rs r
 | .ret=>Ed T st rs r
 |_=>False
def OF(E:Env)(L:Nat→Option an)(c:Code)(n:Nat)(rs:List ResultVar)(cz:List AV)(hs:List AB)(r:gg):Prop :=
 bif Nat.ble cz.length n then lP E L c (ac2 E.T rs r) (St.xM E.lI n cz hs) else False
section
variable {P:Program} {C:Ctx} {E:Env} {A A':Nat→Prop} {β aJ:Nat→Value} {st:St} {a:Act} {w:World} {T:bY}
theorem Ee {G:Nat→Option GD} {n:Nat} {cz:List AV} {hs:List AB} {k:Nat} {ab:AB}(h:(St.xM G n cz hs).h k=some ab):∃i,k=50000+i∧hs[i]? =some ab:=by
 simp only [St.xM] at h;cases hb:(Nat.ble 50000 k&&Nat.blt k 60000) with
 |false=>rw [hb] at h;cases h
 |true=>
  rw [hb] at h;simp only [Bool.and_eq_true] at hb;have :=Nat.le_of_ble_eq_true hb.1;exact⟨k-50000,by omega,h⟩
theorem aF.xM {G:Nat→Option GD} {args:List Value} {cz:List AV} {hs:List AB} {n:Nat}(hA:∀b,A b→b<w.heap.size)(hG:∀i d,G i=some d→o0 w A i d)(hr:af w A β args cz)(hn:cz.length≤n)
  (fY:∀i ab,hs[i]? =some ab→BR w A β (50000+i) ab) (Cn:∀i j b,i<hs.length→j<hs.length→ay (β (50000+i))=some b→ay (β (50000+j))=some b→i=j):
  aF ⟨w,A,HM β hs.length,G,β⟩ A β (St.xM G n cz hs) {tmps:=args.toArray++Array.replicate (n-args.toArray.size) undef,defers:= []} w:=by
 have hI:=aF.init (β:=β) (G:=G) (n:=n) hA hG hr hn
 have hk:∀k,((St.xM G n cz hs).h k).isSome→∃i,k=50000+i∧i<hs.length:=by
  intro k hk;obtain⟨ab,fE⟩:=Option.isSome_iff_exists.1 hk;obtain⟨i,h1,h2⟩:=Ee fE;exact⟨i,h1,(List.getElem?_eq_some_iff.1 h2).1⟩
 refine⟨hI.defers,hI.size,hI.tmps,fun k ab h=> ?_,fun k k' b h h' hb bA=> ?_,hI.bound,⟨rfl,rfl,rfl,Nat.le_refl _,fun b _ _=>rfl⟩,fun b _ h=> .inl h,fun b h=>h,fun k b h hb=> ?_,fun i d h=>h,hG,fun k _=>rfl⟩
 · obtain⟨i,rfl,h2⟩:=Ee h;exact fY i ab h2
 · obtain⟨i,rfl,h1⟩:=hk k h;obtain⟨j,rfl,h2⟩:=hk k' h';rw [Cn i j b h1 h2 hb bA]
 · obtain⟨i,rfl,h1⟩:=hk k h;exact .inr ⟨i,h1,hb⟩
theorem W9 {hs:List AB}(hnf:∀ab∈hs,sK ab=true)(fY:∀i ab,hs[i]? =some ab→BR w A β (50000+i) ab):∀b,HM β hs.length b→¬A b:=by
 rintro b ⟨i,hi,hb⟩;have hg:=List.getElem?_eq_getElem hi;have h:=fY i _ hg;have hn:=hnf _ (List.getElem_mem hi);generalize hs[i]=ab at h hn;cases ab with
 |cells cs=>
  obtain⟨b',arr,e,h1,h2,h3,_⟩:=h;rw [h1] at hb;simp only [ay,Option.some.injEq] at hb;subst hb;exact h3
 |arr row l=>
  obtain⟨b',arr,e,h1,h2,h3,_⟩:=h;rw [h1] at hb;simp only [ay,Option.some.injEq] at hb;subst hb;exact h3
 |views e j n m sz=>
  obtain⟨xs,h1,h2,_⟩:=h;exact h2 b hb
 |row e row l fr=>
  obtain⟨xs,h1,h2,h3⟩:=h;cases fr with
  |true=>simp [sK] at hn
  |false=>simpa using h3 b hb
 |gD e j row l i=>
  obtain⟨xs,v0,h1,h2,_⟩:=h;exact h2 b hb
theorem aF.shrink(hB:aF C A β st a w) {k n e:Nat} {row:List Ty} {l:List (Row row)} {v:Value}(hk:st.h k=some (.row e row l false))(hv:aa w A β v (.pre k n)):
  aF C A (bI β 70000 v) (pG st k n e row l) a w∧aa w A (bI β 70000 v) v (.own 70000):=by
 obtain⟨xs,o1,o2,o3⟩:=C9 hB hk;have Da:=dV l xs n o2
 have fV:w.ownsRow 0 e row.length v n (xs.take (n*row.length))∧n≤l.length∧ay v=ay (β k):=by
  simp only [aa] at hv;rcases hv with⟨h1,h2,h3⟩|⟨b,mm,cap,h1,h2,h3⟩
  · subst h3;subst h2;rw [h1];exact⟨by simpa using World.ownsRow_nil w 0 e row.length,by omega,rfl⟩
  · rcases o1.2 with⟨g1,_⟩|⟨g,im,cur,g1,g2,g3,g4,g5,g6,g7⟩
    · rw [h1] at g1;cases g1
    · rw [h1] at g1;simp only [Value.slice.injEq,Option.some.injEq,Addr.mk.injEq,and_true] at g1;obtain⟨rfl,rfl,rfl⟩:=g1;refine⟨⟨?_, .inr ⟨b,cap,cur,h2,by omega,g3,by omega,g5,g6,?_⟩⟩,h3,by rw [h1,h2];rfl⟩
      · rw [List.length_take,o1.1];exact Nat.min_eq_left (Nat.mul_le_mul_right _ h3)
      · rw [←g7,List.take_take,Nat.min_eq_left (Nat.mul_le_mul_right _ h3)]
 obtain⟨fV,Wo,Wp⟩:=fV
 have gY:v.oneCell'=true :=by
  simp only [aa] at hv;rcases hv with⟨_,h2,_⟩|⟨b,mm,cap,_,h2,_⟩<;>subst h2<;>rfl
 have hs:∀j,((pG st k n e row l).h j).isSome→(j=70000∧bI β 70000 v j=v)∨(j≠70000∧j≠k∧(st.h j).isSome∧bI β 70000 v j=β j):=by
  intro j hj;by_cases h7:j=70000
  · subst h7;exact .inl ⟨rfl,by simp [bI]⟩
  · simp only [pG,aR h7,cond_false] at hj;by_cases yG:j=k
    · subst yG;simp [bG] at hj
    · rw [aR yG] at hj;refine .inr ⟨h7,yG,?_,by simp [bI,h7]⟩;cases hh:st.h j with
      |none=>rw [hh] at hj;cases hj
      |some x=>rfl
 have UN:∀j b,((pG st k n e row l).h j).isSome→ay (bI β 70000 v j)=some b→∃j',(st.h j').isSome∧ay (β j')=some b∧((j=70000∧j'=k)∨(j≠70000∧j'=j∧j≠k)):=by
  intro j b hj hb;rcases hs j hj with⟨h1,h2⟩|⟨h1,h2,h3,h4⟩
  · rw [h2,Wp] at hb;exact⟨k,by simp [hk],hb, .inl ⟨h1,rfl⟩⟩
  · rw [h4] at hb;exact⟨j,h3,hb, .inr ⟨h1,rfl,h2⟩⟩
 refine⟨⟨hB.defers,hB.size,fun i=>sf 70000 v _ _ (hB.tmps i),fun j ab hj=> ?_,fun j j' b h1 h2 g1 g2=> ?_,hB.bound,hB.frame,hB.kE,hB.base,fun j b h1 g1=> ?_,hB.qO,hB.laid,fun j hj=> ?_⟩,?_⟩
 · by_cases h7:j=70000
   · subst h7;simp only [pG,bG,cond_true,Option.some.injEq] at hj;subst hj;have e1:bI β 70000 v 70000=v:=by simp [bI]
     simp only [BR,e1];refine⟨_,?_,Da.1,fun b hb=> ?_⟩
     · rw [List.length_take,Nat.min_eq_left Wo];exact fV
     · rw [Wp] at hb;simpa using o3 b hb
   · simp only [pG,aR h7,cond_false] at hj;by_cases yG:j=k
     · subst yG;simp [bG] at hj
     · rw [aR yG] at hj;cases hh:st.h j with
       |none=>rw [hh] at hj;cases hj
       |some x=>
        rw [hh] at hj;simp only [cond_false,Option.some.injEq] at hj;subst hj
        exact tI (new:= [(70000, .cells [])]) (w':=w) (A':=A) (aJ:=bI β 70000 v) (fun q hq=>by
         have :¬q=70000:=by rintro rfl;simp [au] at hq
         simp [bI,this]) (by simp [bI,h7]) (fun b _=>⟨rfl,id⟩) (fun b hb=>⟨hb,rfl⟩) (hB.blocks j x hh)
 · obtain⟨i,a1,a2,a3⟩:=UN j b h1 g1;obtain⟨i',b1,b2,b3⟩:=UN j' b h2 g2;have :=hB.apart i i' b a1 b1 a2 b2;subst this;rcases a3 with⟨p1,p2⟩|⟨p1,p2,p3⟩<;>rcases b3 with⟨q1,q2⟩|⟨q1,q2,q3⟩
   · rw [p1,q1]
   · exact absurd (q2.symm.trans p2) q3
   · exact absurd (p2.symm.trans q2) p3
   · exact p2.symm.trans q2
 · obtain⟨i,a1,a2,_⟩:=UN j b h1 g1;exact hB.nA i b a1 a2
 · have :¬j=70000:=by rintro rfl;simp [ou] at hj
   simp only [bI,if_neg this];exact hB.held j hj
 · simp only [aa];exact⟨by simp [bI],gY⟩
theorem Kk(hB:aF C A β st a w) {x:AV} {v:Value}(hv:aa w A β v x):∃aJ,aF C A aJ (pH st x).1 a w∧aa w A aJ v (pH st x).2:=by
 unfold pH;split
 · rename_i k n;split
   · rename_i e row l hk;obtain⟨h1,h2⟩:=hB.shrink hk hv;exact⟨_,h1,h2⟩
   · exact⟨β,hB,hv⟩
 · exact⟨β,hB,hv⟩
mutual
theorem sM(hB:aF C A β st a w) {s:List (Nat×Option Nat)} {bad:Nat→Bool}(hA:∀b,A b→A' b)(hK:Keyed bad s β aJ):∀(x y:AV) (v:Value),
  (∀p∈(sL st.h s bad x y).1,p)→(∀k∈(sL st.h s bad x y).2,∀b,ay (β k)=some b→A' b)→aa w A β v y→aa w A' aJ v x∧∀k∈(sL st.h s bad x y).2,(st.h k).isSome
 |x,y,v,h,hF,hr=>by
  generalize he:sL st.h s bad x y=r at h hF ⊢;unfold sL at he;split at he
  · rename_i r0 l0 k;subst he;exact za hB hA r0 l0 k v h hF hr
  · rename_i xs ys;subst he;simp only [aa] at hr ⊢;obtain⟨arr,e1,e2⟩:=hr;obtain⟨g1,g2⟩:=kO hB hA hK xs ys _ h hF e2;exact⟨⟨arr,e1,g1⟩,g2⟩
  · rename_i xs ys;subst he;simp only [aa] at hr ⊢;obtain⟨arr,e1,e2⟩:=hr;obtain⟨g1,g2⟩:=kO hB hA hK xs ys _ h hF e2;exact⟨⟨arr,e1,g1⟩,g2⟩
  · subst he;exact⟨iI (fun b hb=>⟨hA b hb,rfl⟩) _ _ (mC hK _ _ _ h hr),fun k hk=>by cases hk⟩
  · subst he;obtain⟨g1,g2⟩:=oQ hB hr hA hF;exact⟨mC hK _ _ _ h g1,fun k hk=>by obtain⟨e,row,l,fr,hr⟩:=g2 k hk;simp [hr]⟩
theorem kO(hB:aF C A β st a w) {s:List (Nat×Option Nat)} {bad:Nat→Bool}(hA:∀b,A b→A' b)(hK:Keyed bad s β aJ):∀(xs ys:List AV) (vs:List Value),
  (∀p∈(k9 st.h s bad xs ys).1,p)→(∀k∈(k9 st.h s bad xs ys).2,∀b,ay (β k)=some b→A' b)→af w A β vs ys→af w A' aJ vs xs∧∀k∈(k9 st.h s bad xs ys).2,(st.h k).isSome
 | [],[],vs,_,_,hr=>by
   simp only [af] at hr ⊢;exact⟨hr,fun k hk=>by simp [k9] at hk⟩
 |x::xs,y::ys,vs,h,hF,hr=>by
  simp only [k9] at h hF ⊢;obtain⟨g1,g2⟩:=iW h;simp only [af] at hr ⊢;obtain⟨v,bK,e,r1,r2⟩:=hr;obtain⟨q1,q2⟩:=sM hB hA hK x y v g1 (fun k hk=>hF k (List.mem_append_left _ hk)) r1;obtain⟨q3,q4⟩:=kO hB hA hK xs ys bK g2 (fun k hk=>hF k (List.mem_append_right _ hk)) r2;refine⟨⟨v,bK,e,q1,q3⟩,fun k hk=> ?_⟩;rcases List.mem_append.1 hk with hk|hk
  · exact q2 k hk
  · exact q4 k hk
 | [],_::_,vs,h,_,_=>by simp only [k9] at h;exact(aY h).elim
 |_::_,[],vs,h,_,_=>by simp only [k9] at h;exact(aY h).elim
end
theorem ajS {k:Nat} {b:AB}(hA:∀b,A b→A' b)(hk:kindOk b=true)(xr:∀g,ay (β k)=some g→¬A g→¬A' g)(h:BR w A β k b):BR w A' β k b:=by
 have hK:cP w w A A':=fun b hb=>⟨hA b hb,rfl⟩;cases b with
 |cells cs=>
  obtain⟨g,arr,e,h1,h2,h3,h4,h5⟩:=h;exact⟨g,arr,e,h1,h2,xr g (by rw [h1];rfl) h3,eA hK _ _ h4,h5⟩
 |arr row l=>
  obtain⟨g,arr,e,h1,h2,h3,h4⟩:=h;exact⟨g,arr,e,h1,h2,xr g (by rw [h1];rfl) h3,bE (fun c x hx=>bF hK row c x hx) l _ h4⟩
 |views e j n m sz=>simp [kindOk] at hk
 |gD _ _ _ _ _=>simp [kindOk] at hk
 |row e row l fr=>
  cases fr with
  |true=>simp [kindOk] at hk
  |false=>
   obtain⟨xs,x1,x2,x3⟩:=h;refine⟨xs,x1,bE (fun c x hx=>bF hK row c x hx) l xs x2,fun b hb=> ?_⟩;have :=x3 b hb;simp only [Bool.false_eq_true,if_false] at this ⊢;exact xr b hb this
theorem Bz(hB:aF C A β st a w) {s:List (Nat×Option Nat)} {bad:Nat→Bool}(hA:∀b,A b→A' b)(hK:Keyed bad s β aJ) {k K:Nat} {b:AB}(hk:aJ K=β k)(Ef:kindOk b=true)
  (h:∀p∈(qs st.h s bad (st.h k) b).1,p) (hF:∀q∈(qs st.h s bad (st.h k) b).2,∀g,ay (β q)=some g→A' g) (xr:∀g,ay (β k)=some g→¬A g→¬A' g):BR w A' aJ K b:=by
 generalize he:qs st.h s bad (st.h k) b=r at h hF;unfold qs at he;split at he
 · rename_i xs ys kI;subst he;obtain⟨g,arr,e,h1,h2,h3,h4,h5⟩:=hB.blocks k _ kI;obtain⟨q1,_⟩:=kO hB hA hK ys xs _ h hF h4;exact⟨g,arr,e,hk.trans h1,h2,xr g (by rw [h1];rfl) h3,q1,h5⟩
 · subst he;obtain⟨c,hc⟩:=rI h;rw [hc] at h;exact ajS hA Ef (by rw [hk];exact xr) (sE hK hk h (hB.blocks k c hc))
theorem sN(hB:aF C A β st a w) {s:List (Nat×Option Nat)} {bad:Nat→Bool}(hK:Keyed bad s β aJ) {k:Nat} {b:AB}
  (h:∀p∈(qs st.h s bad (st.h k) b).1,p):(st.h k).isSome∧∀q∈(qs st.h s bad (st.h k) b).2,(st.h q).isSome:=by
 generalize he:qs st.h s bad (st.h k) b=r at h ⊢;unfold qs at he;split at he
 · rename_i xs ys kI;subst he;obtain⟨g,arr,e,h1,h2,h3,h4,h5⟩:=hB.blocks k _ kI;exact⟨by simp [kI],(kO (A':=fun _=>True) hB (fun _ _=>trivial) hK ys xs _ h (fun _ _ _ _=>trivial) h4).2⟩
 · subst he;obtain⟨c,hc⟩:=rI h;exact⟨by simp [hc],fun q hq=>by cases hq⟩
theorem qt {h:aS} {s:List (Nat×Option Nat)} {bad:Nat→Bool}:∀(bs:List (Option AB)) (i j:Nat) (b:AB),bs[j]? =some (some b)→
  (∀p∈(qs h s bad (h (50000+(i+j))) b).1,p∈(js h s bad i bs).1)∧∀p∈(qs h s bad (h (50000+(i+j))) b).2,p∈(js h s bad i bs).2
 |some b0::bs,i,0,b,hb=>by
  simp only [List.getElem?_cons_zero,Option.some.injEq] at hb;subst hb;simp only [js];exact⟨fun p hp=>List.mem_append_left _ hp,fun p hp=>List.mem_append_left _ hp⟩
 |some b0::bs,i,j+1,b,hb=>by
  simp only [js];have :=qt (h:=h) (s:=s) (bad:=bad) bs (i+1) j b (by simpa using hb);rw [show i+1+j=i+(j+1) by omega] at this;exact⟨fun p hp=>List.mem_append_right _ (this.1 p hp),fun p hp=>List.mem_append_right _ (this.2 p hp)⟩
 |none::bs,i,0,b,hb=>by simp at hb
 |none::bs,i,j+1,b,hb=>by
  simp only [js];have :=qt (h:=h) (s:=s) (bad:=bad) bs (i+1) j b (by simpa using hb);rwa [show i+1+j=i+(j+1) by omega] at this
theorem uI {h:aS} {s:List (Nat×Option Nat)} {bad:Nat→Bool}:∀(bs:List (Option AB)) (i:Nat) (q:Nat),q∈(js h s bad i bs).2→
  ∃(j:Nat) (b:AB),bs[j]? =some (some b)∧q∈(qs h s bad (h (50000+(i+j))) b).2
 | [],i,q,hq=>by simp [js] at hq
 |some b0::bs,i,q,hq=>by
  simp only [js,List.mem_append] at hq;rcases hq with hq|hq
  · exact⟨0,b0,rfl,hq⟩
  · obtain⟨j,b,h1,h2⟩:=uI bs (i+1) q hq;exact⟨j+1,b,by simpa using h1,by rwa [show i+1+j=i+(j+1) by omega] at h2⟩
 |none::bs,i,q,hq=>by
  simp only [js] at hq;obtain⟨j,b,h1,h2⟩:=uI bs (i+1) q hq;exact⟨j+1,b,by simpa using h1,by rwa [show i+1+j=i+(j+1) by omega] at h2⟩
theorem xN {h:aS} {s:List (Nat×Option Nat)} {bad:Nat→Bool}:∀(bs:List AB) (i j:Nat) (b:AB),bs[j]? =some b→
  (∀p∈(ti h s bad (60000+(i+j)) b).1,p∈(pI h s bad i bs).1)∧∀p∈(ti h s bad (60000+(i+j)) b).2,p∈(pI h s bad i bs).2
 |b0::bs,i,0,b,hb=>by
  simp only [List.getElem?_cons_zero,Option.some.injEq] at hb;subst hb;simp only [pI];exact⟨fun p hp=>List.mem_append_left _ hp,fun p hp=>List.mem_append_left _ hp⟩
 |b0::bs,i,j+1,b,hb=>by
  simp only [pI];have :=xN (h:=h) (s:=s) (bad:=bad) bs (i+1) j b (by simpa using hb);rw [show i+1+j=i+(j+1) by omega] at this;exact⟨fun p hp=>List.mem_append_right _ (this.1 p hp),fun p hp=>List.mem_append_right _ (this.2 p hp)⟩
theorem Eg {h:aS} {s:List (Nat×Option Nat)} {bad:Nat→Bool}:∀(bs:List AB) (i:Nat) (q:Nat),q∈(pI h s bad i bs).2→
  ∃(j:Nat) (b:AB),bs[j]? =some b∧q∈(ti h s bad (60000+(i+j)) b).2
 | [],i,q,hq=>by simp [pI] at hq
 |b0::bs,i,q,hq=>by
  simp only [pI,List.mem_append] at hq;rcases hq with hq|hq
  · exact⟨0,b0,rfl,hq⟩
  · obtain⟨j,b,h1,h2⟩:=Eg bs (i+1) q hq;exact⟨j+1,b,by simpa using h1,by rwa [show i+1+j=i+(j+1) by omega] at h2⟩
theorem Kl(hT:bx T P) {fn:Func}(hB:aF C A β st a w) {aH:List AV}(h:j8 T st fn.results.toList=some aH):∃v,(results fn a.tmps).run P w= .ok v w∧aa w A β v (fi aH):=by
 obtain⟨vs,p1,p2⟩:=oD hT hB fn.results.toList aH h;have hl:=c6 aH vs p2;refine⟨if h:vs.toArray.size=1 then vs.toArray[0] else .tuple vs.toArray,?_,?_⟩
 · rw [Bx,Array.mapM_eq_mapM_toList];simp only [Sem.run_bind,map_eq_pure_bind,p1,Result.andThen_ok,Sem.run_pure]
 · match aH,vs,hl,p2 with
   | [x],[v],_,p2=>
     simp only [af] at p2;obtain⟨v',bK,e,g1,_⟩:=p2;simp only [List.cons.injEq] at e;rw [e.1];simpa [fi] using g1
   | [],[],_,p2=>
     simp only [fi];simp [aa,af]
   |x::y::l,v::u::m,_,p2=>
    have dD:¬(v::u::m).toArray.size=1:=by simp
    rw [dif_neg dD];simp only [fi,aa];exact⟨_,rfl,by simpa using p2⟩
theorem Km {w0:World} {A0:Nat→Prop} {G:Nat→Option GD} {yr lk:Nat→Value} {n:Nat}(hB:aF ⟨w0,A0,HM yr n,G,yr⟩ A lk st a w) {r:gg} {x:AV} {v:Value} {s:List (Nat×Option Nat)}
  (hn:r.heap.length=n) (Od:n≤100) (hA0:∀b,HM yr n b→¬A0 b) (wz:∀b,A0 b→b<w0.heap.size) (Gs:aa w A lk v x) (h:Kj st.h x r s):
  ∃A' aJ,JS w0 A0 yr n w v r A' aJ:=by
 unfold Kj at h;cases hq:(ia (dA s)&&(((dA s).all (iy r))&&((s.all fun y=>Nat.ble 60000 y.1)&&(((Ec st.h s x r).all fun k=> !aG (dA s) k&&iy r k)&&(r.new.all kindOk&&r.heap.all W8))))) with
 |false=>rw [hq] at h;exact h.elim
 |true=>
  rw [hq] at h;simp only [cond_true] at h;simp only [Bool.and_eq_true,List.all_eq_true] at hq;obtain⟨q1,q2,q3,q4,q5,q6⟩:=hq;obtain⟨c1,c2⟩:=iW (oS _ h);obtain⟨c2,c3⟩:=iW c2;let F:=Ec st.h s x r
  let gk:Nat→Value:=fun i=>match bT s i with
   |some (some k)=>lk k
   |some none=>om
   |none=>lk i
  have h60:∀K y,bT s K=some y→60000≤K:=by
   have :∀(l:List (Nat×Option Nat)),(∀z∈l,Nat.ble 60000 z.1=true)→∀K y,bT l K=some y→60000≤K:=by
    intro l;induction l with
    |nil=>intro _ K y h;cases h
    |cons z l ih=>
     intro hl K y h;obtain⟨z1,z2⟩:=z;simp only [bT] at h;cases hb:Nat.beq K z1 with
     |true=>rw [Nat.eq_of_beq_eq_true hb];exact Nat.le_of_ble_eq_true (hl _ (List.mem_cons_self ..))
     |false=>rw [hb] at h;exact ih (fun z hz=>hl z (List.mem_cons_of_mem _ hz)) K y h
   exact this s q3
  have Xa:∀K,iy r K=false→ou K=true∧bT s K=none∧∃ab,r.heap[K-50000]? =some (some ab):=by
   intro K hK;simp only [iy,OE,Bool.not_eq_false',Bool.and_eq_true] at hK;obtain⟨k1,k2⟩:=hK;refine⟨k1,?_,?_⟩
   · cases hl:bT s K with
     |none=>rfl
     |some y=>
      have :=h60 K y hl;simp only [ou,Bool.and_eq_true] at k1;have :=Nat.le_of_ble_eq_true k1.2;omega
   · split at k2
     · rename_i ab fE;exact⟨ab,fE⟩
     · cases k2
  have wy:Keyed (iy r) s lk gk:=⟨fun K k h=>by simp only [gk,h],fun K h=>by simp only [gk,h],fun K h _=>by simp only [gk,h],fun K h=>by simp only [gk,(Xa K h).2.1]⟩
  have Kn:∀i ab,r.heap[i]? =some (some ab)→i<100∧iy r (50000+i)=false∧gk (50000+i)=lk (50000+i)∧lk (50000+i)=yr (50000+i):=by
   intro i ab hi;have eM:=(List.getElem?_eq_some_iff.1 hi).1
   have hip:ou (50000+i)=true :=by
    simp only [ou,Bool.and_eq_true];exact⟨Nat.ble_eq_true_of_le (by omega),Nat.ble_eq_true_of_le (by omega)⟩
   have hb:iy r (50000+i)=false :=by
    simp only [iy,OE,hip,Bool.true_and,Nat.add_sub_cancel_left,hi,Bool.not_true]
   exact⟨by omega,hb,by simp only [gk,(Xa _ hb).2.1],hB.held _ hip⟩
  have Ko:∀q∈F,(st.h q).isSome:=by
   intro q hq;simp only [F,Ec,List.mem_append] at hq;rcases hq with hq|hq|hq
   · exact(sM (A':=fun _=>True) hB (fun _ _=>trivial) wy r.res x v c1 (fun _ _ _ _=>trivial) Gs).2 q hq
   · obtain⟨j,b,h1,h2⟩:=uI _ _ _ hq;have hm:=qt (h:=st.h) (s:=s) (bad:=iy r) r.heap 0 j b h1;exact(sN hB wy (fun p hp=>c2 p (hm.1 p hp))).2 q h2
   · obtain⟨j,b,h1,h2⟩:=Eg _ _ _ hq;have hm:=xN (h:=st.h) (s:=s) (bad:=iy r) r.new 0 j b h1;have hc:∀p∈(ti st.h s (iy r) (60000+(0+j)) b).1,p:=fun p hp=>c3 p (hm.1 p hp);generalize hg:ti st.h s (iy r) (60000+(0+j)) b=g at hc h2;unfold ti at hg;split at hg
     · subst hg;exact(sN hB wy hc).2 q h2
     · split at hg<;>(subst hg;cases h2)
     · subst hg;cases h2
  have hFA:∀q∈F,∀b,ay (lk q)=some b→bM A lk F b:=fun q hq b hb=> .inr ⟨q,hq,hb⟩;have hAA:∀b,A b→bM A lk F b:=fun b hb=> .inl hb
  have xr:∀k,(st.h k).isSome→k∉F→∀g,ay (lk k)=some g→¬A g→¬bM A lk F g:=by
   rintro k hk hkF g hg jy (hAg|⟨j,hj,hjg⟩)
   · exact jy hAg
   · have :=hB.apart j k g (Ko j hj) hk hjg hg;subst this;exact hkF hj
  have Xb:∀k,(k∈dA s∨iy r k=false)→k∉F:=by
   rintro k hk hF;have h4:=q4 k hF;rcases hk with hk|hk
   · have :=j6.2 hk;rw [this] at h4;simp at h4
   · rw [hk] at h4;simp at h4
  have N2:∀i ab,r.heap[i]? =some (some ab)→BR w (bM A lk F) gk (50000+i) ab∧(st.h (50000+i)).isSome:=by
   intro i ab hi;obtain⟨_,hb,bZ,_⟩:=Kn i ab hi;have hm:=qt (h:=st.h) (s:=s) (bad:=iy r) r.heap 0 i ab hi;rw [Nat.zero_add] at hm;have hl:=sN (k:=50000+i) hB wy (fun p hp=>c2 p (hm.1 p hp));have Ef:kindOk ab=true :=q6 _ (List.mem_of_getElem? hi);exact⟨Bz hB hAA wy bZ Ef (fun p hp=>c2 p (hm.1 p hp)) (fun q hq=>hFA q (by simp only [F,Ec,List.mem_append];exact .inr (.inl (hm.2 q hq)))) (xr _ hl.1 (Xb _ (.inr hb))),hl.1⟩
  have hN1:∀j ab,r.new[j]? =some ab→BR w (bM A lk F) gk (60000+j) ab∧(gk (60000+j)=om∨∃k,bT s (60000+j)=some (some k)∧gk (60000+j)=lk k∧(st.h k).isSome):=by
   intro j ab hj;have hm:=xN (h:=st.h) (s:=s) (bad:=iy r) r.new 0 j ab hj;rw [Nat.zero_add] at hm;have hc:∀p∈(ti st.h s (iy r) (60000+j) ab).1,p:=fun p hp=>c3 p (hm.1 p hp);have hf:∀q∈(ti st.h s (iy r) (60000+j) ab).2,q∈F:=fun q hq=>by simp only [F,Ec,List.mem_append];exact .inr (.inr (hm.2 q hq))
   have Ef:kindOk ab=true :=q5 _ (List.mem_of_getElem? hj);generalize hg:ti st.h s (iy r) (60000+j) ab=g at hc hf;unfold ti at hg;split at hg
   · rename_i k hk;subst hg;have bZ:gk (60000+j)=lk k:=by simp only [gk,hk]
     have hl:=sN (k:=k) hB wy hc;exact⟨Bz hB hAA wy bZ Ef hc (fun q hq=>hFA q (hf q hq)) (xr _ hl.1 (Xb _ (.inl (gJ s _ _ hk)))), .inr ⟨k,hk,bZ,hl.1⟩⟩
   · rename_i hk;have bZ:gk (60000+j)=om:=by simp only [gk,hk]
     split at hg
     · subst hg;exact⟨Kd bZ (aY hc), .inl bZ⟩
     · subst hg;exact(aY hc).elim
   · subst hg;exact(aY hc).elim
  have rv:=(sM hB hAA wy r.res x v c1 (fun q hq=>hFA q (by simp only [F,Ec,List.mem_append];exact .inl hq)) Gs).1
  have fc:∀k b,N9 r k→ay (gk k)=some b→∃k',(st.h k').isSome∧ay (lk k')=some b∧((iy r k=false∧k'=k)∨bT s k=some (some k')):=by
   rintro k b (⟨i,ab,rfl,_,hi⟩|⟨j,rfl,hj⟩) hb
   · obtain⟨_,h1,h2,_⟩:=Kn i ab hi;rw [h2] at hb;exact⟨_,(N2 i ab hi).2,hb, .inl ⟨h1,rfl⟩⟩
   · rcases(hN1 j _ (List.getElem?_eq_getElem hj)).2 with h|⟨k,h1,h2,h3⟩
     · rw [h] at hb;simp [om,ay] at hb
     · rw [h2] at hb;exact⟨k,h3,hb, .inr h1⟩
  refine⟨bM A lk F,gk,⟨hB.frame.os,hB.frame.tape,hB.frame.output,hB.frame.size,fun b hb hM=>hB.frame.block b hb hM,fun b hb=>⟨.inl (hB.base b hb),hB.frame.block b (wz b hb) fun hM=>hA0 b hM hb⟩,fun b hb C0=> ?_,fun b hb=> ?_,rv,fun i ab hi=>⟨(N2 i ab hi).1,(Kn i ab hi).2.2.1.trans (Kn i ab hi).2.2.2⟩,fun j ab hj=>⟨(hN1 j ab hj).1,fun b hb=> ?_⟩,fun k k' b h1 h2 g1 g2=> ?_⟩⟩
  · rcases C0 with C0|⟨j,hj,tU⟩
    · exact hB.kE b hb C0
    · rcases hB.nA j b (Ko j hj) tU with h|h
      · exact absurd hb (Nat.not_lt.2 h)
      · exact .inr h
  · rcases hb with hb|⟨j,hj,tU⟩
    · exact hB.bound b hb
    · exact kJ hB (Ko j hj) tU
  · obtain⟨k,g1,g2,_⟩:=fc _ b (.inr ⟨j,rfl,(List.getElem?_eq_some_iff.1 hj).1⟩) hb;exact hB.nA k b g1 g2
  · obtain⟨j,a1,a2,a3⟩:=fc k b h1 g1;obtain⟨j',b1,b2,b3⟩:=fc k' b h2 g2;have :=hB.apart j j' b a1 b1 a2 b2;subst this;rcases a3 with⟨p1,p2⟩|p1<;>rcases b3 with⟨r1,r2⟩|r1
    · exact p2.symm.trans r2
    · have :=q2 j (gJ s _ _ r1);rw [p2,p1] at this;cases this
    · have :=q2 j (gJ s _ _ p1);rw [r2,r1] at this;cases this
    · exact sF s q1 k k' j p1 r1
theorem L7(hT:bx T P) {fn:Func} {w0:World} {A0:Nat→Prop} {G:Nat→Option GD} {yr:Nat→Value} {n:Nat}(hB:aF ⟨w0,A0,HM yr n,G,yr⟩ A β st a w) {r:gg}
  (hn:r.heap.length=n) (Od:n≤100) (hA0:∀b,HM yr n b→¬A0 b) (wz:∀b,A0 b→b<w0.heap.size) (h:Ed T st fn.results.toList r):
  ∃v,(results fn a.tmps).run P w= .ok v w∧∃A' aJ,JS w0 A0 yr n w v r A' aJ:=by
 unfold Ed at h;split at h
 · exact h.elim
 · rename_i aH has;obtain⟨v,Lf,Gs⟩:=Kl hT hB has;obtain⟨lk,hB,Gs⟩:=Kk hB Gs;exact⟨v,Lf,Km hB hn Od hA0 wz Gs h⟩
theorem GN(hE:ai P E)(hm:P.follows .mixedOrders=true) {f:FuncId} {fn:Func} {c:Code} {s:gh}(L:List AV→List AB→Nat→Option an)(hf:P.funcs[f]? =some fn)(hb:fn.body=some c)
  (hnf:∀cz hs r,s cz hs=some r→∀ab∈hs,sK ab=true)
  (h:∀cz hs r,s cz hs=some r→r.pre→OF E (L cz hs) c fn.ntmps fn.results.toList cz hs r):cH P E.lI f s:=by
 intro w A β args cz hs r hA hG bw fY Cn n0 hp hlen Eh;have D4:=h cz hs r n0 hp;unfold OF at D4;cases hn:Nat.ble cz.length fn.ntmps with
 |false=>rw [hn] at D4;exact D4.elim
 |true=>
  rw [hn] at D4;refine calls_of_wp hf hb (eX (C:=⟨w,A,HM β hs.length,E.lI,β⟩) ⟨hE,rfl⟩ hm c _ _ _ w _ D4 ⟨A,β,aF.xM hA hG bw (Nat.le_of_ble_eq_true hn) fY Cn⟩ ?_);intro e bQ a' w' hk _ hR;obtain⟨A',aJ,hB⟩:=hR
  have key:Ed E.T bQ fn.results.toList r→bodyPost P fn (fun e w'=>∃v,e= .returned v∧∃A' aJ,JS w A β hs.length w' v r A' aJ) .ret a' w':=by
   intro hk;obtain⟨v,h1,A2,gk,h2⟩:=L7 hE.fK hB hlen Eh (W9 (hnf cz hs r n0) fY) hA hk;exact⟨hB.defers,v,h1,v,rfl,A2,gk,h2⟩
  cases e with
  |norm=>exact key hk
  |ret=>exact key hk
  |exit i=>exact hk.elim
end
end Go.Vg

end
section
namespace Go.Vg
open Go
inductive TA where
 |jK (t:Ty)
 |own (k:Nat)
 |ref (k off:Nat)
 |nil
 |jn
 |jA
 |agg (l:List TA)
 |fn (f:Fn) (first bn:List TA)
mutual
@[reducible] def TA.tys:TA→List Ty
  | .jK t=> [t]
  | .agg l=>TA.fG l
  | .fn _ l m=>TA.fG l++TA.fG m
  |_=> []
@[reducible] def TA.fG:List TA→List Ty
  | []=> []
  |t::ts=>TA.tys t++TA.fG ts
end
mutual
def TA.get:TA→AV→Option (List AV)
 | .jK _,a=>some [a]
 | .own k, .own k'=>bif Nat.beq k k' then some [] else none
 | .ref k o, .ref k' o'=>bif Nat.beq k k'&&Nat.beq o o' then some [] else none
 | .nil, .nil=>some []
 | .jn, .jn=>some []
 | .jA, .jA=>some []
 | .agg l, .agg cs=>TA.tj l cs
 | .fn f l m, .fn f' cs ds=>if f=f' then wF (TA.tj l cs) (TA.tj m ds) else none
 |_,_=>none
def TA.tj:List TA→List AV→Option (List AV)
 | [],[]=>some []
 |t::ts,a::aH=>wF (TA.get t a) (TA.tj ts aH)
 |_,_=>none
end
mutual
def TA.put:TA→List AV→AV
 | .jK _,cs=>cs.headD .c5
 | .own k,_=> .own k
 | .ref k o,_=> .ref k o
 | .nil,_=> .nil
 | .jn,_=> .jn
 | .jA,_=> .jA
 | .agg l,cs=> .agg (TA.rJ l cs)
 | .fn f l m,cs=> .fn f (TA.rJ l (cs.take (TA.fG l).length)) (TA.rJ m (cs.drop (TA.fG l).length))
def TA.rJ:List TA→List AV→List AV
 | [],_=> []
 |t::ts,cs=>TA.put t (cs.take (TA.tys t).length)::TA.rJ ts (cs.drop (TA.tys t).length)
end
inductive TB where
 |row (e:Nat) (row:List Ty)
 |cells (l:List TA)
 |arr (row:List Ty)
@[reducible] def TB.D:TB→Type
  | .row _ r=>List (Row r)
  | .cells l=>Row (TA.fG l)
  | .arr r=>List (Row r)
@[reducible] def gK:List TB→Type
  | []=>Unit
  |b::bs=>TB.D b×gK bs
def TB.get:(b:TB)→AB→Option (TB.D b)
 | .row e r, .row e' r' l false=>bif Nat.beq e e' then eP r' r l else none
 | .cells ts, .cells cs=>match TA.tj ts cs with
   |some aH=>kp (TA.fG ts) aH
   |none=>none
 | .arr r, .arr r' l=>eP r' r l
 |_,_=>none
def TB.put:(b:TB)→TB.D b→AB
 | .row e r,l=> .row e r l false
 | .cells ts,x=> .cells (TA.rJ ts (fp (TA.fG ts) x))
 | .arr r,l=> .arr r l
def TB.ok:(b:TB)→TB.D b→Prop
 | .row _ r,l=>D.ok (.slice r) l
 | .cells ts,x=>Row.ok (TA.fG ts) x
 | .arr _,_=>True
def gK.get:(bs:List TB)→List AB→Option (gK bs)
 | [],[]=>some ()
 |b::bs,h::hs=>match TB.get b h,gK.get bs hs with
  |some x,some y=>some (x,y)
  |_,_=>none
 |_,_=>none
def gK.put:(bs:List TB)→gK bs→List AB
 | [],_=> []
 |b::bs,x=>TB.put b x.1::gK.put bs x.2
def gK.ok:(bs:List TB)→gK bs→Prop
 | [],_=>True
 |b::bs,x=>TB.ok b x.1∧gK.ok bs x.2
def iX(ts:List TA)(bs:List TB)(F:Row (TA.fG ts)→gK bs→gg):gh:=fun cz hs=>match TA.tj ts cz with
 |some cs=>match kp (TA.fG ts) cs,gK.get bs hs with
  |some x,some y=>some (F x y)
  |_,_=>none
 |none=>none
def Qw(s t:gh):gh:=fun cz hs=>match s cz hs with
 |some r=>some r
 |none=>t cz hs
section
variable {P:Program} {E:Env} {w:World} {A:Nat→Prop} {β:Nat→Value}
theorem Ei {α:Type} {a b:Option (List α)} {c:List α}(h:wF a b=some c):∃x y,a=some x∧b=some y∧c=x++y:=by
 cases a with
 |none=>simp [wF] at h
 |some x=>
  cases b with
  |none=>simp [wF] at h
  |some y=>simp only [wF,Option.some.injEq] at h;exact⟨x,y,rfl,rfl,h.symm⟩
theorem BA {aH bs eW:List AV} {us vs:List Value}(h1:af w A β us aH)(hl:eW.length=(aH++bs).length)(h:af w A β (us++vs) eW):
  af w A β us (eW.take aH.length)∧af w A β vs (eW.drop aH.length):=by
 obtain⟨xo,ws,e,r1,r2⟩:=mD (eW.take aH.length) (eW.drop aH.length) _ (by rw [List.take_append_drop];exact h)
 have hu:xo.length=us.length:=by
  rw [qq _ _ r1,qq _ _ h1,List.length_take];simp at hl;omega
 obtain⟨e1,e2⟩:=List.append_inj e hu.symm;subst e1;subst e2;exact⟨r1,r2⟩
mutual
theorem ac4:∀(t:TA) (a:AV) (cs:List AV) (v:Value),TA.get t a=some cs→aa w A β v a→
  cs.length=(TA.tys t).length∧∃vs,af w A β vs cs∧∀eW,eW.length=cs.length→af w A β vs eW→aa w A β v (TA.put t eW)
 |t,a,cs,v,h,hr=>by
  unfold TA.get at h;split at h
  · simp only [Option.some.injEq] at h;subst h;refine⟨rfl,[v],by simp only [af];exact⟨v,[],rfl,hr,rfl⟩,fun eW hl lE=> ?_⟩;match eW,hl with
    | [c],_=>
      simp only [af] at lE;obtain⟨v',bK,e,r1,r2⟩:=lE;simp only [List.cons.injEq] at e;obtain⟨rfl,rfl⟩:=e;simpa only [TA.put,List.headD] using r1
  · rename_i k k';cases hb:Nat.beq k k' with
    |false=>rw [hb] at h;cases h
    |true=>
     rw [hb] at h;simp only [cond_true,Option.some.injEq] at h;subst h;have :=Nat.eq_of_beq_eq_true hb;subst this;exact⟨rfl,[],by simp [af],fun eW _ _=>by simpa only [TA.put] using hr⟩
  · rename_i k o k' o';cases hb:(Nat.beq k k'&&Nat.beq o o') with
    |false=>rw [hb] at h;cases h
    |true=>
     rw [hb] at h;simp only [cond_true,Option.some.injEq] at h;subst h;simp only [Bool.and_eq_true] at hb;have h1:=Nat.eq_of_beq_eq_true hb.1;have h2:=Nat.eq_of_beq_eq_true hb.2;subst h1;subst h2;exact⟨rfl,[],by simp [af],fun eW _ _=>by simpa only [TA.put] using hr⟩
  · simp only [Option.some.injEq] at h;subst h;exact⟨rfl,[],by simp [af],fun eW _ _=>by simpa only [TA.put] using hr⟩
  · simp only [Option.some.injEq] at h;subst h;exact⟨rfl,[],by simp [af],fun eW _ _=>by simpa only [TA.put] using hr⟩
  · simp only [Option.some.injEq] at h;subst h;exact⟨rfl,[],by simp [af],fun eW _ _=>by simpa only [TA.put] using hr⟩
  · rename_i l ds;simp only [aa] at hr;obtain⟨arr,rfl,hr⟩:=hr;obtain⟨g1,vs,g2,g3⟩:=uJ l ds cs _ h hr;exact⟨g1,vs,g2,fun eW hl lE=>by simp only [TA.put,aa];exact⟨arr,rfl,g3 eW hl lE⟩⟩
  · rename_i f l m f' ds es;split at h
    · rename_i hf;subst hf;obtain⟨x,y,hx,hy,rfl⟩:=Ei h;simp only [aa] at hr;obtain⟨a1,a2,rfl,r1,r2⟩:=hr;obtain⟨g1,us,g2,g3⟩:=uJ l ds x _ hx r1;obtain⟨q1,vs,q2,q3⟩:=uJ m es y _ hy r2;refine⟨by simp [g1,q1],us++vs,jr _ _ _ _ g2 q2,fun eW hl lE=> ?_⟩;obtain⟨p1,p2⟩:=BA g2 hl lE;simp only [TA.put,aa];rw [←g1];refine⟨a1,a2,rfl,g3 _ ?_ p1,q3 _ ?_ p2⟩
      · simp at hl ⊢;omega
      · simp at hl ⊢;omega
    · cases h
  · cases h
theorem uJ:∀(ts:List TA) (aH cs:List AV) (Dg:List Value),TA.tj ts aH=some cs→af w A β Dg aH→
  cs.length=(TA.fG ts).length∧∃vs,af w A β vs cs∧∀eW,eW.length=cs.length→af w A β vs eW→af w A β Dg (TA.rJ ts eW)
 | [],[],cs,Dg,h,hr=>by
   simp only [TA.tj,Option.some.injEq] at h;subst h;exact⟨rfl,[],by simp [af],fun eW _ _=>by simpa only [TA.rJ] using hr⟩
 |t::ts,a::aH,cs,Dg,h,hr=>by
  simp only [TA.tj] at h;obtain⟨x,y,hx,hy,rfl⟩:=Ei h;simp only [af] at hr;obtain⟨v,vs1,rfl,r1,r2⟩:=hr;obtain⟨g1,us,g2,g3⟩:=ac4 t a x v hx r1;obtain⟨q1,vs,q2,q3⟩:=uJ ts aH y vs1 hy r2;refine⟨by simp [g1,q1],us++vs,jr _ _ _ _ g2 q2,fun eW hl lE=> ?_⟩;obtain⟨p1,p2⟩:=BA g2 hl lE;simp only [TA.rJ,af];rw [←g1];refine⟨v,vs1,rfl,g3 _ ?_ p1,q3 _ ?_ p2⟩
  · simp at hl ⊢;omega
  · simp at hl ⊢;omega
 | [],_::_,cs,Dg,h,_=>by simp [TA.tj] at h
 |_::_,[],cs,Dg,h,_=>by simp [TA.tj] at h
end
theorem Aw {ts:List TA} {aH cs:List AV} {Dg:List Value} {x:Row (TA.fG ts)}(h:TA.tj ts aH=some cs)(hx:kp (TA.fG ts) cs=some x)(hr:af w A β Dg aH):
  af w A β Dg (TA.rJ ts (fp (TA.fG ts) x))∧Row.ok (TA.fG ts) x:=by
 obtain⟨g1,vs,g2,g3⟩:=uJ ts aH cs Dg h hr;have hv:=pg _ _ _ _ g2 hx;exact⟨g3 _ (by rw [lL,g1]) (jD _ _ _ hv),zb _ _ _ hv⟩
theorem ac5:∀(b:TB) (ab:AB) (k:Nat) (y:TB.D b),TB.get b ab=some y→BR w A β k ab→BR w A β k (TB.put b y)∧TB.ok b y
 |b,ab,k,y,h,hr=>by
  unfold TB.get at h;split at h
  · rename_i e r e' r' l;cases hb:Nat.beq e e' with
    |false=>rw [hb] at h;cases h
    |true=>
     rw [hb] at h;simp only [cond_true] at h;have :=Nat.eq_of_beq_eq_true hb;subst this;obtain⟨er,hl⟩:=jI h;subst er;subst hl;refine⟨hr,?_⟩;obtain⟨xs,h1,h2,h3⟩:=hr;simp only [TB.ok,D.ok];refine⟨?_,Kf (fun c x hx=>zb _ c x hx) _ xs h2⟩;rcases h1.2 with⟨_,h⟩|⟨g,cap,cur,_,_,_,g4,g5,_⟩
     · omega
     · exact Nat.le_trans g4 g5
  · rename_i ts cs;split at h
    · rename_i aH has;obtain⟨g,arr,e,h1,h2,h3,h4,h5⟩:=hr;obtain⟨q1,q2⟩:=Aw has h h4;exact⟨⟨g,arr,e,h1,h2,h3,q1,h5⟩,q2⟩
    · cases h
  · rename_i r r' l;obtain⟨er,hl⟩:=jI h;subst er;subst hl;exact⟨hr,trivial⟩
  · cases h
theorem Ej:∀(bs:List TB) (hs:List AB) (y:gK bs) (n:Nat),gK.get bs hs=some y→(∀i ab,hs[i]? =some ab→BR w A β (n+i) ab)→
  (gK.put bs y).length=hs.length∧(∀i ab,(gK.put bs y)[i]? =some ab→BR w A β (n+i) ab)∧gK.ok bs y
 | [],[],y,n,_,_=>⟨rfl,fun i ab h=>by simp [gK.put] at h,trivial⟩
 |b::bs,h::hs,y,n,hg,hr=>by
  simp only [gK.get] at hg;split at hg
  · rename_i x z hx hz;simp only [Option.some.injEq] at hg;subst hg;obtain⟨g1,g2⟩:=ac5 b h n x hx (hr 0 h rfl)
    obtain⟨q1,q2,q3⟩:=Ej bs hs z (n+1) hz fun i ab hi=>by
     have :=hr (i+1) ab (by simpa using hi);rwa [show n+(i+1)=n+1+i by omega] at this
    refine⟨by simp [gK.put,q1],fun i ab hi=> ?_,g2,q3⟩;cases i with
    |zero=>simp only [gK.put,List.getElem?_cons_zero,Option.some.injEq] at hi;subst hi;exact g1
    |succ i=>
     have :=q2 i ab (by simpa [gK.put] using hi);rwa [show n+1+i=n+(i+1) by omega] at this
  · cases hg
 | [],_::_,y,n,h,_=>by simp [gK.get] at h
 |_::_,[],y,n,h,_=>by simp [gK.get] at h
theorem Qx:∀(bs:List TB) (y:gK bs),∀ab∈gK.put bs y,sK ab=true
 | [],_,ab,h=>by simp [gK.put] at h
 |b::bs,y,ab,h=>by
  simp only [gK.put,List.mem_cons] at h;rcases h with rfl|h
  · cases b<;>rfl
  · exact Qx bs y.2 ab h
theorem fa(hE:ai P E)(hm:P.follows .mixedOrders=true) {f:FuncId} {fn:Func} {c:Code}(ts:List TA)(bs:List TB) {F:Row (TA.fG ts)→gK bs→gg}
  (L:Row (TA.fG ts)→gK bs→Nat→Option an) (hf:P.funcs[f]? =some fn) (hb:fn.body=some c)
  (h:∀x y,(F x y).pre→Row.ok (TA.fG ts) x→gK.ok bs y→OF E (L x y) c fn.ntmps fn.results.toList (TA.rJ ts (fp (TA.fG ts) x)) (gK.put bs y) (F x y)):cH P E.lI f (iX ts bs F):=by
 intro w A β args cz hs r hA hG bw fY Cn n0 hp hlen Eh;unfold iX at n0;split at n0
 · rename_i cs dc;split at n0
   · rename_i x y hx hy;simp only [Option.some.injEq] at n0;obtain⟨g1,g2⟩:=Aw dc hx bw;obtain⟨q1,q2,q3⟩:=Ej bs hs y 50000 hy fY
     have hv:cH P E.lI f (fun Hm gX=>open Classical in if Hm=TA.rJ ts (fp (TA.fG ts) x)∧gX=gK.put bs y then some (F x y) else none):=by
      refine GN hE hm (fun _ _=>L x y) hf hb (fun Hm gX r' Ek=> ?_) fun Hm gX r' Ek tx=> ?_
      · split at Ek
        · rename_i e;obtain⟨_,rfl⟩:=e;exact Qx bs y
        · cases Ek
      · split at Ek
        · rename_i e;obtain⟨rfl,rfl⟩:=e;simp only [Option.some.injEq] at Ek;subst Ek;exact h x y tx g2 q3
        · cases Ek
     have :=hv w A β args _ _ r hA hG g1 q2 (fun i j b hi hj=>Cn i j b (by rw [←q1];exact hi) (by rw [←q1];exact hj)) (by simp only [and_self,if_true,n0]) hp (by rw [q1];exact hlen) (by rw [q1];exact Eh);rwa [q1] at this
   · cases n0
 · cases n0
theorem cH.or {G:Nat→Option GD} {f:FuncId} {s t:gh}(h1:cH P G f s)(h2:cH P G f t):cH P G f (Qw s t):=by
 intro w A β args cz hs r hA hG bw fY Cn n0 hp hlen Eh;unfold Qw at n0;split at n0
 · rename_i r' lE;simp only [Option.some.injEq] at n0;subst n0;exact h1 w A β args cz hs _ hA hG bw fY Cn lE hp hlen Eh
 · exact h2 w A β args cz hs r hA hG bw fY Cn n0 hp hlen Eh
def Env.gm(f:Nat)(m:List Bool)(s:gh)(E:Env):Env:= {E with oh:=fun g=>bif Nat.beq g f then some (m,s) else E.oh g}
theorem ai.gm(hE:ai P E) {f:FuncId} {m:List Bool} {s:gh}(h:cH P E.lI f s)(hf:aD P f):ai P (E.gm f m s):=by
 refine⟨hE.fK,hE.sig,fun g m' t hg=> ?_⟩;simp only [Env.gm] at hg;cases hb:Nat.beq g f with
 |true=>
  rw [hb] at hg;simp only [cond_true,Option.some.injEq,Prod.mk.injEq] at hg;have :=Nat.eq_of_beq_eq_true hb;obtain⟨_,rfl⟩:=hg;subst this;exact⟨h,hf⟩
 |false=>
  rw [hb] at hg;exact hE.oh g m' t hg
end
end Go.Vg

end
section
namespace Go.S
def len {α:Type}(l:List α):Nat:=l.length
def ah(m n:Nat):Nat:=m-n
def eb {α:Type}(l:List α)(n:Nat):Prop :=n≤l.length
def oE(n m:Nat):Prop :=n≤m
def kP {α:Type}(l:List α):Int:=l.length
def small {α:Type}(l:List α):Prop :=l.length≤1099511627776
theorem lS(n:Int)(k:Nat)(h:0≤n):Vg.bh n ((2:Int)^k-1)=n%2^k:=by
 obtain⟨m,rfl⟩:=Int.eq_ofNat_of_zero_le h
 have h1:((2:Int)^k-1).toNat=2^k-1:=by
  have :(1:Nat)≤2^k:=Nat.one_le_two_pow;have e:((2:Int)^k-1)=((2^k-1:Nat):Int):=by rw [Int.natCast_sub this];simp
  rw [e];rfl
 simp only [Vg.bh,Int.toNat_natCast,h1,Nat.and_two_pow_sub_one_eq_mod];rw [Int.natCast_emod];simp
theorem UP(n:Int)(h:0≤n):Vg.bh n 7=n%8:=by simpa using lS n 3 h
theorem OG(n:Int)(h:0≤n):Vg.bh n 15=n%16:=by simpa using lS n 4 h
theorem OH(n:Int)(h:0≤n):Vg.bh n 31=n%32:=by simpa using lS n 5 h
theorem El(n:Int)(h:0≤n):Vg.bh n 63=n%64:=by simpa using lS n 6 h
theorem gM(n:Int)(h:0≤n):Vg.bh n 127=n%128:=by simpa using lS n 7 h
theorem iY(a b:Int)(k:Nat)(ha:0≤a)(h0:0≤b)(h:b<2^k):Vg.cI (a*2^k) b=a*2^k+b:=by
 obtain⟨m,rfl⟩:=Int.eq_ofNat_of_zero_le ha;obtain⟨n,rfl⟩:=Int.eq_ofNat_of_zero_le h0
 have h1:((m:Int)*2^k).toNat=m*2^k:=by
  rw [show((m:Int)*2^k)=((m*2^k:Nat):Int) by simp];rfl
 have h2:n<2^k:=by exact_mod_cast h
 simp only [Vg.cI,h1,Int.toNat_natCast];rw [Nat.mul_comm,←Nat.two_pow_add_eq_or_of_lt h2];simp [Int.mul_comm]
theorem uK(a b:Int):Vg.cI a b=Vg.cI b a:=by simp only [Vg.cI,Nat.or_comm]
theorem Em(n:Int)(h:0≤n)(h1:n<128):Vg.cI n 128=n+128:=by
 rw [uK,show(128:Int)=1*2^7 by rfl,iY 1 n 7 (by omega) h h1];omega
theorem GO {α:Type}(p:α→Bool)(l:List α):(l.takeWhile p).length≤l.length:=by
 induction l with
 |nil=>simp
 |cons x l ih=>simp only [List.takeWhile_cons];split<;>simp<;>omega
end Go.S

end
section
namespace Go.S
abbrev H8:=Int×Int×Int×Int×Int×Int×Int×Int
def right(x n:Int):Int:=(x/2^n.toNat+x*2^(32-n).toNat%4294967296)%4294967296
def CI(p:List UInt8)(i:Nat):Int:=(p.getD i 0).toNat
def word(p:List UInt8)(i:Nat):Int:=CI p (4*i)*16777216+CI p (4*i+1)*65536+CI p (4*i+2)*256+CI p (4*i+3)
def ase(x:Int):Int:=Vg.k7 (Vg.k7 (right x 7) (right x 18)) (x/2^Int.toNat 3)
def asf(y:Int):Int:=Vg.k7 (Vg.k7 (right y 17) (right y 19)) (y/2^Int.toNat 10)
def ajW(w:List Int)(n:Nat):Int:=(((w.getD (n-16) 0+ase (w.getD (n-15) 0))%4294967296+w.getD (n-7) 0)%4294967296+asf (w.getD (n-2) 0))%4294967296
def ac6(p:List UInt8)(w:List Int)(n:Nat):Int:=if n<16 then word p n else ajW w n
def sched(p:List UInt8):Nat→List Int
 |0=> []
 |n+1=>sched p n++ [ac6 p (sched p n) n]
def asg:List Int:= [1116352408,1899447441,3049323471,3921009573,961987163,1508970993,2453635748,2870763221,3624381080,310598401,607225278,1426881987,1925078388,2162078206,2614888103,3248222580,3835390401,4022224774,264347078,604807628,770255983,1249150122,1555081692,1996064986,2554220882,2821834349,2952996808,3210313671,3336571891,3584528711,113926993,338241895,666307205,773529912,1294757372,1396182291,1695183700,1986661051,2177026350,2456956037,2730485921,2820302411,3259730800,3345764771,3516065817,3600352804,4094571909,275423344,430227734,506948616,659060556,883997877,958139571,1322822218,1537002063,1747873779,1955562222,2024104815,2227730452,2361852424,2428436474,2756734187,3204031479,3329325298]
def H0:H8:=(1779033703,3144134277,1013904242,2773480762,1359893119,2600822924,528734635,1541459225)
def ash(a:Int):Int:=Vg.k7 (Vg.k7 (right a 2) (right a 13)) (right a 22)
def asi(e:Int):Int:=Vg.k7 (Vg.k7 (right e 6) (right e 11)) (right e 25)
def ch(e f g:Int):Int:=Vg.k7 (Vg.bh e f) (Vg.bh (4294967296-1-e) g)
def maj(a b c:Int):Int:=Vg.k7 (Vg.k7 (Vg.bh a b) (Vg.bh a c)) (Vg.bh b c)
def one(k w e f g h:Int):Int:=((((h+asi e)%4294967296+ch e f g)%4294967296+k)%4294967296+w)%4294967296
def two(a b c:Int):Int:=(ash a+maj a b c)%4294967296
def rnd(k w:Int)(s:H8):H8:=((one k w s.2.2.2.2.1 s.2.2.2.2.2.1 s.2.2.2.2.2.2.1 s.2.2.2.2.2.2.2+two s.1 s.2.1 s.2.2.1)%4294967296,s.1,s.2.1,s.2.2.1,
 (s.2.2.2.1+one k w s.2.2.2.2.1 s.2.2.2.2.2.1 s.2.2.2.2.2.2.1 s.2.2.2.2.2.2.2)%4294967296,s.2.2.2.2.1,s.2.2.2.2.2.1,s.2.2.2.2.2.2.1)
def ah4(w:List Int)(s:H8):Nat→H8
 |0=>s
 |n+1=>rnd (asg.getD n 0) (w.getD n 0) (ah4 w s n)
def asj(s t:H8):H8:=((s.1+t.1)%4294967296,(s.2.1+t.2.1)%4294967296,(s.2.2.1+t.2.2.1)%4294967296,(s.2.2.2.1+t.2.2.2.1)%4294967296,
 (s.2.2.2.2.1+t.2.2.2.2.1)%4294967296,(s.2.2.2.2.2.1+t.2.2.2.2.2.1)%4294967296,(s.2.2.2.2.2.2.1+t.2.2.2.2.2.2.1)%4294967296,(s.2.2.2.2.2.2.2+t.2.2.2.2.2.2.2)%4294967296)
def block(s:H8)(p:List UInt8):H8:=asj s (ah4 (sched p 64) s 64)
def proc(s:H8)(b:List UInt8):Nat→H8
 |0=>s
 |n+1=>block (proc s b n) ((b.drop (64*n)).take 64)
def ajX(s:H8):List Int:= [s.1,s.2.1,s.2.2.1,s.2.2.2.1,s.2.2.2.2.1,s.2.2.2.2.2.1,s.2.2.2.2.2.2.1,s.2.2.2.2.2.2.2]
def b32(w:Int):List UInt8:= [UInt8.ofNat (w/16777216%256).toNat,UInt8.ofNat (w/65536%256).toNat,UInt8.ofNat (w/256%256).toNat,UInt8.ofNat (w%256).toNat]
def asl(s:H8)(n:Nat):List UInt8:=((ajX s).take n).flatMap b32
def dig(s:H8):List UInt8:=asl s 8
def asm(n:Nat):Nat:=(119-n%64)%64
def len8(n:Int)(k:Nat):List UInt8:=(List.range k).map fun i=>UInt8.ofNat (n/2^(56-8*i)%256).toNat
def ajY(rest:List UInt8)(k:Nat):List UInt8:=rest++ [128]++List.replicate k 0
def ajZ(rest:List UInt8)(n:Int)(k:Nat):List UInt8:=ajY rest (asm rest.length)++len8 (n*8) k
def tail(rest:List UInt8)(n:Int):List UInt8:=ajZ rest n 8
def blocks(b:List UInt8):Nat:=b.length/64
def Xc(s:H8)(b:List UInt8):H8:=proc s b (blocks b)
def sum(b:List UInt8):List UInt8:=dig (Xc H0 (tail b b.length))
end Go.S
namespace Go.S
end Go.S
namespace Go.S
end Go.S
namespace Go.S
end Go.S
namespace Go.S
end Go.S

end
section
namespace Go.S
def mh:Nat→Nat→List UInt8
 |0,_=> []
 |f+1,v=>if v<128 then [UInt8.ofNat v] else UInt8.ofNat (v%128+128)::mh f (v/128)
def num(v:Int):List UInt8:=mh 9 v.toNat
def text(s:List UInt8):List UInt8:=num s.length++s
def du(v:Int):Bool:=decide (v<0) || decide (4611686018427387904<v)
def jg(b:List UInt8)(v:Int):List UInt8:=if du v then [] else b++num v
def iz(v:Int):Int:=if du v then 1 else 0
def oF(l:List UInt8)(v:Int)(m:List UInt8)(u:Int):Prop :=0≤u∧u≤v∧m++num u=l++num v
def zf(l:List UInt8)(v:Int):Prop :=0≤v∧l.length≤70368744177664
def lT(l s:List UInt8):Prop :=l.length≤35184372088832∧s.length≤35184372088832
def lead(b:List UInt8):Nat:=(b.takeWhile fun x=>decide (128≤x.toNat)).length
def cK:List UInt8→Nat
 | []=>0
 |x::l=>x.toNat%128+128*cK l
def first(b:List UInt8):Int×Int×Int:=
 if 9≤lead b then(0,0,2)
 else if lead b=b.length then(0,0,4)
 else if cK (b.take (lead b+1))>4611686018427387904∨num (cK (b.take (lead b+1)))≠b.take (lead b+1) then(0,0,2)
 else(cK (b.take (lead b+1)),lead b+1,0)
def dE(b:List UInt8)(at':Int):Prop :=0≤at'∧at'≤b.length
def BB(at':Int)(x:Int×Int×Int):Int×Int×Int:=(x.1,if x.2.2=0 then at'+x.2.1 else 0,x.2.2)
def aK(b:List UInt8)(at':Int):Int×Int×Int:=BB at' (first (b.drop at'.toNat))
def bW(b:List UInt8)(p cb:Int):List UInt8×Int×Int:=
 if(aK b p).2.2≠0 then([],0,(aK b p).2.2)
 else if cb<(aK b p).1 then([],0,2)
 else if(b.length:Int)-(aK b p).2.1<(aK b p).1 then([],0,4)
 else((b.take ((aK b p).2.1+(aK b p).1).toNat).drop (aK b p).2.1.toNat,(aK b p).2.1+(aK b p).1,0)
def inside(b:List UInt8)(a:Int):Bool:=decide (0≤a)&&decide (a≤b.length)
def cW(b:List UInt8)(a e:Int):Int:=if e=0∧inside b a=false then 1 else e
abbrev Rd:=List UInt8×Int×Int
def bm(b:List UInt8)(a e cb:Int):Rd×List UInt8:=
 if cW b a e≠0 then((b,a,cW b a e),[])
 else if(bW b a cb).2.2≠0 then((b,a,(bW b a cb).2.2),[])
 else((b,(bW b a cb).2.1,0),(bW b a cb).1)
def al(b:List UInt8)(a e:Int):Rd×Int:=
 if cW b a e≠0 then((b,a,cW b a e),0)
 else if(aK b a).2.2≠0 then((b,a,(aK b a).2.2),0)
 else((b,(aK b a).2.1,0),(aK b a).1)
def BC(b:List UInt8)(a e:Int):Rd×List UInt8:=
 if cW b a e≠0 then((b,a,cW b a e),[])
 else if(b.length:Int)-a<32 then((b,a,4),[])
 else((b,a+32,0),(b.drop a.toNat).take 32)
def done(b:List UInt8)(a e:Int):Int:=if e≠0 then e else if inside b a=false then 1 else if a<b.length then 2 else 0
def gN(b:List UInt8)(a:Int)(n:Nat):Prop :=n≤9∧a+n≤b.length∧∀x∈(b.drop a.toNat).take n,128≤x.toNat
def eF(b:List UInt8)(a:Int)(n:Nat):Int:=(cK ((b.drop a.toNat).take n):Int)
def zg(b:List UInt8)(n:Nat):Prop :=n≤9∧n≤b.length∧∀x∈b.take n,128≤x.toNat
theorem Ax:∀(f v:Nat),(mh f v).length≤f
 |0,_=>by simp [mh]
 |f+1,v=>by
  have :=Ax f (v/128);simp only [mh];split<;>simp<;>omega
theorem eR(v:Int):(num v).length≤9:=Ax 9 _
theorem En:∀(f g v:Nat),v<128^f→1≤f→f≤g→mh g v=mh f v
 |0,g,v,_,h,_=>by omega
 |f+1,0,v,_,_,h=>by omega
 |f+1,g+1,v,h,_,hg=>by
  simp only [mh];split
  · rfl
  · rename_i hv;by_cases hf:f=0
    · subst hf;simp at h;omega
    · rw [En f g (v/128) (by rw [Nat.pow_succ] at h;omega) (by omega) (by omega)]
theorem Qy(v:Int)(h:v<128):num v= [UInt8.ofNat v.toNat]:=by
 simp only [num,mh];rw [if_pos (by omega)]
theorem Qz(v:Int)(h:128≤v)(h1:v≤9223372036854775807):num v=UInt8.ofNat (v%128+128).toNat::num (v/128):=by
 simp only [num];rw [mh,if_neg (by omega)];have e:(v/128).toNat=v.toNat/128:=by omega
 rw [e,En 8 9 (v.toNat/128) (by omega) (by omega) (by omega)];congr 2;omega
theorem BD:∀(l:List UInt8) (h:l≠ []),cK l=0→(l.getLast h).toNat<128→(l.getLast h).toNat=0
 | [x],_,h,hx=>by simp [cK] at h hx ⊢;omega
 |x::y::l,_,h,hx=>by
  simp only [cK] at h;rw [List.getLast_cons (by simp)] at hx ⊢;exact BD (y::l) (by simp) (by simp only [cK];omega) hx
theorem Hp:∀(f:Nat) (l:List UInt8) (h:l≠ []),l.length≤f→(∀x∈l.dropLast,128≤x.toNat)→(l.getLast h).toNat<128→(mh f (cK l)=l↔(l.length=1∨(l.getLast h).toNat≠0))
 |0,l,h,hl,_,_=>by
  have :l.length=0:=by omega
  exact absurd (List.eq_nil_of_length_eq_zero this) h
 |f+1,[x],_,_,_,hx=>by
  simp only [List.getLast_singleton] at hx;have hv:cK [x]=x.toNat:=by simp only [cK];omega
  rw [mh,hv,if_pos hx];simp
 |f+1,x::y::l,_,hl,hd,hx=>by
  rw [List.getLast_cons (by simp)] at hx ⊢;have Ca:128≤x.toNat:=hd x (by simp);have hx2:=x.toNat_lt;have ih:=Hp f (y::l) (by simp) (by simpa using hl) (fun z hz=>hd z (by simp only [List.dropLast_cons_cons,List.mem_cons];exact .inr hz)) hx;have e:cK (x::y::l)=x.toNat%128+128*cK (y::l):=rfl;rw [mh,e];by_cases hV:cK (y::l)=0
  · have h0:=BD (y::l) (by simp) hV hx;rw [hV,if_pos (by omega)];simp [h0]
  · rw [if_neg (by omega)];have e1:(x.toNat%128+128*cK (y::l))%128+128=x.toNat:=by omega
    have e2:(x.toNat%128+128*cK (y::l))/128=cK (y::l):=by omega
    rw [e1,e2,UInt8.ofNat_toNat];simp only [List.cons.injEq,true_and,ih];constructor
    · rintro(h|h)
      · refine .inr fun h0=> ?_;have :l= []:=by simpa using h
        subst this;simp [cK] at hV h0;omega
      · exact .inr h
    · rintro(h|h)
      · simp at h
      · exact .inr h
theorem Ay:∀(l:List UInt8),cK l<128^l.length
 | []=>by simp [cK]
 |x::l=>by
  have :=Ay l;simp only [cK,List.length_cons,Nat.pow_succ];omega
theorem wY:∀(l m:List UInt8),cK (l++m)=cK l+128^l.length*cK m
 | [],m=>by simp [cK]
 |x::l,m=>by
  simp only [List.cons_append,cK,wY l m,List.length_cons,Nat.pow_succ];rw [Nat.mul_add,←Nat.mul_assoc,Nat.mul_comm 128 (128^l.length)];omega
theorem L8(b:List UInt8)(n:Nat)(h:∀x∈b.take n,128≤x.toNat)(hn:n≤b.length)(he:n=b.length∨(b.getD n 0).toNat<128):lead b=n:=by
 induction b generalizing n with
 |nil=>simp at hn;subst hn;rfl
 |cons x b ih=>
  cases n with
  |zero=>
   rcases he with he|he
   · simp at he
   · simp only [List.getD_cons_zero] at he;simp only [lead,List.takeWhile_cons];rw [if_neg (by simp;omega)];rfl
  |succ n=>
   have hx:=h x (by simp);have :=ih n (fun y hy=>h y (by simp [hy])) (by simpa using hn) (by simpa using he);simp only [lead,List.takeWhile_cons] at this ⊢;rw [if_pos (by simpa using hx),List.length_cons,this]
theorem Xd(b:List UInt8)(n:Nat)(h:∀x∈b.take n,128≤x.toNat)(hn:n≤b.length):n≤lead b:=by
 induction b generalizing n with
 |nil=>simp at hn;omega
 |cons x b ih=>
  cases n with
  |zero=>omega
  |succ n=>
   have hx:=h x (by simp);have :=ih n (fun y hy=>h y (by simp [hy])) (by simpa using hn);simp only [lead,List.takeWhile_cons] at this ⊢;rw [if_pos (by simpa using hx),List.length_cons];omega
theorem OI(b:List UInt8)(n:Nat)(hn:n<b.length):∃h,(b.take (n+1)).getLast h=b.getD n 0:=by
 refine⟨by intro h;have :=congrArg List.length h;rw [List.length_take,List.length_nil] at this;omega,?_⟩;rw [List.getLast_eq_getElem];simp only [List.length_take,List.getElem_take];rw [List.getD_eq_getElem?_getD,List.getElem?_eq_getElem hn,Option.getD_some];congr 1;omega
theorem Hq(b:List UInt8)(n:Nat)(h:∀x∈b.take n,128≤x.toNat)(hn:n<b.length)(h9:n<9)(he:(b.getD n 0).toNat<128):
  first b=if((1≤n∧(b.getD n 0).toNat=0)∨cK (b.take (n+1))>4611686018427387904) then(0,0,2) else((cK (b.take (n+1)):Int),(n:Int)+1,0):=by
 have hl:=L8 b n h (by omega) (.inr he);obtain⟨dD,JZ⟩:=OI b n hn;have hlen:(b.take (n+1)).length=n+1:=by rw [List.length_take];omega
 have hc:=Hp 9 (b.take (n+1)) dD (by omega) (by
  intro x hx;rw [List.dropLast_eq_take,hlen,List.take_take] at hx;exact h x (by rwa [show min (n+1-1) (n+1)=n by omega] at hx)) (by rw [JZ];exact he)
 simp only [first,hl,num,Int.toNat_natCast];rw [if_neg (by omega),if_neg (by omega)];rw [JZ,hlen] at hc
 have e:((cK (b.take (n+1))>4611686018427387904∨¬mh 9 (cK (b.take (n+1)))=b.take (n+1))↔((1≤n∧(b.getD n 0).toNat=0)∨cK (b.take (n+1))>4611686018427387904)):=by
  rw [hc];constructor
  · rintro(h|h)
    · exact .inr h
    · by_cases h0:1≤n∧(b.getD n 0).toNat=0
      · exact .inl h0
      · exact absurd (by omega) h
  · rintro(h|h)
    · exact .inr (by omega)
    · exact .inl h
 simp only [ne_eq,e]
theorem Xe(b:List UInt8)(h:∀x∈b.take 9,128≤x.toNat)(hn:9≤b.length):first b=(0,0,2):=by
 have :=Xd b 9 h hn;simp only [first];rw [if_pos this]
theorem OJ(b:List UInt8)(n:Nat)(h:∀x∈b.take n,128≤x.toNat)(hn:n=b.length)(h9:n<9):first b=(0,0,4):=by
 have :=L8 b n h (by omega) (.inl hn);simp only [first];rw [if_neg (by omega),if_pos (by omega)]
theorem vX(b:List UInt8):0≤(first b).1∧(first b).1≤4611686018427387904∧0≤(first b).2.1∧(first b).2.1≤b.length∧((first b).2.2=0∨(first b).2.2=2∨(first b).2.2=4):=by
 have hl:=GO (fun x:UInt8=>decide (128≤x.toNat)) b;unfold first
 split
 · simp
 · split
   · simp
   · split
     · simp
     · simp only [lead,not_or,Nat.not_lt] at *;simp only [true_or,and_true];omega
theorem UQ {b:List UInt8} {x:Nat}(h:zg b x)(h1:x<b.length)(h2:x<9)(h3:128≤(b.getD x 0).toNat):zg b (x+1):=by
 refine⟨by omega,by omega,fun y hy=> ?_⟩;rw [aw b x 0 h1] at hy;rcases List.mem_append.1 hy with hy|hy
 · exact h.2.2 y hy
 · simp only [List.mem_singleton] at hy;subst hy;exact h3
theorem aj0 {b:List UInt8}(h:zg b 9):first b=(0,0,2):=Xe b h.2.2 h.2.1
theorem Xf {b:List UInt8} {x:Nat}(h:zg b x)(h1:x=b.length)(h2:x≠9):first b=(0,0,4):=OJ b x h.2.2 h1 (by have :=h.1;omega)
theorem asn {b:List UInt8} {p:Int}(h:dE b p):gN b p 0:=by simp only [dE] at h;simp [gN];omega
theorem fb {b:List UInt8} {p:Int} {x:Nat}(h:gN b p x):x≤9∧p+x≤b.length:=⟨h.1,h.2.1⟩
theorem vY(b:List UInt8)(p:Int)(x:Nat)(hp:0≤p):(b.drop p.toNat).getD x 0=b.getD (p+x).toNat 0:=by
 simp only [List.getD_eq_getElem?_getD,List.getElem?_drop];congr 2;omega
theorem Eo {b:List UInt8} {p:Int} {x:Nat}(hp:dE b p)(h:gN b p x):zg (b.drop p.toNat) x:=by
 simp only [dE] at hp;exact⟨h.1,by rw [List.length_drop];have :=h.2.1;omega,h.2.2⟩
theorem UR {b:List UInt8} {p:Int} {x:Nat}(hp:dE b p)(h:gN b p x)(h1:p+x<b.length)(h2:x≠9)(h3:128≤(b.getD (p+x).toNat 0).toNat):gN b p (x+1):=by
 have tx:=hp;simp only [dE] at tx;have :=UQ (Eo hp h) (by rw [List.length_drop];omega) (by have :=h.1;omega) (by rw [vY _ _ _ tx.1];exact h3);exact⟨this.1,by omega,this.2.2⟩
theorem Xg {b:List UInt8} {p:Int}(hp:dE b p)(h:gN b p 9):aK b p=(0,0,2):=by
 simp [aK,aj0 (Eo hp h),BB]
theorem L9 {b:List UInt8} {p:Int} {x:Nat}(hp:dE b p)(h:gN b p x)(h1:(x:Int)=b.length-p)(h2:x≠9):aK b p=(0,0,4):=by
 have tx:=hp;simp only [dE] at tx;have :=Xf (Eo hp h) (by rw [List.length_drop];omega) h2;simp [aK,this,BB]
theorem QA {b:List UInt8} {p:Int} {x:Nat}(hp:dE b p)(h:gN b p x)(h1:p+x<b.length):
  Vg.cI (eF b p x) (Vg.bh ((b.getD (p+x).toNat 0).toNat:Int) 127*2^(7*(x:Int)).toNat)=eF b p (x+1):=by
 have tx:=hp;simp only [dE] at tx;have hx:x<(b.drop p.toNat).length:=by rw [List.length_drop];omega
 rw [gM _ (by omega),uK,iY _ _ _ (by omega) (by simp [eF])]
 · simp only [eF];rw [aw _ x 0 hx,wY,vY _ _ _ tx.1,List.length_take,Nat.min_eq_left (by omega)];simp only [cK,show(7*(x:Int)).toNat=7*x by omega,Nat.mul_zero,Nat.add_zero];rw [Int.natCast_add,Int.natCast_mul,Int.natCast_pow,Int.natCast_emod];rw [show((128:Nat):Int)=2^7 by rfl,←Int.pow_mul,Int.mul_comm (2^(7*x)),Int.add_comm];rfl
 · simp only [eF,show(7*(x:Int)).toNat=7*x by omega];have :=Ay ((b.drop p.toNat).take x);have e:(128:Nat)^((b.drop p.toNat).take x).length≤128^x:=Nat.pow_le_pow_right (by omega) (by rw [List.length_take];omega);have e2:((2:Int)^(7*x))=((128^x:Nat):Int):=by rw [Int.natCast_pow,show((128:Nat):Int)=2^7 by rfl,←Int.pow_mul]
   rw [e2];omega
theorem aso(b:List UInt8)(p:Int):eF b p 0=0:=by simp [eF,cK]
theorem vZ {b:List UInt8} {p:Int} {x:Nat}(h:x≤9):0≤eF b p x∧eF b p x≤9223372036854775807:=by
 have :=Ay ((b.drop p.toNat).take x);have e:(128:Nat)^((b.drop p.toNat).take x).length≤128^9:=Nat.pow_le_pow_right (by omega) (by rw [List.length_take];omega);simp only [eF];omega
theorem sO(c:Int)(x:Nat)(h0:0≤c)(h1:c≤127)(hx:x≤8):0≤c*2^(7*(x:Int)).toNat∧c*2^(7*(x:Int)).toNat≤9223372036854775807:=by
 have n3:(2:Nat)^(7*(x:Int)).toNat≤2^56:=Nat.pow_le_pow_right (by omega) (by omega);have e:(2:Int)^(7*(x:Int)).toNat=((2^(7*(x:Int)).toNat:Nat):Int):=by simp
 have hp:(2:Int)^(7*(x:Int)).toNat≤72057594037927936:=by rw [e];omega
 have hq:(0:Int)<2^(7*(x:Int)).toNat:=Int.pow_pos (by omega);constructor
 · exact Int.mul_nonneg h0 (by omega)
 · have :=Int.mul_le_mul h1 hp (by omega) (by omega);omega
theorem Xh {b:List UInt8} {p:Int} {x:Nat}(hp:dE b p)(h:gN b p x)(h1:p+x<b.length)(h2:x≠9)(h3:(b.getD (p+x).toNat 0).toNat<128):
  aK b p=if((1≤x∧(b.getD (p+x).toNat 0).toNat=0)∨eF b p (x+1)>4611686018427387904) then(0,0,2) else(eF b p (x+1),p+(x+1),0):=by
 have tx:=hp;simp only [dE] at tx;have :=Hq (b.drop p.toNat) x h.2.2 (by rw [List.length_drop];omega) (by have :=h.1;omega) (by rw [vY _ _ _ tx.1];exact h3);rw [vY _ _ _ tx.1] at this;simp only [aK,this,eF];have e:(cK ((b.drop p.toNat).take (x+1))>4611686018427387904)↔((cK ((b.drop p.toNat).take (x+1)):Int)>4611686018427387904):=by omega
 simp only [e];rw [apply_ite (BB p)];rfl
theorem zh(v:Int):1≤(num v).length:=by
 simp only [num,mh];split<;>simp
theorem uM {l m:List UInt8} {v u:Int}(h:oF l v m u):m.length+1≤l.length+9:=by
 have :=congrArg List.length h.2.2;have h1:=eR v;have h2:=zh u;simp only [List.length_append] at this;omega
theorem US {l m:List UInt8} {v u:Int}(h:oF l v m u)(h1:127<u)(h2:v≤9223372036854775807):
  oF l v (m++ [UInt8.ofNat (Vg.cI (Vg.bh u 127%256) 128).toNat]) (u/2^(7:Int).toNat):=by
 have h4:=h.2.1;have e:=Qz u (by omega) (by omega)
 have e2:Vg.cI (Vg.bh u 127%256) 128=u%128+128:=by
  rw [gM _ (by omega),Em _ (by omega) (by omega)];omega
 have h3:=h.2.2;rw [e] at h3;refine⟨by simp;omega,by simp;omega,?_⟩;rw [e2,List.append_assoc,←h3];rfl
theorem Xi {l m:List UInt8} {v u:Int}(h:oF l v m u)(h1:¬127<u):m++ [UInt8.ofNat (u%256).toNat]=l++num v:=by
 have e:=Qy u (by omega);rw [←h.2.2,e];have :=h.1;rw [show u%256=u by omega]
theorem zi {l m:List UInt8} {v u:Int}(h:oF l v m u):0≤u:=h.1
theorem aj1(x:Int)(h:0≤x)(P Q:Prop) [Decidable P] [Decidable Q]:((bif decide (1<x+1) then bif decide P then true else decide Q else decide Q)=true)↔((1≤x∧P)∨Q):=by
 by_cases h1:1<x+1<;>by_cases h2:P<;>by_cases h3:Q<;>simp [h1,h2,h3]<;>omega
theorem Ma {b:List UInt8} {p:Int} {x:Nat}(hp:dE b p)(h:gN b p x)(h1:p+x<b.length)(h2:x≠9)(h3:(b.getD (p+x).toNat 0).toNat<128) {c:Bool}
  (hc:(bif decide (1<(x:Int)+1) then bif decide (((b.getD (p+((x:Int)+1)-1).toNat 0).toNat:Int)=0) then true else decide (4611686018427387904<Vg.cI (eF b p x) (Vg.bh ((b.getD (p+x).toNat 0).toNat:Int) 127*2^(7*(x:Int)).toNat)) else decide (4611686018427387904<Vg.cI (eF b p x) (Vg.bh ((b.getD (p+x).toNat 0).toNat:Int) 127*2^(7*(x:Int)).toNat)))=c):
  aK b p=if c=true then(0,0,2) else(Vg.cI (eF b p x) (Vg.bh ((b.getD (p+x).toNat 0).toNat:Int) 127*2^(7*(x:Int)).toNat),p+(x+1),0):=by
 have hf:=Xh hp h h1 h2 h3;rw [←hc,hf];rw [QA hp h h1,show p+((x:Int)+1)-1=p+x by omega];simp only [aj1 _ (by omega :0≤(x:Int))];have e:(1≤x∧(b.getD (p+x).toNat 0).toNat=0)↔(1≤(x:Int)∧((b.getD (p+x).toNat 0).toNat:Int)=0):=by omega
 simp only [e,gt_iff_lt]
theorem Az {b:List UInt8} {p:Int} {x:Nat}(hp:dE b p)(h:gN b p x)(h1:p+x<b.length)(h2:x≠9)(h3:(b.getD (p+x).toNat 0).toNat<128)
  (hc:(bif decide (1<(x:Int)+1) then bif decide (((b.getD (p+((x:Int)+1)-1).toNat 0).toNat:Int)=0) then true else decide (4611686018427387904<Vg.cI (eF b p x) (Vg.bh ((b.getD (p+x).toNat 0).toNat:Int) 127*2^(7*(x:Int)).toNat)) else decide (4611686018427387904<Vg.cI (eF b p x) (Vg.bh ((b.getD (p+x).toNat 0).toNat:Int) 127*2^(7*(x:Int)).toNat)))=true):
  0=(aK b p).1∧0=(aK b p).2.1∧2=(aK b p).2.2:=by
 rw [Ma hp h h1 h2 h3 hc];exact⟨rfl,rfl,rfl⟩
theorem AA {b:List UInt8} {p:Int} {x:Nat}(hp:dE b p)(h:gN b p x)(h1:p+x<b.length)(h2:x≠9)(h3:(b.getD (p+x).toNat 0).toNat<128)
  (hc:(bif decide (1<(x:Int)+1) then bif decide (((b.getD (p+((x:Int)+1)-1).toNat 0).toNat:Int)=0) then true else decide (4611686018427387904<Vg.cI (eF b p x) (Vg.bh ((b.getD (p+x).toNat 0).toNat:Int) 127*2^(7*(x:Int)).toNat)) else decide (4611686018427387904<Vg.cI (eF b p x) (Vg.bh ((b.getD (p+x).toNat 0).toNat:Int) 127*2^(7*(x:Int)).toNat)))=false):
  Vg.cI (eF b p x) (Vg.bh ((b.getD (p+x).toNat 0).toNat:Int) 127*2^(7*(x:Int)).toNat)=(aK b p).1∧p+(x+1)=(aK b p).2.1∧0=(aK b p).2.2:=by
 rw [Ma hp h h1 h2 h3 hc];exact⟨rfl,rfl,rfl⟩
theorem OK {b:List UInt8} {p:Int}(hp:dE b p):0≤(aK b p).1∧(aK b p).1≤4611686018427387904∧0≤(aK b p).2.1∧(aK b p).2.1≤b.length∧((aK b p).2.2=0∨(aK b p).2.2=2∨(aK b p).2.2=4):=by
 have h:=vX (b.drop p.toNat);simp only [dE] at hp;rw [List.length_drop] at h;simp only [aK,BB];refine⟨h.1,h.2.1,?_,?_,h.2.2.2.2⟩<;>split<;>omega
end Go.S

end
section
namespace Go.S
def aj2(kind:Nat)(b:List UInt8):List UInt8:=UInt8.ofNat kind::b
def OL(kind:Nat)(b:List UInt8):List UInt8:=sum (aj2 kind b)
def leaf(b:List UInt8):List UInt8:=OL 0 b
def aj3(l r:List UInt8):List UInt8:=OL 1 (l++r)
def asp(l r:List UInt8):Bool:=decide (l.length=32)&&decide (r.length=32)
def UT(l r:List UInt8):List UInt8:=if asp l r then aj3 l r else []
end Go.S

end
section
namespace Go.S
def bp(c:Int):Bool:=decide (0≤c)&&(decide (c≤1114111)&&(decide (c<55296) || decide (57343<c)))
def c7(c:Int):Int:=if c<128 then 1 else if c<2048 then 2 else if c<65536 then 3 else 4
def u8(c:Int):UInt8:=UInt8.ofNat c.toNat
def more(c:Int):UInt8:=u8 (128+c%64)
def enc(c:Int):List UInt8:=if c<128 then [u8 c] else if c<2048 then [u8 (192+c/64),more c] else if c<65536 then [u8 (224+c/4096),more (c/64),more c]
 else [u8 (240+c/262144),more (c/4096),more (c/64),more c]
def eS(c:Int):List UInt8:=if bp c then enc c else []
def tm(c:Int):Int:=if bp c then 0 else 1
def cd(b:List UInt8):Int:=((b.getD 0 0).toNat:Int)
def uN(b:List UInt8):Nat:=if cd b<128 then 1 else if cd b/32=6 then 2 else if cd b/16=14 then 3 else if cd b/8=30 then 4 else 0
def uC(b:List UInt8):Int:=if cd b/32=6 then cd b%32 else if cd b/16=14 then cd b%16 else cd b%8
def bC(b:List UInt8):Nat→Int
 |0=>uC b
 |k+1=>bC b k*64+((b.getD (k+1) 0).toNat:Int)%64
def pJ(b:List UInt8)(n:Nat):Bool:=((b.drop 1).take (n-1)).all fun x=>x.toNat/64==2
def aL(b:List UInt8):Int×Int:=
 if uN b=1 then(cd b,1)
 else if uN b=0∨b.length<uN b∨pJ b (uN b)=false∨bp (bC b (uN b-1))=false∨c7 (bC b (uN b-1))≠uN b then(65533,1)
 else(bC b (uN b-1),uN b)
def qu:Nat→List UInt8→List Int
 |0,_=> []
 |f+1,b=>if b.isEmpty then [] else(aL b).1::qu f (b.drop (aL b).2.toNat)
def decode(b:List UInt8):List Int:=qu b.length b
def kQ:List (Int×Int):= [(65,90),(97,122),(192,214),(216,246),(248,255),(913,929),(931,937),(945,969),(1024,1119)]
def jt:List (Int×Int×Int):= [(65,90,32),(192,214,32),(216,222,32),(913,929,32),(931,937,32),(1024,1039,80),(1040,1071,32)]
def ka(c:Int)(s:Int×Int):Bool:=decide (s.1≤c)&&decide (c≤s.2)
def letter(c:Int):Bool:=kQ.any (ka c)
def digit(c:Int):Bool:=decide (48≤c)&&decide (c≤57)
def aT(c:Int):Int:=match jt.find? (fun s=>ka c (s.1,s.2.1)) with
 |some s=>c+s.2.2
 |none=>c
def lA(c:Int)(k:Nat):Prop :=k≤9∧∀s∈kQ.take k,ka c s=false
def lU(c:Int)(k:Nat):Prop :=k≤7∧∀s∈jt.take k,ka c (s.1,s.2.1)=false
def lB(b:List UInt8)(k:Nat):Prop :=(2≤uN b∧k+1≤uN b∧uN b≤b.length)∧∀x∈(b.drop 1).take k,x.toNat/64=2
def ic(b:List UInt8)(r:List UInt8)(l:List Int):Prop :=l++decode r=decode b∧r.length+l.length≤b.length
theorem bN(b:List UInt8)(m:Int)(h1:1≤m)(h:m≤b.length):(List.drop (Int.toNat 1) (List.take (Int.toNat m) b)).length=m.toNat-1:=by
 rw [List.length_drop,List.length_take];omega
theorem iA(b:List UInt8)(m:Int)(x:Nat)(h:(x:Int)+1<m):List.getD (List.drop (Int.toNat 1) (List.take (Int.toNat m) b)) (Int.toNat (x:Int)) 0=b.getD (x+1) 0:=by
 simp only [List.getD_eq_getElem?_getD,List.getElem?_drop,List.getElem?_take,Int.toNat_natCast,show Int.toNat 1=1 by rfl];rw [if_pos (by omega),Nat.add_comm]
theorem ke(b:List UInt8)(m:Int)(x:Nat)(h:(x:Int)+1<m):List.getD (List.drop (Int.toNat 1) (List.take (Int.toNat m) b)) x 0=b.getD (x+1) 0:=iA b m x h
section
variable {b:List UInt8} {n x:Nat}
theorem pK(h1:¬((b.getD (Int.toNat 0) 0).toNat:Int)<128)(h2:((b.getD (Int.toNat 0) 0).toNat:Int)/2^Int.toNat 5=6):uN b=2:=by
 have e:((b.getD (Int.toNat 0) 0).toNat:Int)=cd b:=rfl;simp only [e,show Int.toNat 5=5 by rfl,show Int.toNat 4=4 by rfl,show Int.toNat 3=3 by rfl] at *;unfold uN
 (repeat' split)<;>omega
theorem pM(h1:¬((b.getD (Int.toNat 0) 0).toNat:Int)<128)(h2:¬((b.getD (Int.toNat 0) 0).toNat:Int)/2^Int.toNat 5=6)(h3:((b.getD (Int.toNat 0) 0).toNat:Int)/2^Int.toNat 4=14):uN b=3:=by
 have e:((b.getD (Int.toNat 0) 0).toNat:Int)=cd b:=rfl;simp only [e,show Int.toNat 5=5 by rfl,show Int.toNat 4=4 by rfl,show Int.toNat 3=3 by rfl] at *;unfold uN
 (repeat' split)<;>omega
theorem pN(h1:¬((b.getD (Int.toNat 0) 0).toNat:Int)<128)(h2:¬((b.getD (Int.toNat 0) 0).toNat:Int)/2^Int.toNat 5=6)(h3:¬((b.getD (Int.toNat 0) 0).toNat:Int)/2^Int.toNat 4=14)
  (h4:((b.getD (Int.toNat 0) 0).toNat:Int)/2^Int.toNat 3=30):uN b=4:=by
 have e:((b.getD (Int.toNat 0) 0).toNat:Int)=cd b:=rfl;simp only [e,show Int.toNat 5=5 by rfl,show Int.toNat 4=4 by rfl,show Int.toNat 3=3 by rfl] at *;unfold uN
 (repeat' split)<;>omega
theorem uf1(h1:((b.getD (Int.toNat 0) 0).toNat:Int)<128):aL b=(((b.getD (Int.toNat 0) 0).toNat:Int),1):=by
 have hn:uN b=1:=by
  unfold uN;exact if_pos h1
 simp only [aL,hn,if_true];rfl
theorem uf0(h1:¬((b.getD (Int.toNat 0) 0).toNat:Int)<128)(h2:¬((b.getD (Int.toNat 0) 0).toNat:Int)/2^Int.toNat 5=6)(h3:¬((b.getD (Int.toNat 0) 0).toNat:Int)/2^Int.toNat 4=14)
  (h4:¬((b.getD (Int.toNat 0) 0).toNat:Int)/2^Int.toNat 3=30):aL b=(65533,1):=by
 have hn:uN b=0:=by
  have e:((b.getD (Int.toNat 0) 0).toNat:Int)=cd b:=rfl;simp only [e,show Int.toNat 5=5 by rfl,show Int.toNat 4=4 by rfl,show Int.toNat 3=3 by rfl] at *;unfold uN
  (repeat' split)<;>omega
 simp [aL,hn]
theorem Kp(hn:uN b=n)(h2:2≤n)(h:b.length<n∨pJ b n=false∨bp (bC b (n-1))=false∨c7 (bC b (n-1))≠n):aL b=(65533,1):=by
 subst hn;simp only [aL];rw [if_neg (by omega),if_pos (.inr h)]
theorem oT(hn:uN b=n)(h2:2≤n)(h:(b.length:Int)<n):aL b=(65533,1):=Kp hn h2 (.inl (by omega))
theorem OM(hn:uN b=n)(h2:2≤n)(h:¬(b.length:Int)<n):lB b 0:=⟨by omega,by simp⟩
theorem ass(h2:((b.getD (Int.toNat 0) 0).toNat:Int)/2^Int.toNat 5=6):Vg.bh ((b.getD (Int.toNat 0) 0).toNat:Int) 31=bC b 0:=by
 rw [OH _ (by omega)];have e:((b.getD (Int.toNat 0) 0).toNat:Int)=cd b:=rfl;simp only [e,show Int.toNat 5=5 by rfl,show Int.toNat 4=4 by rfl,show Int.toNat 3=3 by rfl] at *;unfold bC uC
 (repeat' split)<;>omega
theorem ast(h2:¬((b.getD (Int.toNat 0) 0).toNat:Int)/2^Int.toNat 5=6)(h3:((b.getD (Int.toNat 0) 0).toNat:Int)/2^Int.toNat 4=14):Vg.bh ((b.getD (Int.toNat 0) 0).toNat:Int) 15=bC b 0:=by
 rw [OG _ (by omega)];have e:((b.getD (Int.toNat 0) 0).toNat:Int)=cd b:=rfl;simp only [e,show Int.toNat 5=5 by rfl,show Int.toNat 4=4 by rfl,show Int.toNat 3=3 by rfl] at *;unfold bC uC
 (repeat' split)<;>omega
theorem asu(h2:¬((b.getD (Int.toNat 0) 0).toNat:Int)/2^Int.toNat 5=6)(h3:¬((b.getD (Int.toNat 0) 0).toNat:Int)/2^Int.toNat 4=14):Vg.bh ((b.getD (Int.toNat 0) 0).toNat:Int) 7=bC b 0:=by
 rw [UP _ (by omega)];have e:((b.getD (Int.toNat 0) 0).toNat:Int)=cd b:=rfl;simp only [e,show Int.toNat 5=5 by rfl,show Int.toNat 4=4 by rfl,show Int.toNat 3=3 by rfl] at *;unfold bC uC
 (repeat' split)<;>omega
theorem Mb(b:List UInt8):∀k,k≤4→0≤bC b k∧bC b k*64^(4-k)≤536870911
 |0,_=>by simp only [bC,uC];split<;>(try split)<;>omega
 |k+1,h=>by
  have ih:=Mb b k (by omega);simp only [bC];refine⟨by omega,?_⟩;rw [show 4-k=(4-(k+1))+1 by omega,Int.pow_succ] at ih;have :k=0∨k=1∨k=2∨k=3:=by omega
  rcases this with rfl|rfl|rfl|rfl<;>simp at ih ⊢ <;>omega
theorem bz(h:lB b x):x≤3∧0≤bC b x∧bC b x≤536870911∧2≤uN b∧uN b≤4∧x+1≤uN b∧uN b≤b.length:=by
 have h4:uN b≤4:=by simp only [uN];repeat' split<;>try omega
 have hx:x≤3:=by have :=h.1;omega
 have :=Mb b x (by omega)
 have hp:(1:Int)≤64^(4-x):=by
  have :x=0∨x=1∨x=2∨x=3:=by omega
  rcases this with rfl|rfl|rfl|rfl<;>decide
 have hm:bC b x*1≤bC b x*64^(4-x):=Int.mul_le_mul_of_nonneg_left hp this.1;exact⟨hx,this.1,by omega,h.1.1,h4,h.1.2.1,h.1.2.2⟩
theorem ON(h1:1≤x)(h:x<b.length)(m:Nat)(hm:x≤m):b.getD x 0∈(b.drop 1).take m:=by
 have eM:x-1<((b.drop 1).take m).length:=by rw [List.length_take,List.length_drop];omega
 have :((b.drop 1).take m)[x-1]=b.getD x 0:=by
  rw [List.getElem_take,List.getElem_drop,List.getD_eq_getElem?_getD];rw [List.getElem?_eq_getElem h,Option.getD_some];congr 1;omega
 rw [←this];exact List.getElem_mem eM
theorem rK(hn:uN b=n)(h:lB b x)(hx:x+1<n)(hb:¬((b.getD (x+1) 0).toNat:Int)/2^Int.toNat 6=2):aL b=(65533,1):=by
 have bA:=bz h;refine Kp hn (by omega) (.inr (.inl ?_));cases hc:pJ b n with
 |false=>rfl
 |true=>
  simp only [pJ,List.all_eq_true] at hc;have :=hc _ (ON (b:=b) (x:=x+1) (by omega) (by omega) (n-1) (by omega));simp only [beq_iff_eq] at this;simp only [show Int.toNat 6=6 by rfl] at hb;omega
theorem Kq(h:lB b x)(hb:((b.getD (x+1) 0).toNat:Int)/2^Int.toNat 6=2)(hx:x+1<uN b):lB b (x+1):=by
 refine⟨by have :=h.1;omega,fun y hy=> ?_⟩;have bA:=bz h;have hl:x<(b.drop 1).length:=by rw [List.length_drop];omega
 rw [aw _ x 0 hl] at hy;rcases List.mem_append.1 hy with hy|hy
 · exact h.2 y hy
 · simp only [List.mem_singleton,List.getD_eq_getElem?_getD,List.getElem?_drop] at hy;subst hy;simp only [List.getD_eq_getElem?_getD,show Int.toNat 6=6 by rfl,Nat.add_comm x 1] at hb;omega
theorem OO(h:lB b x)(hx:x+1<uN b):Vg.cI (bC b x*2^Int.toNat 6) (Vg.bh ((b.getD (x+1) 0).toNat:Int) 63)=bC b (x+1):=by
 have :=bz h;rw [El _ (by omega),show Int.toNat 6=6 by rfl,iY _ _ 6 this.2.1 (by omega) (by omega)];rfl
theorem Mc(h:lB b x)(hx:x+1=uN b):pJ b (uN b)=true :=by
 simp only [pJ,List.all_eq_true,←hx,Nat.add_sub_cancel];intro y hy;simpa using h.2 y hy
theorem ac7 {c:Bool}(hn:uN b=n)(h:lB b x)(hx:x+1=n)(hc:(bif !bp (bC b x) then true else !decide (c7 (bC b x)=(n:Int)))=c):aL b=if c=true then(65533,1) else(bC b x,(n:Int)):=by
 have hb:=bz h;have aj4:=Mc h (by omega);subst hn;simp only [aL,←hx,Nat.add_sub_cancel];rw [hx,aj4];rw [if_neg (by omega)];rw [hx] at *;cases hr:bp (bC b x)<;>by_cases hs:c7 (bC b x)=(uN b:Int)<;>simp [hr,hs] at hc ⊢ <;>subst hc<;>simp<;>omega
end
theorem ac8(c:Int):Vg.cI (c%64) 128=((more c).toNat:Int):=by
 rw [Em _ (by omega) (by omega)];simp only [more,u8];rw [UInt8.toNat_ofNat'];omega
theorem dB {c:Int}(h:bp c=true):0≤c∧c≤1114111:=by
 simp only [bp,Bool.and_eq_true,decide_eq_true_eq] at h;exact⟨h.1,h.2.1⟩
theorem OP(x:UInt8):UInt8.ofNat (Int.toNat (x.toNat:Int))=x:=by simp
theorem QB(c:Int)(h0:0≤c)(h:c<128): [UInt8.ofNat (Int.toNat (c%256))]=enc c:=by
 simp only [enc,if_pos h,u8,show c%256=c by omega]
theorem ac9(d:Int)(h0:0≤d)(h:d<32):Vg.cI 192 d=192+d:=by
 rw [show(192:Int)=6*2^5 by rfl,iY 6 d 5 (by omega) h0 h]
theorem ada(d:Int)(h0:0≤d)(h:d<16):Vg.cI 224 d=224+d:=by
 rw [show(224:Int)=14*2^4 by rfl,iY 14 d 4 (by omega) h0 h]
theorem adb(d:Int)(h0:0≤d)(h:d<8):Vg.cI 240 d=240+d:=by
 rw [show(240:Int)=30*2^3 by rfl,iY 30 d 3 (by omega) h0 h]
theorem ade(c:Int)(h0:0≤c)(h:128≤c∧c<2048): [UInt8.ofNat (Int.toNat (Vg.cI 192 (c/2^Int.toNat 6%256))),UInt8.ofNat (Int.toNat ((more c).toNat:Int))]=enc c:=by
 simp only [enc,if_neg (by omega :¬c<128),if_pos h.2,OP,u8,show Int.toNat 6=6 by rfl];rw [show c/2^6%256=c/64 by omega,ac9 _ (by omega) (by omega)]
theorem adf(c:Int)(h0:0≤c)(h:2048≤c∧c<65536): [UInt8.ofNat (Int.toNat (Vg.cI 224 (c/2^Int.toNat 12%256))),UInt8.ofNat (Int.toNat ((more (c/2^Int.toNat 6)).toNat:Int)),UInt8.ofNat (Int.toNat ((more c).toNat:Int))]=enc c:=by
 simp only [enc,if_neg (by omega :¬c<128),if_neg (by omega :¬c<2048),if_pos h.2,OP,u8,show Int.toNat 6=6 by rfl,show Int.toNat 12=12 by rfl];rw [show c/2^12%256=c/4096 by omega,ada _ (by omega) (by omega),show c/2^6=c/64 by omega]
theorem adg(c:Int)(h0:0≤c)(h1:c≤1114111)(h:65536≤c): [UInt8.ofNat (Int.toNat (Vg.cI 240 (c/2^Int.toNat 18%256))),UInt8.ofNat (Int.toNat ((more (c/2^Int.toNat 12)).toNat:Int)),UInt8.ofNat (Int.toNat ((more (c/2^Int.toNat 6)).toNat:Int)),UInt8.ofNat (Int.toNat ((more c).toNat:Int))]=enc c:=by
 simp only [enc,if_neg (by omega :¬c<128),if_neg (by omega :¬c<2048),if_neg (by omega :¬c<65536),OP,u8,show Int.toNat 6=6 by rfl,show Int.toNat 12=12 by rfl,show Int.toNat 18=18 by rfl];rw [show c/2^18%256=c/262144 by omega,adb _ (by omega) (by omega),show c/2^6=c/64 by omega,show c/2^12=c/4096 by omega]
theorem mE(b:List UInt8)(h:0<b.length):1≤(aL b).2∧(aL b).2≤b.length∧0≤(aL b).1∧(aL b).1≤1114111:=by
 unfold aL;split
 · have :=(b.getD 0 0).toNat_lt;simp only [cd];omega
 · split
   · simp only;omega
   · rename_i h1 h2;simp only [not_or,Bool.not_eq_false] at h2;have :=dB h2.2.2.2.1;simp only;omega
theorem zj:∀(f g:Nat) (b:List UInt8),b.length≤f→b.length≤g→qu f b=qu g b
 |0,0,b,_,_=>rfl
 |0,g+1,b,h,_=>by
  have :b= []:=List.eq_nil_of_length_eq_zero (by omega);subst this;simp [qu]
 |f+1,0,b,_,h=>by
  have :b= []:=List.eq_nil_of_length_eq_zero (by omega);subst this;simp [qu]
 |f+1,g+1,b,h1,h2=>by
  simp only [qu];cases hb:b.isEmpty with
  |true=>rfl
  |false=>
   have hl:0<b.length:=by
    rw [List.isEmpty_eq_false_iff] at hb;exact List.length_pos_iff.2 hb
   have :=mE b hl;simp only [Bool.false_eq_true,if_false];rw [zj f g _ (by rw [List.length_drop];omega) (by rw [List.length_drop];omega)]
theorem Md:decode []= []:=rfl
theorem sP(b:List UInt8)(h:0<b.length):decode b=(aL b).1::decode (b.drop (aL b).2.toNat):=by
 have hb:=mE b h;unfold decode;obtain⟨n,hn⟩:∃n,b.length=n+1:=⟨b.length-1,by omega⟩;rw [hn];simp only [qu];have :b.isEmpty=false :=by rw [List.isEmpty_eq_false_iff];exact List.length_pos_iff.1 h
 rw [this];simp only [Bool.false_eq_true,if_false];rw [zj n _ _ (by rw [List.length_drop];omega) (Nat.le_refl _)]
theorem aj5(b:List UInt8):ic b b []:=⟨rfl,by simp⟩
theorem Kr {b r:List UInt8} {l:List Int}(h:ic b r l)(hr:0<(r.length:Int)):1≤(aL r).2∧(aL r).2≤r.length∧r.length+l.length≤b.length:=by
 have :=mE r (by omega);exact⟨this.1,this.2.1,h.2⟩
theorem Hr {b r:List UInt8} {l:List Int}(h:ic b r l)(hr:0<(r.length:Int)):ic b (r.drop (aL r).2.toNat) (l++ [(aL r).1]):=by
 have hb:=mE r (by omega);refine⟨?_,?_⟩
 · rw [List.append_assoc,List.singleton_append,←sP r (by omega)];exact h.1
 · have :=h.2;rw [List.length_drop,List.length_append];simp;omega
theorem Me {b r:List UInt8} {l:List Int}(h:ic b r l)(hr:¬0<(r.length:Int)):l=decode b:=by
 have :r= []:=List.eq_nil_of_length_eq_zero (by omega);subst this;have :=h.1;rw [Md,List.append_nil] at this;exact this
theorem nM(b:List UInt8):(decode b).length≤b.length:=by
 have :∀f (c:List UInt8),(qu f c).length≤f:=by
  intro f;induction f with
  |zero=>intro c;simp [qu]
  |succ f ih=>intro c;simp only [qu];split;simp;have :=ih (c.drop (aL c).2.toNat);simp;omega
 exact this _ _
theorem rL(a b:Bool):(bif a then b else false)=(a&&b):=by cases a<;>rfl
theorem nine {x:Nat}(h:(x:Int)<9):x=0∨x=1∨x=2∨x=3∨x=4∨x=5∨x=6∨x=7∨x=8:=by omega
theorem Ep {c:Int} {x:Nat}(h:(x:Int)<9):(bif decide (List.getD [65,97,192,216,248,913,931,945,1024] (Int.toNat (x:Int)) 0≤c) then decide (c≤List.getD [90,122,214,246,255,929,937,969,1119] (Int.toNat (x:Int)) 0) else false)=ka c (kQ.getD x (0,0)):=by
 rcases nine h with rfl|rfl|rfl|rfl|rfl|rfl|rfl|rfl|rfl<;>simp only [ka,kQ,Int.toNat_natCast,List.getD_cons_zero,List.getD_cons_succ,rL]
theorem OQ {c:Int} {x:Nat}(h:(x:Int)<9)(hc:(bif decide (List.getD [65,97,192,216,248,913,931,945,1024] (Int.toNat (x:Int)) 0≤c) then decide (c≤List.getD [90,122,214,246,255,929,937,969,1119] (Int.toNat (x:Int)) 0) else false)=true):true=letter c:=by
 rw [Ep h] at hc;symm
 simp only [letter,List.any_eq_true];exact⟨_,bo kQ x (0,0) (by simp only [kQ,List.length_cons,List.length_nil];omega),hc⟩
theorem OR {c:Int} {x:Nat}(hi:lA c x)(h:(x:Int)<9)(hc:(bif decide (List.getD [65,97,192,216,248,913,931,945,1024] (Int.toNat (x:Int)) 0≤c) then decide (c≤List.getD [90,122,214,246,255,929,937,969,1119] (Int.toNat (x:Int)) 0) else false)=false):lA c (x+1):=by
 rw [Ep h] at hc;refine⟨by omega,fun s hs=> ?_⟩;rw [aw kQ x (0,0) (by simp only [kQ,List.length_cons,List.length_nil];omega)] at hs;rcases List.mem_append.1 hs with hs|hs
 · exact hi.2 s hs
 · rw [List.mem_singleton.1 hs];exact hc
theorem OS {c:Int} {x:Nat}(hi:lA c x)(h:¬(x:Int)<9):false=letter c:=by
 symm
 have hx:x=9:=by have :=hi.1;omega
 subst hx;simp only [letter,List.any_eq_false];intro s hs;have :=hi.2 s (by simpa [kQ] using hs);rw [this];simp
theorem seven {x:Nat}(h:(x:Int)<7):x=0∨x=1∨x=2∨x=3∨x=4∨x=5∨x=6:=by omega
theorem Ht {c:Int} {x:Nat}(h:(x:Int)<7):(bif decide (List.getD [65,192,216,913,931,1024,1040] (Int.toNat (x:Int)) 0≤c) then decide (c≤List.getD [90,214,222,929,937,1039,1071] (Int.toNat (x:Int)) 0) else false)=ka c ((jt.getD x (0,0,0)).1,(jt.getD x (0,0,0)).2.1)∧
  List.getD ([32,32,32,32,32,80,32]:List Int) (Int.toNat (x:Int)) 0=(jt.getD x (0,0,0)).2.2:=by
 rcases seven h with rfl|rfl|rfl|rfl|rfl|rfl|rfl<;>simp only [ka,jt,Int.toNat_natCast,List.getD_cons_zero,List.getD_cons_succ,rL,and_self]
theorem BE {α:Type}(p:α→Bool)(d:α):∀(l:List α) (x:Nat),x<l.length→(∀s∈l.take x,p s=false)→p (l.getD x d)=true→l.find? p=some (l.getD x d)
 | [],x,h,_,_=>by simp at h
 |a::l,0,_,_,h=>by simp only [List.getD_cons_zero] at h ⊢;simp [List.find?_cons,h]
 |a::l,x+1,hx,h1,h=>by
  have ha:=h1 a (by simp);simp only [List.getD_cons_succ] at h ⊢;rw [List.find?_cons,ha];exact BE p d l x (by simpa using hx) (fun s hs=>h1 s (by simp [hs])) h
theorem Hu {c:Int} {x:Nat}(hi:lU c x)(h:(x:Int)<7)(hc:(bif decide (List.getD [65,192,216,913,931,1024,1040] (Int.toNat (x:Int)) 0≤c) then decide (c≤List.getD [90,214,222,929,937,1039,1071] (Int.toNat (x:Int)) 0) else false)=true):
  c+List.getD ([32,32,32,32,32,80,32]:List Int) (Int.toNat (x:Int)) 0=aT c∧(c≤1071∧65≤c∧List.getD ([32,32,32,32,32,80,32]:List Int) (Int.toNat (x:Int)) 0≤80∧0≤List.getD ([32,32,32,32,32,80,32]:List Int) (Int.toNat (x:Int)) 0):=by
 have Mf:=Ht (c:=c) h;refine⟨?_,?_⟩
 · rw [Mf.1] at hc;rw [Mf.2];simp only [aT];rw [BE (fun s=>ka c (s.1,s.2.1)) (0,0,0) jt x (by simp only [jt,List.length_cons,List.length_nil];omega) hi.2 hc]
 · rcases seven h with rfl|rfl|rfl|rfl|rfl|rfl|rfl<;>simp [List.getD] at hc ⊢ <;>omega
theorem UU {c:Int} {x:Nat}(hi:lU c x)(h:(x:Int)<7)(hc:(bif decide (List.getD [65,192,216,913,931,1024,1040] (Int.toNat (x:Int)) 0≤c) then decide (c≤List.getD [90,214,222,929,937,1039,1071] (Int.toNat (x:Int)) 0) else false)=false):lU c (x+1):=by
 rw [(Ht h).1] at hc;refine⟨by omega,fun s hs=> ?_⟩;rw [aw jt x (0,0,0) (by simp only [jt,List.length_cons,List.length_nil];omega)] at hs;rcases List.mem_append.1 hs with hs|hs
 · exact hi.2 s hs
 · rw [List.mem_singleton.1 hs];exact hc
theorem UW {c:Int} {x:Nat}(hi:lU c x)(h:¬(x:Int)<7):c=aT c:=by
 have hx:x=7:=by have :=hi.1;omega
 subst hx;simp only [aT];rw [List.find?_eq_none.2 (fun s hs=>by rw [hi.2 s (by simpa [jt] using hs)];simp)]
theorem rM {b:List UInt8} {n x:Nat} {m:Int}(hn:uN b=n)(h:lB b x)(hx:x+1=n)(hc:bp (bC b x)=false∨¬c7 (bC b x)=m)(hm:(n:Int)=m):aL b=(65533,1):=by
 subst hm;have hb:=bz h;refine Kp hn (by omega) ?_;rw [show n-1=x by omega];rcases hc with hc|hc
 · exact .inr (.inr (.inl hc))
 · exact .inr (.inr (.inr hc))
theorem rN {b:List UInt8} {n x:Nat} {m:Int}(hn:uN b=n)(h:lB b x)(hx:x+1=n)(hc:bp (bC b x)=true∧c7 (bC b x)=m)(hm:(n:Int)=m):aL b=(bC b x,m):=by
 subst hm;have :=ac7 (c:=false) hn h hx (by simp [hc.1,hc.2]);simpa using this
theorem OT {A B:Prop} [Decidable A] [Decidable B](h:A∧B):(bif decide A then decide B else false)=true :=by simp [h.1,h.2]
theorem Xj {A B:Prop} [Decidable A] [Decidable B](h:¬A∨¬B):(bif decide A then decide B else false)=false :=by
 by_cases ha:A<;>by_cases hb:B<;>simp_all
end Go.S
namespace Go.S
def iZ(c:Int):Bool:=(decide (0≤c)&&decide (c<55296)) || (decide (57343<c)&&decide (c<1114112))
def bJ(c a b:Int):Bool:=decide (a≤c)&&decide (c≤b)
def ju(a b:Int):Int:=if a<b then a else b
def zk(n:Int):Int:= [0,0,192,224,240].getD n.toNat 0
def kR(b:List UInt8)(n:Int):Nat→Int
 |0=>cd b-zk n
 |k+1=>kR b n k*64+((b.getD (k+1) 0).toNat:Int)-128
def aZ(b:List UInt8)(n:Int):Int:=if(b.length:Int)<n then -1 else kR b n (n.toNat-1)
def v7(b:List UInt8)(n:Int):Prop :=0<b.length∧1≤n∧n≤4
def nc(b:List UInt8)(n:Int)(k:Nat):Prop :=(n≤b.length)∧1≤k∧k≤n
def nN(b:List UInt8)(k:Nat):Bool:=iZ (aZ b k)&&decide (enc (aZ b k)=b.take k)
def fm(b:List UInt8):Nat→Int×Int
 |0=>(65533,1)
 |k+1=>if nN b (k+1) then(aZ b (k+1:Nat),((k+1:Nat):Int)) else fm b k
theorem Er(c:Int):iZ c=bp c:=by
 simp only [iZ,bp];by_cases h1:0≤c<;>by_cases h2:c<55296<;>by_cases h3:57343<c<;>by_cases h4:c≤1114111<;>simp [h1,h2,h3,h4]<;>omega
theorem AD {c:Int} {y:UInt8}(h0:0≤c)(h1:c<256):u8 c=y↔c=(y.toNat:Int):=by
 have hy:=y.toNat_lt;constructor
 · intro h;have :=congrArg UInt8.toNat h;simp only [u8] at this;rw [UInt8.toNat_ofNat'] at this;omega
 · intro h;subst h;simp [u8]
theorem Es {c:Int} {y:UInt8}:more c=y↔128+c%64=(y.toNat:Int):=AD (by omega) (by omega)
theorem aj6 {c:Int} {y0:UInt8}(h0:0≤c)(h1:c≤1114111):enc c= [y0]↔c<128∧c=(y0.toNat:Int):=by
 unfold enc;split
 · simp only [List.cons.injEq,and_true,AD h0 (by omega), *,true_and]
 · (repeat' split)<;>simp<;>omega
theorem Xk {c:Int} {y0 y1:UInt8}(h0:0≤c)(h1:c≤1114111):enc c= [y0,y1]↔128≤c∧c<2048∧192+c/64=(y0.toNat:Int)∧128+c%64=(y1.toNat:Int):=by
 unfold enc;split
 · simp;omega
 · split
   · simp only [List.cons.injEq,and_true,AD (c:=192+c/64) (by omega) (by omega),Es];omega
   · (repeat' split)<;>simp<;>omega
theorem Xl {c:Int} {y0 y1 y2:UInt8}(h0:0≤c)(h1:c≤1114111):enc c= [y0,y1,y2]↔2048≤c∧c<65536∧224+c/4096=(y0.toNat:Int)∧128+c/64%64=(y1.toNat:Int)∧128+c%64=(y2.toNat:Int):=by
 unfold enc;split
 · simp;omega
 · split
   · simp;omega
   · split
     · simp only [List.cons.injEq,and_true,AD (c:=224+c/4096) (by omega) (by omega),Es];omega
     · simp;omega
theorem Xm {c:Int} {y0 y1 y2 y3:UInt8}(h0:0≤c)(h1:c≤1114111):enc c= [y0,y1,y2,y3]↔65536≤c∧240+c/262144=(y0.toNat:Int)∧128+c/4096%64=(y1.toNat:Int)∧128+c/64%64=(y2.toNat:Int)∧128+c%64=(y3.toNat:Int):=by
 unfold enc;split
 · simp;omega
 · split
   · simp;omega
   · split
     · simp;omega
     · simp only [List.cons.injEq,and_true,AD (c:=240+c/262144) (by omega) (by omega),Es];omega
def iB(b:List UInt8)(k:Nat):Prop :=uN b=k∧k≤b.length∧(k=1∨(pJ b k=true∧bp (bC b (k-1))=true∧c7 (bC b (k-1))=(k:Int)))
theorem rO(b:List UInt8)(k:Nat):nN b k=true↔bp (aZ b k)=true∧enc (aZ b k)=b.take k:=by
 simp only [nN,Er,Bool.and_eq_true,decide_eq_true_eq]
theorem OU {b:List UInt8} {k:Nat}(h:b.length<k):nN b k=false :=by
 have :aZ b k= -1:=by simp only [aZ];rw [if_pos (by omega)]
 simp only [nN,this,iZ];rfl
theorem Et(b:List UInt8):0≤cd b∧cd b<256:=by have :=(b.getD 0 0).toNat_lt;simp only [cd];omega
theorem Ks(x0:UInt8)(l:List UInt8):(nN (x0::l) 1=true↔iB (x0::l) 1)∧aZ (x0::l) 1=cd (x0::l):=by
 have hb:aZ (x0::l) 1=cd (x0::l):=by
  simp only [aZ];rw [if_neg (by simp;omega)];simp [kR,zk]
 refine⟨?_,hb⟩;have hl:=Et (x0::l);rw [rO];show bp (aZ (x0::l) 1)=true∧enc (aZ (x0::l) 1)= [x0]↔_;rw [hb];have hr:bp (cd (x0::l))=true :=by simp [bp];omega
 rw [aj6 hl.1 (by omega),hr];simp only [iB,uN,true_or,and_true,List.length_cons,true_and];have :cd (x0::l)=(x0.toNat:Int):=rfl;constructor
 · intro h;rw [if_pos h.1];exact⟨rfl,by omega⟩
 · intro h;refine⟨?_,this⟩;by_cases h1:cd (x0::l)<128
   · exact h1
   · rw [if_neg h1] at h;(repeat' split at h)<;>omega
theorem UX(b:List UInt8):uN b=2↔cd b/32=6:=by unfold uN;(repeat' split)<;>omega
theorem UY(b:List UInt8):uN b=3↔cd b/16=14:=by unfold uN;(repeat' split)<;>omega
theorem UZ(b:List UInt8):uN b=4↔cd b/8=30:=by unfold uN;(repeat' split)<;>omega
theorem Mg(c:Int):c7 c=2↔128≤c∧c<2048:=by unfold c7;(repeat' split)<;>omega
theorem Mh(c:Int):c7 c=3↔2048≤c∧c<65536:=by unfold c7;(repeat' split)<;>omega
theorem Mi(c:Int):c7 c=4↔65536≤c:=by unfold c7;(repeat' split)<;>omega
theorem dg(c:Int):bp c=true↔0≤c∧c≤1114111∧(c<55296∨57343<c):=by simp [bp]
theorem Xn(x0 x1:UInt8)(l:List UInt8):(nN (x0::x1::l) 2=true↔iB (x0::x1::l) 2)∧(iB (x0::x1::l) 2→aZ (x0::x1::l) 2=bC (x0::x1::l) 1):=by
 have h0:=x0.toNat_lt;have h1:=x1.toNat_lt
 have hb:aZ (x0::x1::l) 2=((x0.toNat:Int)-192)*64+x1.toNat-128:=by
  simp only [aZ];rw [if_neg (by simp;omega)];rfl
 have hl:cd (x0::x1::l)=(x0.toNat:Int):=rfl
 have ha:cd (x0::x1::l)/32=6→bC (x0::x1::l) 1=(x0.toNat:Int)%32*64+(x1.toNat:Int)%64:=by
  intro h;simp only [bC,uC];rw [if_pos h];rfl
 have hg:iB (x0::x1::l) 2↔(cd (x0::x1::l)/32=6∧(x1.toNat/64=2∧bp (bC (x0::x1::l) 1)=true∧c7 (bC (x0::x1::l) 1)=2)):=by
  simp only [iB,UX];simp [pJ]
 rw [hg,rO];show(bp (aZ (x0::x1::l) 2)=true∧enc (aZ (x0::x1::l) 2)= [x0,x1]↔_)∧_;rw [hb];refine⟨⟨fun⟨g1,g2⟩=> ?_,fun⟨g1,g2,g3,g4⟩=> ?_⟩,fun⟨g1,g2,g3,g4⟩=> ?_⟩
 · rw [dg] at g1;rw [Xk (by omega) (by omega)] at g2;have g6:cd (x0::x1::l)/32=6:=by rw [hl];omega
   refine⟨g6,by omega,?_,?_⟩
   · rw [ha g6,dg];omega
   · rw [ha g6,Mg];omega
 · rw [ha g1] at g3 g4;rw [dg] at g3;rw [Mg] at g4;rw [hl] at g1;have :((x0.toNat:Int)-192)*64+x1.toNat-128=(x0.toNat:Int)%32*64+(x1.toNat:Int)%64:=by omega
   rw [this,dg];refine⟨g3,?_⟩;rw [Xk (by omega) (by omega)];omega
 · rw [ha g1];rw [hl] at g1;omega
theorem Xo(x0 x1 x2:UInt8)(l:List UInt8):(nN (x0::x1::x2::l) 3=true↔iB (x0::x1::x2::l) 3)∧(iB (x0::x1::x2::l) 3→aZ (x0::x1::x2::l) 3=bC (x0::x1::x2::l) 2):=by
 have h0:=x0.toNat_lt;have h1:=x1.toNat_lt;have h2:=x2.toNat_lt
 have hb:aZ (x0::x1::x2::l) 3=(((x0.toNat:Int)-224)*64+x1.toNat-128)*64+x2.toNat-128:=by
  simp only [aZ];rw [if_neg (by simp;omega)];rfl
 have hl:cd (x0::x1::x2::l)=(x0.toNat:Int):=rfl
 have ha:cd (x0::x1::x2::l)/16=14→bC (x0::x1::x2::l) 2=((x0.toNat:Int)%16*64+(x1.toNat:Int)%64)*64+(x2.toNat:Int)%64:=by
  intro h;simp only [bC,uC];rw [if_neg (by omega),if_pos h];rfl
 have hg:iB (x0::x1::x2::l) 3↔(cd (x0::x1::x2::l)/16=14∧((x1.toNat/64=2∧x2.toNat/64=2)∧bp (bC (x0::x1::x2::l) 2)=true∧c7 (bC (x0::x1::x2::l) 2)=3)):=by
  simp only [iB,UY];simp [pJ]
 rw [hg,rO];show(bp (aZ (x0::x1::x2::l) 3)=true∧enc (aZ (x0::x1::x2::l) 3)= [x0,x1,x2]↔_)∧_;rw [hb];refine⟨⟨fun⟨g1,g2⟩=> ?_,fun⟨g1,g2,g3,g4⟩=> ?_⟩,fun⟨g1,g2,g3,g4⟩=> ?_⟩
 · rw [dg] at g1;rw [Xl (by omega) (by omega)] at g2;have g6:cd (x0::x1::x2::l)/16=14:=by rw [hl];omega
   refine⟨g6,by omega,?_,?_⟩
   · rw [ha g6,dg];omega
   · rw [ha g6,Mh];omega
 · rw [ha g1] at g3 g4;rw [dg] at g3;rw [Mh] at g4;rw [hl] at g1;have :(((x0.toNat:Int)-224)*64+x1.toNat-128)*64+x2.toNat-128=((x0.toNat:Int)%16*64+(x1.toNat:Int)%64)*64+(x2.toNat:Int)%64:=by omega
   rw [this,dg];refine⟨g3,?_⟩;rw [Xl (by omega) (by omega)];omega
 · rw [ha g1];rw [hl] at g1;omega
theorem Xp(x0 x1 x2 x3:UInt8)(l:List UInt8):(nN (x0::x1::x2::x3::l) 4=true↔iB (x0::x1::x2::x3::l) 4)∧(iB (x0::x1::x2::x3::l) 4→aZ (x0::x1::x2::x3::l) 4=bC (x0::x1::x2::x3::l) 3):=by
 have h0:=x0.toNat_lt;have h1:=x1.toNat_lt;have h2:=x2.toNat_lt;have h3:=x3.toNat_lt
 have hb:aZ (x0::x1::x2::x3::l) 4=((((x0.toNat:Int)-240)*64+x1.toNat-128)*64+x2.toNat-128)*64+x3.toNat-128:=by
  simp only [aZ];rw [if_neg (by simp;omega)];rfl
 have hl:cd (x0::x1::x2::x3::l)=(x0.toNat:Int):=rfl
 have ha:cd (x0::x1::x2::x3::l)/8=30→bC (x0::x1::x2::x3::l) 3=(((x0.toNat:Int)%8*64+(x1.toNat:Int)%64)*64+(x2.toNat:Int)%64)*64+(x3.toNat:Int)%64:=by
  intro h;simp only [bC,uC];rw [if_neg (by omega),if_neg (by omega)];rfl
 have hg:iB (x0::x1::x2::x3::l) 4↔(cd (x0::x1::x2::x3::l)/8=30∧((x1.toNat/64=2∧x2.toNat/64=2∧x3.toNat/64=2)∧bp (bC (x0::x1::x2::x3::l) 3)=true∧c7 (bC (x0::x1::x2::x3::l) 3)=4)):=by
  simp only [iB,UZ];simp [pJ]
 rw [hg,rO];show(bp (aZ (x0::x1::x2::x3::l) 4)=true∧enc (aZ (x0::x1::x2::x3::l) 4)= [x0,x1,x2,x3]↔_)∧_;rw [hb];refine⟨⟨fun⟨g1,g2⟩=> ?_,fun⟨g1,g2,g3,g4⟩=> ?_⟩,fun⟨g1,g2,g3,g4⟩=> ?_⟩
 · rw [dg] at g1;rw [Xm (by omega) (by omega)] at g2;have g6:cd (x0::x1::x2::x3::l)/8=30:=by rw [hl];omega
   refine⟨g6,by omega,?_,?_⟩
   · rw [ha g6,dg];omega
   · rw [ha g6,Mi];omega
 · rw [ha g1] at g3 g4;rw [dg] at g3;rw [Mi] at g4;rw [hl] at g1;have :((((x0.toNat:Int)-240)*64+x1.toNat-128)*64+x2.toNat-128)*64+x3.toNat-128=(((x0.toNat:Int)%8*64+(x1.toNat:Int)%64)*64+(x2.toNat:Int)%64)*64+(x3.toNat:Int)%64:=by omega
   rw [this,dg];refine⟨g3,?_⟩;rw [Xm (by omega) (by omega)];omega
 · rw [ha g1];rw [hl] at g1;omega
theorem pO(b:List UInt8)(k:Nat)(hb:0<b.length)(h1:1≤k)(h4:k≤4):(nN b k=true↔iB b k)∧(iB b k→aZ b k=bC b (k-1)∨(k=1∧aZ b k=cd b)):=by
 by_cases hs:b.length<k
 · rw [OU hs];exact⟨⟨fun h=>absurd h (by decide),fun h=>absurd h.2.1 (by omega)⟩,fun h=>absurd h.2.1 (by omega)⟩
 · have :k=1∨k=2∨k=3∨k=4:=by omega
   match b,this with
   | [],_=>simp at hb
   |x0::l, .inl h=>subst h;exact⟨(Ks x0 l).1,fun _=> .inr ⟨rfl,(Ks x0 l).2⟩⟩
   |x0::x1::l, .inr (.inl h)=>subst h;exact⟨(Xn x0 x1 l).1,fun g=> .inl ((Xn x0 x1 l).2 g)⟩
   |x0::x1::x2::l, .inr (.inr (.inl h))=>subst h;exact⟨(Xo x0 x1 x2 l).1,fun g=> .inl ((Xo x0 x1 x2 l).2 g)⟩
   |x0::x1::x2::x3::l, .inr (.inr (.inr h))=>subst h;exact⟨(Xp x0 x1 x2 x3 l).1,fun g=> .inl ((Xp x0 x1 x2 x3 l).2 g)⟩
   | [_], .inr (.inl h)=>subst h;simp at hs
   | [_], .inr (.inr (.inl h))=>subst h;simp at hs
   | [_,_], .inr (.inr (.inl h))=>subst h;simp at hs
   | [_], .inr (.inr (.inr h))=>subst h;simp at hs
   | [_,_], .inr (.inr (.inr h))=>subst h;simp at hs
   | [_,_,_], .inr (.inr (.inr h))=>subst h;simp at hs
theorem Mj {b:List UInt8} {k:Nat}(h:iB b k)(h1:1≤k)(h4:k≤4)(hb:0<b.length):aL b=(aZ b k,(k:Int)):=by
 have ht:=(pO b k hb h1 h4).2 h;obtain⟨hn,hl,hr⟩:=h;simp only [aL,hn];by_cases hk:k=1
 · subst hk;rw [if_pos rfl];rcases ht with ht|ht
   · obtain⟨x0,l,rfl⟩:∃x0 l,b=x0::l:=by cases b with
      |nil=>simp at hb
      |cons x l=>exact⟨x,l,rfl⟩
     have e:aZ (x0::l) ((1:Nat):Int)=cd (x0::l):=(Ks x0 l).2;rw [e];rfl
   · rw [ht.2];rfl
 · rw [if_neg hk];rcases hr with hr|hr
   · omega
   · rw [if_neg (by simp only [not_or];refine⟨by omega,by omega,by simp [hr.1],by simp [hr.2.1],by simp [hr.2.2]⟩)];rcases ht with ht|ht
     · rw [ht]
     · omega
theorem Hv {b:List UInt8}(hb:0<b.length)(n:Nat):∀k,k≤4→(∀j,j≤k→1≤j→¬iB b j)→fm b k=(65533,1)
 |0,_,_=>rfl
 |k+1,h4,h=>by
  simp only [fm]
  have :nN b (k+1)=false :=by
   cases ht:nN b (k+1) with
   |false=>rfl
   |true=>exact absurd ((pO b (k+1) hb (by omega) h4).1.1 ht) (h _ (Nat.le_refl _) (by omega))
  rw [this];exact Hv hb n k (by omega) (fun j hj=>h j (by omega))
theorem xO {b:List UInt8}(hb:0<b.length) {n:Nat}(hg:iB b n)(h1:1≤n):∀k,k≤4→n≤k→fm b k=(aZ b n,(n:Int))
 |0,_,h=>by omega
 |k+1,h4,h=>by
  simp only [fm];by_cases hk:n=k+1
  · subst hk;rw [(pO b (k+1) hb (by omega) h4).1.2 hg,if_pos rfl]
  · have :nN b (k+1)=false :=by
     cases ht:nN b (k+1) with
     |false=>rfl
     |true=>
      have :=(pO b (k+1) hb (by omega) h4).1.1 ht;have h2:=this.1;have h3:=hg.1;omega
    rw [this];exact xO hb hg h1 k (by omega) (by omega)
theorem Xq(b:List UInt8):uN b≤4:=by unfold uN;(repeat' split)<;>omega
theorem uO(b:List UInt8)(hb:0<b.length):fm b 4=aL b:=by
 by_cases hg:iB b (uN b)∧1≤uN b
 · rw [xO hb hg.1 hg.2 4 (Nat.le_refl _) (Xq b),Mj hg.1 hg.2 (Xq b) hb]
 · rw [Hv hb 0 4 (Nat.le_refl _) (fun j hj h1 h=>hg (by have :=h.1;rw [this];exact⟨h,h1⟩))];symm
   simp only [aL];by_cases h1:uN b=1
   · exfalso;apply hg
     exact⟨⟨rfl,by omega, .inl h1⟩,by omega⟩
   · rw [if_neg h1];rw [if_pos];by_cases h0:uN b=0
     · exact .inl h0
     · refine .inr ?_;by_cases hl:b.length<uN b
       · exact .inl hl
       · refine .inr ?_;cases hc:pJ b (uN b) with
         |false=>exact .inl rfl
         |true=>
          cases hr:bp (bC b (uN b-1)) with
          |false=>exact .inr (.inl rfl)
          |true=>
           refine .inr (.inr fun hs=>hg ⟨⟨rfl,by omega, .inr ⟨hc,hr,hs⟩⟩,by omega⟩)
theorem adh(c:Int)(h0:0≤c)(h:c<128): [UInt8.ofNat (Int.toNat (c%256))]=enc c:=QB c h0 h
theorem adi(c:Int)(h0:0≤c)(h:128≤c∧c<2048): [UInt8.ofNat (Int.toNat ((192+c/64)%256)),UInt8.ofNat (Int.toNat ((128+c%64)%256))]=enc c:=by
 simp only [enc,if_neg (by omega :¬c<128),if_pos h.2,more,u8];rw [show(192+c/64)%256=192+c/64 by omega,show(128+c%64)%256=128+c%64 by omega]
theorem adj(c:Int)(h0:0≤c)(h:2048≤c∧c<65536): [UInt8.ofNat (Int.toNat ((224+c/4096)%256)),UInt8.ofNat (Int.toNat ((128+c/64%64)%256)),UInt8.ofNat (Int.toNat ((128+c%64)%256))]=enc c:=by
 simp only [enc,if_neg (by omega :¬c<128),if_neg (by omega :¬c<2048),if_pos h.2,more,u8];rw [show(224+c/4096)%256=224+c/4096 by omega,show(128+c/64%64)%256=128+c/64%64 by omega,show(128+c%64)%256=128+c%64 by omega]
theorem adk(c:Int)(h0:0≤c)(h1:c≤1114111)(h:65536≤c): [UInt8.ofNat (Int.toNat ((240+c/262144)%256)),UInt8.ofNat (Int.toNat ((128+c/4096%64)%256)),UInt8.ofNat (Int.toNat ((128+c/64%64)%256)),UInt8.ofNat (Int.toNat ((128+c%64)%256))]=enc c:=by
 simp only [enc,if_neg (by omega :¬c<128),if_neg (by omega :¬c<2048),if_neg (by omega :¬c<65536),more,u8];rw [show(240+c/262144)%256=240+c/262144 by omega,show(128+c/4096%64)%256=128+c/4096%64 by omega,show(128+c/64%64)%256=128+c/64%64 by omega,show(128+c%64)%256=128+c%64 by omega]
theorem Eu(c:Int):letter c=(bJ c 65 90 || (bJ c 97 122 || (bJ c 192 214 || (bJ c 216 246 || (bJ c 248 255 || (bJ c 913 929 || (bJ c 931 937 || (bJ c 945 969 || bJ c 1024 1119)))))))):=by
 simp only [letter,kQ,ka,bJ,List.any_cons,List.any_nil,Bool.or_false]
theorem rP {c:Int}(h:bJ c 1024 1039=true):c+80=aT c∧c≤1039∧1024≤c:=by
 simp only [bJ,Bool.and_eq_true,decide_eq_true_eq] at h;refine⟨?_,by omega⟩
 have :∀a e:Int,e<1024→(decide (a≤c)&&decide (c≤e))=false :=fun a e he=>by
  rw [decide_eq_false (p:=c≤e) (by omega),Bool.and_false]
 simp only [aT,jt,ka,List.find?_cons];rw [this _ _ (by decide),this _ _ (by decide),this _ _ (by decide),this _ _ (by decide),this _ _ (by decide)];simp only [decide_eq_true h.1,decide_eq_true h.2,Bool.and_self]
theorem rQ {c:Int}(h:bJ c 1024 1039=false)(hc:bJ c 65 90=true∨bJ c 192 214=true∨bJ c 216 222=true∨bJ c 913 929=true∨bJ c 931 937=true∨bJ c 1040 1071=true):c+32=aT c∧c≤1071∧65≤c:=by
 have hb:c≤1071∧65≤c:=by
  simp only [bJ,Bool.and_eq_true,decide_eq_true_eq] at hc;omega
 refine⟨?_,hb⟩;have e:∀a b:Int,ka c (a,b)=bJ c a b:=fun _ _=>rfl;simp only [aT,jt,List.find?_cons,e,h];cases h1:bJ c 65 90<;>cases h2:bJ c 192 214<;>cases h3:bJ c 216 222<;>cases h4:bJ c 913 929<;>cases h5:bJ c 931 937<;>cases h6:bJ c 1040 1071<;>simp_all
theorem rS {c:Int}(h:bJ c 1024 1039=false)(hc:bJ c 65 90=false∧bJ c 192 214=false∧bJ c 216 222=false∧bJ c 913 929=false∧bJ c 931 937=false∧bJ c 1040 1071=false):c=aT c:=by
 have e:∀a b:Int,ka c (a,b)=bJ c a b:=fun _ _=>rfl;simp only [aT,jt,List.find?_cons,e,h,hc,List.find?_nil]
theorem Ew(b:List UInt8)(n:Int):∀k,k≤4→ -(1000*128^k)≤kR b n k∧kR b n k≤1000*128^k
 |0,_=>by
  have :=Et b
  have h2:0≤zk n∧zk n≤240:=by
   unfold zk;match n.toNat with
   |0=>decide
   |1=>decide
   |2=>decide
   |3=>decide
   |4=>decide
   |k+5=>simp
  simp only [kR];omega
 |k+1,h=>by
  have ih:=Ew b n k (by omega);simp only [kR];have hx:=(b.getD (k+1) 0).toNat_lt;generalize (b.getD (k+1) 0).toNat=y at hx ⊢;have :k=0∨k=1∨k=2∨k=3:=by omega
  rcases this with rfl|rfl|rfl|rfl<;>simp at ih ⊢ <;>omega
theorem QC {b:List UInt8} {n:Int} {k:Nat}(h:nc b n k)(hp:v7 b n): -268435456000≤kR b n (k-1)∧kR b n (k-1)≤268435456000:=by
 obtain⟨h1,h2,h3⟩:=h;obtain⟨_,_,hp⟩:=hp;have :=Ew b n (k-1) (by omega);have hk:k-1=0∨k-1=1∨k-1=2∨k-1=3:=by omega
 rcases hk with hk|hk|hk|hk<;>rw [hk] at this ⊢ <;>omega
theorem U0 {b:List UInt8} {n:Int} {k:Nat}(h:nc b n k):kR b n (k-1)*64+((b.getD (Int.toNat (k:Int)) 0).toNat:Int)-128=kR b n (k+1-1):=by
 obtain⟨j,rfl⟩:∃j,k=j+1:=⟨k-1,by have :=h.2.1;omega⟩;rfl
theorem Hw {b:List UInt8} {n:Int}:((b.getD (Int.toNat 0) 0).toNat:Int)- [0,0,192,224,240].getD n.toNat 0=kR b n 0:=rfl
theorem Xr {b:List UInt8} {n:Int} {k:Nat}(h:nc b n k)(hk:¬(k:Int)<n):kR b n (k-1)=aZ b n:=by
 have h1:=h.1;have h2:=h.2
 have :k=n.toNat:=by omega
 simp only [aZ];rw [if_neg (by omega),this]
theorem Mk {b:List UInt8} {n:Int}(h:(b.length:Int)<n): -1=aZ b n:=by simp only [aZ];rw [if_pos h]
theorem U1 {b:List UInt8} {i j:Nat}(hi:i<b.length):List.drop (Int.toNat (i:Int)) (List.take (Int.toNat (ju ((i:Int)+(j:Int)) (b.length:Int))) b)=(b.drop i).take j:=by
 simp only [ju];split
 · rw [show Int.toNat ((i:Int)+(j:Int))=i+j by omega,Int.toNat_natCast,List.drop_take,Nat.add_sub_cancel_left]
 · rw [Int.toNat_natCast,Int.toNat_natCast,List.take_length];rw [List.take_of_length_le];rw [List.length_drop];omega
theorem OV(b:List UInt8)(k:Nat):fm b (k+1)=if iZ (aZ b ((k+1:Nat):Int))=true∧enc (aZ b ((k+1:Nat):Int))=b.take (k+1) then(aZ b ((k+1:Nat):Int),((k+1:Nat):Int)) else fm b k:=by
 simp only [fm,nN,Bool.and_eq_true,decide_eq_true_eq]
theorem OW {c:Int}(h:iZ c=true):0≤c∧c≤1114111:=by rw [Er] at h;exact dB h
theorem adl(b:List UInt8):ic b (b.drop 0) []:=⟨rfl,by simp⟩
theorem mF {b:List UInt8} {x1:Nat×List Int} {x4:Nat×Nat}(h2:ic b (b.drop x1.1) x1.2∧x1.1≤b.length)(h3:(x1.1:Int)<b.length)(h5:x4.1≤4∧(x1.1:Int)=x4.2)(h9:¬((x4.1+1:Nat):Int)≤4):
  1≤(fm (b.drop x4.2) x4.1).2∧(x1.1:Int)+(fm (b.drop x4.2) x4.1).2≤b.length∧
  ic b (b.drop (Int.toNat ((x1.1:Int)+(fm (b.drop x4.2) x4.1).2))) (x1.2++ [(fm (b.drop x4.2) x4.1).1])∧x1.2.length+1≤b.length:=by
 have e1:x4.1=4:=by omega
 have e2:x4.2=x1.1:=by omega
 have hl:0<(b.drop x1.1).length:=by rw [List.length_drop];omega
 rw [e1,e2,uO _ hl];have hb:=mE _ hl;have hs:=Hr h2.1 (by omega);rw [List.drop_drop] at hs;rw [List.length_drop] at hb;have h6:=h2.1.2;rw [List.length_drop] at h6;refine⟨hb.1,by omega,?_,by omega⟩;rw [show Int.toNat ((x1.1:Int)+(aL (b.drop x1.1)).2)=x1.1+(aL (b.drop x1.1)).2.toNat by omega];exact hs
theorem Hx {b:List UInt8} {x1:Nat×List Int} {x4:Nat×Nat}(h3:(x1.1:Int)<b.length)(h5:x4.1≤4∧(x1.1:Int)=x4.2):
  fm (b.drop x1.1) (x4.1+1)=bif (bif iZ (aZ (b.drop (Int.toNat (x1.1:Int))) ((x4.1+1:Nat):Int)) then decide (enc (aZ (b.drop (Int.toNat (x1.1:Int))) ((x4.1+1:Nat):Int))=List.drop (Int.toNat (x1.1:Int)) (List.take (Int.toNat (ju ((x1.1:Int)+((x4.1+1:Nat):Int)) (b.length:Int))) b)) else false)
   then(aZ (b.drop (Int.toNat (x1.1:Int))) ((x4.1+1:Nat):Int),((x4.1+1:Nat):Int)) else fm (b.drop x4.2) x4.1:=by
 rw [U1 (by omega),OV,show x4.2=x1.1 by omega,Int.toNat_natCast];by_cases hr:iZ (aZ (b.drop x1.1) ((x4.1+1:Nat):Int))=true
 · by_cases he:enc (aZ (b.drop x1.1) ((x4.1+1:Nat):Int))=(b.drop x1.1).take (x4.1+1)
   · rw [if_pos ⟨hr,he⟩,hr,decide_eq_true he];rfl
   · rw [if_neg (fun h=>he h.2),hr,decide_eq_false he];rfl
 · rw [if_neg (fun h=>hr h.1),Bool.not_eq_true _ |>.mp hr];rfl
theorem U2 {α β:Type}(c:Bool)(p q:α×β):(bif c then p else q).1=(bif c then p.1 else q.1):=by cases c<;>rfl
theorem U3 {α β:Type}(c:Bool)(p q:α×β):(bif c then p else q).2=(bif c then p.2 else q.2):=by cases c<;>rfl
end Go.S

end
section
namespace Go.S
def eQ(c:Int):Bool:=letter c || digit c
def ja(t:List UInt8):List Int→List UInt8
 | []=>t
 |c::w=>if 64<t.length+(eS (aT c)).length then t else ja (t++eS (aT c)) w
def dF(w:List Int):List UInt8:=ja [] w
def GP(w:List Int):Prop :=w.length≤1099511627776∧∀c∈w,bp c=true
def iC(w:List Int)(k:Nat)(t:List UInt8):Prop :=ja t (w.drop k)=dF w∧k≤w.length∧t.length≤64
def jm(acc:List Int):List Int→List (List Int)
 | []=>if acc.isEmpty then [] else [acc]
 |c::l=>if eQ c then jm (acc++ [c]) l else if acc.isEmpty then jm [] l else acc::jm [] l
def aW(b:List UInt8):List (List UInt8):=(jm [] (decode b)).map dF
def ie(d:List Int)(k:Nat)(T:List (List UInt8))(W:List Int):Prop :=
 T++(jm W (d.drop k)).map dF=(jm [] d).map dF∧k≤d.length∧T.length≤k∧W.length≤k∧(∀c∈W,c∈d)
def jL(d:List Int)(k:Nat)(T:List (List UInt8)):Prop :=
 T++(jm [] (d.drop k)).map dF=(jm [] d).map dF∧k≤d.length+1∧T.length≤k
def oG(d:List Int)(i k:Nat):Prop :=i≤k∧k≤d.length∧∀c∈(d.drop i).take (k-i),eQ c=true
def isTerm(s:List UInt8):Bool:=decide (aW s= [s])
def cL(l:List (List UInt8)):Nat→Nat
 |0=>0
 |k+1=>if Op.bytesLess (l.getD k []) (l.getD (cL l k) []) then k else cL l k
def cE(l:List (List UInt8)):Nat:=cL l l.length
def oU(l:List (List UInt8))(k:Nat):Prop :=1≤k∧(k≤l.length∨k=1)
theorem Kt(c:Int):aT c=c∨(65≤c∧c≤1071∧(aT c=c+32∨aT c=c+80)):=by
 cases h:bJ c 1024 1039 with
 |true=>have :=rP h;omega
 |false=>
  by_cases h2:bJ c 65 90=true∨bJ c 192 214=true∨bJ c 216 222=true∨bJ c 913 929=true∨bJ c 931 937=true∨bJ c 1040 1071=true
  · have :=rQ h h2;omega
  · simp only [not_or,Bool.not_eq_true] at h2;exact .inl (rS h h2).symm
theorem sQ {c:Int}(h:bp c=true):bp (aT c)=true :=by
 have :=Kt c;rw [dg] at *;omega
theorem GQ(b:List UInt8):bp (aL b).1=true :=by
 unfold aL;split
 · rename_i h;have :=Et b;have e:bp (cd b)=true :=(dg _).2 (by omega);exact e
 · split
   · have e:bp 65533=true :=by rw [dg];omega
     exact e
   · rename_i h1 h2;simp only [not_or,Bool.not_eq_false] at h2;have e:bp (bC b (uN b-1))=true :=by have :=h2.2.2.2.1;assumption
     simp only;exact e
theorem kS(b:List UInt8):∀c∈decode b,bp c=true :=by
 have :∀f (x:List UInt8),∀c∈qu f x,bp c=true :=by
  intro f;induction f with
  |zero=>intro x c h;simp [qu] at h
  |succ f ih=>
   intro x c h;simp only [qu] at h;split at h
   · cases h
   · rcases List.mem_cons.1 h with h|h
     · rw [h];exact GQ x
     · exact ih _ c h
 exact this _ b
theorem lr {α:Type}(l:List α)(k:Nat)(d:α)(h:k<l.length):l.drop k=l.getD k d::l.drop (k+1):=by
 rw [List.drop_eq_getElem_cons h,List.getD_eq_getElem?_getD,List.getElem?_eq_getElem h,Option.getD_some]
theorem QD(w:List Int):iC w 0 []:=⟨rfl,Nat.zero_le _,by simp⟩
theorem Ey {w:List Int} {k:Nat} {t:List UInt8}(h:iC w k t)(hk:(k:Int)<w.length)(hs:¬(64:Int)<(t.length:Int)+((eS (aT (w.getD (Int.toNat (k:Int)) 0))).length:Int)):iC w (k+1) (t++eS (aT (w.getD (Int.toNat (k:Int)) 0))):=by
 obtain⟨h1,h2,h3⟩:=h;rw [Int.toNat_natCast] at *;rw [lr w k 0 (by omega)] at h1;simp only [ja] at h1;rw [if_neg (by omega)] at h1;exact⟨h1,by omega,by rw [List.length_append];omega⟩
theorem Ez {w:List Int} {k:Nat} {t:List UInt8}(h:iC w k t)(hk:(k:Int)<w.length)(hs:(64:Int)<(t.length:Int)+((eS (aT (w.getD (Int.toNat (k:Int)) 0))).length:Int)):t=dF w:=by
 obtain⟨h1,h2,h3⟩:=h;rw [Int.toNat_natCast] at *;rw [lr w k 0 (by omega)] at h1;simp only [ja] at h1;rw [if_pos (by omega)] at h1;exact h1
theorem Hy {w:List Int} {k:Nat} {t:List UInt8}(h:iC w k t)(hk:¬(k:Int)<w.length):t=dF w:=by
 obtain⟨h1,h2,h3⟩:=h;rw [List.drop_eq_nil_of_le (by omega)] at h1;exact h1
theorem EA(c:Int):(enc c).length≤4:=by unfold enc;(repeat' split)<;>simp
theorem Hz(c:Int):(eS c).length≤4:=by unfold eS;split;exact EA c;simp
theorem pP {w:List Int} {k:Nat}(h:GP w)(hk:(k:Int)<w.length):eS (aT (w.getD (Int.toNat (k:Int)) 0))=enc (aT (w.getD (Int.toNat (k:Int)) 0))∧0≤aT (w.getD (Int.toNat (k:Int)) 0)∧aT (w.getD (Int.toNat (k:Int)) 0)≤1114111:=by
 rw [Int.toNat_natCast];have :=sQ (h.2 _ (bo w k 0 (by omega)));refine⟨by simp only [eS,this,if_true],?_⟩;rw [dg] at this;omega
theorem aj7(d:List Int):ie d 0 [] []:=⟨rfl,Nat.zero_le _,by simp,by simp,by simp⟩
theorem U4 {d:List Int} {k:Nat} {T:List (List UInt8)} {W:List Int}(h:ie d k T W)(hk:(k:Int)<d.length)(hw:eQ (d.getD (Int.toNat (k:Int)) 0)=true):ie d (k+1) T (W++ [d.getD (Int.toNat (k:Int)) 0]):=by
 obtain⟨h1,h2,h3,h4,h5⟩:=h;rw [Int.toNat_natCast] at *;rw [lr d k 0 (by omega)] at h1;simp only [jm] at h1;rw [if_pos hw] at h1;refine⟨h1,by omega,by omega,by simp;omega,fun c hc=> ?_⟩;rcases List.mem_append.1 hc with hc|hc
 · exact h5 c hc
 · rw [List.mem_singleton.1 hc];exact bo d k 0 (by omega)
theorem Xs {d:List Int} {k:Nat} {T:List (List UInt8)} {W:List Int}(h:ie d k T W)(hk:(k:Int)<d.length)(hw:eQ (d.getD (Int.toNat (k:Int)) 0)=false)(hW:(0:Int)<W.length):ie d (k+1) (T++ [dF W]) []:=by
 obtain⟨h1,h2,h3,h4,h5⟩:=h;rw [Int.toNat_natCast] at *;rw [lr d k 0 (by omega)] at h1;simp only [jm] at h1;rw [if_neg (by rw [hw];decide),if_neg (by cases W;simp at hW;simp)] at h1;refine⟨?_,by omega,by simp;omega,by simp,by simp⟩;rw [List.append_assoc];exact h1
theorem U5 {d:List Int} {k:Nat} {T:List (List UInt8)} {W:List Int}(h:ie d k T W)(hk:(k:Int)<d.length)(hw:eQ (d.getD (Int.toNat (k:Int)) 0)=false)(hW:¬(0:Int)<W.length):ie d (k+1) T W:=by
 obtain⟨h1,h2,h3,h4,h5⟩:=h;rw [Int.toNat_natCast] at *;have :W= []:=List.eq_nil_of_length_eq_zero (by omega);subst this;rw [lr d k 0 (by omega)] at h1;simp only [jm] at h1;rw [if_neg (by rw [hw];decide),if_pos (by simp)] at h1;exact⟨h1,by omega,by omega,by simp,by simp⟩
theorem U6 {b:List UInt8} {k:Nat} {T:List (List UInt8)} {W:List Int}(h:ie (decode b) k T W)(hk:¬(k:Int)<(decode b).length)(hW:(0:Int)<W.length):T++ [dF W]=aW b:=by
 obtain⟨h1,h2,h3,h4,h5⟩:=h;rw [List.drop_eq_nil_of_le (by omega)] at h1;simp only [jm] at h1;rw [if_neg (by cases W;simp at hW;simp)] at h1;exact h1
theorem U7 {b:List UInt8} {k:Nat} {T:List (List UInt8)} {W:List Int}(h:ie (decode b) k T W)(hk:¬(k:Int)<(decode b).length)(hW:¬(0:Int)<W.length):T=aW b:=by
 obtain⟨h1,h2,h3,h4,h5⟩:=h;have :W= []:=List.eq_nil_of_length_eq_zero (by omega);subst this;rw [List.drop_eq_nil_of_le (by omega)] at h1;simp only [jm,List.isEmpty_nil,if_true,List.map_nil,List.append_nil] at h1;exact h1
theorem lV {b:List UInt8} {k:Nat} {T:List (List UInt8)} {W:List Int}(h:ie (decode b) k T W)(hb:b.length≤1099511627776):GP W∧T.length≤1099511627776∧W.length≤1099511627776∧k≤1099511627776:=by
 obtain⟨h1,h2,h3,h4,h5⟩:=h;have :=nM b;exact⟨⟨by omega,fun c hc=>kS b c (h5 c hc)⟩,by omega,by omega,by omega⟩
theorem adm(d:List Int):jL d 0 []:=⟨rfl,Nat.zero_le _,by simp⟩
theorem aj8 {d:List Int} {k:Nat}(h:(k:Int)<d.length):oG d k k:=⟨Nat.le_refl _,by omega,by simp⟩
theorem U8 {d:List Int} {i k:Nat}(h:oG d i k)(hk:(k:Int)<d.length)(hw:eQ (d.getD (Int.toNat (k:Int)) 0)=true):oG d i (k+1):=by
 obtain⟨h1,h2,h3⟩:=h;rw [Int.toNat_natCast] at hw;refine⟨by omega,by omega,fun c hc=> ?_⟩;rw [show k+1-i=(k-i)+1 by omega,aw _ _ 0 (by rw [List.length_drop];omega)] at hc;rcases List.mem_append.1 hc with hc|hc
 · exact h3 c hc
 · rw [List.mem_singleton.1 hc,List.getD_eq_getElem?_getD,List.getElem?_drop,show i+(k-i)=k by omega,←List.getD_eq_getElem?_getD];exact hw
theorem EB:∀(u acc rest:List Int),(∀c∈u,eQ c=true)→jm acc (u++rest)=jm (acc++u) rest
 | [],acc,rest,_=>by simp
 |c::u,acc,rest,h=>by
  simp only [List.cons_append,jm];rw [if_pos (h c (by simp)),EB u _ rest (fun x hx=>h x (by simp [hx]))];rw [List.append_assoc];rfl
theorem U9 {d:List Int} {i k:Nat} {T:List (List UInt8)}(h:jL d i T)(hr:oG d i k)(hs:¬(k:Int)<d.length∨eQ (d.getD (Int.toNat (k:Int)) 0)=false)(hik:(i:Int)<k):
  jL d (k+1) (T++ [dF (List.take (Int.toNat (k:Int)-Int.toNat (i:Int)) (List.drop (Int.toNat (i:Int)) d))]):=by
 obtain⟨h1,h2,h3⟩:=h;obtain⟨r1,r2,r3⟩:=hr;rw [Int.toNat_natCast] at *;rw [Int.toNat_natCast];refine⟨?_,by omega,by simp;omega⟩;rw [←List.take_append_drop (k-i) (d.drop i),EB _ _ _ r3,List.nil_append,List.drop_drop,show i+(k-i)=k by omega] at h1
 have dD:(List.take (k-i) (List.drop i d)).isEmpty=false :=by
  rw [List.isEmpty_eq_false_iff];intro h0;have :=congrArg List.length h0;rw [List.length_take,List.length_drop] at this;simp at this;omega
 by_cases hk:k<d.length
 · rw [lr d k 0 hk] at h1;simp only [jm] at h1;rw [if_neg (by rcases hs with hs|hs;omega;rw [hs];decide),dD,if_neg (by simp)] at h1;rw [List.append_assoc];exact h1
 · rw [List.drop_eq_nil_of_le (show d.length≤k by omega)] at h1;rw [List.drop_eq_nil_of_le (show d.length≤k+1 by omega)];simp only [jm] at h1;rw [dD,if_neg (by simp)] at h1;simp only [jm,List.isEmpty_nil,if_true,List.map_nil,List.append_nil,List.map_cons] at h1 ⊢;exact h1
theorem OX {d:List Int} {i k:Nat} {T:List (List UInt8)}(h:jL d i T)(hi:(i:Int)<d.length)(hr:oG d i k)(hs:¬(k:Int)<d.length∨eQ (d.getD (Int.toNat (k:Int)) 0)=false)(hik:¬(i:Int)<k):jL d (k+1) T:=by
 obtain⟨h1,h2,h3⟩:=h;have :i=k:=by have :=hr.1;omega
 subst this;rw [Int.toNat_natCast] at *;rw [lr d i 0 (by omega)] at h1;simp only [jm] at h1;rw [if_neg (by rcases hs with hs|hs;omega;rw [hs];decide),if_pos (by simp)] at h1;exact⟨h1,by omega,by omega⟩
theorem Va {b:List UInt8} {i:Nat} {T:List (List UInt8)}(h:jL (decode b) i T)(hi:¬(i:Int)<(decode b).length):T=aW b:=by
 obtain⟨h1,h2,h3⟩:=h;rw [List.drop_eq_nil_of_le (by omega)] at h1;simp only [jm,List.isEmpty_nil,if_true,List.map_nil,List.append_nil] at h1;exact h1
theorem adn {b:List UInt8} {i k:Nat}(hb:b.length≤1099511627776):GP (List.take (Int.toNat (k:Int)-Int.toNat (i:Int)) (List.drop (Int.toNat (i:Int)) (decode b))):=by
 have :=nM b;refine⟨by rw [List.length_take,List.length_drop];omega,fun c hc=>kS b c (List.mem_of_mem_drop (List.mem_of_mem_take hc))⟩
theorem Vb(s:List UInt8):(bif decide (((aW s).length:Int)=1) then decide (List.getD (aW s) (Int.toNat 0) []=s) else false)=isTerm s:=by
 unfold isTerm;match h:aW s with
 | []=>simp
 | [x]=>by_cases hx:x=s<;>simp [hx]
 |x::y::l=>simp;omega
theorem uP {l:List (List UInt8)}:∀k,0<l.length→k≤l.length→cL l k<l.length
 |0,h,_=>h
 |k+1,h,hk=>by
  simp only [cL];split
  · omega
  · exact uP k h (by omega)
theorem Ml(l:List (List UInt8)):cL l 1=0:=by
 have :∀b:Bool,(if b=true then 0 else 0)=(0:Nat):=by intro b;cases b<;>rfl
 exact this _
theorem OY {l:List (List UInt8)} {k:Nat}(h:oU l k)(hk:¬(k:Int)<l.length):cL l k=cE l:=by
 obtain⟨h1,h2⟩:=h;rcases h2 with h2|h2
 · rw [show k=l.length by omega];rfl
 · subst h2;by_cases h0:l.length=0
   · unfold cE;rw [h0,Ml];rfl
   · rw [show 1=l.length by omega];rfl
theorem Xt {c:Int}(h:letter c=true∨digit c=true):eQ c=true :=by simpa [eQ] using h
theorem Mm {c:Int}(h:letter c=false∧digit c=false):eQ c=false :=by simpa [eQ] using h
theorem Vc(c:Int):(bif letter c then true else bif decide (48≤c) then decide (c≤57) else false)=eQ c:=by
 unfold eQ digit;cases letter c<;>simp
theorem Mn(l:List (List UInt8))(x:Nat):(bif Op.bytesLess (List.getD l (Int.toNat (x:Int)) []) (List.getD l (Int.toNat ((cL l x:Nat):Int)) []) then(x:Int) else((cL l x:Nat):Int))=((cL l (x+1):Nat):Int):=by
 rw [Int.toNat_natCast,Int.toNat_natCast];rw [show cL l (x+1)=if Op.bytesLess (l.getD x []) (l.getD (cL l x) [])=true then x else cL l x from rfl];by_cases h:Op.bytesLess (l.getD x []) (l.getD (cL l x) [])=true
 · rw [if_pos h,h];rfl
 · rw [if_neg h,Bool.not_eq_true _ |>.mp h];rfl
def rf:Nat→List (List UInt8)→List (List UInt8)
 |0,_=> []
 |f+1,l=>if l.isEmpty then [] else l.getD (cE l) []::rf f (l.filter (fun x=> !decide (x=l.getD (cE l) [])))
def sorted(l:List (List UInt8)):List (List UInt8):=rf l.length l
def nO(l0 l out:List (List UInt8)):Prop :=out++sorted l=sorted l0∧out.length+l.length≤l0.length
def gO(l:List (List UInt8))(s:List UInt8)(k:Nat)(r:List (List UInt8)):Prop :=r=(l.take k).filter (fun x=> !decide (x=s))∧k≤l.length
def rT(l:List (List UInt8))(t:List UInt8)(k:Nat):List Int:=((List.range k).filter (fun i=>decide (l.getD i []=t))).map (fun(i:Nat)=>(i:Int))
def places(b t:List UInt8):List Int:=rT (aW b) t (aW b).length
def iD(l:List (List UInt8))(t:List UInt8)(k:Nat)(r:List Int):Prop :=r=rT l t k∧k≤l.length∧r.length≤k
def OZ(c:Int):Bool:=eQ c&&decide (aT c=c)
def O0(s:List UInt8):Bool:=(decode s).all OZ&&(decide (0<((decode s).length:Int))&&decide ((s.length:Int)≤64))
theorem uQ {l:List (List UInt8)}(h:0<l.length):cE l<l.length:=uP _ h (Nat.le_refl _)
theorem pQ {l:List (List UInt8)}(h:0<l.length):(l.filter (fun x=> !decide (x=l.getD (cE l) []))).length<l.length:=by
 have hm:=bo l (cE l) [] (uQ h);exact List.length_filter_lt_length_iff_exists.2 ⟨_,hm,by simp⟩
theorem wZ:∀(f g:Nat) (l:List (List UInt8)),l.length≤f→l.length≤g→rf f l=rf g l
 |0,0,_,_,_=>rfl
 |0,g+1,l,h,_=>by
  have :l= []:=List.eq_nil_of_length_eq_zero (by omega);subst this;rfl
 |f+1,0,l,_,h=>by
  have :l= []:=List.eq_nil_of_length_eq_zero (by omega);subst this;rfl
 |f+1,g+1,l,h1,h2=>by
  simp only [rf];cases hl:l.isEmpty with
  |true=>rfl
  |false=>
   have hp:0<l.length:=by rw [List.isEmpty_eq_false_iff] at hl;exact List.length_pos_iff.2 hl
   have :=pQ hp;rw [if_neg (by simp),if_neg (by simp),wZ f g _ (by omega) (by omega)]
theorem zl {l:List (List UInt8)}(h:0<l.length):sorted l=l.getD (cE l) []::sorted (l.filter (fun x=> !decide (x=l.getD (cE l) []))):=by
 have hr:=pQ h;unfold sorted;obtain⟨n,hn⟩:∃n,l.length=n+1:=⟨l.length-1,by omega⟩;rw [hn];simp only [rf];have :l.isEmpty=false :=by rw [List.isEmpty_eq_false_iff];exact List.length_pos_iff.1 h
 rw [this,if_neg (by simp),wZ n _ _ (by omega) (Nat.le_refl _)]
theorem ado(l:List (List UInt8)):nO l l []:=⟨rfl,by simp⟩
theorem Vd {l m out:List (List UInt8)}(h:nO l m out)(hm:¬(0:Int)<m.length):out=sorted l:=by
 have :m= []:=List.eq_nil_of_length_eq_zero (by omega);subst this;have h1:=h.1;simpa [sorted,rf] using h1
theorem adp(l:List (List UInt8))(s:List UInt8):gO l s 0 []:=⟨by simp,Nat.zero_le _⟩
theorem rest_step {l:List (List UInt8)} {s:List UInt8} {k:Nat} {r:List (List UInt8)}(h:gO l s k r)(hk:(k:Int)<l.length)(hs:(!decide (l.getD (Int.toNat (k:Int)) []=s))=true):gO l s (k+1) (r++ [l.getD (Int.toNat (k:Int)) []]):=by
 rw [Int.toNat_natCast] at *;refine⟨?_,by omega⟩;rw [aw l k [] (by omega),List.filter_append,←h.1,List.filter_cons,hs];simp
theorem O1 {l:List (List UInt8)} {s:List UInt8} {k:Nat} {r:List (List UInt8)}(h:gO l s k r)(hk:(k:Int)<l.length)(hs:(!decide (l.getD (Int.toNat (k:Int)) []=s))=false):gO l s (k+1) r:=by
 rw [Int.toNat_natCast] at *;refine⟨?_,by omega⟩;rw [aw l k [] (by omega),List.filter_append,←h.1,List.filter_cons,hs];simp
theorem Ve {l:List (List UInt8)} {s:List UInt8} {k:Nat} {r:List (List UInt8)}(h:gO l s k r):r.length≤k:=by
 rw [h.1];have :=List.length_filter_le (fun x=> !decide (x=s)) (l.take k);rw [List.length_take] at this;omega
theorem EC {l m out r:List (List UInt8)} {k:Nat}(h:nO l m out)(hm:(0:Int)<m.length)(hr:gO m (m.getD (Int.toNat ((cE m:Nat):Int)) []) k r)(hk:¬(k:Int)<m.length):nO l r (out++ [m.getD (Int.toNat ((cE m:Nat):Int)) []])∧r.length<m.length:=by
 rw [Int.toNat_natCast] at *;obtain⟨h1,h2⟩:=h;have :k=m.length:=by have :=hr.2;omega
 have e:r=m.filter (fun x=> !decide (x=m.getD (cE m) [])):=by rw [hr.1,this,List.take_length]
 have hl:=pQ (l:=m) (by omega);rw [zl (by omega)] at h1;rw [e];refine⟨⟨?_,?_⟩,hl⟩
 · rw [List.append_assoc];exact h1
 · rw [List.length_append];simp only [List.length_cons,List.length_nil];omega
theorem Ku {l:List (List UInt8)} {t:List UInt8} {k:Nat} {r:List Int}(h:iD l t k r)(hk:(k:Int)<l.length)(hs:l.getD (Int.toNat (k:Int)) []=t):iD l t (k+1) (r++ [(k:Int)]):=by
 rw [Int.toNat_natCast] at *;refine⟨?_,by omega,by have :=h.2.2;simp;omega⟩;rw [h.1];simp only [rT,List.range_succ,List.filter_append,List.map_append,List.filter_cons,hs,decide_true,if_true,List.filter_nil,List.map_cons,List.map_nil]
theorem Kv {l:List (List UInt8)} {t:List UInt8} {k:Nat} {r:List Int}(h:iD l t k r)(hk:(k:Int)<l.length)(hs:¬l.getD (Int.toNat (k:Int)) []=t):iD l t (k+1) r:=by
 rw [Int.toNat_natCast] at *;refine⟨?_,by omega,by have :=h.2.2;omega⟩;rw [h.1]
 have :∀(a:List Nat) (p:Nat→Bool),p k=false→(a++ [k]).filter p=a.filter p:=by
  intro a p hp;rw [List.filter_append,List.filter_cons,hp];simp
 simp only [rT,List.range_succ];rw [this _ _ (decide_eq_false hs)]
theorem Vf(l:List (List UInt8))(t:List UInt8):iD l t 0 []:=⟨rfl,Nat.zero_le _,Nat.le_refl _⟩
theorem Mo {b t:List UInt8} {k:Nat} {r:List Int}(h:iD (aW b) t k r)(hk:¬(k:Int)<(aW b).length):r=places b t:=by
 rw [h.1,show k=(aW b).length by have :=h.2.1;omega];rfl
theorem sR(b:List UInt8):(aW b).length≤b.length:=by
 have h0:∀(l acc:List Int),(jm acc l).length≤l.length+acc.length:=by
  intro l;induction l with
  |nil=>intro acc;simp only [jm];cases acc<;>simp
  |cons c l ih=>
   intro acc;simp only [jm];split
   · have :=ih (acc++ [c]);simp at this ⊢;omega
   · split
     · have :=ih [];simp at this ⊢;omega
     · rename_i h1 h2;have :0<acc.length:=by cases acc;simp at h2;simp
       have :=ih [];simp at this ⊢;omega
 have :=h0 (decode b) [];have :=nM b;simp only [aW,List.length_map];simp at *;omega
theorem zm {m l':List (List UInt8)} {s s':List UInt8} {k:Nat} {r:List (List UInt8)}(h:gO l' s' k r∧m=l'∧s=s'):gO m s k r:=by rw [h.2.1,h.2.2];exact h.1
end Go.S

end
section
namespace Go.S
theorem HA(b:List UInt8):∀k,(fm b k).1≠65533→enc (fm b k).1=b.take (fm b k).2.toNat
 |0,h=>absurd rfl h
 |k+1,h=>by
  simp only [fm] at h ⊢;by_cases ht:nN b (k+1)=true
  · rw [if_pos ht] at h ⊢;have :=((rO b (k+1)).1 ht).2;simpa using this
  · rw [if_neg ht] at h ⊢;exact HA b k h
theorem Mp {b:List UInt8}(hb:0<b.length)(h:(aL b).1≠65533):enc (aL b).1=b.take (aL b).2.toNat:=by
 rw [←uO b hb] at h ⊢;exact HA b 4 h
theorem Kw:∀(n:Nat) (b:List UInt8),b.length≤n→(∀c∈decode b,c≠65533)→(decode b).flatMap enc=b:=by
 intro n;induction n with
 |zero=>intro b h _;have :b= []:=List.eq_nil_of_length_eq_zero (by omega)
        subst this;rfl
 |succ n ih=>
  intro b h hc;by_cases h0:b.length=0
  · have :b= []:=List.eq_nil_of_length_eq_zero h0;subst this;rfl
  · have hb:=mE b (by omega);rw [sP b (by omega)] at hc ⊢;rw [List.flatMap_cons,Mp (by omega) (hc _ (by simp)),ih _ (by rw [List.length_drop];omega) (fun c h'=>hc c (by simp [h']))];exact List.take_append_drop _ _
theorem nd {c:Int}(h0:0≤c)(h1:c<256):((u8 c).toNat:Int)=c:=((AD h0 h1).1 rfl).symm
theorem uR {c:Int}(hr:bp c=true)(r:List UInt8):aZ (enc c++r) ((enc c).length:Nat)=c∧1≤(enc c).length∧(enc c).length≤4:=by
 have hb:=dB hr;unfold enc;split
 · refine⟨?_,by simp,by simp⟩;have e:=(Ks (u8 c) r).2;have e2:cd (u8 c::r)=c:=nd hb.1 (by omega);rw [e2] at e;exact e
 · split
   · refine⟨?_,by simp,by simp⟩;show aZ (u8 (192+c/64)::more c::r) 2=c;have h1:=nd (c:=192+c/64) (by omega) (by omega);have h2:((more c).toNat:Int)=128+c%64:=nd (c:=128+c%64) (by omega) (by omega)
     have e:aZ (u8 (192+c/64)::more c::r) 2=(((u8 (192+c/64)).toNat:Int)-192)*64+(more c).toNat-128:=by
      simp only [aZ];rw [if_neg (by simp;omega)];rfl
     rw [e,h1,h2];omega
   · split
     · refine⟨?_,by simp,by simp⟩;show aZ (u8 (224+c/4096)::more (c/64)::more c::r) 3=c;have h1:=nd (c:=224+c/4096) (by omega) (by omega);have h2:((more (c/64)).toNat:Int)=128+c/64%64:=nd (c:=128+c/64%64) (by omega) (by omega);have h3:((more c).toNat:Int)=128+c%64:=nd (c:=128+c%64) (by omega) (by omega)
       have e:aZ (u8 (224+c/4096)::more (c/64)::more c::r) 3=((((u8 (224+c/4096)).toNat:Int)-224)*64+(more (c/64)).toNat-128)*64+(more c).toNat-128:=by
        simp only [aZ];rw [if_neg (by simp;omega)];rfl
       rw [e,h1,h2,h3];omega
     · refine⟨?_,by simp,by simp⟩;show aZ (u8 (240+c/262144)::more (c/4096)::more (c/64)::more c::r) 4=c;have h1:=nd (c:=240+c/262144) (by omega) (by omega);have h2:((more (c/4096)).toNat:Int)=128+c/4096%64:=nd (c:=128+c/4096%64) (by omega) (by omega);have h3:((more (c/64)).toNat:Int)=128+c/64%64:=nd (c:=128+c/64%64) (by omega) (by omega);have h4:((more c).toNat:Int)=128+c%64:=nd (c:=128+c%64) (by omega) (by omega)
       have e:aZ (u8 (240+c/262144)::more (c/4096)::more (c/64)::more c::r) 4=(((((u8 (240+c/262144)).toNat:Int)-240)*64+(more (c/4096)).toNat-128)*64+(more (c/64)).toNat-128)*64+(more c).toNat-128:=by
        simp only [aZ];rw [if_neg (by simp;omega)];rfl
       rw [e,h1,h2,h3,h4];omega
theorem O2 {c:Int}(hr:bp c=true)(r:List UInt8):aL (enc c++r)=(c,((enc c).length:Int)):=by
 obtain⟨hb,h1,h4⟩:=uR hr r;have hl:0<(enc c++r).length:=by rw [List.length_append];omega
 have ht:nN (enc c++r) (enc c).length=true :=by
  rw [rO,hb];exact⟨hr,by rw [List.take_left'];rfl⟩
 have hg:=(pO _ _ hl h1 h4).1.1 ht;rw [←uO _ hl,xO hl hg h1 4 (Nat.le_refl _) h4,hb]
theorem uS:∀(P:List Int),(∀c∈P,bp c=true)→decode (P.flatMap enc)=P
 | [],_=>rfl
 |c::P,h=>by
  have hr:=h c (by simp);have h1:=(uR hr []).2.1;rw [List.flatMap_cons,sP _ (by rw [List.length_append];omega),O2 hr];simp only;rw [Int.toNat_natCast,List.drop_left' rfl,uS P (fun x hx=>h x (by simp [hx]))]
theorem ED:∀(w:List Int) (t:List UInt8),t.length+(w.flatMap fun c=>eS (aT c)).length≤64→ja t w=t++w.flatMap fun c=>eS (aT c)
 | [],t,_=>by simp [ja]
 |c::w,t,h=>by
  rw [List.flatMap_cons,List.length_append] at h;simp only [ja];rw [if_neg (by omega),ED w _ (by rw [List.length_append];omega),List.flatMap_cons,List.append_assoc]
theorem uU:∀(w:List Int) (t:List UInt8),∃p:List Int,(∀c∈p,c∈w)∧ja t w=t++p.flatMap fun c=>eS (aT c)
 | [],t=>⟨[],by simp,by simp [ja]⟩
 |c::w,t=>by
  simp only [ja];split
  · exact⟨[],by simp,by simp⟩
  · obtain⟨p,h1,h2⟩:=uU w (t++eS (aT c));refine⟨c::p,?_,by rw [h2,List.flatMap_cons,List.append_assoc]⟩;intro x hx;rcases List.mem_cons.1 hx with hx|hx
    · simp [hx]
    · simp [h1 x hx]
theorem v8:∀(w:List Int) (t:List UInt8),t.length≤64→(ja t w).length≤64
 | [],t,h=>h
 |c::w,t,h=>by
  simp only [ja];split
  · exact h
  · exact v8 w _ (by rw [List.length_append];omega)
theorem zn:∀(l acc:List Int),(∀c∈acc,eQ c=true)→∀W∈jm acc l,∀c∈W,eQ c=true∧(c∈acc∨c∈l)
 | [],acc,ha,W,hW,c,hc=>by
   simp only [jm] at hW;split at hW
   · cases hW
   · rw [List.mem_singleton.1 hW] at hc;exact⟨ha c hc, .inl hc⟩
 |x::l,acc,ha,W,hW,c,hc=>by
  simp only [jm] at hW;by_cases hx:eQ x=true
  · rw [if_pos hx] at hW
    have :=zn l (acc++ [x]) (fun y hy=>by
     rcases List.mem_append.1 hy with hy|hy
     · exact ha y hy
     · rw [List.mem_singleton.1 hy];exact hx) W hW c hc
    refine⟨this.1,?_⟩;rcases this.2 with h|h
    · rcases List.mem_append.1 h with h|h
      · exact .inl h
      · exact .inr (by simp [List.mem_singleton.1 h])
    · exact .inr (by simp [h])
  · rw [if_neg hx] at hW
    have hn:∀W'∈jm [] l,∀c∈W',eQ c=true∧(c∈acc∨c∈x::l):=fun W' h' y hy=>by
     have :=zn l [] (by simp) W' h' y hy;refine⟨this.1, .inr ?_⟩;rcases this.2 with h|h
     · cases h
     · simp [h]
    split at hW
    · exact hn W hW c hc
    · rcases List.mem_cons.1 hW with h|h
      · rw [h] at hc;exact⟨ha c hc, .inl hc⟩
      · exact hn W h c hc
theorem sS {c a b:Int}(h:c<a∨b<c):bJ c a b=false :=by
 simp only [bJ,Bool.and_eq_false_iff,decide_eq_false_iff_not];omega
theorem EE {c a b:Int}:bJ c a b=true↔a≤c∧c≤b:=by simp [bJ]
theorem zo(c:Int):aT (aT c)=aT c:=by
 have stay:∀x:Int,(97≤x∧x<192)∨(223≤x∧x<913)∨(938≤x∧x<1024)∨1072≤x→aT x=x:=fun x h=>by
  refine(rS (sS (by omega)) ⟨sS (by omega),sS (by omega),sS (by omega),sS (by omega),sS (by omega),sS (by omega)⟩).symm
 cases h:bJ c 1024 1039 with
 |true=>have :=rP h;exact stay _ (by omega)
 |false=>
  by_cases h2:bJ c 65 90=true∨bJ c 192 214=true∨bJ c 216 222=true∨bJ c 913 929=true∨bJ c 931 937=true∨bJ c 1040 1071=true
  · have :=rQ h h2;simp only [EE] at h2;exact stay _ (by omega)
  · simp only [not_or,Bool.not_eq_true] at h2;rw [←rS h h2,←rS h h2]
theorem uV(c:Int):letter c=true↔(65≤c∧c≤90)∨(97≤c∧c≤122)∨(192≤c∧c≤214)∨(216≤c∧c≤246)∨(248≤c∧c≤255)∨(913≤c∧c≤929)∨(931≤c∧c≤937)∨(945≤c∧c≤969)∨(1024≤c∧c≤1119):=by
 rw [Eu];simp only [Bool.or_eq_true,EE]
theorem AE(c:Int):eQ c=true↔letter c=true∨(48≤c∧c≤57):=by simp [eQ,digit]
theorem BF {c:Int}(h:eQ c=true):eQ (aT c)=true :=by
 cases h1:bJ c 1024 1039 with
 |true=>have :=rP h1;rw [AE,uV];omega
 |false=>
  by_cases h2:bJ c 65 90=true∨bJ c 192 214=true∨bJ c 216 222=true∨bJ c 913 929=true∨bJ c 931 937=true∨bJ c 1040 1071=true
  · have :=rQ h1 h2;simp only [EE] at h2;rw [AE,uV];omega
  · simp only [not_or,Bool.not_eq_true] at h2;rw [←rS h1 h2];exact h
theorem qv {α β:Type} {l:List α} {f g:α→List β}(h:∀x∈l,f x=g x):l.flatMap f=l.flatMap g:=by
 induction l with
 |nil=>rfl
 |cons a l ih=>rw [List.flatMap_cons,List.flatMap_cons,h a (by simp),ih (fun x hx=>h x (by simp [hx]))]
theorem zp {c:Int}(h:bp c=true):eS c=enc c:=by simp only [eS,h,if_true]
theorem Vh(s:List UInt8):O0 s=isTerm s:=by
 rw [Bool.eq_iff_iff];simp only [O0,isTerm,Bool.and_eq_true,decide_eq_true_eq,List.all_eq_true,OZ];constructor
 · rintro⟨hg,h0,hl⟩
   have hf:=Kw s.length s (Nat.le_refl _) (fun c hc e=>by
    have :=(hg c hc).1;rw [e,AE,uV] at this;omega)
   have hw:jm [] (decode s)= [decode s]:=by
    have :=EB (decode s) [] [] (fun c hc=>(hg c hc).1);rw [List.append_nil,List.nil_append] at this;rw [this];simp only [jm];rw [if_neg];intro he;rw [List.isEmpty_iff.1 he] at h0;simp at h0
   have he:(decode s).flatMap (fun c=>eS (aT c))=s:=by
    rw [qv (g:=enc) (fun c hc=>by rw [(hg c hc).2,zp (kS s c hc)]),hf]
   simp only [aW,hw,List.map_cons,List.map_nil,dF];rw [ED _ _ (by rw [he];simp;omega),he];rfl
 · intro h
   have hlen:s.length≤64:=by
    have hm:s∈aW s:=by rw [h];simp
    simp only [aW,List.mem_map] at hm;obtain⟨w,_,hw⟩:=hm;rw [←hw];exact v8 w [] (by simp)
   have hm:s∈aW s:=by rw [h];simp
   simp only [aW,List.mem_map] at hm;obtain⟨W,hW,hs⟩:=hm;have aG:=zn (decode s) [] (by simp) W hW;obtain⟨p,hp,hpf⟩:=uU W []
   have hr:∀c∈p,bp (aT c)=true :=fun c hc=>sQ (kS s c (by
    rcases(aG c (hp c hc)).2 with h|h
    · cases h
    · exact h))
   have JH:s=(p.map aT).flatMap enc:=by
    rw [←hs];show ja [] W=_
    rw [hpf,List.nil_append,List.flatMap_map];exact qv fun c hc=>zp (hr c hc)
   have hd:decode s=p.map aT:=by
    conv=>lhs;rw [JH]
    exact uS _ (fun c hc=>by
     obtain⟨c',h',rfl⟩:=List.mem_map.1 hc;exact hr c' h')
   refine⟨fun c hc=> ?_,?_,by omega⟩
   · rw [hd] at hc;obtain⟨c',h',rfl⟩:=List.mem_map.1 hc;exact⟨BF (aG c' (hp c' h')).1,zo c'⟩
   · by_cases h0:decode s= []
     · rw [h0] at hW;simp [jm] at hW
     · have :=List.length_pos_iff.2 h0;omega
end Go.S

end
section
namespace Go.S
theorem bU:∀a:List UInt8,Op.bytesLess a a=false
 | []=>rfl
 |a::x=>by simp [Op.bytesLess,bU x]
theorem kg:∀a b c:List UInt8,Op.bytesLess a b=true→Op.bytesLess b c=true→Op.bytesLess a c=true
 |_,[],_,h,_=>by simp [Op.bytesLess] at h
 |_,_::_,[],_,h=>by simp [Op.bytesLess] at h
 | [],_::_,_::_,_,_=>rfl
 |a::x,b::y,c::z,h1,h2=>by
  simp only [Op.bytesLess,Bool.or_eq_true,decide_eq_true_eq,Bool.and_eq_true,beq_iff_eq] at h1 h2 ⊢;rcases h1 with h1|⟨rfl,h1⟩
  · rcases h2 with h2|⟨rfl,h2⟩
    · left;rw [UInt8.lt_iff_toNat_lt] at *;omega
    · left;exact h1
  · rcases h2 with h2|⟨rfl,h2⟩
    · left;exact h2
    · right;exact⟨rfl,kg x y z h1 h2⟩
theorem gP:∀a b:List UInt8,Op.bytesLess a b=true∨a=b∨Op.bytesLess b a=true
 | [],[]=> .inr (.inl rfl)
 | [],_::_=> .inl rfl
 |_::_,[]=> .inr (.inr rfl)
 |a::x,b::y=>by
  simp only [Op.bytesLess,Bool.or_eq_true,decide_eq_true_eq,Bool.and_eq_true,beq_iff_eq,List.cons.injEq];by_cases h:a=b
  · subst h;rcases gP x y with h|h|h
    · exact .inl (.inr ⟨rfl,h⟩)
    · exact .inr (.inl ⟨rfl,h⟩)
    · exact .inr (.inr (.inr ⟨rfl,h⟩))
  · have :a.toNat≠b.toNat:=fun e=>h (UInt8.toNat_inj.1 e);by_cases h2:a.toNat<b.toNat
    · exact .inl (.inl (UInt8.lt_iff_toNat_lt.2 h2))
    · exact .inr (.inr (.inl (UInt8.lt_iff_toNat_lt.2 (by omega))))
theorem iE {a b:List UInt8}(h:Op.bytesLess a b=true):Op.bytesLess b a=false :=by
 cases h2:Op.bytesLess b a with
 |false=>rfl
 |true=>have :=kg _ _ _ h h2;rw [bU] at this;cases this
def mi(l:List (List UInt8)):Prop :=l.Pairwise fun a b=>Op.bytesLess a b=true
theorem sT:∀(l m:List (List UInt8)),mi l→mi m→(∀x,x∈l↔x∈m)→l=m
 | [],[],_,_,_=>rfl
 | [],b::m,_,_,h=>by have :=(h b).2 (by simp);cases this
 |a::l,[],_,_,h=>by have :=(h a).1 (by simp);cases this
 |a::l,b::m,hl,hm,h=>by
  obtain⟨hl1,hl2⟩:=List.pairwise_cons.1 hl;obtain⟨hm1,hm2⟩:=List.pairwise_cons.1 hm
  have fE:a=b:=by
   rcases List.mem_cons.1 ((h a).1 (by simp)) with e|e
   · exact e
   · rcases List.mem_cons.1 ((h b).2 (by simp)) with e2|e2
     · exact e2.symm
     · have q1:=hm1 a e;have q2:=iE (hl1 b e2);rw [q1] at q2;cases q2
  subst fE
  have :=sT l m hl2 hm2 (fun x=>by
   constructor
   · intro hx;rcases List.mem_cons.1 ((h x).1 (by simp [hx])) with e|e
     · have :=hl1 x hx;rw [e,bU] at this;cases this
     · exact e
   · intro hx;rcases List.mem_cons.1 ((h x).2 (by simp [hx])) with e|e
     · have :=hm1 x hx;rw [e,bU] at this;cases this
     · exact e)
  rw [this]
theorem EF(l:List (List UInt8)):∀k,k≤l.length→∀i,i<k→Op.bytesLess (l.getD i []) (l.getD (cL l k) [])=false
 |0,_,i,hi=>by omega
 |k+1,hk,i,hi=>by
  have ih:=EF l k (by omega);rw [show cL l (k+1)=if Op.bytesLess (l.getD k []) (l.getD (cL l k) [])=true then k else cL l k from rfl];by_cases h:Op.bytesLess (l.getD k []) (l.getD (cL l k) [])=true
  · rw [if_pos h];by_cases e:i=k
    · rw [e];exact bU _
    · have q:=ih i (by omega);cases hq:Op.bytesLess (l.getD i []) (l.getD k []) with
      |false=>rfl
      |true=>have :=kg _ _ _ hq h;rw [this] at q;cases q
  · rw [if_neg h];by_cases e:i=k
    · rw [e];simpa using h
    · exact ih i (by omega)
theorem EG:∀(n:Nat) (l:List (List UInt8)),l.length≤n→mi (sorted l)∧∀x,x∈sorted l↔x∈l:=by
 intro n;induction n with
 |zero=>
  intro l h;have :l= []:=List.eq_nil_of_length_eq_zero (by omega);subst this;exact⟨List.Pairwise.nil,fun x=>Iff.rfl⟩
 |succ n ih=>
  intro l h;by_cases h0:l.length=0
  · have :l= []:=List.eq_nil_of_length_eq_zero h0;subst this;exact⟨List.Pairwise.nil,fun x=>Iff.rfl⟩
  · have hp:0<l.length:=by omega
    have hr:=pQ hp;obtain⟨i1,i2⟩:=ih (l.filter (fun x=> !decide (x=l.getD (cE l) []))) (by omega);have hm:l.getD (cE l) []∈l:=bo l _ [] (uQ hp);rw [zl hp];refine⟨List.pairwise_cons.2 ⟨fun x hx=> ?_,i1⟩,fun x=> ?_⟩
    · have j1:=(i2 x).1 hx;simp only [List.mem_filter,Bool.not_eq_true',decide_eq_false_iff_not] at j1;obtain⟨i,hi,e⟩:=List.mem_iff_getElem.1 j1.1;have e2:l.getD i []=x:=by rw [List.getD_eq_getElem?_getD,List.getElem?_eq_getElem hi];exact e
      have q:=EF l l.length (Nat.le_refl _) i hi;rw [e2] at q;rcases gP (l.getD (cE l) []) x with t|t|t
      · exact t
      · exact absurd t.symm j1.2
      · have q':Op.bytesLess x (l.getD (cE l) [])=false :=q;rw [t] at q';cases q'
    · rw [List.mem_cons,i2 x,List.mem_filter];simp only [Bool.not_eq_true',decide_eq_false_iff_not];constructor
      · rintro(h|h)
        · rw [h];exact hm
        · exact h.1
      · intro hx;by_cases e:x=l.getD (cE l) []
        · exact .inl e
        · exact .inr ⟨hx,e⟩
theorem kh(l:List (List UInt8)):mi (sorted l):=(EG _ l (Nat.le_refl _)).1
theorem fW(l:List (List UInt8))(x:List UInt8):x∈sorted l↔x∈l:=(EG _ l (Nat.le_refl _)).2 x
theorem O3 {l m:List (List UInt8)}(h1:mi m)(h2:∀x,x∈m↔x∈l):m=sorted l:=
 sT _ _ h1 (kh l) (fun x=>(h2 x).trans (fW l x).symm)
def bO:List (List UInt8)→List (List UInt8)
 | []=> []
 |a::l=>match bO l with
  | []=> [a]
  |b::r=>if a=b then b::r else a::b::r
theorem oH:∀(l:List (List UInt8)) (x:List UInt8),x∈bO l↔x∈l
 | [],_=>Iff.rfl
 |a::l,x=>by
  have ih:=oH l x;simp only [bO];split
  · rename_i h;rw [h] at ih;rw [List.mem_singleton,List.mem_cons];constructor
    · exact .inl
    · rintro(h|h)
      · exact h
      · have :=ih.2 h;cases this
  · rename_i b r h;rw [h] at ih;split
    · rename_i e;subst e;rw [ih,List.mem_cons];constructor
      · exact .inr
      · rintro(h2|h2)
        · rw [←ih,h2];simp
        · exact h2
    · rw [List.mem_cons,ih,List.mem_cons]
theorem w7:∀(l:List (List UInt8)),(l.Pairwise fun a b=>Op.bytesLess b a=false)→mi (bO l)
 | [],_=>List.Pairwise.nil
 |a::l,h=>by
  obtain⟨h1,h2⟩:=List.pairwise_cons.1 h;have ih:=w7 l h2;simp only [bO];split
  · exact List.pairwise_singleton _ _
  · rename_i b r hb;rw [hb] at ih;split
    · exact ih
    · rename_i dD;refine List.pairwise_cons.2 ⟨fun x hx=> ?_,ih⟩;have oI:b∈l:=by rw [←oH l,hb];simp
      have fE:Op.bytesLess a b=true :=by
       rcases gP a b with t|t|t
       · exact t
       · exact absurd t dD
       · rw [h1 b oI] at t;cases t
      rcases List.mem_cons.1 hx with e|e
      · rw [e];exact fE
      · exact kg _ _ _ fE ((List.pairwise_cons.1 ih).1 x e)
theorem Co {l m:List (List UInt8)}(h1:m.Pairwise fun a b=>Op.bytesLess b a=false)(h2:∀x,x∈m↔x∈l):bO m=sorted l:=
 O3 (w7 m h1) (fun x=>(oH m x).trans (h2 x))
end Go.S
namespace Go.S
def gn(a b:List UInt8):Int:=if Op.bytesLess a b then -1 else if Op.bytesLess b a then 1 else 0
theorem adq(a b:List UInt8):decide (gn a b=0)=decide (a=b):=by
 rw [decide_eq_decide];unfold gn;rcases gP a b with h|h|h
 · rw [if_pos h];constructor
   · intro e;exact absurd e (by decide)
   · intro e;rw [e,bU] at h;cases h
 · subst h;simp [bU]
 · rw [if_neg (by rw [iE h];decide),if_pos h];constructor
   · intro e;exact absurd e (by decide)
   · intro e;rw [e,bU] at h;cases h
end Go.S
namespace Go.S
def oJ(l:List (List UInt8))(k:Nat):Prop :=1≤k∧k≤l.length∧∀j,j+1<k→¬l.getD (j+1) []=l.getD j []
def jM(l:List (List UInt8))(x i k:Nat)(m:List (List UInt8)):Prop :=1≤k∧x+k≤l.length∧1≤i∧i+1≤x+k∧m.length=l.length∧m.drop i=l.drop i∧m.take i=bO (l.take (x+k))
theorem Mq {l:List (List UInt8)}(h:l≠ []):∃b r,bO l=b::r:=by
 cases hc:bO l with
 |nil=>
  cases l with
  |nil=>exact absurd rfl h
  |cons a l=>have :=(oH (a::l) a).2 (by simp);rw [hc] at this;cases this
 |cons b r=>exact⟨b,r,rfl⟩
theorem w8(a b:List UInt8):∀p:List (List UInt8),bO (p++ [a,b])=if a=b then bO (p++ [a]) else bO (p++ [a])++ [b]
 | []=>by
   by_cases h:a=b
   · subst h;simp [bO]
   · simp [bO,h]
 |c::p=>by
  have ih:=w8 a b p;obtain⟨h,r,e⟩:=Mq (l:=p++ [a]) (by simp);simp only [List.cons_append,bO];rw [ih,e];by_cases fE:a=b
  · simp only [if_pos fE]
  · simp only [if_neg fE,List.cons_append];by_cases hc:c=h
    · simp only [if_pos hc,List.cons_append]
    · simp only [if_neg hc,List.cons_append]
theorem ng {l:List (List UInt8)} {n:Nat}(h:n+1<l.length):bO (l.take (n+2))=if l.getD n []=l.getD (n+1) [] then bO (l.take (n+1)) else bO (l.take (n+1))++ [l.getD (n+1) []]:=by
 rw [aw l (n+1) [] h,aw l n [] (by omega),List.append_assoc,List.singleton_append];exact w8 _ _ _
theorem AF {l:List (List UInt8)}:∀k,k≤l.length→(∀j,j+1<k→¬l.getD (j+1) []=l.getD j [])→bO (l.take k)=l.take k
 |0,_,_=>by simp [bO]
 |1,h,_=>by
  cases l with
  |nil=>simp at h
  |cons a l=>simp [bO]
 |k+2,hk,h=>by
  rw [ng (by omega),if_neg (fun e=>h k (by omega) e.symm),AF (k+1) (by omega) (fun j hj=>h j (by omega)),←aw l (k+1) [] (by omega)]
theorem O4 {l:List (List UInt8)}(h:(l.length:Int)<2):l=bO l:=by
 match l,h with
 | [],_=>rfl
 | [a],_=>rfl
 |a::b::l,h=>simp at h;omega
theorem akb {l:List (List UInt8)}(h:¬(l.length:Int)<2):oJ l 1:=⟨Nat.le_refl _,by omega,fun j hj=>by omega⟩
theorem Vi {l:List (List UInt8)} {k:Nat}(h:oJ l k)(hk:(k:Int)<l.length)(hn:¬l.getD k []=l.getD (Int.toNat ((k:Int)-1)) []):oJ l (k+1):=by
 obtain⟨h1,h2,h3⟩:=h;rw [show Int.toNat ((k:Int)-1)=k-1 by omega] at hn;refine⟨by omega,by omega,fun j hj=> ?_⟩;by_cases e:j+1=k
 · rw [show j=k-1 by omega,show k-1+1=k by omega];exact hn
 · exact h3 j (by omega)
theorem Xu {l:List (List UInt8)} {k:Nat}(h:oJ l k)(hk:¬(k:Int)<l.length):l=bO l:=by
 obtain⟨h1,h2,h3⟩:=h;have e:=AF k h2 h3;rw [List.take_of_length_le (by omega)] at e;exact e.symm
theorem adr {l:List (List UInt8)} {x:Nat}(h:oJ l x)(hx:(x:Int)<l.length)(he:l.getD x []=l.getD (Int.toNat ((x:Int)-1)) []):jM l x x 1 l:=by
 obtain⟨h1,h2,h3⟩:=h;rw [show Int.toNat ((x:Int)-1)=x-1 by omega] at he;refine⟨Nat.le_refl _,by omega,h1,Nat.le_refl _,rfl,rfl,?_⟩;obtain⟨y,rfl⟩:∃y,x=y+1:=⟨x-1,by omega⟩;rw [Nat.add_sub_cancel] at he;rw [show y+1+1=y+2 by omega,ng (by omega),if_pos he.symm,AF (y+1) (by omega) h3]
theorem HC {l m:List (List UInt8)} {x i k:Nat}(h:jM l x i k m)(hk:x+k<l.length):m.getD (x+k) []=l.getD (x+k) []∧m.getD (x+k-1) []=l.getD (x+k-1) []:=by
 obtain⟨h1,h2,h3,h4,h5,h6,h7⟩:=h
 have key:∀j,i≤j→m.getD j []=l.getD j []:=fun j hj=>by
  have :=congrArg (fun q=>q.getD (j-i) []) h6;simp only [List.getD_eq_getElem?_getD,List.getElem?_drop] at this ⊢;rwa [show i+(j-i)=j by omega] at this
 exact⟨key _ (by omega),key _ (by omega)⟩
theorem O5 {l m:List (List UInt8)} {x i k:Nat}(h:jM l x i k m)(hk:x+k<l.length)(he:m.getD (x+k) []=m.getD (x+k-1) []):jM l x i (k+1) m:=by
 have hg:=HC h hk;obtain⟨h1,h2,h3,h4,h5,h6,h7⟩:=h;rw [hg.1,hg.2] at he;refine⟨by omega,by omega,h3,by omega,h5,h6,?_⟩;rw [h7];obtain⟨n,hn⟩:∃n,x+k=n+1:=⟨x+k-1,by omega⟩;rw [show x+(k+1)=n+2 by omega,hn,ng (by omega),if_pos];rw [hn,Nat.add_sub_cancel] at he;exact he.symm
theorem Vj {l m:List (List UInt8)} {x i k:Nat}(h:jM l x i k m)(hk:x+k<l.length)(he:¬m.getD (x+k) []=m.getD (x+k-1) []):jM l x (i+1) (k+1) (m.set i (m.getD (x+k) [])):=by
 have hg:=HC h hk;obtain⟨h1,h2,h3,h4,h5,h6,h7⟩:=h;rw [hg.1,hg.2] at he;rw [hg.1];refine⟨by omega,by omega,by omega,by omega,by rw [List.length_set];exact h5,?_,?_⟩
 · rw [List.drop_set,if_pos (by omega)];have :=congrArg (List.drop 1) h6;rwa [List.drop_drop,List.drop_drop] at this
 · have hi:i<(m.set i (l.getD (x+k) [])).length:=by rw [List.length_set];omega
   rw [aw _ _ [] hi,List.take_set,List.set_eq_of_length_le (by rw [List.length_take];omega),h7];rw [List.getD_eq_getElem?_getD,List.getElem?_set_self (by omega),Option.getD_some];obtain⟨n,hn⟩:∃n,x+k=n+1:=⟨x+k-1,by omega⟩;rw [show x+(k+1)=n+2 by omega,hn,ng (by omega),if_neg];rw [hn,Nat.add_sub_cancel] at he;exact fun e=>he e.symm
theorem Vk {l m:List (List UInt8)} {x i k:Nat}(h:jM l x i k m)(hk:¬x+k<l.length):m.take i=bO l:=by
 obtain⟨h1,h2,h3,h4,h5,h6,h7⟩:=h;rw [h7,List.take_of_length_le (by omega)]
end Go.S

end
section
namespace Go.S
def up(l:List (List UInt8)):Prop :=l.Pairwise fun a b=>Op.bytesLess b a=false
def gp(l:List (List UInt8)):List (List UInt8):=l.mergeSort fun a b=> !Op.bytesLess b a
theorem Vl(l:List (List UInt8)):up (gp l):=by
 have :=List.pairwise_mergeSort (le:=fun a b=> !Op.bytesLess b a) (fun a b c h1 h2=>by
  simp only [Bool.not_eq_true'] at h1 h2 ⊢;cases h:Op.bytesLess c a with
  |false=>rfl
  |true=>
   rcases gP a b with t|t|t
   · rw [kg _ _ _ h t] at h2;cases h2
   · subst t;rw [h] at h2;cases h2
   · rw [t] at h1;cases h1) (fun a b=>by
  simp only [Bool.or_eq_true,Bool.not_eq_true'];rcases gP a b with t|t|t
  · exact .inl (iE t)
  · subst t;exact .inl (bU _)
  · exact .inr (iE t)) l
 exact this.imp (fun h=>by simpa using h)
theorem Mr(l:List (List UInt8)):(gp l).Perm l:=List.mergeSort_perm l _
theorem Xv(l:List (List UInt8)):bO (gp l)=sorted l:=Co (Vl l) (fun _=>(Mr l).mem_iff)
end Go.S

end
section
namespace Go.S
def sp(n:Nat):Nat:=2^Nat.log2 (n-1)
def split(n:Int):Int:=if n<2∨1099511627776<n then 0 else((sp n.toNat:Nat):Int)
def O6:Nat→List (List UInt8)→List UInt8
 |0,_=>sum []
 |f+1,l=>if l.length=0 then sum [] else if l.length=1 then l.getD 0 [] else UT (O6 f (l.take (sp l.length))) (O6 f (l.drop (sp l.length)))
def root(l:List (List UInt8)):List UInt8:=O6 l.length l
def leaves(l:List (List UInt8)):List (List UInt8):=l.map leaf
def EH(l:List (List UInt8))(t a:Nat):List UInt8:=root ((l.drop (2^t*a)).take (2^t))
end Go.S

end
section
namespace Go.S
def mG(l:List Int)(i:Nat):Int:=if i=0 then -1 else l.getD (i-1) 0
def EI(l:List Int)(i:Nat):Bool:=decide (mG l i<l.getD i 0)&&decide (l.getD i 0<1000)
def fN(l:List Int):Bool:=(List.range l.length).all (EI l)
def kT(l:List Int)(k:Nat):Prop :=(∀i,i<k→EI l i=true)∧k≤l.length
def ads(l:List Int)(k:Nat):List UInt8:=num l.length++(List.range k).flatMap (fun i=>num (l.getD i 0-mG l i-1))
def akc(l:List Int):List UInt8:=ads l l.length
def adt(l:List Int):List UInt8:=OL 2 (akc l)
def pR(n a b:Int):Bool:=decide (a≤n)&&decide (n<b)
def fO:List Int:= []
def Vm(l:List Int):List Int:=if fN l then l else []
def EJ(l:List Int)(a b:Int):List Int:=(Vm l).filter (fun n=>pR n a b)
def jN(l:List Int)(a b:Int)(r out:List Int):Prop :=out++r.filter (fun n=>pR n a b)=EJ l a b∧out.length+r.length≤1000
def qw(a b:List Int)(k:Nat):Prop :=a.length=b.length∧a.take k=b.take k∧k≤a.length
def mH(a b:List Int):Bool:=decide (a=b)
theorem pS(l:List Int):fN l=true↔∀i,i<l.length→EI l i=true :=by
 simp only [fN,List.all_eq_true,List.mem_range]
theorem mI(l:List Int)(i:Nat):EI l i=true↔mG l i<l.getD i 0∧l.getD i 0<1000:=by
 simp only [EI,Bool.and_eq_true,decide_eq_true_eq]
theorem qx(l:List Int)(k:Nat):mG l (k+1)=l.getD k 0:=by
 simp only [mG];rw [if_neg (by omega),Nat.add_sub_cancel]
theorem Ms(l:List Int):mG l 0= -1:=rfl
theorem QE {l:List Int} {k:Nat}(h:kT l k):∀i,i<k→(i:Int)≤l.getD i 0∧l.getD i 0<1000
 |0,hi=>by have :=(mI l 0).1 (h.1 0 hi);rw [Ms] at this;omega
 |i+1,hi=>by
  have :=(mI l (i+1)).1 (h.1 (i+1) hi);rw [qx] at this;have :=QE h i (by omega);omega
theorem Xw {l:List Int}(h:fN l=true):kT l l.length:=⟨(pS l).1 h,Nat.le_refl _⟩
theorem HD {l:List Int}(h:fN l=true):l.length≤1000:=by
 by_cases h0:l.length=0
 · omega
 · have :=QE (Xw h) (l.length-1) (by omega);omega
theorem adu(l:List Int):kT l 0:=⟨fun i hi=>by omega,Nat.zero_le _⟩
theorem O7 {l:List Int} {k:Nat}(h:kT l k)(hk:(k:Int)<l.length)(hg:¬l.getD (Int.toNat (k:Int)) 0≤mG l k∧¬1000≤l.getD (Int.toNat (k:Int)) 0):kT l (k+1):=by
 rw [Int.toNat_natCast] at hg;refine⟨fun i hi=> ?_,by omega⟩;by_cases he:i=k
 · subst he;exact(mI l i).2 (by omega)
 · exact h.1 i (by omega)
theorem Vn {l:List Int} {k:Nat}(hk:(k:Int)<l.length)(hg:l.getD (Int.toNat (k:Int)) 0≤mG l k∨1000≤l.getD (Int.toNat (k:Int)) 0):false=fN l:=by
 rw [Int.toNat_natCast] at hg;cases hp:fN l with
 |false=>rfl
 |true=>have :=(mI l k).1 ((pS l).1 hp k (by omega));omega
theorem Vo {l:List Int} {k:Nat}(h:kT l k)(hk:¬(k:Int)<l.length):true=fN l:=by
 symm
 exact(pS l).2 fun i hi=>h.1 i (by omega)
theorem Vp {v:Int}(h0:0≤v)(h:v≤4611686018427387904):jg (Vg.fu UInt8) v=num v:=by
 have :du v=false :=by simp only [du,Bool.or_eq_false_iff,decide_eq_false_iff_not];omega
 simp only [jg,this];rfl
theorem adv(a:List Int)(s1 s2:Int):jN a s1 s2 (Vm a) []:=by
 refine⟨rfl,?_⟩;unfold Vm;split
 · rename_i h;have :=HD h;simp;omega
 · simp
theorem Vq {a:List Int} {s1 s2 n:Int} {r out:List Int}(h:jN a s1 s2 (n::r) out)(hn:pR n s1 s2=true):jN a s1 s2 r (out++ [n]):=by
 obtain⟨h1,h2⟩:=h;rw [List.filter_cons,if_pos hn] at h1;refine⟨by rw [List.append_assoc];exact h1,by simp at h2 ⊢;omega⟩
theorem Xx {a:List Int} {s1 s2 n:Int} {r out:List Int}(h:jN a s1 s2 (n::r) out)(hn:pR n s1 s2=false):jN a s1 s2 r out:=by
 obtain⟨h1,h2⟩:=h;rw [List.filter_cons,if_neg (by rw [hn];decide)] at h1;exact⟨h1,by simp at h2 ⊢;omega⟩
theorem Vr {a:List Int} {s1 s2:Int} {out:List Int}(h:jN a s1 s2 [] out):out=EJ a s1 s2:=by
 have :=h.1;simpa using this
theorem adw {a b:List Int}(h:(a.length:Int)=b.length):qw a b 0:=⟨by omega,by simp,Nat.zero_le _⟩
theorem O8 {a b:List Int} {k:Nat}(h:qw a b k)(hk:(k:Int)<a.length)(he:a.getD (Int.toNat (k:Int)) 0=b.getD (Int.toNat (k:Int)) 0):qw a b (k+1):=by
 rw [Int.toNat_natCast] at he;obtain⟨h1,h2,h3⟩:=h;exact⟨h1,by rw [aw a k 0 (by omega),aw b k 0 (by omega),h2,he],by omega⟩
theorem Vs {a b:List Int} {k:Nat}(he:¬a.getD (Int.toNat (k:Int)) 0=b.getD (Int.toNat (k:Int)) 0):false=mH a b:=by
 symm;simp only [mH,decide_eq_false_iff_not];intro h;rw [h] at he;exact he rfl
theorem Vt {a b:List Int}(h:¬(a.length:Int)=b.length):false=mH a b:=by
 symm;simp only [mH,decide_eq_false_iff_not];intro e;rw [e] at h;exact h rfl
theorem Vu {a b:List Int} {k:Nat}(h:qw a b k)(hk:¬(k:Int)<a.length):true=mH a b:=by
 obtain⟨h1,h2,h3⟩:=h;symm;simp only [mH,decide_eq_true_eq]
 rw [List.take_of_length_le (by omega),List.take_of_length_le (by omega)] at h2;exact h2
end Go.S

end
section
namespace Go.S
abbrev dK:=List UInt8×List Int
def Cp(a b:List UInt8):Bool:=Op.bytesLess a b || decide (a=b)
def cc(d:List dK)(i:Nat):List UInt8:=(d.getD i ([],[])).1
def iN(d:List dK)(i:Nat):List Int:=(d.getD i ([],[])).2
def jO(d:List dK):Prop :=d.length≤1048576∧∀e∈d,e.1.length≤1099511627776
def sU(d:List dK)(i:Nat):Bool:= !(decide (0<i)&&Cp (cc d i) (cc d (i-1)))&&(!decide ((iN d i).length=0)&&(fN (iN d i)&&isTerm (cc d i)))
def dJ(d:List dK):Bool:=(List.range d.length).all (sU d)
def BG(d:List dK)(k:Nat):Prop :=(∀i,i<k→sU d i=true)∧k≤d.length
def akd(a b c:List UInt8):List UInt8:=text a++text b++c
def adx(d:List dK)(i:Nat):List UInt8:=
 akd (if i=0 then [] else cc d (i-1)) (if i<d.length then cc d i else []) (adt (if i=0 then [] else iN d (i-1)))
def Xy(d:List dK)(k:Nat):List (List UInt8):=(List.range k).map (adx d)
def Xz(d:List dK):List (List UInt8):=Xy d (d.length+1)
def ady(d:List dK):List UInt8:=root (leaves (Xz d))
def fx(a b:List dK):Bool:=decide (a=b)
def jh(a b:List dK)(k:Nat):Prop :=a.length=b.length∧a.take k=b.take k∧k≤a.length
def lu(a b:List (List UInt8)):Bool:=decide (a=b)
def nP(a b:List (List UInt8))(k:Nat):Prop :=a.length=b.length∧a.take k=b.take k∧k≤a.length
def cF(docs:List (List UInt8))(s1 s2:Int):Bool:=
 docs.all (fun b=>decide ((b.length:Int)≤2000))&&(decide ((docs.length:Int)≤1000)&&(decide (0≤s1)&&(decide (s1≤s2)&&decide (s2≤(docs.length:Int)))))
def lW(docs:List (List UInt8))(k:Nat):Prop :=(∀b∈docs.take k,b.length≤2000)∧k≤docs.length
def pT(b t:List UInt8):Bool:=decide (0<((places b t).length:Int))
theorem wa(d:List dK):dJ d=true↔∀i,i<d.length→sU d i=true :=by
 simp only [dJ,List.all_eq_true,List.mem_range]
theorem asw(d:List dK):BG d 0:=⟨fun i hi=>by omega,Nat.zero_le _⟩
theorem QF {d:List dK} {k:Nat}(hk:(k:Int)<d.length)(h:sU d k=false):false=dJ d:=by
 cases hr:dJ d with
 |false=>rfl
 |true=>have :=(wa d).1 hr k (by omega);rw [h] at this;cases this
theorem XA {d:List dK} {k:Nat}(h:BG d k)(hk:(k:Int)<d.length)(he:sU d k=true):BG d (k+1):=by
 refine⟨fun i hi=> ?_,by omega⟩;by_cases e:i=k
 · subst e;exact he
 · exact h.1 i (by omega)
theorem adz {d:List dK} {k:Nat}(h:BG d k)(hk:¬(k:Int)<d.length):true=dJ d:=by
 symm;exact(wa d).2 fun i hi=>h.1 i (by omega)
theorem Vv {d:List dK} {k:Nat}(h:jO d):(d.getD k ([],[])).1.length≤1099511627776:=by
 by_cases hk:k<d.length
 · exact h.2 _ (bo d k _ hk)
 · rw [List.getD_eq_getElem?_getD,List.getElem?_eq_none (by omega)];simp
theorem rU(d:List dK)(i:Nat):sU d i=true↔(i=0∨Cp (cc d i) (cc d (i-1))=false)∧(iN d i).length≠0∧fN (iN d i)=true∧isTerm (cc d i)=true :=by
 simp only [sU,Bool.and_eq_true,Bool.not_eq_true',Bool.and_eq_false_iff,decide_eq_false_iff_not];constructor
 · rintro⟨h1,h2,h3,h4⟩;exact⟨h1.imp (by omega) id,h2,h3,h4⟩
 · rintro⟨h1,h2,h3,h4⟩;exact⟨h1.imp (by omega) id,h2,h3,h4⟩
theorem EK(d:List dK)(i:Nat):sU d i=false↔(0<i∧Cp (cc d i) (cc d (i-1))=true)∨(iN d i).length=0∨fN (iN d i)=false∨isTerm (cc d i)=false :=by
 have :=rU d i;cases h:sU d i with
 |true=>
  have h1:=this.1 h;simp only [Bool.true_eq_false,false_iff];rintro(⟨h2,h3⟩|h2|h2|h2)
  · rcases h1.1 with h4|h4
    · omega
    · rw [h4] at h3;cases h3
  · exact h1.2.1 h2
  · rw [h1.2.2.1] at h2;cases h2
  · rw [h1.2.2.2] at h2;cases h2
 |false=>
  simp only [true_iff];by_cases a1:0<i∧Cp (cc d i) (cc d (i-1))=true
  · exact .inl a1
  · by_cases a2:(iN d i).length=0
    · exact .inr (.inl a2)
    · cases a3:fN (iN d i) with
      |false=>exact .inr (.inr (.inl rfl))
      |true=>
       cases a4:isTerm (cc d i) with
       |false=>exact .inr (.inr (.inr rfl))
       |true=>
        exfalso;rw [h] at this
        have :false=true :=this.2 ⟨by
         cases hl:Cp (cc d i) (cc d (i-1)) with
         |false=>exact .inr rfl
         |true=>rw [hl] at a1;left;by_cases h0:0<i;exact absurd ⟨h0,rfl⟩ a1;omega,a2,a3,a4⟩
        cases this
theorem EL:∀(w:List Int) (t:List UInt8),t.length≤64→(ja t w).length≤64
 | [],t,h=>h
 |c::w,t,h=>by
  simp only [ja];split
  · exact h
  · exact EL w _ (by rw [List.length_append];omega)
theorem BH {s:List UInt8}(h:isTerm s=true):s.length≤64:=by
 simp only [isTerm,decide_eq_true_eq] at h;have hm:s∈aW s:=by rw [h];simp
 simp only [aW,List.mem_map] at hm;obtain⟨w,_,hw⟩:=hm;rw [←hw];exact EL w [] (by simp)
theorem XB {d:List dK}(h:dJ d=true) {i:Nat}(hi:i<d.length):(cc d i).length≤64∧fN (iN d i)=true :=by
 have :=(rU d i).1 ((wa d).1 h i hi);exact⟨BH this.2.2.2,this.2.2.1⟩
theorem XC {a b:List dK}(h:(a.length:Int)=b.length):jh a b 0:=⟨by omega,by simp,Nat.zero_le _⟩
theorem Mt {a b:List dK} {k:Nat}(h:jh a b k)(hk:(k:Int)<a.length)(he:a.getD k ([],[])=b.getD k ([],[])):jh a b (k+1):=by
 obtain⟨h1,h2,h3⟩:=h;exact⟨h1,by rw [aw a k ([],[]) (by omega),aw b k ([],[]) (by omega),h2,he],by omega⟩
theorem O9 {a b:List dK} {k:Nat}(he:¬a.getD k ([],[])=b.getD k ([],[])):false=fx a b:=by
 symm;simp only [fx,decide_eq_false_iff_not];intro h;rw [h] at he;exact he rfl
theorem Pa {a b:List dK}(h:¬(a.length:Int)=b.length):false=fx a b:=by
 symm;simp only [fx,decide_eq_false_iff_not];intro e;rw [e] at h;exact h rfl
theorem Pb {a b:List dK} {k:Nat}(h:jh a b k)(hk:¬(k:Int)<a.length):true=fx a b:=by
 obtain⟨h1,h2,h3⟩:=h;symm;simp only [fx,decide_eq_true_eq]
 rw [List.take_of_length_le (by omega),List.take_of_length_le (by omega)] at h2;exact h2
theorem XD {a b:List (List UInt8)}(h:(a.length:Int)=b.length):nP a b 0:=⟨by omega,by simp,Nat.zero_le _⟩
theorem Mu {a b:List (List UInt8)} {k:Nat}(h:nP a b k)(hk:(k:Int)<a.length)(he:a.getD k []=b.getD k []):nP a b (k+1):=by
 obtain⟨h1,h2,h3⟩:=h;exact⟨h1,by rw [aw a k [] (by omega),aw b k [] (by omega),h2,he],by omega⟩
theorem Pc {a b:List (List UInt8)} {k:Nat}(he:¬a.getD k []=b.getD k []):false=lu a b:=by
 symm;simp only [lu,decide_eq_false_iff_not];intro h;rw [h] at he;exact he rfl
theorem Pd {a b:List (List UInt8)}(h:¬(a.length:Int)=b.length):false=lu a b:=by
 symm;simp only [lu,decide_eq_false_iff_not];intro e;rw [e] at h;exact h rfl
theorem Pe {a b:List (List UInt8)} {k:Nat}(h:nP a b k)(hk:¬(k:Int)<a.length):true=lu a b:=by
 obtain⟨h1,h2,h3⟩:=h;symm;simp only [lu,decide_eq_true_eq]
 rw [List.take_of_length_le (by omega),List.take_of_length_le (by omega)] at h2;exact h2
theorem QG(docs:List (List UInt8)):lW docs 0:=⟨by simp,Nat.zero_le _⟩
theorem EM {docs:List (List UInt8)} {k:Nat}(h:lW docs k)(hk:(k:Int)<docs.length)(hl:((docs.getD k []).length:Int)≤2000):lW docs (k+1):=by
 refine⟨fun b hb=> ?_,by omega⟩;rw [aw docs k [] (by omega)] at hb;rcases List.mem_append.1 hb with hb|hb
 · exact h.1 b hb
 · rw [List.mem_singleton.1 hb];omega
theorem HE {docs:List (List UInt8)} {k:Nat} {s1 s2:Int}(hk:(k:Int)<docs.length)(hl:2000<((docs.getD k []).length:Int)):false=cF docs s1 s2:=by
 have :docs.all (fun b=>decide ((b.length:Int)≤2000))=false :=by
  rw [List.all_eq_false];exact⟨_,bo docs k [] (by omega),by rw [decide_eq_true_eq];omega⟩
 simp only [cF,this,Bool.false_and]
theorem HF {docs:List (List UInt8)} {k:Nat}(h:lW docs k)(hk:¬(k:Int)<docs.length):docs.all (fun b=>decide ((b.length:Int)≤2000))=true :=by
 rw [List.all_eq_true];have h1:=h.1;rw [List.take_of_length_le (by omega)] at h1;intro b hb;have :=h1 b hb;simp;omega
theorem Mv:∀(a b:List UInt8),Cp b a= !Op.bytesLess a b
 | [],[]=>rfl
 | [],b::y=>by simp [Cp,Op.bytesLess]
 |a::x,[]=>by simp [Cp,Op.bytesLess]
 |a::x,b::y=>by
  have ih:=Mv x y;simp only [Cp] at ih;simp only [Cp,Op.bytesLess];rcases UInt8.lt_or_lt_of_ne (a:=a) (b:=b) |> fun h=>Classical.em (a=b) with h|h
  · subst h;simp only [UInt8.lt_irrefl,decide_false,Bool.false_or,beq_self_eq_true,Bool.true_and,List.cons.injEq,true_and];exact ih
  · have hba:(b==a)=false :=by simpa using fun e=>h e.symm
    have fE:(a==b)=false :=by simpa using h
    have dD:¬(b::y=a::x):=by simp only [List.cons.injEq];exact fun e=>h e.1.symm
    rw [hba,fE,decide_eq_false dD];simp only [Bool.false_and,Bool.or_false];have :a.toNat≠b.toNat:=fun e=>h (UInt8.toNat_inj.1 e);rw [←decide_not,decide_eq_decide,UInt8.lt_iff_toNat_lt,UInt8.lt_iff_toNat_lt];omega
theorem HG {s:List UInt8}:(text s).length≤s.length+9:=by
 have :=eR (s.length:Int);simp only [text,List.length_append];omega
end Go.S
namespace Go.S
def fo(docs:List (List UInt8))(a:Int)(k:Nat):List (List UInt8):=(List.range k).flatMap fun(i:Nat)=>sorted (aW (docs.getD (a+i).toNat []))
def bD(docs:List (List UInt8))(a:Int)(t:List UInt8)(k:Nat):List Int:=((List.range k).filter fun(i:Nat)=>pT (docs.getD (a+i).toNat []) t).map fun(i:Nat)=>a+i
def bP(docs:List (List UInt8))(a b:Int):List (List UInt8):=sorted (fo docs a (b-a).toNat)
def jv(docs:List (List UInt8))(a b:Int)(k:Nat):List dK:=((bP docs a b).take k).map fun t=>(t,bD docs a t (b-a).toNat)
def make(docs:List (List UInt8))(a b:Int):List dK:=(bP docs a b).map fun t=>(t,bD docs a t (b-a).toNat)
def eG(docs:List (List UInt8))(a b:Int):Prop :=0≤a∧a≤b∧b≤docs.length∧docs.length≤1000∧∀d∈docs,d.length≤4000
def eh(a b:Int)(k:Nat):Prop :=a+k≤b
end Go.S
namespace Go.S
theorem HH:∀(f:Nat) (l:List (List UInt8)),(rf f l).length≤l.length
 |0,l=>by simp [rf]
 |f+1,l=>by
  simp only [rf];split
  · simp
  · rename_i h;have h0:0<l.length:=by cases l;simp at h;simp
    have :=HH f (l.filter (fun x=> !decide (x=l.getD (cE l) [])));have :=pQ h0;rw [List.length_cons];omega
theorem mJ(l:List (List UInt8)):(sorted l).length≤l.length:=HH _ l
theorem Mw {docs:List (List UInt8)} {a b:Int}(hp:eG docs a b)(i:Nat):(docs.getD i []).length≤4000:=by
 by_cases h:i<docs.length
 · exact hp.2.2.2.2 _ (bo docs i [] h)
 · rw [List.getD_eq_getElem?_getD,List.getElem?_eq_none (by omega)];simp
theorem EN {docs:List (List UInt8)} {a b:Int}(hp:eG docs a b)(i:Nat):small (docs.getD i []):=by
 have :=Mw hp i;unfold small;omega
theorem XE(docs:List (List UInt8))(a:Int): []=fo docs a 0:=rfl
theorem qy(docs:List (List UInt8))(a:Int)(k:Nat):fo docs a k++sorted (aW (docs.getD (Int.toNat (a+(k:Int))) []))=fo docs a (k+1):=by
 simp only [fo,List.range_succ,List.flatMap_append,List.flatMap_cons,List.flatMap_nil,List.append_nil]
theorem uW {docs:List (List UInt8)} {a b:Int}(hp:eG docs a b)(i:Nat):(sorted (aW (docs.getD i []))).length≤4000:=by
 have :=Mw hp i;have :=sR (docs.getD i []);have :=mJ (aW (docs.getD i []));omega
theorem pU {docs:List (List UInt8)} {a b:Int}(hp:eG docs a b):∀k,(fo docs a k).length≤4000*k
 |0=>by simp [fo]
 |k+1=>by
  rw [←qy,List.length_append];have :=pU hp k;have :=uW hp (Int.toNat (a+(k:Int)));omega
theorem Vw(docs:List (List UInt8))(a:Int)(t:List UInt8): []=bD docs a t 0:=rfl
theorem uX {docs:List (List UInt8)} {a:Int} {t:List UInt8} {k:Nat}(h:pT (docs.getD (Int.toNat (a+(k:Int))) []) t=true):bD docs a t k++ [a+(k:Int)]=bD docs a t (k+1):=by
 simp only [bD,List.range_succ,List.filter_append,List.map_append,List.filter_cons,h,if_true,List.filter_nil,List.map_cons,List.map_nil]
theorem xP {docs:List (List UInt8)} {a:Int} {t:List UInt8} {k:Nat}(h:pT (docs.getD (Int.toNat (a+(k:Int))) []) t=false):bD docs a t k=bD docs a t (k+1):=by
 simp only [bD,List.range_succ,List.filter_append,List.map_append,List.filter_cons,h,List.filter_nil];simp
theorem BI(docs:List (List UInt8))(a:Int)(t:List UInt8)(k:Nat):(bD docs a t k).length≤k:=by
 simp only [bD,List.length_map];have :=List.length_filter_le (fun(i:Nat)=>pT (docs.getD (a+i).toNat []) t) (List.range k);rw [List.length_range] at this;exact this
theorem rV {docs:List (List UInt8)} {a b:Int} {k:Nat}(h:eh a b k)(hk:¬a+(k:Int)<b):sorted (fo docs a k)=bP docs a b∧k=(b-a).toNat:=by
 unfold eh at h;have :k=(b-a).toNat:=by omega
 exact⟨by rw [this];rfl,this⟩
theorem zq {docs:List (List UInt8)} {a b:Int} {k j:Nat} {t:List UInt8}(hk:k<(bP docs a b).length)(hj:j=(b-a).toNat)(ht:(bP docs a b).getD k []=t):jv docs a b k++ [(t,bD docs a t j)]=jv docs a b (k+1):=by
 subst ht;subst hj;simp only [jv];rw [aw (bP docs a b) k [] hk,List.map_append];rfl
theorem Mx(docs:List (List UInt8))(a b:Int)(k:Nat):(jv docs a b k).length≤k:=by
 simp only [jv,List.length_map,List.length_take];omega
theorem BJ {docs:List (List UInt8)} {a b:Int} {k:Nat}(h:¬k<(bP docs a b).length):jv docs a b k=make docs a b:=by
 simp only [jv,make];rw [List.take_of_length_le (by omega)]
theorem EO {a b:Int} {k:Nat}(h:eh a b k)(hp:a≤b):(k:Int)≤b-a:=by unfold eh at h;omega
end Go.S

end
section
namespace Go.S
end Go.S

end
section
namespace Go.S
theorem rW(b t:List UInt8):pT b t=true↔t∈aW b:=by
 unfold pT;rw [decide_eq_true_iff];simp only [places,rT,List.length_map];constructor
 · intro h;have h1:0<((List.range (aW b).length).filter (fun i=>decide ((aW b).getD i []=t))).length:=by omega
   obtain⟨i,hi⟩:=List.exists_mem_of_length_pos h1;simp only [List.mem_filter,List.mem_range,decide_eq_true_eq] at hi;rw [←hi.2,List.getD_eq_getElem?_getD,List.getElem?_eq_getElem hi.1];exact List.getElem_mem _
 · intro h;obtain⟨i,hi,he⟩:=List.getElem_of_mem h
   have :i∈(List.range (aW b).length).filter (fun i=>decide ((aW b).getD i []=t)):=by
    simp only [List.mem_filter,List.mem_range,decide_eq_true_eq];exact⟨hi,by rw [List.getD_eq_getElem?_getD,List.getElem?_eq_getElem hi];exact he⟩
   have :=List.length_pos_of_mem this;omega
def eT(docs:List (List UInt8))(a:Int)(k:Nat):List (List UInt8):=sorted (aW (docs.getD (a+(k:Int)).toNat []))
def sV(docs:List (List UInt8))(a:Int)(k j:Nat)(s:List UInt8):List Int:=bD docs a s k++if s∈(eT docs a k).take j then [a+(k:Int)] else []
theorem ake(docs:List (List UInt8))(a:Int)(s:List UInt8):sV docs a 0 0 s= []:=by simp [sV,bD]
theorem uY {l:List (List UInt8)}(h:mi l):l.Nodup:=h.imp fun {a b} fE dD=>by
 subst dD;rw [bU] at fE;cases fE
theorem lX {l:List (List UInt8)} {j:Nat}(hj:j<l.length)(s:List UInt8):s∈l.take (j+1)↔s∈l.take j∨s=l.getD j []:=by
 rw [List.take_add_one,List.mem_append,List.getElem?_eq_getElem hj,List.getD_eq_getElem?_getD,List.getElem?_eq_getElem hj];simp
theorem BK {l:List (List UInt8)}(h:l.Nodup) {j:Nat}(hj:j<l.length):l.getD j []∉l.take j:=by
 intro hm;rw [List.getD_eq_getElem?_getD,List.getElem?_eq_getElem hj] at hm;obtain⟨i,hi,he⟩:=List.getElem_of_mem hm;simp only [List.length_take] at hi;rw [List.getElem_take] at he;exact(List.pairwise_iff_getElem.1 h) i j (by omega) hj (by omega) he
theorem XF {docs:List (List UInt8)} {a:Int} {k j:Nat}(hj:j<(eT docs a k).length):sV docs a k (j+1) ((eT docs a k).getD j [])=sV docs a k j ((eT docs a k).getD j [])++ [a+(k:Int)]:=by
 have h1:(eT docs a k).getD j []∉(eT docs a k).take j:=BK (uY (kh (aW (docs.getD (a+(k:Int)).toNat [])))) hj;have h2:=(lX hj ((eT docs a k).getD j [])).2 (.inr rfl);simp only [sV];rw [if_pos h2,if_neg h1,List.append_nil]
theorem Vx {docs:List (List UInt8)} {a:Int} {k j:Nat}(hj:j<(eT docs a k).length) {s:List UInt8}(hs:s≠(eT docs a k).getD j []):sV docs a k (j+1) s=sV docs a k j s:=by
 simp only [sV];by_cases h:s∈(eT docs a k).take j
 · rw [if_pos h,if_pos ((lX hj s).2 (.inl h))]
 · rw [if_neg h,if_neg (fun h'=>by rcases(lX hj s).1 h' with h'|h';exact h h';exact hs h')]
theorem Vy {docs:List (List UInt8)} {a:Int} {k j:Nat}(hj:¬j<(eT docs a k).length)(s:List UInt8):sV docs a k j s=sV docs a (k+1) 0 s:=by
 simp only [sV,List.take_zero,List.not_mem_nil,if_false,List.append_nil];rw [List.take_of_length_le (by omega)];by_cases h:s∈eT docs a k
 · rw [if_pos h];exact uX ((rW _ _).2 ((fW _ _).1 h))
 · rw [if_neg h,List.append_nil];refine xP ?_;cases hh:pT (docs.getD (Int.toNat (a+(k:Int))) []) s with
   |false=>rfl
   |true=>exact absurd ((fW _ _).2 ((rW _ _).1 hh)) h
theorem XG(docs:List (List UInt8))(a:Int)(k j:Nat)(s:List UInt8):(sV docs a k j s).length≤k+1:=by
 have :=BI docs a s k;simp only [sV,List.length_append];split<;>simp<;>omega
theorem xQ(docs:List (List UInt8))(a:Int)(x:List UInt8):∀k,x∈fo docs a k↔bD docs a x k≠ []
 |0=>by simp [fo,bD]
 |k+1=>by
  rw [←qy,List.mem_append,xQ docs a x k,fW,←rW];cases h:pT (docs.getD (Int.toNat (a+(k:Int))) []) x with
  |true=>rw [←uX h];simp
  |false=>rw [←xP h];simp
end Go.S
namespace Go.S
def gy(docs:List (List UInt8))(a b:Int):List dK×Int:=if cF docs a b then(make docs a b,0) else([],1)
end Go.S

end
section
namespace Go.S
abbrev Sg:=Int×Int×Int×List UInt8
def jb(a b:Int):Bool:=decide (0≤a)&&(decide (a<b)&&decide (b≤1000))
def AG(d:List dK)(a b:Int)(i:Nat):Bool:=decide (((EJ (iN d i) a b).length:Int)=((iN d i).length:Int))
def ig(a b:Int)(d:List dK):Bool:=(jb a b&&dJ d)&&(List.range d.length).all (AG d a b)
def qz(a b:Int)(d:List dK)(k:Nat):Prop :=jb a b=true∧dJ d=true∧(∀i,i<k→AG d a b i=true)∧k≤d.length
def rOf(a b:Int)(d:List dK):Int×Int×Int×List UInt8:=(a,b,((Xz d).length:Int),ady d)
def AH(a b n:Int)(r:List UInt8):Bool:=jb a b&&(decide (1≤n)&&(decide (n≤1099511627776)&&decide ((r.length:Int)=32)))
def cM(docs:List (List UInt8))(a b:Int):Bool:=cF docs a b&&decide (a<b)
def sg(l:List Sg)(i:Nat):Sg:=l.getD i (0,0,0,[])
def QH(l:List Sg)(i:Nat):Bool:=AH (sg l i).1 (sg l i).2.1 (sg l i).2.2.1 (sg l i).2.2.2&& !(decide (0<i)&& !decide ((sg l i).1=(sg l (i-1)).2.1))
def QI(l:List Sg)(n:Int):Bool:=
 if l.length=0 then decide (n=0)
 else(List.range l.length).all (QH l)&&(decide ((l.length:Int)≤64)&&(decide ((sg l 0).1=0)&&decide ((sg l (l.length-1)).2.1=n)))
theorem adA {l:List Int} {a b:Int}(h:fN l=true)(h0:l.length≠0):(EJ l a b).length=l.length↔a≤l.getD 0 0∧l.getD (l.length-1) 0<b:=by
 have hs:∀n,n<l.length→∀i,i≤n→l.getD i 0≤l.getD n 0:=by
  intro n;induction n with
  |zero=>intro _ i hi;rw [show i=0 by omega];exact Int.le_refl _
  |succ n ih=>
   intro hn i hi;by_cases e:i=n+1
   · rw [e];exact Int.le_refl _
   · have h1:=ih (by omega) i (by omega);have h2:=(mI l (n+1)).1 ((pS l).1 h (n+1) hn);rw [qx] at h2;omega
 simp only [EJ,Vm,h,if_true];rw [List.length_filter_eq_length_iff];constructor
 · intro jf;have h1:=jf _ (bo l 0 0 (by omega));have h2:=jf _ (bo l (l.length-1) 0 (by omega));simp only [pR,Bool.and_eq_true,decide_eq_true_eq] at h1 h2;exact⟨h1.1,h2.2⟩
 · rintro⟨h1,h2⟩ x hx;obtain⟨i,hi,rfl⟩:=List.mem_iff_getElem.1 hx;have e:l[i]=l.getD i 0:=by rw [List.getD_eq_getElem?_getD,List.getElem?_eq_getElem hi];rfl
   rw [e];have q1:=hs i hi 0 (Nat.zero_le _);have q2:=hs (l.length-1) (by omega) i (by omega);simp only [pR,Bool.and_eq_true,decide_eq_true_eq];omega
theorem akf {a b:Int} {d:List dK}(h1:jb a b=true)(h2:dJ d=true):qz a b d 0:=⟨h1,h2,fun i hi=>by omega,Nat.zero_le _⟩
theorem Vz {a b:Int} {d:List dK} {k:Nat}(h:qz a b d k)(hk:(k:Int)<d.length)(he:AG d a b k=true):qz a b d (k+1):=by
 refine⟨h.1,h.2.1,fun i hi=> ?_,by omega⟩;by_cases e:i=k
 · subst e;exact he
 · exact h.2.2.1 i (by omega)
theorem XH {a b:Int} {d:List dK} {k:Nat}(hk:(k:Int)<d.length)(he:AG d a b k=false):false=ig a b d:=by
 symm
 simp only [ig]
 have :(List.range d.length).all (AG d a b)=false :=by
  rw [List.all_eq_false];exact⟨k,by rw [List.mem_range];omega,by rw [he];decide⟩
 rw [this,Bool.and_false]
theorem XI {a b:Int} {d:List dK} {k:Nat}(h:qz a b d k)(hk:¬(k:Int)<d.length):true=ig a b d:=by
 symm
 simp only [ig,h.1,h.2.1,Bool.true_and,List.all_eq_true,List.mem_range];intro i hi;exact h.2.2.1 i (by have :=h.2.2.2;omega)
theorem adB {a b:Int} {d:List dK}(h:jb a b=false∨dJ d=false):false=ig a b d:=by
 symm
 rcases h with h|h<;>simp only [ig,h,Bool.false_and,Bool.and_false]
end Go.S
namespace Go.S
end Go.S

end
section
namespace Go.S
def cx(docs:List (List UInt8))(a b:Int):(Int×Int×List dK)×Int:=if cM docs a b then((a,b,make docs a b),0) else((0,0,[]),1)
def lY(a1 a2:Int)(a3:List dK)(b1 b2:Int)(b3:List dK):Bool:=decide (a1=b1)&&(decide (a2=b2)&&decide (a3=b3))
def Qv(l:List Sg)(k:Nat):Prop :=(∀i,i<k→QH l i=true)∧k≤l.length∧l.length≤64∧(0<k→(sg l 0).1=0)
end Go.S
namespace Go.S
theorem My {m r d:List (List UInt8)} {i:Nat}(h:i≤m.length):(m.take i++r++d).take i=m.take i:=by
 rw [List.append_assoc,List.take_append_of_le_length (by rw [List.length_take];omega),List.take_take,Nat.min_self]
theorem Kx {b:List UInt8}(h:small b):small (aW b):=by
 have :=sR b;simp only [small] at *;omega
theorem Ky {l:List (List UInt8)}(h:small l):small (gp l):=by
 simp only [small,gp,List.length_mergeSort] at *;exact h
end Go.S
namespace Go.S
theorem XJ(a b:Bool):(Bool.rec false b a:Bool)=(a&&b):=by cases a<;>rfl
theorem Mz {docs:List (List UInt8)} {a b:Int}(h:¬(gy docs a b).2=0):cx docs a b=((0,0,[]),1)∧(gy docs a b).2=1:=by
 unfold gy at *;by_cases hf:cF docs a b=true
 · rw [if_pos hf] at h;exact absurd rfl h
 · rw [if_neg hf];refine⟨?_,rfl⟩;unfold cx cM;have :cF docs a b=false :=by simpa using hf
   rw [this];rfl
theorem XK {docs:List (List UInt8)} {a b:Int}(h:(gy docs a b).2=0):cF docs a b=true∧gy docs a b=(make docs a b,0):=by
 unfold gy at *;by_cases hf:cF docs a b=true
 · exact⟨hf,by rw [if_pos hf]⟩
 · rw [if_neg hf] at h;cases h
theorem MA {docs:List (List UInt8)} {a b:Int}(h:a=b):cx docs a b=((0,0,[]),1):=by
 unfold cx cM;have :decide (a<b)=false :=decide_eq_false (by omega);rw [this,Bool.and_false];rfl
theorem MB {docs:List (List UInt8)} {a b:Int}(h:(gy docs a b).2=0)(dD:¬a=b):cx docs a b=((a,b,(gy docs a b).1),0):=by
 obtain⟨h1,h2⟩:=XK h;rw [h2];unfold cx cM
 have hp:a≤b:=by
  simp only [cF,Bool.and_eq_true,decide_eq_true_eq] at h1;exact h1.2.2.2.1
 have :decide (a<b)=true :=decide_eq_true (by omega);rw [h1,this];rfl
end Go.S
namespace Go.S
end Go.S
namespace Go.S
end Go.S

end
section
namespace Go.S
def qA(e:dK):Bool:=decide ((200:Int)<e.1.length) || decide ((200:Int)<e.2.length)
def gu(d:List dK):Bool:=d.any qA || decide ((100:Int)<d.length)
def uZ(d:List dK)(k:Nat):Prop :=(∀e∈d.take k,qA e=false)∧k≤d.length
def la(docs:List (List UInt8)):Bool:=docs.any (fun b=>decide ((2500:Int)<b.length)) || decide ((40:Int)<docs.length)
def u3(docs:List (List UInt8))(k:Nat):Prop :=(∀b∈docs.take k,b.length≤2500)∧k≤docs.length
theorem asx(d:List dK):uZ d 0:=⟨by simp,Nat.zero_le _⟩
theorem take_one {α:Type}(l:List α)(k:Nat)(x:α)(hk:k<l.length):l.take (k+1)=l.take k++ [l.getD k x]:=by
 rw [List.take_add_one,List.getElem?_eq_getElem hk,List.getD_eq_getElem?_getD,List.getElem?_eq_getElem hk];rfl
theorem XL {d:List dK} {k:Nat}(h:uZ d k)(hk:(k:Int)<d.length)(he:qA (d.getD k ([],[]))=false):uZ d (k+1):=by
 refine⟨fun e hm=> ?_,by omega⟩;rw [take_one d k ([],[]) (by omega),List.mem_append] at hm;rcases hm with hm|hm
 · exact h.1 e hm
 · simp at hm;subst hm;simpa using he
theorem adC {d:List dK} {k:Nat}(hk:(k:Int)<d.length)(he:qA (d.getD k ([],[]))=true):true=gu d:=by
 symm
 unfold gu
 have :d.any qA=true :=by
  rw [List.any_eq_true];exact⟨_,bo d k ([],[]) (by omega),he⟩
 rw [this,Bool.true_or]
theorem adD {d:List dK} {k:Nat}(h:uZ d k)(hk:¬(k:Int)<d.length):decide ((100:Int)<d.length)=gu d:=by
 symm
 unfold gu
 have :d.any qA=false :=by
  rw [List.any_eq_false];intro e he;have :=h.1 e (by rw [List.take_of_length_le (by omega)];exact he);rw [this];decide
 rw [this,Bool.false_or]
theorem asy(d:List (List UInt8)):u3 d 0:=⟨by simp,Nat.zero_le _⟩
theorem XM {d:List (List UInt8)} {k:Nat}(h:u3 d k)(hk:(k:Int)<d.length)(he:¬(2500:Int)<(d.getD k []).length):u3 d (k+1):=by
 refine⟨fun e hm=> ?_,by omega⟩;rw [take_one d k [] (by omega),List.mem_append] at hm;rcases hm with hm|hm
 · exact h.1 e hm
 · simp at hm;subst hm;rw [List.getD_eq_getElem?_getD] at he;omega
theorem adE {d:List (List UInt8)} {k:Nat}(hk:(k:Int)<d.length)(he:(2500:Int)<(d.getD k []).length):true=la d:=by
 symm
 unfold la
 have :d.any (fun b=>decide ((2500:Int)<b.length))=true :=by
  rw [List.any_eq_true];exact⟨_,bo d k [] (by omega),by simpa using he⟩
 rw [this,Bool.true_or]
theorem adF {d:List (List UInt8)} {k:Nat}(h:u3 d k)(hk:¬(k:Int)<d.length):decide ((40:Int)<d.length)=la d:=by
 symm
 unfold la
 have :d.any (fun b=>decide ((2500:Int)<b.length))=false :=by
  rw [List.any_eq_false];intro e he;have :=h.1 e (by rw [List.take_of_length_le (by omega)];exact he);simp only [decide_eq_true_eq];omega
 rw [this,Bool.false_or]
end Go.S

end
section
namespace Go.S
theorem mK {docs:List (List UInt8)} {f t:Int}(h:cM docs f t=true):eG docs f t:=by
 simp only [cM,cF,Bool.and_eq_true,List.all_eq_true,decide_eq_true_eq] at h;obtain⟨⟨h1,h2,h3,h4,h5⟩,h6⟩:=h;exact⟨h3,h4,h5,by omega,fun d hd=>by have :=h1 d hd;omega⟩
theorem BL(a b:Int)(d:List dK):lY a b d a b d=true :=by simp [lY]
end Go.S
namespace Go.S
end Go.S

end
section
namespace Go.S
theorem CJ:∀(l acc:List Int),∀W∈jm acc l,W≠ []
 | [],acc,W,hW=>by
   simp only [jm] at hW;split at hW
   · cases hW
   · rename_i h;rw [List.mem_singleton.1 hW];intro e;rw [e] at h;exact h rfl
 |x::l,acc,W,hW=>by
  simp only [jm] at hW;split at hW
  · exact CJ l _ W hW
  · split at hW
    · exact CJ l _ W hW
    · rename_i h;rcases List.mem_cons.1 hW with e|hW
      · subst e;intro e;rw [e] at h;exact h rfl
      · exact CJ l _ W hW
theorem MC {b t:List UInt8}(h:t∈aW b):isTerm t=true :=by
 rw [←Vh];simp only [aW,List.mem_map] at h;obtain⟨W,hW,hs⟩:=h;have aG:=zn (decode b) [] (by simp) W hW;have dD:=CJ (decode b) [] W hW
 have hrW:∀c∈W,bp (aT c)=true :=fun c hc=>sQ (kS b c (by
  rcases(aG c hc).2 with h|h
  · cases h
  · exact h))
 have hlen:t.length≤64:=by rw [←hs];exact v8 W [] (by simp)
 obtain⟨p,hp,hpf,hpn⟩:∃p:List Int,(∀c∈p,c∈W)∧ja [] W=p.flatMap (fun c=>eS (aT c))∧p≠ []:=by
  cases W with
  |nil=>exact absurd rfl dD
  |cons c w=>
   obtain⟨p,h1,h2⟩:=uU w ([]++eS (aT c));have hl:(eS (aT c)).length≤4:=by rw [zp (hrW c (by simp))];exact(uR (hrW c (by simp)) []).2.2
   refine⟨c::p,fun x hx=> ?_,?_,by simp⟩
   · rcases List.mem_cons.1 hx with hx|hx
     · simp [hx]
     · simp [h1 x hx]
   · simp only [ja,List.length_nil];rw [if_neg (by omega),h2,List.flatMap_cons,List.nil_append]
 have hr:∀c∈p,bp (aT c)=true :=fun c hc=>hrW c (hp c hc)
 have JH:t=(p.map aT).flatMap enc:=by
  rw [←hs];show ja [] W=_
  rw [hpf,List.flatMap_map];exact qv fun c hc=>zp (hr c hc)
 have hd:decode t=p.map aT:=by
  rw [JH]
  exact uS _ (fun c hc=>by
   obtain⟨c',h',rfl⟩:=List.mem_map.1 hc;exact hr c' h')
 simp only [O0,Bool.and_eq_true,decide_eq_true_eq,List.all_eq_true,OZ,hd];refine⟨fun c hc=> ?_,?_,by omega⟩
 · obtain⟨c',h',rfl⟩:=List.mem_map.1 hc;exact⟨BF (aG c' (hp c' h')).1,zo c'⟩
 · have :=List.length_pos_iff.2 hpn;simp;omega
end Go.S
namespace Go.S
theorem qB {docs:List (List UInt8)} {a:Int} {t:List UInt8} {k:Nat} {i:Int}:i∈bD docs a t k↔a≤i∧i<a+(k:Int)∧pT (docs.getD i.toNat []) t=true :=by
 simp only [bD,List.mem_map,List.mem_filter,List.mem_range];constructor
 · rintro⟨q,⟨h1,h2⟩,rfl⟩;exact⟨by omega,by omega,h2⟩
 · rintro⟨h1,h2,h3⟩;refine⟨(i-a).toNat,⟨by omega,?_⟩,by omega⟩;rw [show a+(((i-a).toNat:Nat):Int)=i by omega];exact h3
theorem Kz(docs:List (List UInt8))(a:Int)(t:List UInt8)(k:Nat):(bD docs a t k).Pairwise (· < ·):=by
 simp only [bD];refine List.pairwise_map.2 ?_;refine List.Pairwise.filter _ ?_;exact(List.pairwise_lt_range (n:=k)).imp fun {x y} h=>by omega
theorem VA {l:List Int}(h:l.Pairwise (· < ·))(hb:∀x∈l,0≤x∧x<1000):fN l=true :=by
 rw [pS];intro i hi;rw [mI];have hm:=hb _ (bo l i 0 hi);refine⟨?_,hm.2⟩;cases i with
 |zero=>simp only [mG,if_pos];omega
 |succ i=>
  rw [qx];have :=(List.pairwise_iff_getElem.1 h) i (i+1) (by omega) hi (by omega);rw [List.getD_eq_getElem?_getD,List.getD_eq_getElem?_getD,List.getElem?_eq_getElem hi,List.getElem?_eq_getElem (show i<l.length by omega)];exact this
theorem wb(docs:List (List UInt8))(a b:Int):(make docs a b).length=(bP docs a b).length:=by simp [make]
theorem KA {docs:List (List UInt8)} {a b:Int} {i:Nat}(h:i<(bP docs a b).length):cc (make docs a b) i=(bP docs a b).getD i []:=by
 unfold cc make;rw [List.getD_eq_getElem?_getD,List.getElem?_map,List.getElem?_eq_getElem h,List.getD_eq_getElem?_getD,List.getElem?_eq_getElem h];rfl
theorem KB {docs:List (List UInt8)} {a b:Int} {i:Nat}(h:i<(bP docs a b).length):iN (make docs a b) i=bD docs a ((bP docs a b).getD i []) (b-a).toNat:=by
 unfold iN make;rw [List.getD_eq_getElem?_getD,List.getElem?_map,List.getElem?_eq_getElem h,List.getD_eq_getElem?_getD,List.getElem?_eq_getElem h];rfl
theorem nQ {docs:List (List UInt8)} {a b:Int} {t:List UInt8}:t∈bP docs a b↔bD docs a t (b-a).toNat≠ []:=by
 unfold bP;rw [fW,xQ]
theorem u4 {docs:List (List UInt8)} {a b:Int}(hp:eG docs a b):dJ (make docs a b)=true :=by
 rw [wa];intro i hi;rw [wb] at hi;rw [rU,KA hi,KB hi];have hm:=bo (bP docs a b) i [] hi;have dD:=nQ.1 hm;have h1:=hp.1;have h2:=hp.2.1;have h3:=hp.2.2.1;have h4:=hp.2.2.2.1;refine⟨?_,?_,?_,?_⟩
 · by_cases h0:i=0
   · exact .inl h0
   right;rw [KA (by omega)];have Ce:mi (bP docs a b):=kh _;have :=(List.pairwise_iff_getElem.1 Ce) (i-1) i (by omega) hi (by omega);rw [Mv,List.getD_eq_getElem?_getD,List.getD_eq_getElem?_getD,List.getElem?_eq_getElem hi,List.getElem?_eq_getElem (show i-1<(bP docs a b).length by omega)];simpa using this
 · intro e;exact dD (List.length_eq_zero_iff.1 e)
 · refine VA (Kz _ _ _ _) fun x hx=> ?_;have :=qB.1 hx;omega
 · obtain⟨x,hx⟩:=List.exists_mem_of_ne_nil _ dD;have :=qB.1 hx;exact MC ((rW _ _).1 this.2.2)
theorem Pf {docs:List (List UInt8)} {a b:Int}(hp:eG docs a b)(hn:(bP docs a b).length≤1048576):jO (make docs a b):=by
 refine⟨by rw [wb];exact hn,fun e he=> ?_⟩;simp only [make,List.mem_map] at he;obtain⟨t,ht,rfl⟩:=he;obtain⟨x,hx⟩:=List.exists_mem_of_ne_nil _ (nQ.1 ht);have h:=MC ((rW _ _).1 (qB.1 hx).2.2);have :=BH h;simp only;omega
end Go.S

end
section
namespace Go.S
end Go.S
namespace Go.S
end Go.S
namespace Go.S
theorem XN {docs:List (List UInt8)} {a b:Int}(hp:eG docs a b)(fE:a<b):ig a b (make docs a b)=true :=by
 have h1:=hp.1;have h2:=hp.2.2.1;have h3:=hp.2.2.2.1;unfold ig;rw [u4 hp]
 have hw:jb a b=true :=by
  unfold jb;simp only [Bool.and_eq_true,decide_eq_true_eq];omega
 rw [hw,Bool.true_and,Bool.true_and,List.all_eq_true];intro i hi;rw [List.mem_range] at hi;have hr:=(rU _ _).1 ((wa _).1 (u4 hp) i hi);unfold AG;rw [decide_eq_true_eq];have h:=(adA hr.2.2.1 hr.2.1 (a:=a) (b:=b)).2 ?_
 · omega
 · rw [wb] at hi
   have hd:∀x∈iN (make docs a b) i,a≤x∧x<b:=fun x hx=>by
    rw [KB hi] at hx;have :=qB.1 hx;omega
   have hn:=hr.2.1;exact⟨(hd _ (bo _ 0 0 (by omega))).1,(hd _ (bo _ _ 0 (by omega))).2⟩
end Go.S

end
section
namespace Go.S
theorem Pg {b:List UInt8}(h:(first b).2.2=0):num (first b).1=b.take (first b).2.1.toNat∧(first b).2.1≤b.length:=by
 unfold first at h ⊢
 split at h
 · cases h
 · rename_i h1;split at h
   · cases h
   · rename_i h2;split at h
     · cases h
     · rename_i h3;rw [if_neg h1,if_neg h2,if_neg h3];have q:lead b≤b.length:=List.Sublist.length_le (List.takeWhile_sublist _);refine⟨?_,by simp only;omega⟩;have :num (cK (b.take (lead b+1)))=b.take (lead b+1):=Classical.byContradiction fun e=>h3 (.inr e);rw [this];congr 1
end Go.S
namespace Go.S
end Go.S
namespace Go.S
end Go.S
namespace Go.S
end Go.S

end
section
namespace Go.S
abbrev ax:=Int×Int×List dK
def aq(l:List ax)(i:Nat):ax:=l.getD i (0,0,[])
def dT(d:List dK):List (List UInt8):=d.map (·.1)
def BM(l:List ax):List (List UInt8):=l.flatMap fun s=>dT s.2.2
def uT(l:List ax):List (List UInt8):=sorted (BM l)
def nh(t:List UInt8)(d:List dK):List Int:=(d.filter fun e=>decide (e.1=t)).flatMap (·.2)
def n4(l:List ax)(t:List UInt8):List Int:=l.flatMap fun s=>nh t s.2.2
def cy(l:List ax)(k:Nat):List dK:=((uT l).take k).map fun t=>(t,n4 l t)
def ni(l:List ax):List dK:=(uT l).map fun t=>(t,n4 l t)
def b8(l:List ax)(k:Nat)(s:ax):Int:=(((dT s.2.2).filter fun t=>decide (t∈(uT l).take k)).length:Nat)
def aC(l:List ax)(k:Nat):List Int:=l.map (b8 l k)
def bc(l:List ax)(k i:Nat):List Int:=(aC l (k+1)).take i++(aC l k).drop i
def cN(l:List ax)(nx:List Int):Nat→Int
 |0=> -1
 |i+1=>if nx.getD i 0=((aq l i).2.2.length:Int) then cN l nx i
  else if cN l nx i<0∨Op.bytesLess (cc (aq l i).2.2 (nx.getD i 0).toNat) (cc (aq l (cN l nx i).toNat).2.2 (nx.getD (cN l nx i).toNat 0).toNat)=true then(i:Int)
  else cN l nx i
def nR(l:List ax):Prop :=l.length≤1000∧∀s∈l,dJ s.2.2=true∧s.2.2.length≤1048576
def jP(s:ax):Bool:=ig s.1 s.2.1 s.2.2
def EP(l:List ax)(i:Nat):Bool:=decide ((aq l (i+1)).1=(aq l i).2.1)
def zr(l:List ax):Bool:=(List.range (l.length-1)).all (EP l)
def rX(l:List ax):Prop :=l.length≤1000∧∀s∈l,jO s.2.2
def dp(l:List ax):(Int×Int×List dK)×Int:=
 if l.length=0 then((0,0,[]),1)
 else if l.all jP=false then((0,0,[]),1)
 else if zr l=false then((0,0,[]),7)
 else(((aq l 0).1,(aq l (l.length-1)).2.1,ni l),0)
theorem BN {P:List UInt8→Bool}:∀ {l:List (List UInt8)},mi l→(∀x∈l,∀y∈l,Op.bytesLess x y=true→P y=true→P x=true)→
  l.take (l.filter P).length=l.filter P∧l.drop (l.filter P).length=l.filter fun x=> !P x
 | [],_,_=>⟨rfl,rfl⟩
 |x::l,h,hP=>by
  have h1:=List.pairwise_cons.1 h;have ih:=BN (l:=l) h1.2 fun a ha b hb=>hP a (List.mem_cons_of_mem _ ha) b (List.mem_cons_of_mem _ hb);cases hx:P x with
  |true=>
   rw [List.filter_cons,if_pos hx,List.filter_cons,hx];simp only [List.length_cons,List.take_succ_cons,List.drop_succ_cons,Bool.not_true];exact⟨by rw [ih.1],ih.2⟩
  |false=>
   have hn:∀y∈l,P y=false :=fun y hy=>by
    cases hy':P y with
    |false=>rfl
    |true=>have :=hP x (List.mem_cons_self ..) y (List.mem_cons_of_mem _ hy) (h1.1 y hy) hy';rw [hx] at this;cases this
   have e:(x::l).filter P= []:=by
    rw [List.filter_eq_nil_iff];intro y hy;rcases List.mem_cons.1 hy with rfl|hy
    · rw [hx];decide
    · rw [hn y hy];decide
   have e2:(x::l).filter (fun x=> !P x)=x::l:=by
    rw [List.filter_eq_self];intro y hy;rcases List.mem_cons.1 hy with rfl|hy
    · rw [hx];rfl
    · rw [hn y hy];rfl
   rw [e,e2];exact⟨rfl,rfl⟩
theorem xR {T:List (List UInt8)}(h:mi T)(k:Nat) {x y:List UInt8}(hx:x∈T)(hxy:Op.bytesLess x y=true)(hy:y∈T.take k):x∈T.take k:=by
 have e:=List.take_append_drop k T;rw [←e,List.mem_append] at hx;rcases hx with hx|hx
 · exact hx
 · have h2:mi (T.take k++T.drop k):=by rw [e];exact h
   have :=(List.pairwise_append.1 h2).2.2 y hy x hx;rw [iE hxy] at this;cases this
theorem qC(d:List dK):(dT d).length=d.length:=by simp [dT]
theorem CK(d:List dK)(i:Nat):(dT d).getD i []=cc d i:=by
 simp only [dT,cc,List.getD_eq_getElem?_getD,List.getElem?_map];cases d[i]? <;>rfl
theorem VB {a b:List UInt8}(h:Cp a b=false):Op.bytesLess b a=true :=by
 simp only [Cp,Bool.or_eq_false_iff,decide_eq_false_iff_not] at h;rcases gP a b with h1|h1|h1
 · rw [h1] at h;cases h.1
 · exact absurd h1 h.2
 · exact h1
theorem iO {d:List dK}(h:dJ d=true):mi (dT d):=by
 have hs:∀n i,i<n→n<d.length→Op.bytesLess (cc d i) (cc d n)=true :=by
  intro n;induction n with
  |zero=>intro i hi;omega
  |succ n ih=>
   intro i hi hn;have h1:=(rU d (n+1)).1 ((wa d).1 h (n+1) hn)
   have h2:Op.bytesLess (cc d n) (cc d (n+1))=true :=by
    rcases h1.1 with h0|h0
    · omega
    · exact VB h0
   by_cases e:i=n
   · subst e;exact h2
   · exact kg _ _ _ (ih i (by omega) (by omega)) h2
 unfold mi;rw [List.pairwise_iff_getElem];intro i j hi hj hij
 have e:∀q (hq:q<(dT d).length),(dT d)[q]=cc d q:=fun q hq=>by
  rw [←CK,List.getD_eq_getElem?_getD,List.getElem?_eq_getElem hq];rfl
 rw [e i hi,e j hj];exact hs j i hij (by rw [qC] at hj;exact hj)
theorem AI {l:List ax} {s:ax}(hs:s∈l) {t:List UInt8}(ht:t∈dT s.2.2):t∈uT l:=by
 rw [uT,fW,BM,List.mem_flatMap];exact⟨s,hs,ht⟩
theorem u5(l:List ax):mi (uT l):=kh _
theorem MD {l:List ax} {s:ax}(hs:s∈l)(hd:dJ s.2.2=true)(k:Nat):
  (dT s.2.2).take (b8 l k s).toNat=(dT s.2.2).filter (fun t=>decide (t∈(uT l).take k))∧(dT s.2.2).drop (b8 l k s).toNat=(dT s.2.2).filter fun t=> !decide (t∈(uT l).take k):=by
 have :=BN (P:=fun t=>decide (t∈(uT l).take k)) (iO hd) fun x hx y hy hxy hPy=>by
  simp only [decide_eq_true_eq] at hPy ⊢;exact xR (u5 l) k (AI hs hx) hxy hPy
 simpa only [b8,Int.toNat_natCast] using this
theorem sW(l:List ax)(k:Nat)(s:ax):0≤b8 l k s∧b8 l k s≤s.2.2.length:=by
 unfold b8;have :=List.length_filter_le (fun t=>decide (t∈(uT l).take k)) (dT s.2.2);rw [qC] at this;omega
theorem KC {l:List ax} {s:ax}(hs:s∈l)(hd:dJ s.2.2=true) {k:Nat}(h:b8 l k s<s.2.2.length):
  cc s.2.2 (b8 l k s).toNat∈dT s.2.2∧cc s.2.2 (b8 l k s).toNat∈uT l∧cc s.2.2 (b8 l k s).toNat∉(uT l).take k∧∀t∈dT s.2.2,t∉(uT l).take k→t=cc s.2.2 (b8 l k s).toNat∨Op.bytesLess (cc s.2.2 (b8 l k s).toNat) t=true :=by
 have h0:=sW l k s;have hc:=(MD hs hd k).2;have hn:(b8 l k s).toNat<(dT s.2.2).length:=by rw [qC];omega
 have Ph:(dT s.2.2).drop (b8 l k s).toNat=cc s.2.2 (b8 l k s).toNat::(dT s.2.2).drop ((b8 l k s).toNat+1):=by
  rw [←CK,List.getD_eq_getElem?_getD,List.getElem?_eq_getElem hn];exact List.drop_eq_getElem_cons hn
 have hm:cc s.2.2 (b8 l k s).toNat∈(dT s.2.2).filter fun t=> !decide (t∈(uT l).take k):=by
  rw [←hc,Ph];exact List.mem_cons_self ..
 rw [List.mem_filter] at hm;simp only [Bool.not_eq_true',decide_eq_false_iff_not] at hm;refine⟨hm.1,AI hs hm.1,hm.2,fun t ht hk=> ?_⟩
 have ht2:t∈(dT s.2.2).filter fun t=> !decide (t∈(uT l).take k):=by
  rw [List.mem_filter];exact⟨ht,by simp [hk]⟩
 rw [←hc,Ph,List.mem_cons] at ht2;rcases ht2 with h2|h2
 · exact .inl h2
 · right;have hi:mi ((dT s.2.2).drop (b8 l k s).toNat):=(iO hd).sublist (List.drop_sublist _ _);rw [Ph] at hi;exact(List.pairwise_cons.1 hi).1 t h2
theorem VC {l:List ax} {s:ax}(hs:s∈l) {k:Nat}(h:∀t∈dT s.2.2,t∈(uT l).take k):b8 l k s=s.2.2.length:=by
 unfold b8;rw [List.filter_eq_self.2 fun t ht=>by simp [h t ht],qC]
theorem jQ {T:List (List UInt8)} {k:Nat}(hk:k<T.length)(t:List UInt8):t∈T.take (k+1)↔t∈T.take k∨t=T.getD k []:=lX hk t
theorem KD {l:List ax} {k:Nat}(hk:k<(uT l).length):(uT l).getD k []∉(uT l).take k:=BK (uY (u5 l)) hk
theorem Pj {ts:List (List UInt8)}(h:mi ts) {T:List (List UInt8)} {k:Nat}(hk:k<T.length)(hn:T.getD k []∉T.take k):
  (ts.filter fun t=>decide (t∈T.take (k+1))).length=(ts.filter fun t=>decide (t∈T.take k)).length+(if T.getD k []∈ts then 1 else 0):=by
 induction ts with
 |nil=>simp
 |cons x r ih=>
  have h1:=List.pairwise_cons.1 h
  have hx:T.getD k []=x→T.getD k []∉r:=fun e hr=>by
   rw [e] at hr;have :=h1.1 x hr;rw [bU] at this;cases this
  have ih:=ih h1.2;simp only [List.filter_cons,jQ hk,decide_eq_true_eq,List.mem_cons] at ih ⊢;by_cases e:x=T.getD k []
  · have hr:=hx e.symm;rw [if_neg hr] at ih;have hxn:¬x∈T.take k:=by rw [e];exact hn
    rw [if_pos (Or.inr e),if_neg hxn,if_pos (Or.inl e.symm),List.length_cons,ih]
  · have e2:¬T.getD k []=x:=fun h=>e h.symm;by_cases VD:x∈T.take k
    · rw [if_pos (Or.inl VD),if_pos VD,List.length_cons,List.length_cons,ih];by_cases hr:T.getD k []∈r
      · rw [if_pos hr,if_pos (Or.inr hr)]
      · rw [if_neg hr,if_neg (by rintro(h|h);exact e2 h;exact hr h)]
    · rw [if_neg (by rintro(h|h);exact VD h;exact e h),if_neg VD,ih];by_cases hr:T.getD k []∈r
      · rw [if_pos hr,if_pos (Or.inr hr)]
      · rw [if_neg hr,if_neg (by rintro(h|h);exact e2 h;exact hr h)]
def hit(l:List ax)(k:Nat)(s:ax):Prop :=b8 l k s<s.2.2.length∧cc s.2.2 (b8 l k s).toNat=(uT l).getD k []
theorem ER {l:List ax} {s:ax}(hs:s∈l)(hd:dJ s.2.2=true) {k:Nat}(hk:k<(uT l).length):hit l k s↔(uT l).getD k []∈dT s.2.2:=by
 constructor
 · rintro⟨h1,h2⟩;rw [←h2];exact(KC hs hd h1).1
 · intro hm
   have eM:b8 l k s<s.2.2.length:=by
    have h0:=sW l k s;by_cases h:b8 l k s<s.2.2.length
    · exact h
    · exfalso;have hc:=(MD hs hd k).2;rw [List.drop_eq_nil_of_le (by rw [qC];omega)] at hc
      have :(uT l).getD k []∈(dT s.2.2).filter fun t=> !decide (t∈(uT l).take k):=by
       rw [List.mem_filter];exact⟨hm,by rw [decide_eq_false (KD hk)];rfl⟩
      rw [←hc] at this;cases this
   refine⟨eM,?_⟩;obtain⟨h1,h2,h3,h4⟩:=KC hs hd eM;rcases h4 _ hm (KD hk) with h5|h5
   · exact h5.symm
   · exfalso;apply h3;refine(jQ hk _).1 (xR (u5 l) (k+1) h2 h5 ((jQ hk _).2 (.inr rfl))) |>.resolve_right fun e=> ?_;rw [e,bU] at h5;cases h5
theorem HI {l:List ax} {s:ax}(hs:s∈l)(hd:dJ s.2.2=true) {k:Nat}(hk:k<(uT l).length):
  (hit l k s→b8 l (k+1) s=b8 l k s+1)∧(¬hit l k s→b8 l (k+1) s=b8 l k s):=by
 have :=Pj (iO hd) hk (KD hk);unfold b8;rw [ER hs hd hk];constructor<;>intro h
 · rw [if_pos h] at this;omega
 · rw [if_neg h] at this;omega
theorem pV {t:List UInt8} {d:List dK}(h:t∉dT d):nh t d= []:=by
 have :d.filter (fun e=>decide (e.1=t))= []:=by
  rw [List.filter_eq_nil_iff];intro e he;simp only [decide_eq_true_eq];intro e2;exact h (by rw [←e2];exact List.mem_map.2 ⟨e,he,rfl⟩)
 rw [nh,this];rfl
theorem oV:∀ {d:List dK},mi (dT d)→∀ {i:Nat},i<d.length→nh (cc d i) d=iN d i
 | [],_,i,hi=>by simp at hi
 |e::d,h,0,_=>by
  have h1:=List.pairwise_cons.1 h;have hn:e.1∉dT d:=fun hm=>by have :=h1.1 _ hm;rw [bU] at this;cases this
  have :=pV hn;simp only [nh] at this;simp [nh,cc,iN,List.filter_cons,this]
 |e::d,h,i+1,hi=>by
  have h1:=List.pairwise_cons.1 h
  have hm:cc d i∈dT d:=by
   rw [←CK,List.getD_eq_getElem?_getD,List.getElem?_eq_getElem (by rw [qC];simpa using hi)];exact List.getElem_mem _
  have dD:¬e.1=cc d i:=fun he=>by have h5:=h1.1 _ hm;simp only [he,bU] at h5;cases h5
  have ih:=oV (d:=d) h1.2 (i:=i) (by simpa using hi);have e1:cc (e::d) (i+1)=cc d i:=rfl;have e2:iN (e::d) (i+1)=iN d i:=rfl;rw [e1,e2,←ih];simp only [nh,List.filter_cons,decide_eq_true_eq,if_neg dD]
end Go.S

end
section
namespace Go.S
theorem gB {l:List ax} {i:Nat}(h:i<l.length):aq l i∈l:=bo l i _ h
theorem iF {l:List ax} {k i:Nat}(h:i<l.length):(aC l k).getD i 0=b8 l k (aq l i):=by
 simp only [aC,aq,List.getD_eq_getElem?_getD,List.getElem?_map,List.getElem?_eq_getElem h,Option.map_some,Option.getD_some]
theorem ga(l:List ax)(k:Nat):(aC l k).length=l.length:=by simp [aC]
theorem CL {l:List ax}(k:Nat):∀i,i≤l.length→
  (cN l (aC l k) i= -1∧∀j,j<i→b8 l k (aq l j)=(aq l j).2.2.length)∨
  (∃q:Nat,cN l (aC l k) i=q∧q<i∧b8 l k (aq l q)<(aq l q).2.2.length∧∀j,j<i→b8 l k (aq l j)<(aq l j).2.2.length→
    Op.bytesLess (cc (aq l j).2.2 (b8 l k (aq l j)).toNat) (cc (aq l q).2.2 (b8 l k (aq l q)).toNat)=false)
 |0,_=> .inl ⟨rfl,fun j hj=>by omega⟩
 |i+1,hi=>by
  have ih:=CL (l:=l) k i (by omega);have h0:=sW l k (aq l i);simp only [cN];rw [iF (k:=k) (show i<l.length by omega)];by_cases he:b8 l k (aq l i)=((aq l i).2.2.length:Int)
  · rw [if_pos he];rcases ih with⟨h1,h2⟩|⟨q,h1,h2,h3,h4⟩
    · refine .inl ⟨h1,fun j hj=> ?_⟩;by_cases e:j=i
      · rw [e];exact he
      · exact h2 j (by omega)
    · refine .inr ⟨q,h1,by omega,h3,fun j hj sJ=> ?_⟩;by_cases e:j=i
      · rw [e] at sJ;omega
      · exact h4 j (by omega) sJ
  · rw [if_neg he];rcases ih with⟨h1,h2⟩|⟨q,h1,h2,h3,h4⟩
    · rw [if_pos (Or.inl (by rw [h1];decide))];refine .inr ⟨i,rfl,by omega,by omega,fun j hj sJ=> ?_⟩;by_cases e:j=i
      · rw [e];exact bU _
      · have :=h2 j (by omega);omega
    · rw [h1];have e1:((q:Int)).toNat=q:=Int.toNat_natCast q;rw [e1,iF (k:=k) (show q<l.length by omega)];cases hb:Op.bytesLess (cc (aq l i).2.2 (b8 l k (aq l i)).toNat) (cc (aq l q).2.2 (b8 l k (aq l q)).toNat) with
      |true=>
       rw [if_pos (Or.inr rfl)];refine .inr ⟨i,rfl,by omega,by omega,fun j hj sJ=> ?_⟩;by_cases e:j=i
       · rw [e];exact bU _
       · have h5:=h4 j (by omega) sJ;cases hc:Op.bytesLess (cc (aq l j).2.2 (b8 l k (aq l j)).toNat) (cc (aq l i).2.2 (b8 l k (aq l i)).toNat) with
         |false=>rfl
         |true=>rw [kg _ _ _ hc hb] at h5;cases h5
      |false=>
       rw [if_neg (by rintro(h|h);omega;cases h)];refine .inr ⟨q,rfl,by omega,h3,fun j hj sJ=> ?_⟩;by_cases e:j=i
       · rw [e];exact hb
       · exact h4 j (by omega) sJ
theorem akk {l:List ax} {t:List UInt8}(h:t∈uT l):∃j,j<l.length∧t∈dT (aq l j).2.2:=by
 rw [uT,fW,BM,List.mem_flatMap] at h;obtain⟨s,hs,ht⟩:=h;obtain⟨j,hj,rfl⟩:=List.mem_iff_getElem.1 hs;refine⟨j,hj,?_⟩;rw [aq,List.getD_eq_getElem?_getD,List.getElem?_eq_getElem hj];exact ht
theorem KE {T:List (List UInt8)} {k:Nat}(hk:k<T.length):T.getD k []∈T:=bo T k [] hk
theorem HJ {l:List ax}(hp:nR l) {k:Nat}(hk:k<(uT l).length):
  ∃q:Nat,cN l (aC l k) l.length=q∧q<l.length∧b8 l k (aq l q)<(aq l q).2.2.length∧cc (aq l q).2.2 (b8 l k (aq l q)).toNat=(uT l).getD k []:=by
 obtain⟨j,hj,hjt⟩:=akk (KE hk);have hsj:=gB hj;obtain⟨h1,h2⟩:=(ER hsj (hp.2 _ hsj).1 hk).2 hjt;rcases CL (l:=l) k l.length (Nat.le_refl _) with⟨_,h4⟩|⟨q,h3,h4,h5,h6⟩
 · have :=h4 j hj;omega
 · refine⟨q,h3,h4,h5,?_⟩;have h7:=h6 j hj h1;rw [h2] at h7;have hsq:=gB h4;obtain⟨g1,g2,g3,_⟩:=KC hsq (hp.2 _ hsq).1 h5;rcases gP ((uT l).getD k []) (cc (aq l q).2.2 (b8 l k (aq l q)).toNat) with h8|h8|h8
   · rw [h7] at h8;cases h8
   · exact h8.symm
   · exfalso;apply g3;refine(jQ hk _).1 (xR (u5 l) (k+1) g2 h8 ((jQ hk _).2 (.inr rfl))) |>.resolve_right fun e=> ?_;rw [e,bU] at h8;cases h8
theorem VE {l:List ax} {k:Nat}(hk:(uT l).length≤k):cN l (aC l k) l.length= -1:=by
 rcases CL (l:=l) k l.length (Nat.le_refl _) with⟨h,_⟩|⟨q,h3,h4,h5,h6⟩
 · exact h
 · have hs:=gB h4;have :=VC hs (k:=k) fun t ht=>by rw [List.take_of_length_le hk];exact AI hs ht
   omega
theorem ME {l:List ax}(hp:nR l)(k:Nat):cN l (aC l k) l.length<0↔(uT l).length≤k:=by
 constructor
 · intro h;by_cases hk:k<(uT l).length
   · obtain⟨q,h1,_⟩:=HJ hp hk;omega
   · omega
 · intro h;rw [VE h];decide
def cR(l:List ax)(t:List UInt8)(i:Nat):List Int:=n4 (l.take i) t
theorem XO(l:List ax)(k i:Nat)(h:i≤l.length):(bc l k i).length=l.length:=by
 simp only [bc,List.length_append,List.length_take,List.length_drop,ga];omega
theorem akl(l:List ax)(k:Nat):aC l k=bc l k 0:=by simp [bc]
theorem XP {l:List ax} {k:Nat}:bc l k l.length=aC l (k+1):=by
 rw [bc,List.take_of_length_le (by rw [ga];exact Nat.le_refl _),List.drop_eq_nil_of_le (by rw [ga];exact Nat.le_refl _),List.append_nil]
theorem ES {l:List ax} {k i:Nat}(h:i<l.length):(bc l k i).getD i 0=b8 l k (aq l i):=by
 rw [←iF h];have hl:((aC l (k+1)).take i).length=i:=by rw [List.length_take,ga];omega
 simp only [bc,List.getD_eq_getElem?_getD];rw [List.getElem?_append_right (by omega),hl,List.getElem?_drop];simp
theorem VF {l:List ax} {k i:Nat}(h:i<l.length)(he:b8 l (k+1) (aq l i)=b8 l k (aq l i)):bc l k i=bc l k (i+1):=by
 have e1:(aC l (k+1)).take (i+1)=(aC l (k+1)).take i++ [b8 l (k+1) (aq l i)]:=by
  rw [aw _ i 0 (by rw [ga];exact h),iF h]
 have hn:i<(aC l k).length:=by rw [ga];exact h
 have e2:(aC l k).drop i=b8 l k (aq l i)::(aC l k).drop (i+1):=by
  rw [List.drop_eq_getElem_cons hn];congr 1
  rw [←iF (k:=k) h,List.getD_eq_getElem?_getD,List.getElem?_eq_getElem hn];rfl
 rw [bc,bc,e1,e2,he,List.append_assoc];rfl
theorem XQ {l:List ax} {k i:Nat}(h:i<l.length)(he:b8 l (k+1) (aq l i)=b8 l k (aq l i)+1):(bc l k i).set i (b8 l k (aq l i)+1)=bc l k (i+1):=by
 have hn:i<(aC l k).length:=by rw [ga];exact h
 have e1:(aC l (k+1)).take (i+1)=(aC l (k+1)).take i++ [b8 l (k+1) (aq l i)]:=by
  rw [aw _ i 0 (by rw [ga];exact h),iF h]
 have e2:(aC l k).drop i=b8 l k (aq l i)::(aC l k).drop (i+1):=by
  rw [List.drop_eq_getElem_cons hn];congr 1
  rw [←iF (k:=k) h,List.getD_eq_getElem?_getD,List.getElem?_eq_getElem hn];rfl
 have hl:((aC l (k+1)).take i).length=i:=by rw [List.length_take,ga];omega
 rw [bc,bc,e1,e2,he,List.append_assoc,List.set_append_right _ _ (by omega),hl,Nat.sub_self];rfl
theorem Pk(l:List ax)(t:List UInt8):cR l t l.length=n4 l t:=by simp [cR]
theorem u6 {l:List ax} {t:List UInt8} {i:Nat}(h:i<l.length):cR l t (i+1)=cR l t i++nh t (aq l i).2.2:=by
 have :l.take (i+1)=l.take i++ [aq l i]:=aw l i _ h;simp only [cR,n4,this,List.flatMap_append,List.flatMap_cons,List.flatMap_nil,List.append_nil]
theorem Pl {l:List ax}(hp:nR l) {k i:Nat}(hk:k<(uT l).length)(hi:i<l.length)(h1:b8 l k (aq l i)<(aq l i).2.2.length)(h2:cc (aq l i).2.2 (b8 l k (aq l i)).toNat=(uT l).getD k []):
  cR l ((uT l).getD k []) i++iN (aq l i).2.2 (b8 l k (aq l i)).toNat=cR l ((uT l).getD k []) (i+1)∧(bc l k i).set i (b8 l k (aq l i)+1)=bc l k (i+1):=by
 have hs:=gB hi;have hd:=(hp.2 _ hs).1;have h0:=sW l k (aq l i);refine⟨?_,XQ hi ((HI hs hd hk).1 ⟨h1,h2⟩)⟩;rw [u6 hi,←oV (iO hd) (i:=(b8 l k (aq l i)).toNat) (by omega),h2]
theorem MF {l:List ax}(hp:nR l) {k i:Nat}(hk:k<(uT l).length)(hi:i<l.length)(h:¬(b8 l k (aq l i)<(aq l i).2.2.length∧cc (aq l i).2.2 (b8 l k (aq l i)).toNat=(uT l).getD k [])):
  cR l ((uT l).getD k []) i=cR l ((uT l).getD k []) (i+1)∧bc l k i=bc l k (i+1):=by
 have hs:=gB hi;have hd:=(hp.2 _ hs).1;refine⟨?_,VF hi ((HI hs hd hk).2 h)⟩;rw [u6 hi,pV (fun hm=>h ((ER hs hd hk).2 hm)),List.append_nil]
theorem MG {l:List ax} {k:Nat}(hk:k<(uT l).length):cy l k++ [((uT l).getD k [],n4 l ((uT l).getD k []))]=cy l (k+1):=by
 simp only [cy];rw [aw (uT l) k [] hk,List.map_append];rfl
theorem Pm {l:List ax} {k:Nat}(hk:(uT l).length≤k):cy l k=ni l:=by
 simp only [cy,ni];rw [List.take_of_length_le hk]
theorem Pn(l:List ax)(k:Nat):(cy l k).length≤k:=by simp [cy];omega
theorem adG {l:List ax}(hp:nR l):(uT l).length≤1048576000:=by
 have h1:=mJ (BM l)
 have h2:∀m:List ax,(∀s∈m,s.2.2.length≤1048576)→(BM m).length≤1048576*m.length:=by
  intro m;induction m with
  |nil=>intro _;simp [BM]
  |cons s m ih=>
   intro h;have :=ih fun s hs=>h s (List.mem_cons_of_mem _ hs);have h3:=h s (List.mem_cons_self ..);simp only [BM,List.flatMap_cons,List.length_append,qC,List.length_cons] at this ⊢;omega
 have :=h2 l fun s hs=>(hp.2 s hs).2;have h3:=hp.1;unfold uT;have :1048576*l.length≤1048576000:=by omega
 omega
theorem u7 {d:List dK}(h:dJ d=true)(t:List UInt8):(nh t d).length≤1000:=by
 by_cases hm:t∈dT d
 · obtain⟨i,hi,e⟩:=List.mem_iff_getElem.1 hm;have e2:cc d i=t:=by rw [←CK,List.getD_eq_getElem?_getD,List.getElem?_eq_getElem hi];exact e
   have Ce:i<d.length:=by rw [qC] at hi;exact hi
   rw [←e2,oV (iO h) Ce];exact HD (XB h Ce).2
 · rw [pV hm];simp
theorem ET {l:List ax}(hp:nR l)(t:List UInt8):∀i,i≤l.length→(cR l t i).length≤1000*i
 |0,_=>by simp [cR,n4]
 |i+1,hi=>by
  rw [u6 (by omega),List.length_append];have :=ET hp t i (by omega);have :=u7 (hp.2 _ (gB (show i<l.length by omega))).1 t;omega
end Go.S

end
section
namespace Go.S
abbrev Sp:=Int×Int
def dW(l:List Sp)(i:Nat):Sp:=l.getD i (0,0)
def lg(n:Int):Int:=(Nat.log2 n.toNat:Nat)
def eH(a b:Int):Int:=if a<0∨b<0∨b≤a then -1 else lg (b-a)
def oa(l:List Sp)(i:Nat):Int:=eH (dW l i).1 (dW l i).2
def eY(l:List Sp):Nat→Int×Bool
 |0=>(0,false)
 |k+1=>if oa l k≤oa l (k+1) then((k:Int),true) else eY l k
def bu(l:List Sp):Int×Bool:=eY l (l.length-1)
def jc(l:List Sp)(i:Nat):List Sp:=l.take i++ [((dW l i).1,(dW l (i+1)).2)]++l.drop (i+2)
def kU:Nat→List Sp→List Sp
 |0,l=>l
 |n+1,l=>if(bu l).2 then kU n (jc l (bu l).1.toNat) else l
def dO(l:List Sp):List Sp:=kU l.length l
def bq(l:List ax):List Sp:=l.map fun s=>(s.1,s.2.1)
def lZ(a b:Int)(n:Nat):Prop :=0≤a∧a<b∧1≤n∧(n:Int)≤b-a
def kV(l:List Sp)(k:Nat):Prop :=(k+1≤l.length∨k=0)∧bu l=eY l (l.length-1-k)
theorem ah5 {n:Int}(h:n<2):0=lg n:=by
 unfold lg;rw [Nat.log2_def,if_neg (by omega)];rfl
theorem XR {n:Int}(h:2≤n):1+lg (n/2)=lg n:=by
 unfold lg;rw [Nat.log2_def n.toNat,if_pos (by omega),show(n/2).toNat=n.toNat/2 by omega];omega
theorem XS(n:Int):0≤lg n:=by unfold lg;omega
theorem Po(n:Int)(h:0≤n):lg n≤n:=by
 unfold lg;by_cases h0:n.toNat=0
 · rw [h0];simp [Nat.log2];omega
 · have :=Nat.log2_lt (n:=n.toNat) (k:=n.toNat) h0;have h2:n.toNat<2^n.toNat:=Nat.lt_two_pow_self;have :=this.2 h2;omega
theorem QJ(l:List Sp):∀k,0≤(eY l k).1∧((eY l k).2=true→(eY l k).1<k)
 |0=>⟨Int.le_refl _,fun h=>by cases h⟩
 |k+1=>by
  have :=QJ l k;simp only [eY];split
  · exact⟨by simp only;omega,fun _=>by simp only;omega⟩
  · exact⟨this.1,fun h=>by have :=this.2 h;omega⟩
theorem kW {l:List Sp}(h:(bu l).2=true):0≤(bu l).1∧(bu l).1+1<l.length:=by
 have :=QJ l (l.length-1);have h2:=this.2 h;unfold bu at *;omega
theorem AJ {l:List Sp} {i:Nat}(h:i+1<l.length):(jc l i).length+1=l.length:=by
 simp only [jc,List.length_append,List.length_take,List.length_drop,List.length_singleton];omega
theorem EU {l:List Sp}(h:(bu l).2=false):dO l=l:=by
 unfold dO;cases hl:l.length with
 |zero=>rfl
 |succ n=>simp only [kU,h];rfl
theorem BO {l:List Sp}(h:(bu l).2=true):dO (jc l (bu l).1.toNat)=dO l:=by
 have hb:=kW h;have hj:=AJ (l:=l) (i:=(bu l).1.toNat) (by omega);unfold dO;rw [←hj];show kU _ _=kU (_+1) l;simp only [kU,h,if_true]
end Go.S

end
section
namespace Go.S
def aB(docs:List (List UInt8))(l:List Sp):List ax:=l.map fun s=>(s.1,s.2,make docs s.1 s.2)
def cX(l:List ax)(i:Nat):Int:=if i=0 then 0 else(aq l (i-1)).2.1
def gq(docs:List (List UInt8))(l:List ax)(i:Nat):Bool:=
 decide ((aq l i).1=cX l i)&&(cM docs (aq l i).1 (aq l i).2.1&&decide ((aq l i).2.2=make docs (aq l i).1 (aq l i).2.1))
def aX(docs:List (List UInt8))(l:List ax):Bool:=cF docs 0 0&&(decide ((l.length:Int)≤64)&&(List.range l.length).all (gq docs l))
def ak(docs:List (List UInt8))(l:List ax):List (List UInt8)×List ax:=if aX docs l then(docs,l) else([],[])
def bR(l:List ax):Int:=cX l l.length
def fP(docs:List (List UInt8))(l:List ax):Int:=bR (ak docs l).2
def aU(docs:List (List UInt8))(l:List ax)(doc:List UInt8):(List (List UInt8)×List ax)×Int:=
 if(2000:Int)<doc.length then(ak docs l,1)
 else if(1000:Int)≤(ak docs l).1.length then(ak docs l,3)
 else(((ak docs l).1++ [doc],(ak docs l).2),0)
def aN(docs:List (List UInt8))(l:List ax):(List (List UInt8)×List ax)×Int:=
 if fP docs l=(ak docs l).1.length then(ak docs l,5)
 else if(64:Int)≤(ak docs l).2.length then(ak docs l,3)
 else(((ak docs l).1,(ak docs l).2++ [(fP docs l,((ak docs l).1.length:Int),make (ak docs l).1 (fP docs l) (ak docs l).1.length)]),0)
def pW(l:List ax)(i m:Nat)(s:ax):List ax:=l.take i++ [s]++l.drop (i+m)
def rY(docs:List (List UInt8))(l:List ax)(i m:Nat):ax:=((aq l i).1,(aq l (i+m-1)).2.1,make docs (aq l i).1 (aq l (i+m-1)).2.1)
def w9(l:List ax)(i m:Int):Bool:=decide (m<2) || (decide (i<0) || (decide ((l.length:Int)<m) || decide ((l.length:Int)-m<i)))
def bt(docs:List (List UInt8))(l:List ax)(i m:Int):(List (List UInt8)×List ax)×Int:=
 if w9 (ak docs l).2 i m then(ak docs l,1)
 else(((ak docs l).1,pW (ak docs l).2 i.toNat m.toNat (rY (ak docs l).1 (ak docs l).2 i.toNat m.toNat)),0)
def cq(docs:List (List UInt8))(l:List ax):List (List UInt8)×List ax:=((ak docs l).1,aB (ak docs l).1 (dO (bq (ak docs l).2)))
def XT(s:ax):Sg:=rOf s.1 s.2.1 s.2.2
def qD(docs:List (List UInt8))(l:List ax):List Sg:=(ak docs l).2.map XT
def pX(docs:List (List UInt8))(l:List ax)(k:Nat):Prop :=cF docs 0 0=true∧l.length≤64∧(∀i,i<k→gq docs l i=true)∧k≤l.length
def dP(docs:List (List UInt8)):Int→List Sp→Bool
 |_,[]=>true
 |a,s::r=>decide (s.1=a)&&(cM docs s.1 s.2&&dP docs s.2 r)
def dh:Int→List Sp→Int
 |a,[]=>a
 |_,s::r=>dh s.2 r
theorem mL(docs:List (List UInt8)):∀(a:Int) (l m:List Sp),dP docs a (l++m)=(dP docs a l&&dP docs (dh a l) m)
 |a,[],m=>by simp [dP,dh]
 |a,s::r,m=>by simp only [List.cons_append,dP,dh];rw [mL docs s.2 r m,Bool.and_assoc,Bool.and_assoc]
theorem jR:∀(a:Int) (l m:List Sp),dh a (l++m)=dh (dh a l) m
 |_,[],_=>rfl
 |_,s::r,m=>by simp only [List.cons_append,dh];exact jR s.2 r m
theorem mM {docs:List (List UInt8)} {a b:Int}(h:cM docs a b=true):a<b∧0≤a∧b≤docs.length∧docs.length≤1000∧∀d∈docs,d.length≤2000:=by
 simp only [cM,cF,Bool.and_eq_true,List.all_eq_true,decide_eq_true_eq] at h;obtain⟨⟨h1,h2,h3,h4,h5⟩,h6⟩:=h;exact⟨h6,h3,h5,by omega,fun d hd=>by have :=h1 d hd;omega⟩
theorem rZ {docs:List (List UInt8)} {a b:Int}(h:cF docs 0 0=true)(h1:0≤a)(h2:a<b)(h3:b≤docs.length):cM docs a b=true :=by
 simp only [cM,cF,Bool.and_eq_true,List.all_eq_true,decide_eq_true_eq] at h ⊢;exact⟨⟨h.1,h.2.1,h1,by omega,h3⟩,h2⟩
theorem XU {docs:List (List UInt8)} {a b:Int}(h:cM docs a b=true):cF docs 0 0=true :=by
 simp only [cM,cF,Bool.and_eq_true,List.all_eq_true,decide_eq_true_eq] at h ⊢;exact⟨h.1.1,h.1.2.1,Int.le_refl _,Int.le_refl _,by omega⟩
theorem zt {docs:List (List UInt8)}:∀ {l:List Sp} {a:Int},dP docs a l=true→a≤dh a l∧(l≠ []→cM docs a (dh a l)=true)∧(dh a l≤docs.length∨l= [])
 | [],a,_=>⟨Int.le_refl _,fun h=>absurd rfl h, .inr rfl⟩
 |s::r,a,h=>by
  simp only [dP,Bool.and_eq_true,decide_eq_true_eq] at h;obtain⟨h1,h2,h3⟩:=h;have ih:=zt h3;have h4:=mM h2
  have h5:dh s.2 r≤docs.length:=by
   rcases ih.2.2 with h|h
   · exact h
   · rw [h];exact h4.2.2.1
  simp only [dh];exact⟨by omega,fun _=>rZ (XU h2) (by omega) (by omega) h5, .inl h5⟩
theorem oW {docs:List (List UInt8)}:∀ {l:List Sp} {a:Int},dP docs a l=true→∀s∈l,cM docs s.1 s.2=true
 | [],_,_,s,hs=>by cases hs
 |t::r,a,h,s,hs=>by
  simp only [dP,Bool.and_eq_true,decide_eq_true_eq] at h;rcases List.mem_cons.1 hs with rfl|hs
  · exact h.2.1
  · exact oW h.2.2 s hs
theorem EV:∀(l:List ax),dh 0 (bq l)=bR l:=by
 intro l;unfold bR cX;by_cases h:l.length=0
 · rw [if_pos h];have :l= []:=List.eq_nil_of_length_eq_zero h;subst this;rfl
 · rw [if_neg h];obtain⟨m,s,rfl⟩:∃m s,l=m++ [s]:=⟨l.dropLast,l.getLast (by intro e;subst e;exact h rfl),(List.dropLast_concat_getLast _).symm⟩
   have e:aq (m++ [s]) ((m++ [s]).length-1)=s:=by
    simp only [aq,List.length_append,List.length_singleton,Nat.add_sub_cancel,List.getD_eq_getElem?_getD];rw [List.getElem?_append_right (Nat.le_refl _),Nat.sub_self];rfl
   rw [e];simp only [bq,List.map_append,List.map_cons,List.map_nil];rw [jR];rfl
theorem ji(docs:List (List UInt8))(l:List Sp):bq (aB docs l)=l:=by
 simp only [bq,aB,List.map_map];have :((fun(s:ax)=>(s.1,s.2.1))∘fun(s:Sp)=>((s.1,s.2,make docs s.1 s.2):ax))=id:=by funext s;rfl
 rw [this,List.map_id]
theorem nS(docs:List (List UInt8))(l m:List Sp):aB docs (l++m)=aB docs l++aB docs m:=by simp [aB]
theorem EW(l m:List ax):bq (l++m)=bq l++bq m:=by simp [bq]
theorem fy(l:List ax):(bq l).length=l.length:=by simp [bq]
theorem dC(docs:List (List UInt8))(l:List Sp):(aB docs l).length=l.length:=by simp [aB]
theorem xS {l m:List ax} {i:Nat}(h:i<l.length):aq (l++m) i=aq l i:=by
 simp only [aq,List.getD_eq_getElem?_getD];rw [List.getElem?_append_left h]
theorem Pq(l:List ax)(s:ax):aq (l++ [s]) l.length=s:=by
 simp only [aq,List.getD_eq_getElem?_getD];rw [List.getElem?_append_right (Nat.le_refl _),Nat.sub_self];rfl
theorem MH {docs:List (List UInt8)}:∀(n:Nat) (l:List ax),l.length=n→((∀i,i<l.length→gq docs l i=true)↔dP docs 0 (bq l)=true∧l=aB docs (bq l))
 |0,l,h=>by
  have :l= []:=List.eq_nil_of_length_eq_zero h;subst this;exact⟨fun _=>⟨rfl,rfl⟩,fun _ i hi=>by simp at hi⟩
 |n+1,l,h=>by
  obtain⟨m,s,rfl⟩:∃m s,l=m++ [s]:=⟨l.dropLast,l.getLast (by intro e;subst e;simp at h),(List.dropLast_concat_getLast _).symm⟩;have hm:m.length=n:=by simpa using h
  have ih:=MH (docs:=docs) n m hm
  have e1:∀i,i<m.length→gq docs (m++ [s]) i=gq docs m i:=fun i hi=>by
   have h2:cX (m++ [s]) i=cX m i:=by
    unfold cX;by_cases h0:i=0
    · rw [if_pos h0,if_pos h0]
    · rw [if_neg h0,if_neg h0,xS (by omega)]
   unfold gq;rw [xS hi,h2]
  have e2:cX (m++ [s]) m.length=bR m:=by
   unfold bR cX;by_cases h0:m.length=0
   · rw [if_pos h0,if_pos h0]
   · rw [if_neg h0,if_neg h0,xS (by omega)]
  have e3:gq docs (m++ [s]) m.length=true↔s.1=bR m∧cM docs s.1 s.2.1=true∧s.2.2=make docs s.1 s.2.1:=by
   unfold gq;rw [e2,Pq];simp only [Bool.and_eq_true,decide_eq_true_eq]
  have e4:dP docs 0 (bq (m++ [s]))=true↔dP docs 0 (bq m)=true∧s.1=bR m∧cM docs s.1 s.2.1=true :=by
   rw [EW,mL,EV,Bool.and_eq_true];simp only [bq,List.map_cons,List.map_nil,dP,Bool.and_true,Bool.and_eq_true,decide_eq_true_eq]
  have e5:m++ [s]=aB docs (bq (m++ [s]))↔m=aB docs (bq m)∧s.2.2=make docs s.1 s.2.1:=by
   rw [EW,nS];constructor
   · intro h;have h5:=List.append_inj h (by rw [dC,fy]);refine⟨h5.1,?_⟩;have h6:=h5.2;simp only [aB,bq,List.map_cons,List.map_nil,List.cons.injEq,and_true] at h6;exact congrArg (fun(q:ax)=>q.2.2) h6
   · rintro⟨h5,h6⟩;rw [←h5];congr 1
     simp only [aB,bq,List.map_cons,List.map_nil,List.cons.injEq,and_true];rw [←h6]
  rw [e4,e5];constructor
  · intro jf;have h7:=ih.1 fun i hi=>by rw [←e1 i hi];exact jf i (by rw [List.length_append];omega)
    have h8:=e3.1 (jf m.length (by simp));exact⟨⟨h7.1,h8.1,h8.2.1⟩,h7.2,h8.2.2⟩
  · rintro⟨⟨h7,h8,h9⟩,cY,ew⟩ i hi;by_cases Ce:i<m.length
    · rw [e1 i Ce];exact ih.2 ⟨h7,cY⟩ i Ce
    · have :i=m.length:=by simp at hi;omega
      subst this;exact e3.2 ⟨h8,h9,ew⟩
theorem zu {docs:List (List UInt8)} {l:List ax}:aX docs l=true↔cF docs 0 0=true∧l.length≤64∧dP docs 0 (bq l)=true∧l=aB docs (bq l):=by
 unfold aX;rw [Bool.and_eq_true,Bool.and_eq_true,decide_eq_true_eq,List.all_eq_true,←MH (docs:=docs) l.length l rfl];simp only [List.mem_range];constructor
 · rintro⟨h1,h2,h3⟩;exact⟨h1,by omega,h3⟩
 · rintro⟨h1,h2,h3⟩;exact⟨h1,by omega,h3⟩
theorem QK:aX [] []=true :=by decide
theorem gQ(docs:List (List UInt8))(l:List ax):aX (ak docs l).1 (ak docs l).2=true :=by
 unfold ak;by_cases h:aX docs l=true
 · rw [if_pos h];exact h
 · rw [if_neg h];exact QK
theorem eZ {docs:List (List UInt8)} {l:List ax}(h:aX docs l=true):ak docs l=(docs,l):=by unfold ak;rw [if_pos h]
theorem akm {docs:List (List UInt8)} {l:List Sp}(h1:cF docs 0 0=true)(h2:l.length≤64)(h3:dP docs 0 l=true):aX docs (aB docs l)=true :=
 zu.2 ⟨h1,by rw [dC];exact h2,by rw [ji];exact h3,by rw [ji]⟩
end Go.S

end
section
namespace Go.S
theorem AK:∀(l acc:List Int),2*(jm acc l).length≤l.length+1+(if acc.isEmpty then 0 else 1)
 | [],acc=>by cases acc<;>simp [jm]
 |c::l,acc=>by
  simp only [jm,List.length_cons];by_cases hc:eQ c=true
  · rw [if_pos hc];have :=AK l (acc++ [c]);have e:(acc++ [c]).isEmpty=false :=by cases acc<;>rfl
    rw [e] at this;simp only [Bool.false_eq_true,if_false] at this;cases acc.isEmpty<;>simp<;>omega
  · rw [if_neg hc];have :=AK l [];simp only [List.isEmpty_nil,if_true] at this;cases acc.isEmpty with
    |true=>simp only [if_true];omega
    |false=>simp only [Bool.false_eq_true,if_false,List.length_cons];omega
theorem MI(b:List UInt8):2*(aW b).length≤b.length+1:=by
 have h:=AK (decode b) [];simp only [List.isEmpty_nil,if_true] at h;have h2:=nM b;simp only [aW,List.length_map];omega
theorem HK {docs:List (List UInt8)}(h:∀d∈docs,d.length≤2000)(a:Int):∀k,(fo docs a k).length≤1000*k
 |0=>by simp [fo]
 |k+1=>by
  rw [←qy,List.length_append];have :=HK h a k;have h2:=mJ (aW (docs.getD (Int.toNat (a+(k:Int))) []));have h3:=MI (docs.getD (Int.toNat (a+(k:Int))) [])
  have h4:(docs.getD (Int.toNat (a+(k:Int))) []).length≤2000:=by
   by_cases e:Int.toNat (a+(k:Int))<docs.length
   · exact h _ (bo docs _ _ e)
   · rw [List.getD_eq_getElem?_getD,List.getElem?_eq_none (by omega)];exact Nat.zero_le _
  omega
theorem MJ {docs:List (List UInt8)} {a b:Int}(h:cM docs a b=true):jO (make docs a b):=by
 have hg:=mM h;refine Pf (mK h) ?_;have h1:=HK hg.2.2.2.2 a (b-a).toNat;have h2:=mJ (fo docs a (b-a).toNat);unfold bP;omega
theorem Pr {docs:List (List UInt8)} {t:List UInt8} {a b c:Int}(h:a≤b)(h2:b≤c):bD docs a t (b-a).toNat++bD docs b t (c-b).toNat=bD docs a t (c-a).toNat:=by
 have e:List.range (c-a).toNat=List.range (b-a).toNat++(List.range (c-b).toNat).map ((b-a).toNat+ ·):=by
  rw [←List.range_add];congr 1;omega
 simp only [bD];rw [e,List.filter_append,List.map_append,List.filter_map,List.map_map];congr 1
 have hq:((fun(i:Nat)=>pT (docs.getD (a+(i:Int)).toNat []) t)∘fun x=>(b-a).toNat+x)=fun(i:Nat)=>pT (docs.getD (b+(i:Int)).toNat []) t:=by
  funext i;simp only [Function.comp];rw [show(a+(((b-a).toNat+i:Nat):Int))=b+(i:Int) by omega]
 rw [hq];refine List.map_congr_left fun i _=> ?_;simp only [Function.comp];omega
theorem MK(docs:List (List UInt8))(a b:Int):dT (make docs a b)=bP docs a b:=by
 simp only [dT,make,List.map_map];have :((fun(e:dK)=>e.1)∘fun t=>((t,bD docs a t (b-a).toNat):dK))=id:=by funext t;rfl
 rw [this,List.map_id]
theorem zv {docs:List (List UInt8)} {a b:Int}(hp:eG docs a b)(t:List UInt8):nh t (make docs a b)=bD docs a t (b-a).toNat:=by
 by_cases hm:t∈bP docs a b
 · obtain⟨i,hi,e⟩:=List.mem_iff_getElem.1 hm;have e2:(bP docs a b).getD i []=t:=by rw [List.getD_eq_getElem?_getD,List.getElem?_eq_getElem hi];exact e
   have e3:cc (make docs a b) i=t:=by rw [KA hi,e2]
   rw [←e3,oV (iO (u4 hp)) (by rw [wb];exact hi),KB hi,e2,e3]
 · rw [pV (by rw [MK];exact hm)];by_cases he:bD docs a t (b-a).toNat= []
   · exact he.symm
   · exact absurd (nQ.2 he) hm
theorem u9 {docs:List (List UInt8)} {t:List UInt8}:∀ {m:List Sp} {a:Int},dP docs a m=true→n4 (aB docs m) t=bD docs a t (dh a m-a).toNat
 | [],a,_=>by simp [n4,aB,dh,bD]
 |s::r,a,h=>by
  simp only [dP,Bool.and_eq_true,decide_eq_true_eq] at h;obtain⟨h1,h2,h3⟩:=h;have ih:=u9 (t:=t) h3;have h4:=mM h2;have h5:=zt h3;simp only [n4,aB,List.map_cons,List.flatMap_cons,dh] at ih ⊢;rw [ih,zv (mK h2),←h1];exact Pr (by omega) h5.1
theorem adH {l:List ax} {t:List UInt8}:t∈uT l↔∃s∈l,t∈dT s.2.2:=by
 rw [uT,fW,BM,List.mem_flatMap]
theorem Ps {docs:List (List UInt8)} {m:List Sp} {a:Int}(h:dP docs a m=true)(hm:m≠ []):ni (aB docs m)=make docs a (dh a m):=by
 have hK:uT (aB docs m)=bP docs a (dh a m):=by
  refine sT _ _ (u5 _) (kh _) fun t=> ?_;rw [nQ,←u9 h,adH];constructor
  · rintro⟨s,hs,ht⟩ he;simp only [n4,List.flatMap_eq_nil_iff] at he;have h1:=he s hs;simp only [aB,List.mem_map] at hs;obtain⟨p,hp,rfl⟩:=hs;simp only at h1 ht;rw [MK] at ht;rw [zv (mK (oW h p hp))] at h1;exact nQ.1 ht h1
  · intro dD;obtain⟨x,hx⟩:=List.exists_mem_of_ne_nil _ dD;simp only [n4,List.mem_flatMap] at hx;obtain⟨s,hs,XV⟩:=hx;refine⟨s,hs,?_⟩;by_cases ht:t∈dT s.2.2
    · exact ht
    · rw [pV ht] at XV;cases XV
 unfold ni make;rw [hK];refine List.map_congr_left fun t _=> ?_;rw [u9 h]
theorem xT {docs:List (List UInt8)} {m:List Sp} {a:Int}(h:dP docs a m=true)(hm:m≠ []):(dW m 0).1=a:=by
 cases m with
 |nil=>exact absurd rfl hm
 |cons s r=>
  simp only [dP,Bool.and_eq_true,decide_eq_true_eq] at h;exact h.1
theorem EX:∀(m:List Sp) (a:Int),m≠ []→dh a m=(dW m (m.length-1)).2
 | [],_,h=>absurd rfl h
 | [s],a,_=>rfl
 |s::t::r,a,_=>by
  have :=EX (t::r) s.2 (by simp);simp only [dh,List.length_cons,dW] at this ⊢;rw [this];rfl
theorem qE(docs:List (List UInt8))(m:List Sp)(i:Nat)(h:i<m.length):aq (aB docs m) i=((dW m i).1,(dW m i).2,make docs (dW m i).1 (dW m i).2):=by
 simp only [aq,aB,dW,List.getD_eq_getElem?_getD,List.getElem?_map,List.getElem?_eq_getElem h,Option.map_some,Option.getD_some]
theorem EY {docs:List (List UInt8)}:∀ {m:List Sp} {a:Int},dP docs a m=true→∀i,i+1<m.length→(dW m (i+1)).1=(dW m i).2
 | [],_,_,i,hi=>by simp at hi
 |s::r,a,h,0,hi=>by
  simp only [dP,Bool.and_eq_true,decide_eq_true_eq] at h;have :r≠ []:=by intro e;subst e;simp at hi
  exact xT h.2.2 this
 |s::r,a,h,i+1,hi=>by
  simp only [dP,Bool.and_eq_true,decide_eq_true_eq] at h;exact EY h.2.2 i (by simpa using hi)
theorem XW {docs:List (List UInt8)} {m:List Sp} {a:Int}(h:dP docs a m=true)(hl:m.length≤1000):rX (aB docs m):=by
 refine⟨by rw [dC];exact hl,fun s hs=> ?_⟩;simp only [aB,List.mem_map] at hs;obtain⟨p,hp,rfl⟩:=hs;exact MJ (oW h p hp)
theorem BP {docs:List (List UInt8)} {m:List Sp} {a:Int}(h:dP docs a m=true):∀s∈aB docs m,jP s=true :=by
 intro s hs;simp only [aB,List.mem_map] at hs;obtain⟨p,hp,rfl⟩:=hs;have h1:=oW h p hp;exact XN (mK h1) (mM h1).1
theorem XX {docs:List (List UInt8)} {m:List Sp} {a:Int}(h:dP docs a m=true)(hm:m≠ []):dp (aB docs m)=((a,dh a m,make docs a (dh a m)),0):=by
 have hl:0<m.length:=List.length_pos_iff.2 hm;unfold dp;rw [dC,if_neg (by omega)];have h1:(aB docs m).all jP=true :=List.all_eq_true.2 (BP h);rw [h1,if_neg (by decide)]
 have h2:zr (aB docs m)=true :=by
  unfold zr;rw [List.all_eq_true];intro i hi;rw [List.mem_range,dC] at hi;simp only [EP,decide_eq_true_eq];rw [qE _ _ _ (by omega),qE _ _ _ (by omega)];exact EY h i (by omega)
 rw [h2,if_neg (by decide),qE _ _ _ hl,qE _ _ _ (by omega),xT h hm,←EX m a hm,Ps h hm]
theorem zw {docs:List (List UInt8)} {S:List Sp} {i m:Nat}(h:dP docs 0 S=true)(hm:0<m)(hi:i+m≤S.length):
  dP docs (dW S i).1 ((S.drop i).take m)=true∧dh (dW S i).1 ((S.drop i).take m)=(dW S (i+m-1)).2∧(S.drop i).take m≠ []∧
  dP docs 0 (S.take i++ [((dW S i).1,(dW S (i+m-1)).2)]++S.drop (i+m))=true∧dh 0 (S.take i++ [((dW S i).1,(dW S (i+m-1)).2)]++S.drop (i+m))=dh 0 S:=by
 have e:S=S.take i++((S.drop i).take m++S.drop (i+m)):=by
  rw [←List.drop_drop,List.take_append_drop,List.take_append_drop]
 have hl:((S.drop i).take m).length=m:=by rw [List.length_take,List.length_drop];omega
 have dD:(S.drop i).take m≠ []:=by intro e;rw [e] at hl;simp at hl;omega
 have h1:=h;rw [e,mL,mL,Bool.and_eq_true,Bool.and_eq_true] at h1;obtain⟨h2,h3,h4⟩:=h1
 have ef:(dW ((S.drop i).take m) 0)=dW S i:=by
  simp only [dW,List.getD_eq_getElem?_getD];rw [List.getElem?_take_of_lt hm,List.getElem?_drop];rfl
 have el:(dW ((S.drop i).take m) (m-1))=dW S (i+m-1):=by
  simp only [dW,List.getD_eq_getElem?_getD];rw [List.getElem?_take_of_lt (by omega),List.getElem?_drop,show i+(m-1)=i+m-1 by omega]
 have h5:=xT h3 dD;rw [ef] at h5;have h6:=EX _ (dh 0 (S.take i)) dD;rw [hl,el] at h6;rw [←h5] at h3 h4 h6;have h7:=(zt h3).2.1 dD;rw [h6] at h7 h4;refine⟨h3,h6,dD,?_,?_⟩
 · rw [mL,mL,h2];simp only [dP,jR,dh,h4,←h5,h7,Bool.and_true,decide_true]
 · conv=>rhs;rw [e,jR,jR]
   rw [jR,jR];simp only [dh];rw [←h5,h6]
theorem sX(docs:List (List UInt8))(l:List Sp)(i:Nat):(aB docs l).take i=aB docs (l.take i):=by simp [aB,List.map_take]
theorem sY(docs:List (List UInt8))(l:List Sp)(i:Nat):(aB docs l).drop i=aB docs (l.drop i):=by simp [aB,List.map_drop]
theorem EZ(docs:List (List UInt8)) {S:List Sp} {i m:Nat}(hm:0<m)(hi:i+m≤S.length):
  pW (aB docs S) i m (rY docs (aB docs S) i m)=aB docs (S.take i++ [((dW S i).1,(dW S (i+m-1)).2)]++S.drop (i+m)):=by
 unfold pW rY;rw [sX,sY,qE _ _ _ (by omega),qE _ _ _ (by omega),nS,nS];rfl
theorem XY {docs:List (List UInt8)} {S:List Sp} {i m:Nat}(h:dP docs 0 S=true)(hm:0<m)(hi:i+m≤S.length):
  dp (((aB docs S).drop i).take m)=(rY docs (aB docs S) i m,0):=by
 have hc:=zw h hm hi;rw [sY,sX,XX hc.1 hc.2.2.1,hc.2.1];unfold rY;rw [qE _ _ _ (by omega),qE _ _ _ (by omega)]
theorem XZ {docs:List (List UInt8)} {S:List Sp} {i m:Nat}(h:dP docs 0 S=true)(hm:0<m)(hi:i+m≤S.length)(hl:S.length≤1000):
  rX (((aB docs S).drop i).take m):=by
 have hc:=zw h hm hi;rw [sY,sX];exact XW hc.1 (by rw [List.length_take,List.length_drop];omega)
theorem VG {docs:List (List UInt8)} {S:List Sp}(h:dP docs 0 S=true) {i:Nat}(hi:i+1<S.length):dP docs 0 (jc S i)=true∧dh 0 (jc S i)=dh 0 S:=by
 have hc:=zw (m:=2) h (by omega) (by omega :i+2≤S.length);exact⟨hc.2.2.2.1,hc.2.2.2.2⟩
theorem BQ {docs:List (List UInt8)}:∀(n:Nat) {S:List Sp},dP docs 0 S=true→dP docs 0 (kU n S)=true∧dh 0 (kU n S)=dh 0 S∧(kU n S).length≤S.length
 |0,S,h=>⟨h,rfl,Nat.le_refl _⟩
 |n+1,S,h=>by
  simp only [kU];by_cases hb:(bu S).2=true
  · rw [if_pos hb];have h1:=kW hb;have h2:=VG h (i:=(bu S).1.toNat) (by omega);have h3:=BQ n h2.1;have h4:=AJ (l:=S) (i:=(bu S).1.toNat) (by omega);exact⟨h3.1,by rw [h3.2.1,h2.2],by omega⟩
  · rw [if_neg hb];exact⟨h,rfl,Nat.le_refl _⟩
end Go.S

end
section
namespace Go.S
abbrev fA:=List (List UInt8)×List ax
abbrev dH:=Int×Int×Int×List UInt8
def kC(docs:List (List UInt8))(l:List ax)(a b c:Int)(d:List UInt8):fA×Int:=
 if a=0 then aU docs l d else if a=1 then aN docs l else if a=2 then bt docs l b c else(cq docs l,0)
def nT(l:List dH)(i:Nat):dH:=l.getD i (0,0,0,[])
def kj(x:fA)(l:List dH):Nat→fA
 |0=>x
 |k+1=>if(2500:Int)<(nT l k).2.2.2.length then kj x l k else(kC (kj x l k).1 (kj x l k).2 (nT l k).1 (nT l k).2.1 (nT l k).2.2.1 (nT l k).2.2.2).1
def cO(l:List dH):fA:=kj ([],[]) l (min l.length 40)
def qF(l:List dH):Nat→Nat
 |0=>0
 |k+1=>if(nT l k).1=1 then qF l k+1 else qF l k
structure RI (docs:List (List UInt8)) (l:List ax) (S:List Sp):Prop where
 fair:cF docs 0 0=true
 le:S.length≤64
 row:dP docs 0 S=true
 eq:l=aB docs S
theorem RI.right {docs:List (List UInt8)} {l:List ax} {S:List Sp}(h:RI docs l S):aX docs l=true :=by
 rw [h.eq];exact akm h.fair h.le h.row
theorem RI.of {docs:List (List UInt8)} {l:List ax}(h:aX docs l=true):RI docs l (bq l):=by
 have :=zu.1 h;exact⟨this.1,by rw [fy];exact this.2.1,this.2.2.1,this.2.2.2⟩
theorem iG(docs:List (List UInt8))(l:List ax):RI (ak docs l).1 (ak docs l).2 (bq (ak docs l).2):=RI.of (gQ docs l)
theorem RI.Pt {docs:List (List UInt8)} {l:List ax} {S:List Sp}(h:RI docs l S):bR l=dh 0 S:=by
 rw [←EV,h.eq,ji]
theorem RI.bd {docs:List (List UInt8)} {l:List ax} {S:List Sp}(h:RI docs l S):0≤bR l∧bR l≤docs.length∧docs.length≤1000∧l.length=S.length:=by
 have h1:=zt h.row;rw [h.Pt]
 have h2:docs.length≤1000:=by
  have :=h.fair;simp only [cF,Bool.and_eq_true,decide_eq_true_eq] at this;omega
 refine⟨h1.1,?_,h2,by rw [h.eq,dC]⟩;rcases h1.2.2 with h|h
 · exact h
 · rw [h];simp [dh]
theorem Pu {docs:List (List UInt8)} {a b:Int}(d:List UInt8)(h0:0≤a)(hb:b≤docs.length):make (docs++ [d]) a b=make docs a b:=by
 have e:∀i:Nat,i<(b-a).toNat→(docs++ [d]).getD (a+(i:Int)).toNat []=docs.getD (a+(i:Int)).toNat []:=fun i hi=>by
  simp only [List.getD_eq_getElem?_getD];rw [List.getElem?_append_left (by omega)]
 have e1:∀t,bD (docs++ [d]) a t (b-a).toNat=bD docs a t (b-a).toNat:=fun t=>by
  simp only [bD];congr 1
  refine List.filter_congr fun i hi=> ?_;rw [e i (List.mem_range.1 hi)]
 have e2:fo (docs++ [d]) a (b-a).toNat=fo docs a (b-a).toNat:=by
  unfold fo;refine qv fun i hi=> ?_;rw [e i (List.mem_range.1 hi)]
 unfold make bP;rw [e2];exact List.map_congr_left fun t _=>by rw [e1]
theorem ML {docs:List (List UInt8)} {d:List UInt8}(h:cF docs 0 0=true)(hd:(d.length:Int)≤2000)(hl:(docs.length:Int)<1000):cF (docs++ [d]) 0 0=true :=by
 simp only [cF,Bool.and_eq_true,List.all_eq_true,decide_eq_true_eq,List.length_append,List.length_singleton] at h ⊢;refine⟨fun b hb=> ?_,by omega,Int.le_refl _,Int.le_refl _,by omega⟩;rcases List.mem_append.1 hb with hb|hb
 · exact h.1 b hb
 · rw [List.mem_singleton.1 hb];exact hd
theorem Pv {docs:List (List UInt8)} {d:List UInt8}(hf:cF (docs++ [d]) 0 0=true) {S:List Sp} {a:Int}(h:dP docs a S=true):dP (docs++ [d]) a S=true∧aB (docs++ [d]) S=aB docs S:=by
 induction S generalizing a with
 |nil=>exact⟨rfl,rfl⟩
 |cons s r ih=>
  simp only [dP,Bool.and_eq_true,decide_eq_true_eq] at h;have ih:=ih h.2.2;have h4:=mM h.2.1;have h5:cM (docs++ [d]) s.1 s.2=true :=rZ hf h4.2.1 h4.1 (by rw [List.length_append];simp only [List.length_singleton];omega);refine⟨by rw [dP,h5,ih.1,decide_eq_true h.1];rfl,?_⟩;have h6:=ih.2;simp only [aB] at h6;simp only [aB,List.map_cons,h6,Pu d h4.2.1 h4.2.2.1]
theorem RI.snoc {docs:List (List UInt8)} {l:List ax} {S:List Sp}(h:RI docs l S) {d:List UInt8}(hd:¬(2000:Int)<d.length)(hl:¬(1000:Int)≤docs.length):RI (docs++ [d]) l S:=by
 have hf:=ML h.fair (d:=d) (by omega) (by omega);have hr:=Pv (d:=d) hf h.row;exact⟨hf,h.le,hr.1,by rw [hr.2];exact h.eq⟩
theorem RI.flush {docs:List (List UInt8)} {l:List ax} {S:List Sp}(h:RI docs l S)(h1:¬bR l=docs.length)(h2:¬(64:Int)≤l.length):
  RI docs (l++ [(bR l,(docs.length:Int),make docs (bR l) docs.length)]) (S++ [(bR l,(docs.length:Int))])∧cM docs (bR l) docs.length=true :=by
 have hb:=h.bd;have hf:=rZ h.fair (a:=bR l) (b:=docs.length) hb.1 (by omega) (by omega);refine⟨⟨h.fair,by rw [List.length_append,List.length_singleton];omega,?_,?_⟩,hf⟩
 · rw [mL,h.row,←h.Pt];simp only [dP,hf,decide_true,Bool.and_true]
 · rw [nS,←h.eq];rfl
theorem E1 {l:List ax} {i m:Int}(h:w9 l i m=false):2≤m∧0≤i∧i+m≤l.length∧i.toNat+m.toNat≤l.length∧0<m.toNat:=by
 simp only [w9,Bool.or_eq_false_iff,decide_eq_false_iff_not] at h;omega
theorem RI.cut {docs:List (List UInt8)} {l:List ax} {S:List Sp}(h:RI docs l S) {i m:Nat}(hm:0<m)(hi:i+m≤l.length):
  RI docs (pW l i m (rY docs l i m)) (S.take i++ [((dW S i).1,(dW S (i+m-1)).2)]++S.drop (i+m))∧dp ((l.drop i).take m)=(rY docs l i m,0)∧rX ((l.drop i).take m)∧(pW l i m (rY docs l i m)).length+m=l.length+1∧bR (pW l i m (rY docs l i m))=bR l:=by
 have hb:=h.bd;have hc:=zw h.row hm (by omega :i+m≤S.length)
 have hl:(S.take i++ [((dW S i).1,(dW S (i+m-1)).2)]++S.drop (i+m)).length+m=S.length+1:=by
  simp only [List.length_append,List.length_take,List.length_drop,List.length_singleton];omega
 have hle:=h.le;have e:=EZ docs hm (by omega :i+m≤S.length)
 have R:RI docs (pW l i m (rY docs l i m)) (S.take i++ [((dW S i).1,(dW S (i+m-1)).2)]++S.drop (i+m)):=by
  rw [h.eq,e];exact⟨h.fair,by omega,hc.2.2.2.1,rfl⟩
 refine⟨R,?_,?_,?_,?_⟩
 · rw [h.eq];exact XY h.row hm (by omega)
 · rw [h.eq];exact XZ h.row hm (by omega) (by omega)
 · have :=R.bd.2.2.2;omega
 · rw [R.Pt,h.Pt,hc.2.2.2.2]
theorem RI.asD {docs:List (List UInt8)} {S:List Sp}(h:RI docs (aB docs S) S) {i:Nat}(hi:i+2≤S.length):
  RI docs (aB docs (jc S i)) (jc S i)∧pW (aB docs S) i 2 (rY docs (aB docs S) i 2)=aB docs (jc S i)∧dp (((aB docs S).drop i).take 2)=(rY docs (aB docs S) i 2,0)∧rX (((aB docs S).drop i).take 2):=by
 have hc:=h.cut (i:=i) (m:=2) (by omega) (by rw [dC];omega);have e:=EZ docs (S:=S) (i:=i) (m:=2) (by omega) (by omega);have e2:jc S i=S.take i++ [((dW S i).1,(dW S (i+2-1)).2)]++S.drop (i+2):=rfl;refine⟨?_,by rw [e,e2],hc.2.1,hc.2.2.1⟩;have :=hc.1;rw [e,←e2] at this;exact this
theorem RI.settle {docs:List (List UInt8)} {l:List ax} {S:List Sp}(h:RI docs l S):RI docs (aB docs (dO S)) (dO S)∧dh 0 (dO S)=dh 0 S∧(dO S).length≤S.length:=by
 have hs:=BQ S.length h.row;have hle:=h.le;exact⟨⟨h.fair,by unfold dO;omega,hs.1,rfl⟩,hs.2.1,hs.2.2⟩
theorem append_right(docs:List (List UInt8))(l:List ax)(d:List UInt8):aX (aU docs l d).1.1 (aU docs l d).1.2=true :=by
 unfold aU;by_cases h1:(2000:Int)<d.length
 · rw [if_pos h1];exact gQ docs l
 · rw [if_neg h1];by_cases h2:(1000:Int)≤(ak docs l).1.length
   · rw [if_pos h2];exact gQ docs l
   · rw [if_neg h2];exact((iG docs l).snoc h1 h2).right
theorem oK(docs:List (List UInt8))(l:List ax):aX (aN docs l).1.1 (aN docs l).1.2=true :=by
 unfold aN;by_cases h1:fP docs l=(ak docs l).1.length
 · rw [if_pos h1];exact gQ docs l
 · rw [if_neg h1];by_cases h2:(64:Int)≤(ak docs l).2.length
   · rw [if_pos h2];exact gQ docs l
   · rw [if_neg h2];exact((iG docs l).flush h1 h2).1.right
theorem merge_right(docs:List (List UInt8))(l:List ax)(i m:Int):aX (bt docs l i m).1.1 (bt docs l i m).1.2=true :=by
 unfold bt;by_cases h1:w9 (ak docs l).2 i m=true
 · rw [if_pos h1];exact gQ docs l
 · rw [if_neg h1];have hb:=E1 (by simpa using h1);exact((iG docs l).cut hb.2.2.2.2 hb.2.2.2.1).1.right
theorem rh(docs:List (List UInt8))(l:List ax):aX (cq docs l).1 (cq docs l).2=true :=(iG docs l).settle.1.right
theorem Pw(docs:List (List UInt8))(l:List ax)(a b c:Int)(d:List UInt8):aX (kC docs l a b c d).1.1 (kC docs l a b c d).1.2=true :=by
 unfold kC;split
 · exact append_right docs l d
 · split
   · exact oK docs l
   · split
     · exact merge_right docs l b c
     · exact rh docs l
theorem BS {x:fA}(h:aX x.1 x.2=true)(l:List dH):∀k,aX (kj x l k).1 (kj x l k).2=true
 |0=>h
 |k+1=>by
  simp only [kj];split
  · exact BS h l k
  · exact Pw _ _ _ _ _ _
theorem KF(l:List dH)(k:Nat):aX (kj ([],[]) l k).1 (kj ([],[]) l k).2=true :=BS QK l k
theorem MM {docs:List (List UInt8)} {l:List ax}(h:aX docs l=true)(a b c:Int)(d:List UInt8):(kC docs l a b c d).1.2.length≤l.length+(if a=1 then 1 else 0):=by
 have hg:=eZ h;unfold kC;by_cases h0:a=0
 · rw [if_pos h0];unfold aU;rw [hg];split
   · simp only;omega
   · split<;>simp only<;>omega
 · rw [if_neg h0];by_cases h1:a=1
   · rw [if_pos h1,if_pos h1];unfold aN;rw [hg];split
     · simp only;omega
     · split
       · simp only;omega
       · simp only [List.length_append,List.length_singleton];omega
   · rw [if_neg h1,if_neg h1];by_cases h2:a=2
     · rw [if_pos h2];unfold bt;rw [hg];by_cases hb:w9 l b c=true
       · rw [if_pos hb];simp
       · rw [if_neg hb];have hb:=E1 (by simpa using hb);have :=((RI.of h).cut hb.2.2.2.2 hb.2.2.2.1).2.2.2.1;simp only;omega
     · rw [if_neg h2];simp only [cq,hg,dC];have :=(RI.of h).settle.2.2;rw [fy] at this;omega
theorem HL(l:List dH):∀k,(kj ([],[]) l k).2.length≤qF l k
 |0=>Nat.le_refl _
 |k+1=>by
  have ih:=HL l k;have h:=MM (KF l k) (nT l k).1 (nT l k).2.1 (nT l k).2.2.1 (nT l k).2.2.2
  have e:qF l (k+1)=qF l k+(if(nT l k).1=1 then 1 else 0):=by
   rw [qF];by_cases h1:(nT l k).1=1
   · rw [if_pos h1,if_pos h1]
   · rw [if_neg h1,if_neg h1];rfl
  rw [e,kj];by_cases h2:(2500:Int)<(nT l k).2.2.2.length
  · rw [if_pos h2];omega
  · rw [if_neg h2];exact Nat.le_trans h (Nat.add_le_add_right ih _)
theorem E2(l:List dH):∀k,qF l k≤k
 |0=>Nat.le_refl _
 |k+1=>by have :=E2 l k;simp only [qF];split<;>omega
theorem keeps {docs:List (List UInt8)} {l:List ax}(h:aX docs l=true) {a:Int}(b c:Int)(d:List UInt8)(h0:a≠0):
  (kC docs l a b c d).1.1=docs∧(a=1→bR l≤bR (kC docs l a b c d).1.2∧((64:Int)≤l.length∨bR (kC docs l a b c d).1.2=docs.length))∧
  (a≠1→bR (kC docs l a b c d).1.2=bR l∧(kC docs l a b c d).1.2.length≤l.length):=by
 have hg:=eZ h;have R:=RI.of h;have B9:=R.bd;unfold kC;rw [if_neg h0];by_cases h1:a=1
 · rw [if_pos h1];unfold aN fP;rw [hg];by_cases e1:bR l=(docs.length:Int)
   · rw [if_pos e1];exact⟨rfl,fun _=>⟨Int.le_refl _, .inr e1⟩,fun h=>absurd h1 h⟩
   · rw [if_neg e1];by_cases e2:(64:Int)≤l.length
     · rw [if_pos e2];exact⟨rfl,fun _=>⟨Int.le_refl _, .inl e2⟩,fun h=>absurd h1 h⟩
     · rw [if_neg e2];have :=(R.flush e1 e2).1.Pt
       have h3:bR (l++ [(bR l,(docs.length:Int),make docs (bR l) docs.length)])=docs.length:=by
        rw [this,jR];rfl
       refine⟨rfl,fun _=>⟨?_, .inr ?_⟩,fun h=>absurd h1 h⟩
       · show bR l≤bR (l++_);rw [h3];omega
       · exact h3
 · rw [if_neg h1];by_cases h2:a=2
   · rw [if_pos h2];unfold bt;rw [hg];by_cases hb:w9 l b c=true
     · rw [if_pos hb];exact⟨rfl,fun h=>absurd h h1,fun _=>⟨rfl,Nat.le_refl _⟩⟩
     · rw [if_neg hb];have hb:=E1 (by simpa using hb);have hc:=R.cut hb.2.2.2.2 hb.2.2.2.1;refine⟨rfl,fun h=>absurd h h1,fun _=>⟨hc.2.2.2.2,?_⟩⟩;simp only;omega
   · rw [if_neg h2];have hs:=R.settle;refine⟨by simp only [cq,hg],fun h=>absurd h h1,fun _=> ?_⟩;simp only [cq,hg];refine⟨by rw [hs.1.Pt,hs.2.1,R.Pt],?_⟩;rw [dC];have :=hs.2.2;rw [fy] at this;exact this
end Go.S

end
section
namespace Go.S
def oL(l:List ax)(k:Nat):Prop :=k≤l.length∧l.length≠0∧rX l∧∀i,i<k→jP (aq l i)=true
def ri(l:List ax)(k:Nat):Prop :=k+1≤l.length∧rX l∧l.all jP=true∧∀i,i<k→EP l i=true
def uL(l:List ax):Nat:=(uT l).length
def lF(l:List ax)(k:Nat):List UInt8:=(uT l).getD k []
def gL(docs:List (List UInt8))(l:List ax):Nat:=(ak docs l).2.length
def pL(l:List dH):Nat:=(cO l).2.length
def pD(l:List dH):Nat:=(cO l).1.length
def iP(l:List ax)(i:Nat):Nat:=(aq l i).2.2.length
def gR {α:Type}(l:List α)(k:Nat):Prop :=k≤l.length
def ej(l:List ax)(k:Nat):List (Int×Int):=bq (l.take k)
def rj(l:List Sp)(k:Nat):Prop :=k≤l.length-1
def AL(a b:List Int):Bool:=decide (a=b)
def zx(a b:List Int)(k:Nat):Prop :=a.length=b.length∧a.take k=b.take k∧k≤a.length
def vc(x1:List UInt8)(x2:List Int)(y1:List UInt8)(y2:List Int):Bool:=decide (x1=y1)&&decide (x2=y2)
def E3(docs:List (List UInt8))(l:List ax)(k:Nat):Prop :=docs.length≤1000∧l.length≤64∧lW docs k
def nj(docs:List (List UInt8))(l:List ax):Prop :=docs.length≤1000000∧l.length≤1000000∧(∀b∈docs,small b)∧∀s∈l,small s.2.2∧∀e∈s.2.2,small e.2
def cZ {α:Type}(z:α)(l:List α)(k:Nat):List α:=l.take k++List.replicate (l.length-k) z
def qG(x:List ax)(r:List ax)(i j:Nat):Prop :=i<x.length∧j≤(aq x i).2.2.length∧r.length=x.length∧∀d,r.set i ((aq r i).1,(aq r i).2.1,d)=(cZ (0,0,[]) x i).set i ((aq x i).1,(aq x i).2.1,d)
def r5(l:List ax)(i m:Int):Prop :=l.length≤1000000∧0≤i∧0≤m∧i+m≤l.length
def nk(docs:List (List UInt8))(l:List ax)(L:List Sp):Prop :=RI (ak docs l).1 (aB (ak docs l).1 L) L∧dO L=dO (bq (ak docs l).2)
def l3(docs:List (List UInt8))(l:List Sp):Prop :=l.length≤1000000∧∀s∈l,eG docs s.1 s.2
def kl(docs:List (List UInt8))(l:List Sp)(k:Nat):List ax:=aB docs (l.take k)
def mN(a1:List (List UInt8))(a2:List ax)(b1:List (List UInt8))(b2:List ax):Bool:=decide (a1=b1)&&decide (a2=b2)
def nU(a1:List (List UInt8))(a2:List ax)(b1:List (List UInt8))(b2:List ax)(k:Nat):Prop :=a1=b1∧a2.length=b2.length∧a2.take k=b2.take k∧k≤a2.length
def kn(docs:List (List UInt8))(l:List ax):Bool:=l.any (fun s=>gu s.2.2) || (la docs || decide ((100:Int)<l.length))
def ve(l:List ax)(k:Nat):Prop :=(∀s∈l.take k,gu s.2.2=false)∧k≤l.length
end Go.S
namespace Go.S
theorem X0 {a b:Int}(h:a<0∨b<0∨b≤a): -1=eH a b:=by unfold eH;rw [if_pos h]
theorem MN {n:Int}(h:0≤n):lg ((n.toNat:Nat):Int)=lg n:=by rw [Int.toNat_of_nonneg h]
theorem adI {a b:Int}(h:¬a<0∧¬b<0∧¬b≤a):lZ a b (b-a).toNat:=⟨by omega,by omega,by omega,by omega⟩
theorem adJ {n:Int}(h:1<n):1≤lg n:=by have :=XR (n:=n) (by omega);have :=XS (n/2);omega
theorem X1 {a b:Int} {n:Nat}(h:lZ a b n):1≤n∧(n:Int)≤b-a:=⟨h.2.2.1,h.2.2.2⟩
theorem X2 {t:Int} {n:Nat}(h:1<(n:Int)):t-lg n+1=t-lg (((n:Int)/2).toNat:Nat):=by
 rw [MN (by omega),←XR (n:=(n:Int)) (by omega)];omega
theorem Px {a b:Int} {n:Nat}(h:lZ a b n)(h1:1<(n:Int)):lZ a b ((n:Int)/2).toNat:=by
 obtain⟨h2,h3,h4,h5⟩:=h;exact⟨h2,h3,by omega,by omega⟩
theorem VH {a b:Int} {n:Nat}(h:¬a<0∧¬b<0∧¬b≤a)(hi:lZ a b n)(h1:¬1<(n:Int)):lg (b-a)-lg n=eH a b:=by
 unfold eH;rw [if_neg (by omega),←ah5 (n:=(n:Int)) (by omega)];omega
end Go.S
namespace Go.S
theorem X3(l:List ax)(k i:Nat):0≤(aC l k).getD i 0:=by
 by_cases h:i<l.length
 · rw [iF h];exact(sW l k _).1
 · rw [List.getD_eq_getElem?_getD,List.getElem?_eq_none (by rw [ga];omega)];exact Int.le_refl _
theorem asE {l:List ax} {k i:Nat}(h:(i:Int)<l.length)(hn:¬(aC l k).getD i 0=((aq l i).2.2.length:Int)):(aC l k).getD i 0<((aq l i).2.2.length:Int):=by
 have h':i<l.length:=by omega
 rw [iF h'] at hn ⊢;have :=sW l k (aq l i);omega
theorem fQ {l:List ax} {k i:Nat}(hi:i≤l.length)(h:¬cN l (aC l k) i<0):
  cN l (aC l k) i<l.length∧cN l (aC l k) i<(aC l k).length∧(cN l (aC l k) i).toNat<(aC l k).length∧(aC l k).getD (cN l (aC l k) i).toNat 0<((aq l (cN l (aC l k) i).toNat).2.2.length:Int):=by
 rw [ga];rcases CL (l:=l) k i hi with⟨h1,_⟩|⟨q,h1,h2,h3,_⟩
 · rw [h1] at h;exact absurd (by decide) h
 · rw [h1,Int.toNat_natCast,iF (by omega)];exact⟨by omega,by omega,by omega,h3⟩
theorem X4 {l:List ax} {nx:List Int} {i:Nat}(h:nx.getD i 0=((aq l i).2.2.length:Int)):cN l nx i=cN l nx (i+1):=by simp only [cN];rw [if_pos h]
theorem X5 {l:List ax} {nx:List Int} {i:Nat}(h:¬nx.getD i 0=((aq l i).2.2.length:Int)):
  (bif bif decide (cN l nx i<0) then true else Op.bytesLess (cc (aq l i).2.2 (nx.getD i 0).toNat) (cc (aq l (cN l nx i).toNat).2.2 (nx.getD (cN l nx i).toNat 0).toNat) then(i:Int) else cN l nx i)=cN l nx (i+1):=by
 simp only [cN];rw [if_neg h];by_cases h1:cN l nx i<0
 · rw [decide_eq_true h1,if_pos (Or.inl h1)];rfl
 · rw [decide_eq_false h1];cases h2:Op.bytesLess (cc (aq l i).2.2 (nx.getD i 0).toNat) (cc (aq l (cN l nx i).toNat).2.2 (nx.getD (cN l nx i).toNat 0).toNat) with
   |true=>rw [if_pos (Or.inr rfl)];rfl
   |false=>rw [if_neg (by rintro(q|q);exact h1 q;cases q)];rfl
theorem akn {l:List ax}(hp:nR l) {k i:Nat}(hi:i≤l.length)(Ce:¬(i:Int)<l.length)(h:cN l (aC l k) i<0):cy l k=ni l:=by
 have :i=l.length:=by omega
 subst this;exact Pm ((ME hp k).1 h)
theorem QL {l:List ax}(hp:nR l) {k i:Nat}(hi:i≤l.length)(Ce:¬(i:Int)<l.length)(h:¬cN l (aC l k) i<0):
  k<uL l∧cc (aq l (cN l (aC l k) i).toNat).2.2 ((aC l k).getD (cN l (aC l k) i).toNat 0).toNat=lF l k:=by
 have :i=l.length:=by omega
 subst this
 have hk:k<(uT l).length:=by
  exact Nat.lt_of_not_le fun h'=>h ((ME hp k).2 h')
 obtain⟨q,h1,h2,h3,h4⟩:=HJ hp hk;refine⟨hk,?_⟩;rw [h1,Int.toNat_natCast,iF h2];exact h4
theorem KG {l:List ax} {a b:Nat}(h:cy l a=cy l b)(ha:a≤uL l)(hb:b≤uL l):a=b:=by
 have :=congrArg List.length h;simp only [cy,List.length_map,List.length_take] at this;unfold uL at ha hb;omega
theorem X6 {l:List ax} {k i:Nat}(h:(i:Int)<l.length):0≤(bc l k i).getD i 0∧(bc l k i).getD i 0≤((aq l i).2.2.length:Int):=by
 rw [ES (by omega)];exact sW l k _
theorem rk {l:List ax} {k i:Nat}(h:(i:Int)<l.length):(i:Int)<(bc l k i).length∧i<(bc l k i).length:=by
 rw [XO l k i (by omega)];omega
theorem X7 {l:List ax}(hp:nR l) {k i:Nat}(hk:k<uL l)(h:(i:Int)<l.length)(h1:(bc l k i).getD i 0<((aq l i).2.2.length:Int))(h2:cc (aq l i).2.2 ((bc l k i).getD i 0).toNat=lF l k):
  (bc l k i).set i ((bc l k i).getD i 0+1)=bc l k (i+1)∧cR l (lF l k) i++iN (aq l i).2.2 ((bc l k i).getD i 0).toNat=cR l (lF l k) (i+1):=by
 have h':i<l.length:=by omega
 rw [ES h'] at h1 h2 ⊢;have :=Pl hp hk h' h1 h2;exact⟨this.2,this.1⟩
theorem QM {l:List ax}(hp:nR l) {k i:Nat}(hk:k<uL l)(h:(i:Int)<l.length)(hn:¬((bc l k i).getD i 0<((aq l i).2.2.length:Int)∧cc (aq l i).2.2 ((bc l k i).getD i 0).toNat=lF l k)):
  bc l k i=bc l k (i+1)∧cR l (lF l k) i=cR l (lF l k) (i+1):=by
 have h':i<l.length:=by omega
 rw [ES h'] at hn;have :=MF hp hk h' hn;exact⟨this.2,this.1⟩
theorem adK {l:List ax}(hp:nR l) {k i:Nat}(h:(i:Int)<l.length):(cR l (lF l k) i).length≤1000000∧(iN (aq l i).2.2 ((bc l k i).getD i 0).toNat).length≤1000:=by
 have h1:=ET hp (lF l k) i (by omega);have h2:=hp.1;refine⟨by omega,?_⟩;have hd:=(hp.2 _ (gB (show i<l.length by omega))).1;generalize (bc l k i).getD i 0=z;by_cases hz:z.toNat<(aq l i).2.2.length
 · rw [←oV (iO hd) hz];exact u7 hd _
 · simp only [iN,List.getD_eq_getElem?_getD];rw [List.getElem?_eq_none (by omega)];simp
theorem X8 {l:List ax} {k i:Nat}(hi:i≤l.length)(Ce:¬(i:Int)<l.length)(hk:k<uL l):cy l k++ [(lF l k,cR l (lF l k) i)]=cy l (k+1)∧bc l k i=aC l (k+1):=by
 have :i=l.length:=by omega
 subst this;refine⟨?_,XP⟩;rw [Pk];exact MG hk
theorem asF {l:List ax}(hp:nR l) {k:Nat}(hk:k≤uL l):(cy l k).length≤1048576000:=by
 have h1:=Pn l k;have h2:=adG hp;unfold uL at hk;omega
end Go.S
namespace Go.S
theorem adL(l:List ax):List.replicate (Int.toNat ((l.length:Nat):Int)) (0:Int)=l.map (b8 l 0):=by
 rw [Int.toNat_natCast];have :l.map (b8 l 0)=l.map (fun _=>(0:Int)):=List.map_congr_left fun s _=>by simp [b8]
 rw [this,List.map_const']
end Go.S
namespace Go.S
theorem ah6 {l:List ax}(hp:nR l) {k i:Nat}(h:(i:Int)<l.length): -9223372036854775808≤(bc l k i).getD i 0+1∧(bc l k i).getD i 0+1≤9223372036854775807:=by
 have h1:=X6 (k:=k) h;have h2:=(hp.2 _ (gB (show i<l.length by omega))).2;omega
end Go.S
namespace Go.S
theorem X9 {l:List ax}(h:(l.length:Int)=0):dp l=((0,0,[]),1):=by unfold dp;rw [if_pos (by omega)]
theorem Ya {l:List ax} {k:Nat}(h:(k:Int)<l.length)(h2:jP (aq l k)=false):dp l=((0,0,[]),1):=by
 unfold dp;rw [if_neg (by omega),if_pos];rw [←Bool.not_eq_true,List.all_eq_true];intro hc;have :=hc _ (gB (show k<l.length by omega));rw [h2] at this;cases this
theorem adM {l:List ax}(hp:rX l)(h:¬(l.length:Int)=0):oL l 0:=⟨Nat.zero_le _,by omega,hp,fun i hi=>by omega⟩
theorem adN {l:List ax} {k:Nat}(h:oL l k)(h1:(k:Int)<l.length)(h2:jP (aq l k)=true):oL l (k+1):=
 ⟨by omega,h.2.1,h.2.2.1,fun i hi=>by
   by_cases e:i=k
   · subst e;exact h2
   · exact h.2.2.2 i (by omega)⟩
theorem ako {l:List ax} {k:Nat}(h:oL l k)(h1:¬(k:Int)<l.length):l.all jP=true :=by
 rw [List.all_eq_true];intro s hs;obtain⟨j,hj,rfl⟩:=List.mem_iff_getElem.1 hs;have :=h.2.2.2 j (by have :=h.1;omega);rwa [aq,List.getD_eq_getElem?_getD,List.getElem?_eq_getElem hj] at this
theorem adO {l:List ax} {k:Nat}(h:oL l k)(h1:¬(k:Int)<l.length):ri l 0:=⟨by have :=h.2.1;omega,h.2.2.1,ako h h1,fun i hi=>by omega⟩
theorem adP {l:List ax} {k:Nat}(h:ri l k)(h1:(k:Int)+1<l.length)(h2:(aq l ((k:Int)+1).toNat).1=(aq l ((k:Int)+1-1).toNat).2.1):ri l (k+1):=
 ⟨by omega,h.2.1,h.2.2.1,fun i hi=>by
   by_cases e:i=k
   · subst e;rw [show((i:Int)+1).toNat=i+1 by omega,show((i:Int)+1-1).toNat=i by omega] at h2;simp only [EP,decide_eq_true_eq];exact h2
   · exact h.2.2.2 i (by omega)⟩
theorem Yb {l:List ax} {k:Nat}(h:ri l k)(h1:(k:Int)+1<l.length)(h2:¬(aq l ((k:Int)+1).toNat).1=(aq l ((k:Int)+1-1).toNat).2.1):dp l=((0,0,[]),7):=by
 unfold dp;rw [show((k:Int)+1).toNat=k+1 by omega,show((k:Int)+1-1).toNat=k by omega] at h2;rw [if_neg (by omega),if_neg (by rw [h.2.2.1];simp),if_pos];rw [←Bool.not_eq_true,zr,List.all_eq_true];intro hc;have :=hc k (List.mem_range.2 (by omega));simp only [EP,decide_eq_true_eq] at this;exact h2 this
theorem Py {l:List ax} {k:Nat}(h:ri l k)(h1:¬(k:Int)+1<l.length):dp l=(((aq l 0).1,(aq l ((l.length:Int)-1).toNat).2.1,ni l),0):=by
 have h0:=h.1;unfold dp;rw [if_neg (by omega),if_neg (by rw [h.2.2.1];simp),if_neg,show((l.length:Int)-1).toNat=l.length-1 by omega];rw [Bool.not_eq_false,zr,List.all_eq_true];intro i hi;exact h.2.2.2 i (by have :=List.mem_range.1 hi;omega)
theorem MO {s:ax}(h:jP s=true):dJ s.2.2=true :=by
 simp only [jP,ig,Bool.and_eq_true] at h;exact h.1.2
theorem akp {l:List ax} {k:Nat}(h:ri l k):nR l:=by
 refine⟨h.2.1.1,fun s hs=>⟨MO (List.all_eq_true.1 h.2.2.1 s hs),?_⟩⟩;exact(h.2.1.2 s hs).1
theorem n_0(l:List Sp):kV l 0:=⟨.inr rfl,by simp [bu]⟩
theorem ah7 {l:List Sp} {k:Nat}(h:kV l k)(h1:0≤((len l:Nat):Int)-2-k):(((len l:Nat):Int)-2-k).toNat=l.length-2-k∧(((len l:Nat):Int)-2-k+1).toNat=l.length-2-k+1∧k+2≤l.length:=by
 simp only [len] at *;omega
theorem Yc {l:List Sp} {k:Nat}(h:kV l k)(h1:0≤((len l:Nat):Int)-2-k)
  (h2:eH (dW l (((len l:Nat):Int)-2-k).toNat).1 (dW l (((len l:Nat):Int)-2-k).toNat).2≤eH (dW l (((len l:Nat):Int)-2-k+1).toNat).1 (dW l (((len l:Nat):Int)-2-k+1).toNat).2):
  bu l=(((len l:Nat):Int)-2-k,true):=by
 obtain⟨e1,e2,e3⟩:=ah7 h h1;rw [e1,e2] at h2;rw [h.2,show l.length-1-k=(l.length-2-k)+1 by omega];simp only [eY];rw [if_pos (show oa l (l.length-2-k)≤oa l (l.length-2-k+1) from h2)];simp only [len] at *;congr 1;omega
theorem asG {l:List Sp} {k:Nat}(h:kV l k)(h1:0≤((len l:Nat):Int)-2-k)
  (h2:¬eH (dW l (((len l:Nat):Int)-2-k).toNat).1 (dW l (((len l:Nat):Int)-2-k).toNat).2≤eH (dW l (((len l:Nat):Int)-2-k+1).toNat).1 (dW l (((len l:Nat):Int)-2-k+1).toNat).2):
  kV l (k+1):=by
 obtain⟨e1,e2,e3⟩:=ah7 h h1;rw [e1,e2] at h2;refine⟨.inl (by omega),?_⟩;rw [h.2,show l.length-1-k=(l.length-2-k)+1 by omega];simp only [eY];rw [if_neg (show ¬oa l (l.length-2-k)≤oa l (l.length-2-k+1) from h2),show l.length-1-(k+1)=l.length-2-k by omega]
theorem Yd {l:List Sp} {k:Nat}(h:kV l k)(h1:¬0≤((len l:Nat):Int)-2-k):bu l=(0,false):=by
 have h3:=h.1;simp only [len] at h1;rw [h.2,show l.length-1-k=0 by omega];rfl
theorem QN {l:List Sp} {k:Nat}:(bif decide (eH (dW l k).1 (dW l k).2≤eH (dW l ((k:Int)+1).toNat).1 (dW l ((k:Int)+1).toNat).2) then(k:Int) else(eY l k).1)=(eY l (k+1)).1∧
  (bif decide (eH (dW l k).1 (dW l k).2≤eH (dW l ((k:Int)+1).toNat).1 (dW l ((k:Int)+1).toNat).2) then true else(eY l k).2)=(eY l (k+1)).2:=by
 rw [show((k:Int)+1).toNat=k+1 by omega];simp only [eY];show(bif decide (oa l k≤oa l (k+1)) then(k:Int) else(eY l k).1)=_∧(bif decide (oa l k≤oa l (k+1)) then true else(eY l k).2)=_;by_cases h:oa l k≤oa l (k+1)
 · rw [if_pos h,decide_eq_true h];exact⟨rfl,rfl⟩
 · rw [if_neg h,decide_eq_false h];exact⟨rfl,rfl⟩
theorem Ye {l:List Sp} {k:Nat}(h:rj l k)(h1:¬(k:Int)+1<l.length):eY l k=bu l:=by
 unfold rj at h;rw [bu,show l.length-1=k by omega]
theorem Pz(l:List Sp) {i:Int}(h:0≤i): []++l.take i.toNat++ [((dW l i.toNat).1,(dW l (i+1).toNat).2)]++l.drop (i+2).toNat=jc l i.toNat:=by
 rw [show(i+1).toNat=i.toNat+1 by omega,show(i+2).toNat=i.toNat+2 by omega];rfl
theorem BT {l:List ax} {k:Nat}(h:(k:Int)<l.length):ej l k++ [((aq l k).1,(aq l k).2.1)]=ej l (k+1):=by
 simp only [ej,bq];rw [aw l k (0,0,[]) (by omega),List.map_append];rfl
theorem E4 {l:List ax} {k:Nat}(h:¬(k:Int)<l.length):ej l k=bq l:=by
 simp only [ej];rw [List.take_of_length_le (by omega)]
theorem zy(l:List ax)(k:Nat):(ej l k).length≤l.length:=by simp [ej,bq];omega
end Go.S

end
section
namespace Go.S
theorem PA {α:Type} {a b:List α}(h:(a.length:Int)=b.length):a.length=b.length∧a.take 0=b.take 0∧0≤a.length:=⟨by omega,by simp,Nat.zero_le _⟩
theorem AM {α:Type} {a b:List α}(z:α) {k:Nat}(h:a.length=b.length∧a.take k=b.take k∧k≤a.length)(hk:(k:Int)<a.length)(he:a.getD k z=b.getD k z):a.length=b.length∧a.take (k+1)=b.take (k+1)∧k+1≤a.length:=by
 refine⟨h.1,?_,by omega⟩;rw [aw a k z (by omega),aw b k z (by have :=h.1;omega),h.2.1,he]
theorem E5 {α:Type} {a b:List α} {k:Nat}(h:a.length=b.length∧a.take k=b.take k∧k≤a.length)(hk:¬(k:Int)<a.length):a=b:=by
 have h1:=h.2.1;rw [List.take_of_length_le (by omega),List.take_of_length_le (by have :=h.1;omega)] at h1;exact h1
theorem E6 {α:Type} {a b:List α}(h:¬(a.length:Int)=b.length):¬a=b:=fun e=>h (by rw [e])
theorem MP {α:Type} {a b:List α}(z:α) {k:Nat}(h:¬a.getD k z=b.getD k z):¬a=b:=fun e=>h (by rw [e])
theorem asH {docs:List (List UInt8)} {l:List ax}(h:1000<(docs.length:Int)∨64<(l.length:Int)):false=aX docs l:=by
 symm
 rw [←Bool.not_eq_true];intro hc;obtain⟨h1,h2,_⟩:=zu.1 hc;simp only [cF,Bool.and_eq_true,decide_eq_true_eq] at h1;omega
theorem asI {docs:List (List UInt8)} {l:List ax} {k:Nat}(hk:(k:Int)<docs.length)(h:2000<((docs.getD k []).length:Int)):false=aX docs l:=by
 symm
 rw [←Bool.not_eq_true];intro hc;obtain⟨h1,_⟩:=zu.1 hc;rw [←HE hk h] at h1;cases h1
theorem Yf {docs:List (List UInt8)} {l:List ax} {k:Nat}(h:E3 docs l k)(hk:¬(k:Int)<docs.length):pX docs l 0:=by
 refine⟨?_,h.2.1,fun i hi=>by omega,Nat.zero_le _⟩;have h1:=h.1;simp only [cF,Bool.and_eq_true,decide_eq_true_eq];exact⟨HF h.2.2 hk,by omega,by omega,by omega,by omega⟩
theorem CM {docs:List (List UInt8)} {l:List ax} {k:Nat}(hk:(k:Int)<l.length)(h:gq docs l k=false):false=aX docs l:=by
 symm
 rw [←Bool.not_eq_true];intro hc;simp only [aX,Bool.and_eq_true,List.all_eq_true,List.mem_range] at hc;have :=hc.2.2 k (by omega);rw [h] at this;cases this
theorem MQ {docs:List (List UInt8)} {l:List ax} {k:Nat}(h:pX docs l k)(hk:(k:Int)<l.length)(h1:gq docs l k=true):pX docs l (k+1):=
 ⟨h.1,h.2.1,fun i hi=>by
   by_cases e:i=k
   · subst e;exact h1
   · exact h.2.2.1 i (by omega),by omega⟩
theorem QO {docs:List (List UInt8)} {l:List ax} {k:Nat}(h:pX docs l k)(hk:¬(k:Int)<l.length):true=aX docs l:=by
 symm
 have h2:=h.2.1;simp only [aX,Bool.and_eq_true,List.all_eq_true,List.mem_range,decide_eq_true_eq];exact⟨h.1,by omega,fun i hi=>h.2.2.1 i (by omega)⟩
theorem asJ {docs:List (List UInt8)} {l:List ax} {k:Nat}(h:¬(aq l k).1=cX l k∨(aq l k).2.1≤cX l k∨(docs.length:Int)<(aq l k).2.1):gq docs l k=false :=by
 rw [←Bool.not_eq_true];intro hc;simp only [gq,Bool.and_eq_true,decide_eq_true_eq] at hc;obtain⟨h1,h2,_⟩:=hc;have :=mM h2;rcases h with h|h|h
 · exact h h1
 · omega
 · omega
theorem ah8 {docs:List (List UInt8)} {l:List ax} {k:Nat}(hk:pX docs l k)(h:(aq l k).1=cX l k∧¬(aq l k).2.1≤cX l k∧¬(docs.length:Int)<(aq l k).2.1):
  cM docs (aq l k).1 (aq l k).2.1=true :=by
 refine rZ hk.1 ?_ (by omega) (by omega);rw [h.1]
 have :∀i,i≤k→0≤cX l i:=by
  intro i hi;unfold cX;split
  · exact Int.le_refl _
  · have :=hk.2.2.1 (i-1) (by omega);simp only [gq,Bool.and_eq_true,decide_eq_true_eq] at this;have :=mM this.2.1;omega
 exact this k (Nat.le_refl _)
theorem asK {docs:List (List UInt8)} {l:List ax} {k:Nat}(hk:pX docs l k)(h:(aq l k).1=cX l k∧¬(aq l k).2.1≤cX l k∧¬(docs.length:Int)<(aq l k).2.1)
  (h2:¬(cx docs (aq l k).1 (aq l k).2.1).2=0∨fx (cx docs (aq l k).1 (aq l k).2.1).1.2.2 (aq l k).2.2=false):gq docs l k=false :=by
 have hf:=ah8 hk h;have hb:cx docs (aq l k).1 (aq l k).2.1=(((aq l k).1,(aq l k).2.1,make docs (aq l k).1 (aq l k).2.1),0):=by unfold cx;rw [hf];rfl
 rw [hb] at h2;rcases h2 with h2|h2
 · exact absurd rfl h2
 · simp only [fx,decide_eq_false_iff_not] at h2;rw [←Bool.not_eq_true];intro hc;simp only [gq,Bool.and_eq_true,decide_eq_true_eq] at hc;exact h2 hc.2.2.symm
theorem asL {docs:List (List UInt8)} {l:List ax} {k:Nat}(hk:pX docs l k)(h:(aq l k).1=cX l k∧¬(aq l k).2.1≤cX l k∧¬(docs.length:Int)<(aq l k).2.1)
  (h2:(cx docs (aq l k).1 (aq l k).2.1).2=0∧fx (cx docs (aq l k).1 (aq l k).2.1).1.2.2 (aq l k).2.2=true):gq docs l k=true :=by
 have hf:=ah8 hk h;have hb:cx docs (aq l k).1 (aq l k).2.1=(((aq l k).1,(aq l k).2.1,make docs (aq l k).1 (aq l k).2.1),0):=by unfold cx;rw [hf];rfl
 rw [hb] at h2;simp only [fx,decide_eq_true_eq] at h2;simp only [gq,Bool.and_eq_true,decide_eq_true_eq];exact⟨h.1,hf,h2.2.symm⟩
theorem HN(l:List ax)(k:Nat):(aq l k).2.1=cX l (k+1):=by simp [cX]
theorem zz {docs:List (List UInt8)} {l:List ax}(h:aX docs l=false):ak docs l=([],[]):=by unfold ak;rw [h];rfl
theorem akq {l:List ax}(h:(l.length:Int)=0):0=bR l:=by unfold bR cX;rw [if_pos (by omega)]
theorem akr {l:List ax}(h:¬(l.length:Int)=0):(aq l ((l.length:Int)-1).toNat).2.1=bR l:=by
 unfold bR cX;rw [if_neg (by omega),show((l.length:Int)-1).toNat=l.length-1 by omega]
theorem QP {α:Type}(z:α)(l:List α):List.replicate (Int.toNat ((l.length:Nat):Int)) z=cZ z l 0:=by simp [cZ]
theorem wc {α:Type}(z:α) {l:List α} {k:Nat}(h:(k:Int)<l.length):(k:Int)<(cZ z l k).length∧k<(cZ z l k).length:=by
 simp only [cZ,List.length_append,List.length_take,List.length_replicate];omega
theorem PB {α:Type}(z:α) {l:List α} {k:Nat}(h:k≤l.length):(cZ z l k).length=l.length:=by
 simp only [cZ,List.length_append,List.length_take,List.length_replicate];omega
theorem MR {α:Type}(z:α) {l:List α} {k:Nat}(h:(k:Int)<l.length):(cZ z l k).set k (l.getD k z)=cZ z l (k+1):=by
 have hk:k<l.length:=by omega
 have e:l.length-k=(l.length-(k+1))+1:=by omega
 simp only [cZ];rw [aw l k z hk,e,List.replicate_succ,List.set_append_right _ _ (by rw [List.length_take];omega),List.length_take,show k-min k l.length=0 by omega,List.append_assoc];rfl
theorem HO {α:Type}(z:α) {l:List α} {k:Nat}(h:¬(k:Int)<l.length):cZ z l k=l:=by
 simp only [cZ];rw [List.take_of_length_le (by omega),show l.length-k=0 by omega];simp
theorem aks {x:List ax} {k:Nat}(h:(k:Int)<x.length):qG x ((cZ (0,0,[]) x k).set k ((aq x k).1,(aq x k).2.1,[])) k 0:=by
 have hl:=PB ((0,0,[]):ax) (l:=x) (k:=k) (by omega);refine⟨by omega,Nat.zero_le _,by rw [List.length_set,hl],fun d=> ?_⟩
 have e:aq ((cZ (0,0,[]) x k).set k ((aq x k).1,(aq x k).2.1,[])) k=((aq x k).1,(aq x k).2.1,[]):=by
  rw [aq,List.getD_eq_getElem?_getD,List.getElem?_set_self (by rw [hl];omega)];rfl
 rw [e,List.set_set]
theorem Yg {x r:List ax} {i j:Nat}(h:qG x r i j):r.set i ((aq r i).1,(aq r i).2.1,(aq x i).2.2)=cZ (0,0,[]) x (i+1):=by
 rw [h.2.2.2];exact MR ((0,0,[]):ax) (l:=x) (k:=i) (by have :=h.1;omega)
theorem MS {docs:List (List UInt8)} {l:List ax}(h:nj docs l)(k:Nat):small (docs.getD k []):=by
 by_cases hk:k<docs.length
 · exact h.2.2.1 _ (bo docs k [] hk)
 · rw [List.getD_eq_getElem?_getD,List.getElem?_eq_none (by omega)];simp [small]
theorem xU {docs:List (List UInt8)} {l:List ax}(h:nj docs l)(k:Nat):small (aq l k).2.2∧∀j,small ((aq l k).2.2.getD j ([],[])).2:=by
 by_cases hk:k<l.length
 · have h1:=h.2.2.2 _ (gB hk);refine⟨h1.1,fun j=> ?_⟩;by_cases hj:j<(aq l k).2.2.length
   · exact h1.2 _ (bo _ j _ hj)
   · rw [List.getD_eq_getElem?_getD,List.getElem?_eq_none (by omega)];simp [small]
 · have :aq l k=(0,0,[]):=by rw [aq,List.getD_eq_getElem?_getD,List.getElem?_eq_none (by omega)];rfl
   rw [this];exact⟨by simp [small],fun j=>by simp [small]⟩
theorem vL {α:Type}(z:α)(l:List α)(j:Nat):l.set j (l.getD j z)=l:=by
 apply List.ext_getElem?;intro i;by_cases e:j=i
 · subst e;by_cases hj:j<l.length
   · rw [List.getElem?_set_self hj,List.getD_eq_getElem?_getD,List.getElem?_eq_getElem hj];rfl
   · rw [List.set_eq_of_length_le (by omega)]
 · rw [List.getElem?_set_ne e]
end Go.S
namespace Go.S
theorem adQ {a b:dK}(h:vc a.1 a.2 b.1 b.2=true):a=b:=by
 simp only [vc,Bool.and_eq_true,decide_eq_true_eq] at h;exact Prod.ext h.1 h.2
theorem adR {a b:dK}(h:vc a.1 a.2 b.1 b.2=false):¬a=b:=by
 rintro rfl;simp [vc] at h
theorem VI {α:Type} {l:List α} {k:Nat}(h:small l)(hk:(k:Int)<l.length):(k:Int)+1≤9223372036854775807:=by unfold small at h;omega
theorem VJ {x r:List ax} {i j:Nat}(h:qG x r i j)(hj:(j:Int)<((aq x i).2.2.length:Int)):qG x r i (j+1):=⟨h.1,by omega,h.2.2⟩
theorem VK {x:List ax} {i j:Nat}(hj:(j:Int)<((aq x i).2.2.length:Int)):ah (iP x i) (j+1)<ah (iP x i) j:=by
 simp only [ah,iP];omega
end Go.S
namespace Go.S
theorem VL {d:List dK}(h:dJ d=true):∀e∈d,e.2.length≤1000:=by
 intro e he;obtain⟨j,hj,rfl⟩:=List.mem_iff_getElem.1 he;have h1:=oV (iO h) hj;have h2:=u7 h (cc d j);rw [h1] at h2;rwa [iN,List.getD_eq_getElem?_getD,List.getElem?_eq_getElem hj] at h2
theorem RI.seg {docs:List (List UInt8)} {l:List ax} {S:List Sp}(h:RI docs l S):∀s∈l,jP s=true∧jO s.2.2∧s=(s.1,s.2.1,make docs s.1 s.2.1)∧cM docs s.1 s.2.1=true :=by
 intro s hs;rw [h.eq] at hs;have h1:=BP h.row s hs;simp only [aB,List.mem_map] at hs;obtain⟨p,hp,rfl⟩:=hs;have hf:=oW h.row p hp;exact⟨h1,MJ hf,rfl,hf⟩
theorem RI.small {docs:List (List UInt8)} {l:List ax} {S:List Sp}(h:RI docs l S):nj docs l:=by
 have hb:=h.bd;have hle:=h.le;refine⟨by omega,by omega,fun b hb=> ?_,fun s hs=> ?_⟩
 · have :=h.fair;simp only [cF,Bool.and_eq_true,List.all_eq_true,decide_eq_true_eq] at this;have :=this.1 b hb;unfold Go.S.small;omega
 · obtain⟨h1,h2,_⟩:=h.seg s hs;refine⟨by have :=h2.1;unfold Go.S.small;omega,fun e he=> ?_⟩;have :=VL (MO h1) e he;unfold Go.S.small;omega
theorem qH(docs:List (List UInt8))(l:List ax):nj (ak docs l).1 (ak docs l).2:=(iG docs l).small
theorem ek(docs:List (List UInt8))(l:List ax):(ak docs l).1.length≤1000∧(ak docs l).2.length≤64∧0≤bR (ak docs l).2∧bR (ak docs l).2≤(ak docs l).1.length:=by
 have h:=iG docs l;have hb:=h.bd;have hle:=h.le;exact⟨hb.2.2.1,by omega,hb.1,hb.2.1⟩
theorem QQ {docs:List (List UInt8)} {l:List ax} {d:List UInt8}(h:(2000:Int)<d.length):aU docs l d=(ak docs l,1):=by unfold aU;rw [if_pos h]
theorem QR {docs:List (List UInt8)} {l:List ax} {d:List UInt8}(h:¬(2000:Int)<d.length)(h1:(1000:Int)≤(ak docs l).1.length):aU docs l d=(ak docs l,3):=by unfold aU;rw [if_neg h,if_pos h1]
theorem MT {docs:List (List UInt8)} {l:List ax} {d:List UInt8}(h:¬(2000:Int)<d.length)(h1:¬(1000:Int)≤(ak docs l).1.length):aU docs l d=(((ak docs l).1++ [d],(ak docs l).2),0):=by unfold aU;rw [if_neg h,if_neg h1]
theorem QS {docs:List (List UInt8)} {l:List ax}(h:bR (ak docs l).2=((ak docs l).1.length:Int)):aN docs l=(ak docs l,5):=by unfold aN fP;rw [if_pos h]
theorem QT {docs:List (List UInt8)} {l:List ax}(h:¬bR (ak docs l).2=((ak docs l).1.length:Int))(h1:(64:Int)≤(ak docs l).2.length):aN docs l=(ak docs l,3):=by unfold aN fP;rw [if_neg h,if_pos h1]
theorem ah9 {docs:List (List UInt8)} {l:List ax}(h:¬bR (ak docs l).2=((ak docs l).1.length:Int)):
  cx (ak docs l).1 (bR (ak docs l).2) ((ak docs l).1.length:Nat)=((bR (ak docs l).2,((ak docs l).1.length:Int),make (ak docs l).1 (bR (ak docs l).2) ((ak docs l).1.length:Nat)),0):=by
 have hb:=ek docs l;have hf:=rZ (iG docs l).fair hb.2.2.1 (by omega :bR (ak docs l).2<((ak docs l).1.length:Int)) (Int.le_refl _);unfold cx;rw [hf];rfl
theorem QU {docs:List (List UInt8)} {l:List ax}(h:¬bR (ak docs l).2=((ak docs l).1.length:Int))(h1:¬(64:Int)≤(ak docs l).2.length):
  aN docs l=(((ak docs l).1,(ak docs l).2++ [(cx (ak docs l).1 (bR (ak docs l).2) ((ak docs l).1.length:Nat)).1]),0):=by
 rw [ah9 h];unfold aN fP;rw [if_neg h,if_neg h1]
theorem Yh {l:List ax} {i m:Int}(h:¬m<2∧¬i<0∧¬(l.length:Int)<m∧¬(l.length:Int)-m<i):w9 l i m=false∧(i+m).toNat-i.toNat=m.toNat∧i.toNat+m.toNat≤l.length∧0<m.toNat:=by
 refine⟨?_,by omega,by omega,by omega⟩;simp only [w9,Bool.or_eq_false_iff,decide_eq_false_iff_not];exact⟨h.1,h.2.1,h.2.2.1,h.2.2.2⟩
theorem QV {docs:List (List UInt8)} {l:List ax} {i m:Int}(h:m<2∨i<0∨((ak docs l).2.length:Int)<m∨((ak docs l).2.length:Int)-m<i):bt docs l i m=(ak docs l,1):=by
 have :w9 (ak docs l).2 i m=true :=by
  simp only [w9,Bool.or_eq_true,decide_eq_true_eq];rcases h with h|h|h|h
  · exact .inl h
  · exact .inr (.inl h)
  · exact .inr (.inr (.inl h))
  · exact .inr (.inr (.inr h))
 unfold bt;rw [if_pos this]
theorem QW {docs:List (List UInt8)} {l:List ax} {i m:Int}(h:¬m<2∧¬i<0∧¬((ak docs l).2.length:Int)<m∧¬((ak docs l).2.length:Int)-m<i):
  rX (((ak docs l).2.take (i+m).toNat).drop i.toNat)∧dp (((ak docs l).2.take (i+m).toNat).drop i.toNat)=(rY (ak docs l).1 (ak docs l).2 i.toNat m.toNat,0)∧r5 (ak docs l).2 i m:=by
 obtain⟨h1,h2,h3,h4⟩:=Yh h;have hc:=(iG docs l).cut h4 h3;have hb:=ek docs l;rw [List.drop_take,h2];exact⟨hc.2.2.1,hc.2.1,by omega,by omega,by omega,by omega⟩
theorem QX {docs:List (List UInt8)} {l:List ax} {i m:Int}(h:¬m<2∧¬i<0∧¬((ak docs l).2.length:Int)<m∧¬((ak docs l).2.length:Int)-m<i):
  bt docs l i m=(((ak docs l).1,pW (ak docs l).2 i.toNat m.toNat (dp (((ak docs l).2.take (i+m).toNat).drop i.toNat)).1),0):=by
 rw [(QW h).2.1];unfold bt;rw [if_neg (by rw [(Yh h).1];simp)]
theorem asM(docs:List (List UInt8))(l:List ax):nk docs l (bq (ak docs l).2):=by
 have h:=iG docs l;refine⟨?_,rfl⟩;rw [←h.eq];exact h
theorem asN {docs:List (List UInt8)} {l:List ax} {L:List Sp}(h:nk docs l L):small (aB (ak docs l).1 L):=by
 have :=h.1.le;unfold small;rw [dC];omega
theorem adS {docs:List (List UInt8)} {l:List ax} {L:List Sp}(h:nk docs l L)(h1:(bu (bq (aB (ak docs l).1 L))).2=false):aB (ak docs l).1 L=(cq docs l).2:=by
 rw [ji] at h1;unfold cq;rw [←h.2,EU h1]
theorem aia {docs:List (List UInt8)} {l:List ax} {L:List Sp}(h:nk docs l L)(h1:(bu (bq (aB (ak docs l).1 L))).2=true):
  0≤(bu (bq (aB (ak docs l).1 L))).1∧(bu (bq (aB (ak docs l).1 L))).1+2≤((aB (ak docs l).1 L).length:Int)∧(aB (ak docs l).1 L).length≤64:=by
 have :=h.1.le;rw [dC,ji] at *;have :=kW h1;omega
theorem E7 {docs:List (List UInt8)} {l:List ax} {L:List Sp}(h:nk docs l L)(h1:(bu (bq (aB (ak docs l).1 L))).2=true) {n:Int}(hn:(bu (bq (aB (ak docs l).1 L))).1=n):
  rX (((aB (ak docs l).1 L).drop n.toNat).take ((n+2).toNat-n.toNat))∧(dp (((aB (ak docs l).1 L).drop n.toNat).take ((n+2).toNat-n.toNat))).2=0∧r5 (aB (ak docs l).1 L) n 2∧
  pW (aB (ak docs l).1 L) n.toNat 2 (dp (((aB (ak docs l).1 L).drop n.toNat).take ((n+2).toNat-n.toNat))).1=aB (ak docs l).1 (jc L n.toNat)∧nk docs l (jc L n.toNat)∧(jc L n.toNat).length<L.length:=by
 have hb:=aia h h1;rw [hn] at hb;rw [dC] at hb;have Ov:=hn;rw [ji] at h1 Ov;have hf:=h.1.asD (i:=n.toNat) (by omega);rw [show(n+2).toNat-n.toNat=2 by omega];have hl:=AJ (l:=L) (i:=n.toNat) (by omega);refine⟨hf.2.2.2,by rw [hf.2.2.1],⟨by rw [dC];omega,hb.1,by omega,by rw [dC];omega⟩,by rw [hf.2.2.1];exact hf.2.1,⟨hf.1,?_⟩,by omega⟩;rw [←h.2,←Ov];exact BO h1
end Go.S
namespace Go.S
theorem asO {docs:List (List UInt8)} {l:List ax}(h:cF docs 0 0=false∨64<(l.length:Int)):false=aX docs l:=by
 symm
 rw [←Bool.not_eq_true];intro hc;obtain⟨h1,h2,_⟩:=zu.1 hc;rcases h with h|h
 · rw [h] at h1;cases h1
 · omega
theorem Yi {docs:List (List UInt8)} {l:List ax} {k:Nat}:
  (bif decide ((k:Int)=0) then
    bif !decide ((aq l (k:Int).toNat).1=0) then true
    else
     bif decide (0<(k:Int)) then
      bif !decide ((aq l (k:Int).toNat).1=(aq l ((k:Int)-1).toNat).2.1) then true
      else !cM docs (aq l (k:Int).toNat).1 (aq l (k:Int).toNat).2.1
     else !cM docs (aq l (k:Int).toNat).1 (aq l (k:Int).toNat).2.1
  else
   bif decide (0<(k:Int)) then
    bif !decide ((aq l (k:Int).toNat).1=(aq l ((k:Int)-1).toNat).2.1) then true
    else !cM docs (aq l (k:Int).toNat).1 (aq l (k:Int).toNat).2.1
   else !cM docs (aq l (k:Int).toNat).1 (aq l (k:Int).toNat).2.1)= !(decide ((aq l k).1=cX l k)&&cM docs (aq l k).1 (aq l k).2.1):=by
 rw [Int.toNat_natCast,show((k:Int)-1).toNat=k-1 by omega];by_cases h:k=0
 · subst h;simp only [cX,if_true];cases decide ((aq l 0).1=0)<;>cases cM docs (aq l 0).1 (aq l 0).2.1<;>rfl
 · simp only [cX,if_neg h];rw [decide_eq_false (show ¬(k:Int)=0 by omega),decide_eq_true (show 0<(k:Int) by omega)];cases decide ((aq l k).1=(aq l (k-1)).2.1)<;>cases cM docs (aq l k).1 (aq l k).2.1<;>rfl
theorem adT {docs:List (List UInt8)} {l:List ax} {k:Nat}(h:(!(decide ((aq l k).1=cX l k)&&cM docs (aq l k).1 (aq l k).2.1))=true):gq docs l k=false :=by
 rw [Bool.not_eq_true'] at h;unfold gq;rw [←Bool.and_assoc,h];rfl
theorem aib {docs:List (List UInt8)} {l:List ax} {k:Nat}(h:(!(decide ((aq l k).1=cX l k)&&cM docs (aq l k).1 (aq l k).2.1))=false):(aq l k).1=cX l k∧cM docs (aq l k).1 (aq l k).2.1=true :=by
 simp only [Bool.not_eq_false',Bool.and_eq_true,decide_eq_true_eq] at h;exact h
theorem akt {docs:List (List UInt8)} {l:List ax} {k:Nat}(h:lY (aq l k).1 (aq l k).2.1 (aq l k).2.2 (aq l k).1 (aq l k).2.1 (make docs (aq l k).1 (aq l k).2.1)=false):gq docs l k=false :=by
 have :¬(aq l k).2.2=make docs (aq l k).1 (aq l k).2.1:=fun e=>by rw [←e,BL] at h;cases h
 unfold gq;rw [decide_eq_false this,Bool.and_false,Bool.and_false]
theorem adU {docs:List (List UInt8)} {l:List ax} {k:Nat}(h1:(aq l k).1=cX l k∧cM docs (aq l k).1 (aq l k).2.1=true)(h:lY (aq l k).1 (aq l k).2.1 (aq l k).2.2 (aq l k).1 (aq l k).2.1 (make docs (aq l k).1 (aq l k).2.1)=true):gq docs l k=true :=by
 simp only [lY,Bool.and_eq_true,decide_eq_true_eq] at h;simp only [gq,Bool.and_eq_true,decide_eq_true_eq];exact⟨h1.1,h1.2,h.2.2⟩
theorem VM {docs:List (List UInt8)} {l:List ax} {k:Nat}(h:k≤gL docs l)(h1:¬(k:Int)<(ak docs l).2.length):cX (ak docs l).2 k=fP docs l:=by
 unfold gL at h;unfold fP bR;congr 1;omega
theorem RI.with {docs:List (List UInt8)} {l:List ax} {L:List Sp}(h:RI docs l L):l3 docs L:=by
 have :=h.le;exact⟨by omega,fun s hs=>mK (oW h.row s hs)⟩
theorem jS(docs:List (List UInt8))(l:List ax):fP (ak docs l).1 (ak docs l).2=bR (ak docs l).2:=by
 unfold fP;rw [eZ (gQ docs l)]
theorem aic {docs:List (List UInt8)} {l:List ax}(h:¬bR (ak docs l).2=((ak docs l).1.length:Int))(h1:¬(64:Int)≤(ak docs l).2.length):
  l3 (ak docs l).1 (bq (ak docs l).2++ [(bR (ak docs l).2,((ak docs l).1.length:Int))])∧aB (ak docs l).1 (bq (ak docs l).2++ [(bR (ak docs l).2,((ak docs l).1.length:Int))])=(aN docs l).1.2:=by
 have hf:=(iG docs l).flush h h1;refine⟨hf.1.with,?_⟩;unfold aN fP;rw [if_neg h,if_neg h1];exact hf.1.eq.symm
theorem aid {docs:List (List UInt8)} {l:List ax} {i m:Int}(h:¬m<2∧¬i<0∧¬((ak docs l).2.length:Int)<m∧¬((ak docs l).2.length:Int)-m<i):
  l3 (ak docs l).1 ([]++(bq (ak docs l).2).take i.toNat++ [((dW (bq (ak docs l).2) i.toNat).1,(dW (bq (ak docs l).2) (i+m-1).toNat).2)]++(bq (ak docs l).2).drop (i+m).toNat)∧
  aB (ak docs l).1 ([]++(bq (ak docs l).2).take i.toNat++ [((dW (bq (ak docs l).2) i.toNat).1,(dW (bq (ak docs l).2) (i+m-1).toNat).2)]++(bq (ak docs l).2).drop (i+m).toNat)=(bt docs l i m).1.2:=by
 obtain⟨h1,h2,h3,h4⟩:=Yh h;have hc:=(iG docs l).cut h4 h3;rw [List.nil_append,show(i+m-1).toNat=i.toNat+m.toNat-1 by omega,show(i+m).toNat=i.toNat+m.toNat by omega];refine⟨hc.1.with,?_⟩;unfold bt;rw [if_neg (by rw [h1];simp)];exact hc.1.eq.symm
theorem asP(docs:List (List UInt8))(l:List ax):l3 (ak docs l).1 (dO (bq (ak docs l).2)):=(iG docs l).settle.1.with
theorem PC(docs:List (List UInt8)) {L:List Sp} {k:Nat}(h:(k:Int)<L.length):kl docs L k++ [((dW L k).1,(dW L k).2,make docs (dW L k).1 (dW L k).2)]=kl docs L (k+1):=by
 unfold kl;rw [aw L k (0,0) (by omega),nS];rfl
theorem VN(docs:List (List UInt8)) {L:List Sp} {k:Nat}(h:¬(k:Int)<L.length):kl docs L k=aB docs L:=by
 unfold kl;rw [List.take_of_length_le (by omega)]
theorem VO(docs:List (List UInt8))(L:List Sp)(k:Nat):(kl docs L k).length≤L.length:=by
 unfold kl;rw [dC,List.length_take];omega
theorem aku {a1:List (List UInt8)} {a2:List ax} {b1:List (List UInt8)} {b2:List ax}(h:lu a1 b1=false∨¬(a2.length:Int)=b2.length):false=mN a1 a2 b1 b2:=by
 symm
 unfold mN;rcases h with h|h
 · unfold lu at h;rw [h];rfl
 · rw [decide_eq_false (E6 h),Bool.and_false]
theorem asQ {a1:List (List UInt8)} {a2:List ax} {b1:List (List UInt8)} {b2:List ax}(h:lu a1 b1=true∧(a2.length:Int)=b2.length):nU a1 a2 b1 b2 0:=⟨of_decide_eq_true h.1,PA h.2⟩
theorem adV {a1:List (List UInt8)} {a2:List ax} {b1:List (List UInt8)} {b2:List ax} {k:Nat}(h:lY (aq a2 k).1 (aq a2 k).2.1 (aq a2 k).2.2 (aq b2 k).1 (aq b2 k).2.1 (aq b2 k).2.2=false):false=mN a1 a2 b1 b2:=by
 symm
 have :¬a2=b2:=by rintro rfl;rw [BL] at h;cases h
 unfold mN;rw [decide_eq_false this,Bool.and_false]
theorem Yj {a1:List (List UInt8)} {a2:List ax} {b1:List (List UInt8)} {b2:List ax} {k:Nat}(h:nU a1 a2 b1 b2 k)(hk:(k:Int)<a2.length)(h1:lY (aq a2 k).1 (aq a2 k).2.1 (aq a2 k).2.2 (aq b2 k).1 (aq b2 k).2.1 (aq b2 k).2.2=true):nU a1 a2 b1 b2 (k+1):=by
 simp only [lY,Bool.and_eq_true,decide_eq_true_eq] at h1;exact⟨h.1,AM (0,0,[]) h.2 hk (Prod.ext h1.1 (Prod.ext h1.2.1 h1.2.2))⟩
theorem adW {a1:List (List UInt8)} {a2:List ax} {b1:List (List UInt8)} {b2:List ax} {k:Nat}(h:nU a1 a2 b1 b2 k)(hk:¬(k:Int)<a2.length):true=mN a1 a2 b1 b2:=by
 unfold mN;rw [decide_eq_true h.1,decide_eq_true (E5 h.2 hk)];rfl
end Go.S
namespace Go.S
theorem tda {α:Type}(l:List α)(n:Nat):(l.drop n).take (l.length-n)=l.drop n:=by
 rw [List.take_of_length_le];rw [List.length_drop];exact Nat.le_refl _
theorem E8(docs:List (List UInt8))(l:List ax):small (ak docs l).2:=by have :=(ek docs l).2.1;unfold small;omega
end Go.S

end
section
namespace Go.S
theorem asS(l:List ax):ve l 0:=⟨by simp,Nat.zero_le _⟩
theorem Yk {l:List ax} {k:Nat}(h:ve l k)(hk:(k:Int)<l.length)(h1:gu (aq l k).2.2=false):ve l (k+1):=by
 refine⟨?_,by omega⟩;rw [aw l k (0,0,[]) (by omega)];intro s hs;rcases List.mem_append.1 hs with hs|hs
 · exact h.1 s hs
 · rw [List.mem_singleton.1 hs];exact h1
theorem adX {docs:List (List UInt8)} {l:List ax} {k:Nat}(hk:(k:Int)<l.length)(h1:gu (aq l k).2.2=true):true=kn docs l:=by
 have :l.any (fun s=>gu s.2.2)=true :=List.any_eq_true.2 ⟨_,gB (show k<l.length by omega),h1⟩;unfold kn;rw [this];rfl
theorem adY {docs:List (List UInt8)} {l:List ax} {k:Nat}(h:ve l k)(hk:¬(k:Int)<l.length):(bif la docs then true else decide ((100:Int)<l.length))=kn docs l:=by
 have :l.any (fun s=>gu s.2.2)=false :=by
  rw [←Bool.not_eq_true,List.any_eq_true];rintro⟨s,hs,h1⟩;have :=h.1 s (by rw [List.take_of_length_le (by omega)];exact hs);rw [this] at h1;cases h1
 unfold kn;rw [this,Bool.false_or];cases la docs<;>rfl
theorem KH {docs:List (List UInt8)} {l:List ax}(h:kn docs l=false):small l∧la docs=false∧∀s∈l,gu s.2.2=false :=by
 simp only [kn,Bool.or_eq_false_iff,decide_eq_false_iff_not] at h;refine⟨by unfold small;omega,h.2.1,fun s hs=> ?_⟩;cases hg:gu s.2.2 with
 |false=>rfl
 |true=>
  have :l.any (fun s=>gu s.2.2)=true :=List.any_eq_true.2 ⟨s,hs,hg⟩;rw [this] at h;cases h.1
theorem MU(a:List (List UInt8))(b:List ax):mN a b a b=true :=by simp [mN]
theorem adZ(l:List dH):aX (cO l).1 (cO l).2=true :=KF l _
theorem MV {docs:List (List UInt8)} {l:List ax}(h:aX docs l=true):fP docs l=bR l:=by unfold fP;rw [eZ h]
end Go.S
namespace Go.S
end Go.S
namespace Go.S
end Go.S

end
section
namespace Go.S
abbrev Hd:=Int×List UInt8×List Sg
def l4(n:Int)(g:List UInt8)(l:List Sg):Bool:=decide (0≤n)&&(decide (n≤1000)&&(decide ((g.length:Int)=32)&&QI l n))
def vf(docs:List (List UInt8))(l:List ax):Bool:=aX docs l&&decide (fP docs l=(docs.length:Int))
def Yl(docs:List (List UInt8))(l:List ax):Hd×Int:=if vf docs l then(((docs.length:Int),root (leaves docs),qD docs l),0) else((0,[],[]),7)
def MW(s:Sg):List UInt8:=num s.2.1++num s.2.2.1++s.2.2.2
def jx(l:List Sg):List UInt8:=l.flatMap MW
def hB(n:Int)(g:List UInt8)(l:List Sg):List UInt8:=num n++g++num l.length++jx l
def hW(n:Int)(g:List UInt8)(l:List Sg):List UInt8×Int:=if l4 n g l then(hB n g l,0) else([],1)
def PD(b:List UInt8)(f:Int):Sg×Int×Int:=
 if(first b).2.2≠0 then((0,0,0,[]),0,(first b).2.2)
 else if(first (b.drop (first b).2.1.toNat)).2.2≠0 then((0,0,0,[]),0,(first (b.drop (first b).2.1.toNat)).2.2)
 else if(b.length:Int)<(first b).2.1+(first (b.drop (first b).2.1.toNat)).2.1+32 then((0,0,0,[]),0,4)
 else((f,(first b).1,(first (b.drop (first b).2.1.toNat)).1,(b.drop ((first b).2.1+(first (b.drop (first b).2.1.toNat)).2.1).toNat).take 32),(first b).2.1+(first (b.drop (first b).2.1.toNat)).2.1+32,0)
abbrev Hs:=List Sg×Int×Int×Int
def rl(b:List UInt8)(p:Int):Nat→Hs
 |0=>([],0,p,0)
 |k+1=>if(rl b p k).2.2.2≠0 then rl b p k
  else if(PD (b.drop (rl b p k).2.2.1.toNat) (rl b p k).2.1).2.2≠0 then((rl b p k).1,(rl b p k).2.1,(rl b p k).2.2.1,(PD (b.drop (rl b p k).2.2.1.toNat) (rl b p k).2.1).2.2)
  else((rl b p k).1++ [(PD (b.drop (rl b p k).2.2.1.toNat) (rl b p k).2.1).1],(PD (b.drop (rl b p k).2.2.1.toNat) (rl b p k).2.1).1.2.1,(rl b p k).2.2.1+(PD (b.drop (rl b p k).2.2.1.toNat) (rl b p k).2.1).2.1,0)
def Ym(b:List UInt8)(n:Int)(g:List UInt8)(s:Hs):Hd×Int:=
 if s.2.2.2≠0 then((0,[],[]),s.2.2.2)
 else if s.2.2.1<b.length∨l4 n g s.1=false then((0,[],[]),2)
 else((n,g,s.1),0)
def hR(b:List UInt8):Hd×Int:=
 if(first b).2.2≠0 then((0,[],[]),(first b).2.2)
 else if(b.length:Int)<(first b).2.1+32 then((0,[],[]),4)
 else if(first (b.drop ((first b).2.1+32).toNat)).2.2≠0 then((0,[],[]),(first (b.drop ((first b).2.1+32).toNat)).2.2)
 else if 64<(first (b.drop ((first b).2.1+32).toNat)).1 then((0,[],[]),2)
 else Ym b (first b).1 ((b.drop (first b).2.1.toNat).take 32) (rl b ((first b).2.1+32+(first (b.drop ((first b).2.1+32).toNat)).2.1) (first (b.drop ((first b).2.1+32).toNat)).1.toNat)
def PE(a1:Int)(a2:List UInt8)(a3:List Sg)(b1:Int)(b2:List UInt8)(b3:List Sg):Bool:=decide (a1=b1)&&(decide (a2=b2)&&decide (a3=b3))
theorem HP:∀(f v:Nat),v<128^f→1≤f→∃(m:List UInt8) (x:UInt8),mh f v=m++ [x]∧(∀y∈m,128≤y.toNat)∧x.toNat<128∧cK (m++ [x])=v∧(1≤m.length→x.toNat≠0)
 |0,v,_,h=>by omega
 |f+1,v,h,_=>by
  by_cases hv:v<128
  · have e:(UInt8.ofNat v).toNat=v:=by simp [UInt8.toNat_ofNat'];omega
    refine⟨[],UInt8.ofNat v,by simp only [mh];rw [if_pos hv];rfl,by simp,by rw [e];exact hv,?_,by simp⟩;simp only [List.nil_append,cK,e];omega
  · have hf:f≠0:=by rintro rfl;simp at h;omega
    obtain⟨m,x,h1,h2,h3,h4,h5⟩:=HP f (v/128) (by rw [Nat.pow_succ] at h;omega) (by omega);have e:(UInt8.ofNat (v%128+128)).toNat=v%128+128:=by simp [UInt8.toNat_ofNat'];omega
    refine⟨UInt8.ofNat (v%128+128)::m,x,?_,?_,h3,?_,fun _=> ?_⟩
    · simp only [mh];rw [if_neg hv,h1];rfl
    · intro y hy;rcases List.mem_cons.1 hy with rfl|hy
      · rw [e];omega
      · exact h2 y hy
    · simp only [List.cons_append,cK,e,h4];omega
    · by_cases hm:1≤m.length
      · exact h5 hm
      · have :m= []:=List.eq_nil_of_length_eq_zero (by omega);subst this;simp only [List.nil_append,cK] at h4;omega
theorem oX {v:Int}(h:0≤v)(h1:v≤4611686018427387904)(r:List UInt8):first (num v++r)=(v,((num v).length:Int),0):=by
 obtain⟨m,x,e,h2,h3,h4,h5⟩:=HP 9 v.toNat (by omega) (by omega);have hl:m.length+1≤9:=by have :=Ax 9 v.toNat;rw [e] at this;simpa using this
 have e':num v=m++ [x]:=e;have g1:(m++ [x]++r).take m.length=m:=by rw [List.append_assoc,List.take_append_of_le_length (Nat.le_refl _),List.take_length]
 have g2:(m++ [x]++r).getD m.length 0=x:=by
  rw [List.append_assoc,List.getD_eq_getElem?_getD,List.getElem?_append_right (Nat.le_refl _),Nat.sub_self];rfl
 have g3:(m++ [x]++r).take (m.length+1)=m++ [x]:=by rw [show m.length+1=(m++ [x]).length by simp,List.take_left]
 have :=Hq (m++ [x]++r) m.length (by rw [g1];exact h2) (by simp) (by omega) (by rw [g2];exact h3);rw [g2,g3,h4] at this;rw [e',this,if_neg]
 · simp;omega
 · rintro(⟨q1,q2⟩|q)
   · exact h5 q1 q2
   · omega
theorem BU {b:List UInt8}(h:(first b).2.2=0):b=num (first b).1++b.drop (first b).2.1.toNat∧(first b).2.1=((num (first b).1).length:Int):=by
 obtain⟨q1,q2⟩:=Pg h;have h0:=vX b;refine⟨by rw [q1];exact(List.take_append_drop _ _).symm,?_⟩;rw [q1,List.length_take];omega
theorem VP {a b:Int} {c:Int} {d:List UInt8}(h:AH a b c d=true):0≤a∧a<b∧b≤1000∧1≤c∧c≤1099511627776∧d.length=32:=by
 simp only [AH,jb,Bool.and_eq_true,decide_eq_true_eq] at h;omega
theorem VQ {l:List Sg} {n:Int}(h:QI l n=true):l.length≤64∧(∀i,i<l.length→AH (sg l i).1 (sg l i).2.1 (sg l i).2.2.1 (sg l i).2.2.2=true)∧(0<l.length→(sg l 0).1=0)∧(∀i,i+1<l.length→(sg l (i+1)).1=(sg l i).2.1):=by
 unfold QI at h;split at h
 · exact⟨by omega,fun i hi=>by omega,fun h=>by omega,fun i hi=>by omega⟩
 · simp only [Bool.and_eq_true,decide_eq_true_eq,List.all_eq_true,List.mem_range] at h;obtain⟨h1,h2,h3,h4⟩:=h;refine⟨by omega,fun i hi=> ?_,fun _=>h3,fun i hi=> ?_⟩
   · have :=h1 i hi;simp only [QH,Bool.and_eq_true] at this;exact this.1
   · have :=h1 (i+1) hi;simp only [QH,Bool.and_eq_true,Bool.not_eq_true',Bool.and_eq_false_iff,decide_eq_false_iff_not,Bool.not_eq_false',decide_eq_true_eq] at this;rcases this.2 with h5|h5
     · omega
     · simpa using h5
theorem MX {n:Int} {g:List UInt8} {l:List Sg}:l4 n g l=true↔0≤n∧n≤1000∧g.length=32∧QI l n=true :=by
 simp only [l4,Bool.and_eq_true,decide_eq_true_eq];constructor
 · rintro⟨h1,h2,h3,h4⟩;exact⟨h1,h2,by omega,h4⟩
 · rintro⟨h1,h2,h3,h4⟩;exact⟨h1,h2,by omega,h4⟩
theorem ad0 {s:Sg}(h:AH s.1 s.2.1 s.2.2.1 s.2.2.2=true)(r:List UInt8):PD (MW s++r) s.1=(s,((MW s).length:Int),0):=by
 have hg:=VP h;have e1:MW s++r=num s.2.1++(num s.2.2.1++(s.2.2.2++r)):=by simp [MW]
 have f1:=oX (v:=s.2.1) (by omega) (by omega) (num s.2.2.1++(s.2.2.2++r));have f2:=oX (v:=s.2.2.1) (by omega) (by omega) (s.2.2.2++r);have d1:(num s.2.1++(num s.2.2.1++(s.2.2.2++r))).drop (((num s.2.1).length:Int)).toNat=num s.2.2.1++(s.2.2.2++r):=by rw [Int.toNat_natCast,List.drop_left]
 have d2:(num s.2.1++(num s.2.2.1++(s.2.2.2++r))).drop (((num s.2.1).length:Int)+((num s.2.2.1).length:Int)).toNat=s.2.2.2++r:=by
  rw [show(((num s.2.1).length:Int)+((num s.2.2.1).length:Int)).toNat=(num s.2.1).length+(num s.2.2.1).length by omega,←List.drop_drop,List.drop_left,List.drop_left]
 unfold PD;rw [e1,f1];simp only [d1,f2,d2];rw [if_neg (by simp),if_neg (by simp),if_neg (by simp only [List.length_append];omega),List.take_left' hg.2.2.2.2.2];congr 2
 simp only [MW,List.length_append];omega
theorem QY {l:List Sg}(hg:∀i,i<l.length→AH (sg l i).1 (sg l i).2.1 (sg l i).2.2.1 (sg l i).2.2.2=true)(h0:0<l.length→(sg l 0).1=0)(hc:∀i,i+1<l.length→(sg l (i+1)).1=(sg l i).2.1)(a r:List UInt8):
  ∀k,k≤l.length→rl (a++(jx l++r)) (a.length:Int) k=(l.take k,(if k=0 then 0 else(sg l (k-1)).2.1),((a.length+(jx (l.take k)).length:Nat):Int),0)
 |0,_=>by simp [rl,jx]
 |k+1,hk=>by
  have ih:=QY hg h0 hc a r k (by omega);have E9:k<l.length:=by omega
  have et:l.take (k+1)=l.take k++ [sg l k]:=aw l k _ E9
  have ed:l=l.take k++(sg l k::l.drop (k+1)):=by
   have :l.drop k=sg l k::l.drop (k+1):=by
    rw [List.drop_eq_getElem_cons E9];congr 1;rw [sg,List.getD_eq_getElem?_getD,List.getElem?_eq_getElem E9];rfl
   rw [←this];exact(List.take_append_drop k l).symm
  have es:jx l=jx (l.take k)++(MW (sg l k)++jx (l.drop (k+1))):=by
   have :jx l=jx (l.take k++(sg l k::l.drop (k+1))):=by rw [←ed]
   rw [this];simp only [jx,List.flatMap_append,List.flatMap_cons]
  have hdr:(a++(jx l++r)).drop ((a.length+(jx (l.take k)).length:Nat):Int).toNat=MW (sg l k)++(jx (l.drop (k+1))++r):=by
   rw [Int.toNat_natCast,es,←List.drop_drop,List.drop_left,List.append_assoc,List.drop_left,List.append_assoc]
  have hf:(if k=0 then(0:Int) else(sg l (k-1)).2.1)=(sg l k).1:=by
   by_cases hk0:k=0
   · subst hk0;rw [if_pos rfl,h0 (by omega)]
   · rw [if_neg hk0];have :=hc (k-1) (by omega);rw [show k-1+1=k by omega] at this;exact this.symm
  have hs:=ad0 (hg k E9) (jx (l.drop (k+1))++r);simp only [rl,ih,hdr,hf,hs];rw [if_neg (by simp),if_neg (by simp),if_neg (by omega),et];simp only [Nat.add_sub_cancel,jx,List.flatMap_append,List.flatMap_cons,List.flatMap_nil,List.append_nil,List.length_append];congr 3
  omega
theorem Fa {n:Int} {g:List UInt8} {l:List Sg}(h:l4 n g l=true):hR (hB n g l)=((n,g,l),0):=by
 obtain⟨h1,h2,h3,h4⟩:=MX.1 h;obtain⟨r1,r2,r3,r4⟩:=VQ h4;have e:hB n g l=num n++(g++(num l.length++jx l)):=by simp [hB]
 have f1:=oX h1 (by omega) (g++(num l.length++jx l));have f2:=oX (v:=(l.length:Int)) (by omega) (by omega) (jx l);have d1:(num n++(g++(num l.length++jx l))).drop (((num n).length:Int)).toNat=g++(num l.length++jx l):=by rw [Int.toNat_natCast,List.drop_left]
 have d2:(num n++(g++(num l.length++jx l))).drop (((num n).length:Int)+32).toNat=num l.length++jx l:=by
  rw [show(((num n).length:Int)+32).toNat=(num n).length+g.length by omega,←List.drop_drop,List.drop_left,List.drop_left]
 have kI:=QY r2 r3 r4 (num n++(g++num l.length)) [] l.length (Nat.le_refl _);have ea:num n++(g++num l.length)++(jx l++ [])=num n++(g++(num l.length++jx l)):=by simp
 have el:(((num n++(g++num (l.length:Int))).length:Nat):Int)=((num n).length:Int)+32+((num (l.length:Int)).length:Int):=by simp only [List.length_append];omega
 rw [ea,el,List.take_length] at kI;unfold hR;rw [e,f1];simp only [d1,d2,f2];rw [if_neg (by simp),if_neg (by simp only [List.length_append];omega),if_neg (by simp),if_neg (by omega),List.take_left' h3,Int.toNat_natCast,kI];unfold Ym;simp only;rw [if_neg (by simp),if_neg];rw [h];rintro(q|q)
 · simp only [List.length_append] at q;omega
 · cases q
theorem PF {a1:Int} {a2:List UInt8} {a3:List Sg} {b1:Int} {b2:List UInt8} {b3:List Sg}:PE a1 a2 a3 b1 b2 b3=decide ((a1,a2,a3)=(b1,b2,b3)):=by
 simp only [PE,Prod.mk.injEq,Bool.decide_and]
theorem MY {a b:Hd}(ha:l4 a.1 a.2.1 a.2.2=true)(hb:l4 b.1 b.2.1 b.2.2=true):(hB a.1 a.2.1 a.2.2=hB b.1 b.2.1 b.2.2)↔a=b:=by
 constructor
 · intro h;have h1:=Fa ha;rw [h,Fa hb] at h1;have :=congrArg Prod.fst h1;exact this.symm
 · rintro rfl;rfl
end Go.S

end
section
namespace Go.S
theorem nm(b:List UInt8)(a e:Int):(al b a e).1.1=b∧(BC b a e).1.1=b:=by
 constructor
 · unfold al;split
   · rfl
   · split<;>rfl
 · unfold BC;split
   · rfl
   · split<;>rfl
theorem MZ {b:List UInt8} {a e:Int}(h:e≠0):cW b a e=e:=by unfold cW;rw [if_neg (fun q=>h q.1)]
theorem zA {b:List UInt8} {a:Int}(h:0≤a)(h1:a≤b.length):cW b a 0=0:=by
 unfold cW;rw [if_neg];rintro⟨_,q⟩;simp only [inside,Bool.and_eq_false_iff,decide_eq_false_iff_not] at q;omega
theorem Yn {b:List UInt8} {a e:Int}(h:e≠0):al b a e=((b,a,e),0):=by
 unfold al;rw [MZ h,if_pos h]
theorem Yo {b:List UInt8} {a:Int}(h:0≤a)(h1:a≤b.length)(h2:(first (b.drop a.toNat)).2.2=0):al b a 0=((b,a+(first (b.drop a.toNat)).2.1,0),(first (b.drop a.toNat)).1):=by
 have e:(aK b a).2.2=0:=h2;unfold al;rw [zA h h1,if_neg (fun q=>q rfl),if_neg (fun q=>q e)];simp only [aK,BB,h2,if_true]
theorem akw {b:List UInt8} {a:Int}(h:0≤a)(h1:a≤b.length)(h2:(first (b.drop a.toNat)).2.2≠0):al b a 0=((b,a,(first (b.drop a.toNat)).2.2),0):=by
 have e:(aK b a).2.2≠0:=h2;unfold al;rw [zA h h1,if_neg (fun q=>q rfl),if_pos e];rfl
end Go.S

end
section
namespace Go.S
end Go.S

end
section
namespace Go.S
theorem Yp {docs:List (List UInt8)} {l:List ax}(h:aX docs l=true∧fP docs l=(docs.length:Int)):Yl docs l=(((docs.length:Int),root (leaves docs),qD docs l),0):=by
 have :vf docs l=true :=by unfold vf;rw [h.1,decide_eq_true h.2];rfl
 unfold Yl;rw [if_pos this]
theorem akx {n:Int} {g:List UInt8} {l:List Sg}(h:l4 n g l=false):hW n g l=([],1):=by unfold hW;rw [h];rfl
theorem ad1 {n:Int} {g:List UInt8} {l:List Sg}(h:l4 n g l=true):hW n g l=(hB n g l,0):=by unfold hW;rw [h];rfl
end Go.S

end
section
namespace Go.S
theorem Fb {docs:List (List UInt8)} {l:List ax}:vf docs l=true↔aX docs l=true∧fP docs l=(docs.length:Int):=by
 simp only [vf,Bool.and_eq_true,decide_eq_true_eq]
theorem HQ {docs:List (List UInt8)} {l:List ax}(h:vf docs l=true):Yl docs l=(((docs.length:Int),root (leaves docs),qD docs l),0):=Yp (Fb.1 h)
theorem aie {n:Int} {g:List UInt8} {l:List Sg}(h:(hW n g l).2=0):l4 n g l=true∧hW n g l=(hB n g l,0):=by
 cases hr:l4 n g l with
 |true=>exact⟨rfl,ad1 hr⟩
 |false=>rw [akx hr] at h;cases h
theorem apart {a b:Hd}(ha:(hW a.1 a.2.1 a.2.2).2=0)(hb:(hW b.1 b.2.1 b.2.2).2=0):(bif decide ((hW a.1 a.2.1 a.2.2).1=(hW b.1 b.2.1 b.2.2).1)==PE a.1 a.2.1 a.2.2 b.1 b.2.1 b.2.2 then true else false)=true :=by
 obtain⟨h1,h2⟩:=aie ha;obtain⟨h3,h4⟩:=aie hb;rw [h2,h4,PF];have :=MY h1 h3
 have e:decide (hB a.1 a.2.1 a.2.2=hB b.1 b.2.1 b.2.2)=decide ((a.1,a.2.1,a.2.2)=(b.1,b.2.1,b.2.2)):=by
  by_cases h:a=b
  · rw [decide_eq_true (this.2 h),decide_eq_true (show(a.1,a.2.1,a.2.2)=(b.1,b.2.1,b.2.2) from h)]
  · rw [decide_eq_false (fun q=>h (this.1 q)),decide_eq_false (show ¬(a.1,a.2.1,a.2.2)=(b.1,b.2.1,b.2.2) from h)]
 rw [show(hB a.1 a.2.1 a.2.2,(0:Int)).1=hB a.1 a.2.1 a.2.2 from rfl,show(hB b.1 b.2.1 b.2.2,(0:Int)).1=hB b.1 b.2.1 b.2.2 from rfl,e];cases decide ((a.1,a.2.1,a.2.2)=(b.1,b.2.1,b.2.2))<;>rfl
theorem Yq(l:List dH):(cO l).2.length≤40:=by
 have h1:=HL l (min l.length 40);have h2:=E2 l (min l.length 40);unfold cO;omega
theorem VR {docs:List (List UInt8)} {l:List ax}(h:aX docs l=true)(a b c:Int)(d:List UInt8):(kC docs l a b c d).1.1.length≤docs.length+1:=by
 by_cases h0:a=0
 · have hg:=eZ h;unfold kC;rw [if_pos h0];unfold aU;rw [hg];split
   · simp only;omega
   · split
     · simp only;omega
     · simp
 · rw [(keeps h b c d h0).1];omega
theorem Fc(l:List dH):∀k,(kj ([],[]) l k).1.length≤k
 |0=>Nat.le_refl _
 |k+1=>by
  have ih:=Fc l k;rw [kj];split
  · omega
  · have :=VR (KF l k) (nT l k).1 (nT l k).2.1 (nT l k).2.2.1 (nT l k).2.2.2;omega
theorem Yr(l:List dH):(cO l).1.length≤40:=by have :=Fc l (min l.length 40);unfold cO;omega
theorem PG(docs:List (List UInt8))(l:List ax):aN docs l=kC docs l 1 0 0 []:=by unfold kC;rw [if_neg (by decide),if_pos rfl]
theorem M1 {docs:List (List UInt8)} {l:List ax}(h:aX docs l=true)(hl:l.length<64):
  (aN docs l).1.1=docs∧aX docs (aN docs l).1.2=true∧bR (aN docs l).1.2=docs.length∧(aN docs l).1.2.length≤l.length+1∧vf docs (aN docs l).1.2=true :=by
 have hk:=keeps h (a:=1) 0 0 [] (by decide);have hr:=oK docs l;have hn:=MM h 1 0 0 [];rw [←PG] at hk hn;rw [hk.1] at hr
 have hc:bR (aN docs l).1.2=docs.length:=by
  rcases(hk.2.1 rfl).2 with h1|h1
  · omega
  · exact h1
 exact⟨hk.1,hr,hc,hn,Fb.2 ⟨hr,by rw [MV hr];exact hc⟩⟩
theorem pf(l:List dH):(aN (cO l).1 (cO l).2).1.1=(cO l).1∧aX (cO l).1 (aN (cO l).1 (cO l).2).1.2=true∧bR (aN (cO l).1 (cO l).2).1.2=(cO l).1.length∧(aN (cO l).1 (cO l).2).1.2.length≤41∧vf (cO l).1 (aN (cO l).1 (cO l).2).1.2=true :=by
 have h1:=Yq l;have h:=M1 (adZ l) (by omega);exact⟨h.1,h.2.1,h.2.2.1,by omega,h.2.2.2.2⟩
theorem aky {docs:List (List UInt8)} {l:List ax} {d:List UInt8}(h:aX docs l=true)(h1:¬(2000:Int)<d.length)(h2:docs.length<1000):aU docs l d=((docs++ [d],l),0):=by
 have hg:=eZ h;rw [MT h1 (by rw [hg];simp only;omega),hg]
theorem grow(l:List dH) {d:List UInt8}(hd:¬(2000:Int)<d.length) {x:List ax}(hx:(aN (cO l).1 (cO l).2).1.2=x):
  Yl (cO l).1 x=((((cO l).1.length:Int),root (leaves (cO l).1),qD (cO l).1 x),0)∧aU (cO l).1 x d=(((cO l).1++ [d],x),0)∧
  ∃s r,aN ((cO l).1++ [d]) x=(((cO l).1++ [d],x++ [s]),0)∧Yl ((cO l).1++ [d]) (x++ [s])=((((cO l).1.length:Int)+1,r,qD (cO l).1 x++ [XT s]),0):=by
 have Wz:=Yr l;obtain⟨p1,p2,p3,p4,p5⟩:=pf l;rw [hx] at p2 p3 p4 p5;have ha:=aky p2 hd (by omega);have hr:=append_right (cO l).1 x d;rw [ha] at hr;have hl:((cO l).1++ [d]).length=(cO l).1.length+1:=by simp
 have hg:=eZ hr
 have hf:aN ((cO l).1++ [d]) x=(((cO l).1++ [d],x++ [(bR x,(((cO l).1++ [d]).length:Int),make ((cO l).1++ [d]) (bR x) ((cO l).1++ [d]).length)]),0):=by
  unfold aN fP;rw [hg,if_neg (show ¬bR x=(((cO l).1++ [d]).length:Int) by rw [p3,hl];omega),if_neg (show ¬(64:Int)≤(x.length:Int) by omega)]
 refine⟨HQ p5,ha,_,root (leaves ((cO l).1++ [d])),hf,?_⟩;have Al:=M1 (docs:=(cO l).1++ [d]) (l:=x) hr (by omega);rw [hf] at Al;rw [HQ Al.2.2.2.2]
 have e1:qD ((cO l).1++ [d]) (x++ [(bR x,(((cO l).1++ [d]).length:Int),make ((cO l).1++ [d]) (bR x) ((cO l).1++ [d]).length)])=qD (cO l).1 x++ [XT (bR x,(((cO l).1++ [d]).length:Int),make ((cO l).1++ [d]) (bR x) ((cO l).1++ [d]).length)]:=by
  unfold qD;rw [eZ Al.2.1,eZ p2];simp
 rw [e1,hl];congr 2
end Go.S

end
