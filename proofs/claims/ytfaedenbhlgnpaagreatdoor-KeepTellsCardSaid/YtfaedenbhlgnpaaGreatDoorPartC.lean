import Derived.Test.YtfaedenbhlgnpaaGreatDoorPartB
set_option linter.unusedVariables false
set_option linter.unusedSimpArgs false
section
namespace Go.V
theorem rf {a b:Bool}:((bif a then true else b)=true)=(a=true∨b=true):=by cases a<;>simp
theorem hC {a b:Bool}:((bif a then true else b)=false)=(a=false∧b=false):=by cases a<;>simp
theorem Gu {a b:Bool}:((bif a then b else false)=true)=(a=true∧b=true):=by cases a<;>simp
theorem vk {a b:Bool}:((bif a then b else false)=false)=(a=false∨b=false):=by cases a<;>simp
end Go.V
namespace Go.S
theorem ay {α:Type}(l:List α)(n:Nat)(d:α)(h:n<l.length):l.take (n+1)=l.take n++ [l.getD n d]:=by
 rw [List.take_add_one,List.getElem?_eq_getElem h];simp [List.getD,List.getElem?_eq_getElem h]
theorem bu {α:Type}(l:List α)(n:Nat)(d:α)(h:n<l.length):l.getD n d∈l:=by
 simp [List.getD,List.getElem?_eq_getElem h]
theorem zF {α β:Type} {P:α→Prop} {f:α→β→α}:∀(l:List β) (a:α),P a→(∀a x,x∈l→P a→P (f a x))→P (l.foldl f a)
 | [],_,h,_=>h
 |x::l,a,h,hs=>zF l (f a x) (hs a x (List.mem_cons_self ..) h) fun a y hy=>hs a y (List.mem_cons_of_mem _ hy)
theorem mem_set {α:Type} {l:List α} {i:Nat} {a b:α}(h:b∈l.set i a):b=a∨b∈l:=by
 rcases List.mem_or_eq_of_mem_set h with h|h
 · exact .inr h
 · exact .inl h
theorem Dx {α:Type} {f:α→α}:∀ {l:List α},(∀x∈l,f x=x)→l.map f=l
 | [],_=>rfl
 |x::l,h=>by rw [List.map_cons,h x (List.mem_cons_self ..),Dx fun y hy=>h y (List.mem_cons_of_mem _ hy)]
end Go.S
namespace Go.S
end Go.S

end
section
namespace Go.Vg
open Go
def St.xd(G:Nat→Option GD)(n:Nat)(cC:List AV)(hs:List AB):St:=
 {St.init G n cC with h:=fun k=>bif Nat.ble 50000 k&&Nat.blt k 60000 then hs[k-50000]? else none}
def sc:AB→Bool
 | .row _ _ _ true=>false
 |_=>true
def kindOk:AB→Bool
 | .row _ _ _ false=>true
 | .cells _=>true
 | .arr _ _=>true
 |_=>false
def UI:Option AB→Bool
 |some b=>kindOk b
 |none=>true
def M6(r:fY)(k:Nat):Bool:=nO k&&(match r.heap[k-50000]? with
 |some (some _)=>true
 |_=>false)
def hJ(r:fY)(k:Nat):Bool:= !(M6 r k)
def oZ(st:St)(k n e:Nat)(row:List Ty)(l:List (Row row)):St:=
 {st with
  t:=fun i=>dp 70000 (st.t i)
  h:=fun j=>bif Nat.beq j 70000 then some (.row e row (l.take n) false) else bif Nat.beq j k then none else match st.h j with
   |some b=>some (my 70000 b)
   |none=>none}
def o0(st:St)(x:AV):St×AV:=match x with
 | .pre k n=>match st.h k with
   |some (.row e row l false)=>(oZ st k n e row l, .own 70000)
   |_=>(st,x)
 |_=>(st,x)
mutual
def sd(h:aO)(s:List (Nat×Option Nat))(bad:Nat→Bool):AV→AV→List Prop×List Nat
 | .sl r l, .own k=>wX h r l k
 | .agg xs, .agg ys=>kI h s bad xs ys
 | .cK xs, .cK ys=>kI h s bad xs ys
 | .own i,y=>(CY s bad y (.own i),[])
 |x,y=>(CY s bad (fj h y).1 x,(fj h y).2)
def kI(h:aO)(s:List (Nat×Option Nat))(bad:Nat→Bool):List AV→List AV→List Prop×List Nat
 | [],[]=>([],[])
 |x::xs,y::ys=>((sd h s bad x y).1++(kI h s bad xs ys).1,(sd h s bad x y).2++(kI h s bad xs ys).2)
 |_,_=>([False],[])
end
def pY(h:aO)(s:List (Nat×Option Nat))(bad:Nat→Bool):Option AB→AB→List Prop×List Nat
 |some (.cells xs), .cells ys=>kI h s bad ys xs
 |o,b=>(CZ s bad o b,[])
def iW(h:aO)(s:List (Nat×Option Nat))(bad:Nat→Bool):Nat→List (Option AB)→List Prop×List Nat
 |_,[]=>([],[])
 |i,some b::bs=>((pY h s bad (h (50000+i)) b).1++(iW h s bad (i+1) bs).1,(pY h s bad (h (50000+i)) b).2++(iW h s bad (i+1) bs).2)
 |i,none::bs=>iW h s bad (i+1) bs
def sM(h:aO)(s:List (Nat×Option Nat))(bad:Nat→Bool)(K:Nat)(b:AB):List Prop×List Nat:=match bT s K with
 |some (some k)=>pY h s bad (h k) b
 |some none=>match b with
  | .row _ _ l false=>([[]=l],[])
  |_=>([False],[])
 |none=>([False],[])
def o8(h:aO)(s:List (Nat×Option Nat))(bad:Nat→Bool):Nat→List AB→List Prop×List Nat
 |_,[]=>([],[])
 |j,b::bs=>((sM h s bad (60000+j) b).1++(o8 h s bad (j+1) bs).1,(sM h s bad (60000+j) b).2++(o8 h s bad (j+1) bs).2)
def Dy(h:aO):Nat→List (Option AB)→List (Nat×Option Nat)
 |_,[]=> []
 |i,some (.cells ys)::bs=>(match h (50000+i) with
  |some (.cells xs)=>oP ys xs
  |_=> [])++Dy h (i+1) bs
 |i,_::bs=>Dy h (i+1) bs
def IQ(h:aO)(s:List (Nat×Option Nat)):Nat→List AB→List (Nat×Option Nat)
 |_,[]=> []
 |j, .cells ys::bs=>(match bT s (60000+j) with
  |some (some k)=>match h k with
   |some (.cells xs)=>oP ys xs
   |_=> []
  |_=> [])++IQ h s (j+1) bs
 |j,_::bs=>IQ h s (j+1) bs
def yA(acc:List (Nat×Option Nat)):List (Nat×Option Nat)→List (Nat×Option Nat)
 | []=>acc
 |(k,x)::r=>bif Nat.ble 60000 k&&(match bT acc k with|none=>true|some _=>false) then yA ((k,x)::acc) r else yA acc r
def aeD(h:aO)(x:AV)(r:fY):List (Nat×Option Nat):=yA [] (B2 r.res x++Dy h 0 r.heap)
def acR(h:aO)(r:fY)(s:List (Nat×Option Nat)):List (Nat×Option Nat):=yA s (IQ h s 0 r.new)
def akJ(h:aO)(x:AV)(r:fY):List (Nat×Option Nat):=acR h r (acR h r (aeD h x r))
def Dz(h:aO)(s:List (Nat×Option Nat))(x:AV)(r:fY):List Nat:=(sd h s (hJ r) r.res x).2++((iW h s (hJ r) 0 r.heap).2++(o8 h s (hJ r) 0 r.new).2)
def IS(h:aO)(x:AV)(r:fY)(s:List (Nat×Option Nat)):Prop :=
 bif gM (dx s)&&(((dx s).all (hJ r))&&((s.all fun y=>Nat.ble 60000 y.1)&&(((Dz h s x r).all fun k=> !aE (dx s) k&&hJ r k)&&(r.new.all kindOk&&r.heap.all UI)))) then
  As ((sd h s (hJ r) r.res x).1++((iW h s (hJ r) 0 r.heap).1++(o8 h s (hJ r) 0 r.new).1)) else False
def DA(T:bW)(st:St)(rs:List ResultVar)(r:fY):Prop :=match jO T st rs with
 |none=>False
 |some aF=>IS (o0 st (e7 aF)).1.h (o0 st (e7 aF)).2 r (akJ (o0 st (e7 aF)).1.h (o0 st (e7 aF)).2 r)
def Ę(T:bW)(rs:List ResultVar)(r:fY)(e:Ex)(st:St):Prop :=match e with
 | .norm=>DA T st rs r
 | .ret=>DA T st rs r
 |_=>False
def M7(E:Env)(L:Nat→Option an)(c:Code)(n:Nat)(rs:List ResultVar)(cC:List AV)(hs:List AB)(r:fY):Prop :=
 bif Nat.ble cC.length n then lx E L c (Ę E.T rs r) (St.xd E.lj n cC hs) else False
section
variable {P:Program} {C:Ctx} {E:Env} {A A':Nat→Prop} {β aH:Nat→Value} {st:St} {a:Act} {w:World} {T:bW}
theorem DB {G:Nat→Option GD} {n:Nat} {cC:List AV} {hs:List AB} {k:Nat} {ab:AB}(h:(St.xd G n cC hs).h k=some ab):∃i,k=50000+i∧hs[i]? =some ab:=by
 simp only [St.xd] at h
 cases hb:(Nat.ble 50000 k&&Nat.blt k 60000) with
 |false=>rw [hb] at h;cases h
 |true=>
  rw [hb] at h
  simp only [Bool.and_eq_true] at hb
  have :=Nat.le_of_ble_eq_true hb.1
  exact⟨k-50000,by omega,h⟩
theorem aD.xd {G:Nat→Option GD} {args:List Value} {cC:List AV} {hs:List AB} {n:Nat}(hA:∀b,A b→b<w.heap.size)(hG:∀i d,G i=some d→oA w A i d)(hr:ae w A β args cC)(hn:cC.length≤n)
  (fK:∀i ab,hs[i]? =some ab→BR w A β (50000+i) ab) (BH:∀i j b,i<hs.length→j<hs.length→aw (β (50000+i))=some b→aw (β (50000+j))=some b→i=j):
  aD ⟨w,A,HM β hs.length,G,β⟩ A β (St.xd G n cC hs) {tmps:=args.toArray++Array.replicate (n-args.toArray.size) undef,defers:= []} w:=by
 have hI:=aD.init (β:=β) (G:=G) (n:=n) hA hG hr hn
 have hk:∀k,((St.xd G n cC hs).h k).isSome→∃i,k=50000+i∧i<hs.length:=by
  intro k hk
  obtain⟨ab,fk⟩:=Option.isSome_iff_exists.1 hk
  obtain⟨i,h1,h2⟩:=DB fk
  exact⟨i,h1,(List.getElem?_eq_some_iff.1 h2).1⟩
 refine⟨hI.defers,hI.size,hI.tmps,fun k ab h=> ?_,fun k k' b h h' hb bz=> ?_,hI.bound,⟨rfl,rfl,rfl,Nat.le_refl _,fun b _ _=>rfl⟩,fun b _ h=> .inl h,fun b h=>h,fun k b h hb=> ?_,fun i d h=>h,hG,fun k _=>rfl⟩
 · obtain⟨i,rfl,h2⟩:=DB h
   exact fK i ab h2
 · obtain⟨i,rfl,h1⟩:=hk k h
   obtain⟨j,rfl,h2⟩:=hk k' h'
   rw [BH i j b h1 h2 hb bz]
 · obtain⟨i,rfl,h1⟩:=hk k h
   exact .inr ⟨i,h1,hb⟩
theorem UJ {hs:List AB}(hnf:∀ab∈hs,sc ab=true)(fK:∀i ab,hs[i]? =some ab→BR w A β (50000+i) ab):∀b,HM β hs.length b→¬A b:=by
 rintro b ⟨i,hi,hb⟩
 have hg:=List.getElem?_eq_getElem hi
 have h:=fK i _ hg
 have hn:=hnf _ (List.getElem_mem hi)
 generalize hs[i]=ab at h hn
 cases ab with
 |cells cs=>
  obtain⟨b',arr,e,h1,h2,h3,_⟩:=h
  rw [h1] at hb;simp only [aw,Option.some.injEq] at hb;subst hb;exact h3
 |arr row l=>
  obtain⟨b',arr,e,h1,h2,h3,_⟩:=h
  rw [h1] at hb;simp only [aw,Option.some.injEq] at hb;subst hb;exact h3
 |views e j n m sz=>
  obtain⟨xs,h1,h2,_⟩:=h
  exact h2 b hb
 |row e row l fr=>
  obtain⟨xs,h1,h2,h3⟩:=h
  cases fr with
  |true=>simp [sc] at hn
  |false=>simpa using h3 b hb
 |gj e j row l i=>
  obtain⟨xs,v0,h1,h2,_⟩:=h
  exact h2 b hb
theorem aD.shrink(hB:aD C A β st a w) {k n e:Nat} {row:List Ty} {l:List (Row row)} {v:Value}(hk:st.h k=some (.row e row l false))(hv:aa w A β v (.pre k n)):
  aD C A (bG β 70000 v) (oZ st k n e row l) a w∧aa w A (bG β 70000 v) v (.own 70000):=by
 obtain⟨xs,o1,o2,o3⟩:=Cz hB hk
 have CA:=dQ l xs n o2
 have fG:w.ownsRow 0 e row.length v n (xs.take (n*row.length))∧n≤l.length∧aw v=aw (β k):=by
  simp only [aa] at hv
  rcases hv with⟨h1,h2,h3⟩|⟨b,mm,cap,h1,h2,h3⟩
  · subst h3;subst h2;rw [h1]
    exact⟨by simpa using World.ownsRow_nil w 0 e row.length,by omega,rfl⟩
  · rcases o1.2 with⟨g1,_⟩|⟨g,gT,cur,g1,g2,g3,g4,g5,g6,g7⟩
    · rw [h1] at g1;cases g1
    · rw [h1] at g1
      simp only [Value.slice.injEq,Option.some.injEq,Addr.mk.injEq,and_true] at g1
      obtain⟨rfl,rfl,rfl⟩:=g1
      refine⟨⟨?_, .inr ⟨b,cap,cur,h2,by omega,g3,by omega,g5,g6,?_⟩⟩,h3,by rw [h1,h2];rfl⟩
      · rw [List.length_take,o1.1]
        exact Nat.min_eq_left (Nat.mul_le_mul_right _ h3)
      · rw [←g7,List.take_take,Nat.min_eq_left (Nat.mul_le_mul_right _ h3)]
 obtain⟨fG,T4,T5⟩:=fG
 have gG:v.oneCell'=true :=by
  simp only [aa] at hv
  rcases hv with⟨_,h2,_⟩|⟨b,mm,cap,_,h2,_⟩<;>subst h2<;>rfl
 have hs:∀j,((oZ st k n e row l).h j).isSome→(j=70000∧bG β 70000 v j=v)∨(j≠70000∧j≠k∧(st.h j).isSome∧bG β 70000 v j=β j):=by
  intro j hj
  by_cases h7:j=70000
  · subst h7;exact .inl ⟨rfl,by simp [bG]⟩
  · simp only [oZ,aN h7,cond_false] at hj
    by_cases xY:j=k
    · subst xY;simp [bE] at hj
    · rw [aN xY] at hj
      refine .inr ⟨h7,xY,?_,by simp [bG,h7]⟩
      cases hh:st.h j with
      |none=>rw [hh] at hj;cases hj
      |some x=>rfl
 have Sw:∀j b,((oZ st k n e row l).h j).isSome→aw (bG β 70000 v j)=some b→∃j',(st.h j').isSome∧aw (β j')=some b∧((j=70000∧j'=k)∨(j≠70000∧j'=j∧j≠k)):=by
  intro j b hj hb
  rcases hs j hj with⟨h1,h2⟩|⟨h1,h2,h3,h4⟩
  · rw [h2,T5] at hb;exact⟨k,by simp [hk],hb, .inl ⟨h1,rfl⟩⟩
  · rw [h4] at hb;exact⟨j,h3,hb, .inr ⟨h1,rfl,h2⟩⟩
 refine⟨⟨hB.defers,hB.size,fun i=>rI 70000 v _ _ (hB.tmps i),fun j ab hj=> ?_,fun j j' b h1 h2 g1 g2=> ?_,hB.bound,hB.frame,hB.j6,hB.base,fun j b h1 g1=> ?_,hB.qo,hB.laid,fun j hj=> ?_⟩,?_⟩
 · by_cases h7:j=70000
   · subst h7
     simp only [oZ,bE,cond_true,Option.some.injEq] at hj
     subst hj
     have e1:bG β 70000 v 70000=v:=by simp [bG]
     simp only [BR,e1]
     refine⟨_,?_,CA.1,fun b hb=> ?_⟩
     · rw [List.length_take,Nat.min_eq_left T4];exact fG
     · rw [T5] at hb;simpa using o3 b hb
   · simp only [oZ,aN h7,cond_false] at hj
     by_cases xY:j=k
     · subst xY;simp [bE] at hj
     · rw [aN xY] at hj
       cases hh:st.h j with
       |none=>rw [hh] at hj;cases hj
       |some x=>
        rw [hh] at hj
        simp only [cond_false,Option.some.injEq] at hj
        subst hj
        exact s7 (new:= [(70000, .cells [])]) (w':=w) (A':=A) (aH:=bG β 70000 v) (fun q hq=>by
         have :¬q=70000:=by rintro rfl;simp [ao] at hq
         simp [bG,this]) (by simp [bG,h7]) (fun b _=>⟨rfl,id⟩) (fun b hb=>⟨hb,rfl⟩) (hB.blocks j x hh)
 · obtain⟨i,a1,a2,a3⟩:=Sw j b h1 g1
   obtain⟨i',b1,b2,b3⟩:=Sw j' b h2 g2
   have :=hB.apart i i' b a1 b1 a2 b2
   subst this
   rcases a3 with⟨p1,p2⟩|⟨p1,p2,p3⟩<;>rcases b3 with⟨q1,q2⟩|⟨q1,q2,q3⟩
   · rw [p1,q1]
   · exact absurd (q2.symm.trans p2) q3
   · exact absurd (p2.symm.trans q2) p3
   · exact p2.symm.trans q2
 · obtain⟨i,a1,a2,_⟩:=Sw j b h1 g1
   exact hB.mW i b a1 a2
 · have :¬j=70000:=by rintro rfl;simp [nO] at hj
   simp only [bG,if_neg this]
   exact hB.held j hj
 · simp only [aa]
   exact⟨by simp [bG],gG⟩
theorem IT(hB:aD C A β st a w) {x:AV} {v:Value}(hv:aa w A β v x):∃aH,aD C A aH (o0 st x).1 a w∧aa w A aH v (o0 st x).2:=by
 unfold o0
 split
 · rename_i k n
   split
   · rename_i e row l hk
     obtain⟨h1,h2⟩:=hB.shrink hk hv
     exact⟨_,h1,h2⟩
   · exact⟨β,hB,hv⟩
 · exact⟨β,hB,hv⟩
mutual
theorem se(hB:aD C A β st a w) {s:List (Nat×Option Nat)} {bad:Nat→Bool}(hA:∀b,A b→A' b)(hK:Keyed bad s β aH):∀(x y:AV) (v:Value),
  (∀p∈(sd st.h s bad x y).1,p)→(∀k∈(sd st.h s bad x y).2,∀b,aw (β k)=some b→A' b)→aa w A β v y→aa w A' aH v x∧∀k∈(sd st.h s bad x y).2,(st.h k).isSome
 |x,y,v,h,hF,hr=>by
  generalize he:sd st.h s bad x y=r at h hF ⊢
  unfold sd at he
  split at he
  · rename_i r0 l0 k
    subst he
    exact yx hB hA r0 l0 k v h hF hr
  · rename_i xs ys
    subst he
    simp only [aa] at hr ⊢
    obtain⟨arr,e1,e2⟩:=hr
    obtain⟨g1,g2⟩:=kn hB hA hK xs ys _ h hF e2
    exact⟨⟨arr,e1,g1⟩,g2⟩
  · rename_i xs ys
    subst he
    simp only [aa] at hr ⊢
    obtain⟨arr,e1,e2⟩:=hr
    obtain⟨g1,g2⟩:=kn hB hA hK xs ys _ h hF e2
    exact⟨⟨arr,e1,g1⟩,g2⟩
  · subst he
    exact⟨il (fun b hb=>⟨hA b hb,rfl⟩) _ _ (mf hK _ _ _ h hr),fun k hk=>by cases hk⟩
  · subst he
    obtain⟨g1,g2⟩:=oh hB hr hA hF
    exact⟨mf hK _ _ _ h g1,fun k hk=>by obtain⟨e,row,l,fr,hr⟩:=g2 k hk;simp [hr]⟩
theorem kn(hB:aD C A β st a w) {s:List (Nat×Option Nat)} {bad:Nat→Bool}(hA:∀b,A b→A' b)(hK:Keyed bad s β aH):∀(xs ys:List AV) (vs:List Value),
  (∀p∈(kI st.h s bad xs ys).1,p)→(∀k∈(kI st.h s bad xs ys).2,∀b,aw (β k)=some b→A' b)→ae w A β vs ys→ae w A' aH vs xs∧∀k∈(kI st.h s bad xs ys).2,(st.h k).isSome
 | [],[],vs,_,_,hr=>by
   simp only [ae] at hr ⊢
   exact⟨hr,fun k hk=>by simp [kI] at hk⟩
 |x::xs,y::ys,vs,h,hF,hr=>by
  simp only [kI] at h hF ⊢
  obtain⟨g1,g2⟩:=iD h
  simp only [ae] at hr ⊢
  obtain⟨v,bI,e,r1,r2⟩:=hr
  obtain⟨q1,q2⟩:=se hB hA hK x y v g1 (fun k hk=>hF k (List.mem_append_left _ hk)) r1
  obtain⟨q3,q4⟩:=kn hB hA hK xs ys bI g2 (fun k hk=>hF k (List.mem_append_right _ hk)) r2
  refine⟨⟨v,bI,e,q1,q3⟩,fun k hk=> ?_⟩
  rcases List.mem_append.1 hk with hk|hk
  · exact q2 k hk
  · exact q4 k hk
 | [],_::_,vs,h,_,_=>by simp only [kI] at h;exact(aR h).elim
 |_::_,[],vs,h,_,_=>by simp only [kI] at h;exact(aR h).elim
end
theorem aeF {k:Nat} {b:AB}(hA:∀b,A b→A' b)(hk:kindOk b=true)(wM:∀g,aw (β k)=some g→¬A g→¬A' g)(h:BR w A β k b):BR w A' β k b:=by
 have hK:cM w w A A':=fun b hb=>⟨hA b hb,rfl⟩
 cases b with
 |cells cs=>
  obtain⟨g,arr,e,h1,h2,h3,h4,h5⟩:=h
  exact⟨g,arr,e,h1,h2,wM g (by rw [h1];rfl) h3,eb hK _ _ h4,h5⟩
 |arr row l=>
  obtain⟨g,arr,e,h1,h2,h3,h4⟩:=h
  exact⟨g,arr,e,h1,h2,wM g (by rw [h1];rfl) h3,bC (fun c x hx=>bD hK row c x hx) l _ h4⟩
 |views e j n m sz=>simp [kindOk] at hk
 |gj _ _ _ _ _=>simp [kindOk] at hk
 |row e row l fr=>
  cases fr with
  |true=>simp [kindOk] at hk
  |false=>
   obtain⟨xs,x1,x2,x3⟩:=h
   refine⟨xs,x1,bC (fun c x hx=>bD hK row c x hx) l xs x2,fun b hb=> ?_⟩
   have :=x3 b hb
   simp only [Bool.false_eq_true,if_false] at this ⊢
   exact wM b hb this
theorem AS(hB:aD C A β st a w) {s:List (Nat×Option Nat)} {bad:Nat→Bool}(hA:∀b,A b→A' b)(hK:Keyed bad s β aH) {k K:Nat} {b:AB}(hk:aH K=β k)(DC:kindOk b=true)
  (h:∀p∈(pY st.h s bad (st.h k) b).1,p) (hF:∀q∈(pY st.h s bad (st.h k) b).2,∀g,aw (β q)=some g→A' g) (wM:∀g,aw (β k)=some g→¬A g→¬A' g):BR w A' aH K b:=by
 generalize he:pY st.h s bad (st.h k) b=r at h hF
 unfold pY at he
 split at he
 · rename_i xs ys ka
   subst he
   obtain⟨g,arr,e,h1,h2,h3,h4,h5⟩:=hB.blocks k _ ka
   obtain⟨q1,_⟩:=kn hB hA hK ys xs _ h hF h4
   exact⟨g,arr,e,hk.trans h1,h2,wM g (by rw [h1];rfl) h3,q1,h5⟩
 · subst he
   obtain⟨c,hc⟩:=re h
   rw [hc] at h
   exact aeF hA DC (by rw [hk];exact wM) (r6 hK hk h (hB.blocks k c hc))
theorem sf(hB:aD C A β st a w) {s:List (Nat×Option Nat)} {bad:Nat→Bool}(hK:Keyed bad s β aH) {k:Nat} {b:AB}
  (h:∀p∈(pY st.h s bad (st.h k) b).1,p):(st.h k).isSome∧∀q∈(pY st.h s bad (st.h k) b).2,(st.h q).isSome:=by
 generalize he:pY st.h s bad (st.h k) b=r at h ⊢
 unfold pY at he
 split at he
 · rename_i xs ys ka
   subst he
   obtain⟨g,arr,e,h1,h2,h3,h4,h5⟩:=hB.blocks k _ ka
   exact⟨by simp [ka],(kn (A':=fun _=>True) hB (fun _ _=>trivial) hK ys xs _ h (fun _ _ _ _=>trivial) h4).2⟩
 · subst he
   obtain⟨c,hc⟩:=re h
   exact⟨by simp [hc],fun q hq=>by cases hq⟩
theorem pZ {h:aO} {s:List (Nat×Option Nat)} {bad:Nat→Bool}:∀(bs:List (Option AB)) (i j:Nat) (b:AB),bs[j]? =some (some b)→
  (∀p∈(pY h s bad (h (50000+(i+j))) b).1,p∈(iW h s bad i bs).1)∧∀p∈(pY h s bad (h (50000+(i+j))) b).2,p∈(iW h s bad i bs).2
 |some b0::bs,i,0,b,hb=>by
  simp only [List.getElem?_cons_zero,Option.some.injEq] at hb
  subst hb
  simp only [iW]
  exact⟨fun p hp=>List.mem_append_left _ hp,fun p hp=>List.mem_append_left _ hp⟩
 |some b0::bs,i,j+1,b,hb=>by
  simp only [iW]
  have :=pZ (h:=h) (s:=s) (bad:=bad) bs (i+1) j b (by simpa using hb)
  rw [show i+1+j=i+(j+1) by omega] at this
  exact⟨fun p hp=>List.mem_append_right _ (this.1 p hp),fun p hp=>List.mem_append_right _ (this.2 p hp)⟩
 |none::bs,i,0,b,hb=>by simp at hb
 |none::bs,i,j+1,b,hb=>by
  simp only [iW]
  have :=pZ (h:=h) (s:=s) (bad:=bad) bs (i+1) j b (by simpa using hb)
  rwa [show i+1+j=i+(j+1) by omega] at this
theorem ub {h:aO} {s:List (Nat×Option Nat)} {bad:Nat→Bool}:∀(bs:List (Option AB)) (i:Nat) (q:Nat),q∈(iW h s bad i bs).2→
  ∃(j:Nat) (b:AB),bs[j]? =some (some b)∧q∈(pY h s bad (h (50000+(i+j))) b).2
 | [],i,q,hq=>by simp [iW] at hq
 |some b0::bs,i,q,hq=>by
  simp only [iW,List.mem_append] at hq
  rcases hq with hq|hq
  · exact⟨0,b0,rfl,hq⟩
  · obtain⟨j,b,h1,h2⟩:=ub bs (i+1) q hq
    exact⟨j+1,b,by simpa using h1,by rwa [show i+1+j=i+(j+1) by omega] at h2⟩
 |none::bs,i,q,hq=>by
  simp only [iW] at hq
  obtain⟨j,b,h1,h2⟩:=ub bs (i+1) q hq
  exact⟨j+1,b,by simpa using h1,by rwa [show i+1+j=i+(j+1) by omega] at h2⟩
theorem xe {h:aO} {s:List (Nat×Option Nat)} {bad:Nat→Bool}:∀(bs:List AB) (i j:Nat) (b:AB),bs[j]? =some b→
  (∀p∈(sM h s bad (60000+(i+j)) b).1,p∈(o8 h s bad i bs).1)∧∀p∈(sM h s bad (60000+(i+j)) b).2,p∈(o8 h s bad i bs).2
 |b0::bs,i,0,b,hb=>by
  simp only [List.getElem?_cons_zero,Option.some.injEq] at hb
  subst hb
  simp only [o8]
  exact⟨fun p hp=>List.mem_append_left _ hp,fun p hp=>List.mem_append_left _ hp⟩
 |b0::bs,i,j+1,b,hb=>by
  simp only [o8]
  have :=xe (h:=h) (s:=s) (bad:=bad) bs (i+1) j b (by simpa using hb)
  rw [show i+1+j=i+(j+1) by omega] at this
  exact⟨fun p hp=>List.mem_append_right _ (this.1 p hp),fun p hp=>List.mem_append_right _ (this.2 p hp)⟩
theorem DD {h:aO} {s:List (Nat×Option Nat)} {bad:Nat→Bool}:∀(bs:List AB) (i:Nat) (q:Nat),q∈(o8 h s bad i bs).2→
  ∃(j:Nat) (b:AB),bs[j]? =some b∧q∈(sM h s bad (60000+(i+j)) b).2
 | [],i,q,hq=>by simp [o8] at hq
 |b0::bs,i,q,hq=>by
  simp only [o8,List.mem_append] at hq
  rcases hq with hq|hq
  · exact⟨0,b0,rfl,hq⟩
  · obtain⟨j,b,h1,h2⟩:=DD bs (i+1) q hq
    exact⟨j+1,b,by simpa using h1,by rwa [show i+1+j=i+(j+1) by omega] at h2⟩
theorem IU(hT:bw T P) {fn:Func}(hB:aD C A β st a w) {aF:List AV}(h:jO T st fn.results.toList=some aF):∃v,(results fn a.tmps).run P w= .ok v w∧aa w A β v (e7 aF):=by
 obtain⟨vs,p1,p2⟩:=nV hT hB fn.results.toList aF h
 have hl:=cX aF vs p2
 refine⟨if h:vs.toArray.size=1 then vs.toArray[0] else .tuple vs.toArray,?_,?_⟩
 · rw [AQ,Array.mapM_eq_mapM_toList]
   simp only [Sem.run_bind,map_eq_pure_bind,p1,Result.andThen_ok,Sem.run_pure]
 · match aF,vs,hl,p2 with
   | [x],[v],_,p2=>
     simp only [ae] at p2
     obtain⟨v',bI,e,g1,_⟩:=p2
     simp only [List.cons.injEq] at e
     rw [e.1]
     simpa [e7] using g1
   | [],[],_,p2=>
     simp only [e7]
     simp [aa,ae]
   |x::y::l,v::u::m,_,p2=>
    have dH:¬(v::u::m).toArray.size=1:=by simp
    rw [dif_neg dH]
    simp only [e7,aa]
    exact⟨_,rfl,by simpa using p2⟩
theorem IV {w0:World} {A0:Nat→Prop} {G:Nat→Option GD} {xL kO:Nat→Value} {n:Nat}(hB:aD ⟨w0,A0,HM xL n,G,xL⟩ A kO st a w) {r:fY} {x:AV} {v:Value} {s:List (Nat×Option Nat)}
  (hn:r.heap.length=n) (MH:n≤100) (hA0:∀b,HM xL n b→¬A0 b) (vN:∀b,A0 b→b<w0.heap.size) (FA:aa w A kO v x) (h:IS st.h x r s):
  ∃A' aH,Ip w0 A0 xL n w v r A' aH:=by
 unfold IS at h
 cases hq:(gM (dx s)&&(((dx s).all (hJ r))&&((s.all fun y=>Nat.ble 60000 y.1)&&(((Dz st.h s x r).all fun k=> !aE (dx s) k&&hJ r k)&&(r.new.all kindOk&&r.heap.all UI))))) with
 |false=>rw [hq] at h;exact h.elim
 |true=>
  rw [hq] at h
  simp only [cond_true] at h
  simp only [Bool.and_eq_true,List.all_eq_true] at hq
  obtain⟨q1,q2,q3,q4,q5,q6⟩:=hq
  obtain⟨c1,c2⟩:=iD (om _ h)
  obtain⟨c2,c3⟩:=iD c2
  let F:=Dz st.h s x r
  let fS:Nat→Value:=fun i=>match bT s i with
   |some (some k)=>kO k
   |some none=>nL
   |none=>kO i
  have h60:∀K y,bT s K=some y→60000≤K:=by
   have :∀(l:List (Nat×Option Nat)),(∀z∈l,Nat.ble 60000 z.1=true)→∀K y,bT l K=some y→60000≤K:=by
    intro l
    induction l with
    |nil=>intro _ K y h;cases h
    |cons z l ih=>
     intro hl K y h
     obtain⟨z1,z2⟩:=z
     simp only [bT] at h
     cases hb:Nat.beq K z1 with
     |true=>rw [Nat.eq_of_beq_eq_true hb];exact Nat.le_of_ble_eq_true (hl _ (List.mem_cons_self ..))
     |false=>rw [hb] at h;exact ih (fun z hz=>hl z (List.mem_cons_of_mem _ hz)) K y h
   exact this s q3
  have UK:∀K,hJ r K=false→nO K=true∧bT s K=none∧∃ab,r.heap[K-50000]? =some (some ab):=by
   intro K hK
   simp only [hJ,M6,Bool.not_eq_false',Bool.and_eq_true] at hK
   obtain⟨k1,k2⟩:=hK
   refine⟨k1,?_,?_⟩
   · cases hl:bT s K with
     |none=>rfl
     |some y=>
      have :=h60 K y hl
      simp only [nO,Bool.and_eq_true] at k1
      have :=Nat.le_of_ble_eq_true k1.2
      omega
   · split at k2
     · rename_i ab fk;exact⟨ab,fk⟩
     · cases k2
  have vM:Keyed (hJ r) s kO fS:=⟨fun K k h=>by simp only [fS,h],fun K h=>by simp only [fS,h],fun K h _=>by simp only [fS,h],fun K h=>by simp only [fS,(UK K h).2.1]⟩
  have IW:∀i ab,r.heap[i]? =some (some ab)→i<100∧hJ r (50000+i)=false∧fS (50000+i)=kO (50000+i)∧kO (50000+i)=xL (50000+i):=by
   intro i ab hi
   have eB:=(List.getElem?_eq_some_iff.1 hi).1
   have hip:nO (50000+i)=true :=by
    simp only [nO,Bool.and_eq_true]
    exact⟨Nat.ble_eq_true_of_le (by omega),Nat.ble_eq_true_of_le (by omega)⟩
   have hb:hJ r (50000+i)=false :=by
    simp only [hJ,M6,hip,Bool.true_and,Nat.add_sub_cancel_left,hi,Bool.not_true]
   exact⟨by omega,hb,by simp only [fS,(UK _ hb).2.1],hB.held _ hip⟩
  have IX:∀q∈F,(st.h q).isSome:=by
   intro q hq
   simp only [F,Dz,List.mem_append] at hq
   rcases hq with hq|hq|hq
   · exact(se (A':=fun _=>True) hB (fun _ _=>trivial) vM r.res x v c1 (fun _ _ _ _=>trivial) FA).2 q hq
   · obtain⟨j,b,h1,h2⟩:=ub _ _ _ hq
     have hm:=pZ (h:=st.h) (s:=s) (bad:=hJ r) r.heap 0 j b h1
     exact(sf hB vM (fun p hp=>c2 p (hm.1 p hp))).2 q h2
   · obtain⟨j,b,h1,h2⟩:=DD _ _ _ hq
     have hm:=xe (h:=st.h) (s:=s) (bad:=hJ r) r.new 0 j b h1
     have hc:∀p∈(sM st.h s (hJ r) (60000+(0+j)) b).1,p:=fun p hp=>c3 p (hm.1 p hp)
     generalize hg:sM st.h s (hJ r) (60000+(0+j)) b=g at hc h2
     unfold sM at hg
     split at hg
     · subst hg;exact(sf hB vM hc).2 q h2
     · split at hg<;>(subst hg;cases h2)
     · subst hg;cases h2
  have hFA:∀q∈F,∀b,aw (kO q)=some b→bL A kO F b:=fun q hq b hb=> .inr ⟨q,hq,hb⟩
  have hAA:∀b,A b→bL A kO F b:=fun b hb=> .inl hb
  have wM:∀k,(st.h k).isSome→k∉F→∀g,aw (kO k)=some g→¬A g→¬bL A kO F g:=by
   rintro k hk hkF g hg jb (hAg|⟨j,hj,hjg⟩)
   · exact jb hAg
   · have :=hB.apart j k g (IX j hj) hk hjg hg
     subst this
     exact hkF hj
  have UL:∀k,(k∈dx s∨hJ r k=false)→k∉F:=by
   rintro k hk hF
   have h4:=q4 k hF
   rcases hk with hk|hk
   · have :=jM.2 hk
     rw [this] at h4;simp at h4
   · rw [hk] at h4;simp at h4
  have Mv:∀i ab,r.heap[i]? =some (some ab)→BR w (bL A kO F) fS (50000+i) ab∧(st.h (50000+i)).isSome:=by
   intro i ab hi
   obtain⟨_,hb,bX,_⟩:=IW i ab hi
   have hm:=pZ (h:=st.h) (s:=s) (bad:=hJ r) r.heap 0 i ab hi
   rw [Nat.zero_add] at hm
   have hl:=sf (k:=50000+i) hB vM (fun p hp=>c2 p (hm.1 p hp))
   have DC:kindOk ab=true :=q6 _ (List.mem_of_getElem? hi)
   exact⟨AS hB hAA vM bX DC (fun p hp=>c2 p (hm.1 p hp)) (fun q hq=>hFA q (by simp only [F,Dz,List.mem_append];exact .inr (.inl (hm.2 q hq)))) (wM _ hl.1 (UL _ (.inr hb))),hl.1⟩
  have hN1:∀j ab,r.new[j]? =some ab→BR w (bL A kO F) fS (60000+j) ab∧(fS (60000+j)=nL∨∃k,bT s (60000+j)=some (some k)∧fS (60000+j)=kO k∧(st.h k).isSome):=by
   intro j ab hj
   have hm:=xe (h:=st.h) (s:=s) (bad:=hJ r) r.new 0 j ab hj
   rw [Nat.zero_add] at hm
   have hc:∀p∈(sM st.h s (hJ r) (60000+j) ab).1,p:=fun p hp=>c3 p (hm.1 p hp)
   have hf:∀q∈(sM st.h s (hJ r) (60000+j) ab).2,q∈F:=fun q hq=>by simp only [F,Dz,List.mem_append];exact .inr (.inr (hm.2 q hq))
   have DC:kindOk ab=true :=q5 _ (List.mem_of_getElem? hj)
   generalize hg:sM st.h s (hJ r) (60000+j) ab=g at hc hf
   unfold sM at hg
   split at hg
   · rename_i k hk
     subst hg
     have bX:fS (60000+j)=kO k:=by simp only [fS,hk]
     have hl:=sf (k:=k) hB vM hc
     exact⟨AS hB hAA vM bX DC hc (fun q hq=>hFA q (hf q hq)) (wM _ hl.1 (UL _ (.inl (gr s _ _ hk)))), .inr ⟨k,hk,bX,hl.1⟩⟩
   · rename_i hk
     have bX:fS (60000+j)=nL:=by simp only [fS,hk]
     split at hg
     · subst hg
       exact⟨IK bX (aR hc), .inl bX⟩
     · subst hg;exact(aR hc).elim
   · subst hg;exact(aR hc).elim
  have qR:=(se hB hAA vM r.res x v c1 (fun q hq=>hFA q (by simp only [F,Dz,List.mem_append];exact .inl hq)) FA).1
  have eW:∀k b,MC r k→aw (fS k)=some b→∃k',(st.h k').isSome∧aw (kO k')=some b∧((hJ r k=false∧k'=k)∨bT s k=some (some k')):=by
   rintro k b (⟨i,ab,rfl,_,hi⟩|⟨j,rfl,hj⟩) hb
   · obtain⟨_,h1,h2,_⟩:=IW i ab hi
     rw [h2] at hb
     exact⟨_,(Mv i ab hi).2,hb, .inl ⟨h1,rfl⟩⟩
   · rcases(hN1 j _ (List.getElem?_eq_getElem hj)).2 with h|⟨k,h1,h2,h3⟩
     · rw [h] at hb;simp [nL,aw] at hb
     · rw [h2] at hb;exact⟨k,h3,hb, .inr h1⟩
  refine⟨bL A kO F,fS,⟨hB.frame.os,hB.frame.tape,hB.frame.output,hB.frame.size,fun b hb hM=>hB.frame.block b hb hM,fun b hb=>⟨.inl (hB.base b hb),hB.frame.block b (vN b hb) fun hM=>hA0 b hM hb⟩,fun b hb Cq=> ?_,fun b hb=> ?_,qR,fun i ab hi=>⟨(Mv i ab hi).1,(IW i ab hi).2.2.1.trans (IW i ab hi).2.2.2⟩,fun j ab hj=>⟨(hN1 j ab hj).1,fun b hb=> ?_⟩,fun k k' b h1 h2 g1 g2=> ?_⟩⟩
  · rcases Cq with Cq|⟨j,hj,tq⟩
    · exact hB.j6 b hb Cq
    · rcases hB.mW j b (IX j hj) tq with h|h
      · exact absurd hb (Nat.not_lt.2 h)
      · exact .inr h
  · rcases hb with hb|⟨j,hj,tq⟩
    · exact hB.bound b hb
    · exact ke hB (IX j hj) tq
  · obtain⟨k,g1,g2,_⟩:=eW _ b (.inr ⟨j,rfl,(List.getElem?_eq_some_iff.1 hj).1⟩) hb
    exact hB.mW k b g1 g2
  · obtain⟨j,a1,a2,a3⟩:=eW k b h1 g1
    obtain⟨j',b1,b2,b3⟩:=eW k' b h2 g2
    have :=hB.apart j j' b a1 b1 a2 b2
    subst this
    rcases a3 with⟨p1,p2⟩|p1<;>rcases b3 with⟨r1,r2⟩|r1
    · exact p2.symm.trans r2
    · have :=q2 j (gr s _ _ r1)
      rw [p2,p1] at this;cases this
    · have :=q2 j (gr s _ _ p1)
      rw [r2,r1] at this;cases this
    · exact r7 s q1 k k' j p1 r1
theorem KE(hT:bw T P) {fn:Func} {w0:World} {A0:Nat→Prop} {G:Nat→Option GD} {xL:Nat→Value} {n:Nat}(hB:aD ⟨w0,A0,HM xL n,G,xL⟩ A β st a w) {r:fY}
  (hn:r.heap.length=n) (MH:n≤100) (hA0:∀b,HM xL n b→¬A0 b) (vN:∀b,A0 b→b<w0.heap.size) (h:DA T st fn.results.toList r):
  ∃v,(results fn a.tmps).run P w= .ok v w∧∃A' aH,Ip w0 A0 xL n w v r A' aH:=by
 unfold DA at h
 split at h
 · exact h.elim
 · rename_i aF has
   obtain⟨v,JP,FA⟩:=IU hT hB has
   obtain⟨kO,hB,FA⟩:=IT hB FA
   exact⟨v,JP,IV hB hn MH hA0 vN FA h⟩
theorem FU(hE:ak P E)(hm:P.follows .mixedOrders=true) {f:FuncId} {fn:Func} {c:Code} {s:gk}(L:List AV→List AB→Nat→Option an)(hf:P.funcs[f]? =some fn)(hb:fn.body=some c)
  (hnf:∀cC hs r,s cC hs=some r→∀ab∈hs,sc ab=true)
  (h:∀cC hs r,s cC hs=some r→r.pre→M7 E (L cC hs) c fn.ntmps fn.results.toList cC hs r):cS P E.lj f s:=by
 intro w A β args cC hs r hA hG bA fK BH nF hp hlen DE
 have Dr:=h cC hs r nF hp
 unfold M7 at Dr
 cases hn:Nat.ble cC.length fn.ntmps with
 |false=>rw [hn] at Dr;exact Dr.elim
 |true=>
  rw [hn] at Dr
  refine calls_of_wp hf hb (eO (C:=⟨w,A,HM β hs.length,E.lj,β⟩) ⟨hE,rfl⟩ hm c _ _ _ w _ Dr ⟨A,β,aD.xd hA hG bA (Nat.le_of_ble_eq_true hn) fK BH⟩ ?_)
  intro e bQ a' w' hk _ hR
  obtain⟨A',aH,hB⟩:=hR
  have key:DA E.T bQ fn.results.toList r→bodyPost P fn (fun e w'=>∃v,e= .returned v∧∃A' aH,Ip w A β hs.length w' v r A' aH) .ret a' w':=by
   intro hk
   obtain⟨v,h1,A2,fS,h2⟩:=KE hE.fu hB hlen DE (UJ (hnf cC hs r nF) fK) hA hk
   exact⟨hB.defers,v,h1,v,rfl,A2,fS,h2⟩
  cases e with
  |norm=>exact key hk
  |ret=>exact key hk
  |exit i=>exact hk.elim
end
end Go.Vg

end
section
namespace Go.Vg
open Go
inductive TA where
 |jo (t:Ty)
 |own (k:Nat)
 |ref (k off:Nat)
 |nil
 |iR
 |jc
 |agg (l:List TA)
 |fn (f:Fn) (first bk:List TA)
mutual
@[reducible] def TA.ę:TA→List Ty
  | .jo t=> [t]
  | .agg l=>TA.fH l
  | .fn _ l m=>TA.fH l++TA.fH m
  |_=> []
@[reducible] def TA.fH:List TA→List Ty
  | []=> []
  |t::ts=>TA.ę t++TA.fH ts
end
mutual
def TA.get:TA→AV→Option (List AV)
 | .jo _,a=>some [a]
 | .own k, .own k'=>bif Nat.beq k k' then some [] else none
 | .ref k o, .ref k' o'=>bif Nat.beq k k'&&Nat.beq o o' then some [] else none
 | .nil, .nil=>some []
 | .iR, .iR=>some []
 | .jc, .jc=>some []
 | .agg l, .agg cs=>TA.sN l cs
 | .fn f l m, .fn f' cs ds=>if f=f' then vT (TA.sN l cs) (TA.sN m ds) else none
 |_,_=>none
def TA.sN:List TA→List AV→Option (List AV)
 | [],[]=>some []
 |t::ts,a::aF=>vT (TA.get t a) (TA.sN ts aF)
 |_,_=>none
end
mutual
def TA.put:TA→List AV→AV
 | .jo _,cs=>cs.headD .cW
 | .own k,_=> .own k
 | .ref k o,_=> .ref k o
 | .nil,_=> .nil
 | .iR,_=> .iR
 | .jc,_=> .jc
 | .agg l,cs=> .agg (TA.rh l cs)
 | .fn f l m,cs=> .fn f (TA.rh l (cs.take (TA.fH l).length)) (TA.rh m (cs.drop (TA.fH l).length))
def TA.rh:List TA→List AV→List AV
 | [],_=> []
 |t::ts,cs=>TA.put t (cs.take (TA.ę t).length)::TA.rh ts (cs.drop (TA.ę t).length)
end
inductive TB where
 |row (e:Nat) (row:List Ty)
 |cells (l:List TA)
 |arr (row:List Ty)
@[reducible] def TB.D:TB→Type
  | .row _ r=>List (Row r)
  | .cells l=>Row (TA.fH l)
  | .arr r=>List (Row r)
@[reducible] def gD:List TB→Type
  | []=>Unit
  |b::bs=>TB.D b×gD bs
def TB.get:(b:TB)→AB→Option (TB.D b)
 | .row e r, .row e' r' l false=>bif Nat.beq e e' then eF r' r l else none
 | .cells ts, .cells cs=>match TA.sN ts cs with
   |some aF=>jW (TA.fH ts) aF
   |none=>none
 | .arr r, .arr r' l=>eF r' r l
 |_,_=>none
def TB.put:(b:TB)→TB.D b→AB
 | .row e r,l=> .row e r l false
 | .cells ts,x=> .cells (TA.rh ts (fc (TA.fH ts) x))
 | .arr r,l=> .arr r l
def TB.ok:(b:TB)→TB.D b→Prop
 | .row _ r,l=>D.ok (.slice r) l
 | .cells ts,x=>Row.ok (TA.fH ts) x
 | .arr _,_=>True
def gD.get:(bs:List TB)→List AB→Option (gD bs)
 | [],[]=>some ()
 |b::bs,h::hs=>match TB.get b h,gD.get bs hs with
  |some x,some y=>some (x,y)
  |_,_=>none
 |_,_=>none
def gD.put:(bs:List TB)→gD bs→List AB
 | [],_=> []
 |b::bs,x=>TB.put b x.1::gD.put bs x.2
def gD.ok:(bs:List TB)→gD bs→Prop
 | [],_=>True
 |b::bs,x=>TB.ok b x.1∧gD.ok bs x.2
def iX(ts:List TA)(bs:List TB)(F:Row (TA.fH ts)→gD bs→fY):gk:=fun cC hs=>match TA.sN ts cC with
 |some cs=>match jW (TA.fH ts) cs,gD.get bs hs with
  |some x,some y=>some (F x y)
  |_,_=>none
 |none=>none
def O1(s t:gk):gk:=fun cC hs=>match s cC hs with
 |some r=>some r
 |none=>t cC hs
section
variable {P:Program} {E:Env} {w:World} {A:Nat→Prop} {β:Nat→Value}
theorem DF {α:Type} {a b:Option (List α)} {c:List α}(h:vT a b=some c):∃x y,a=some x∧b=some y∧c=x++y:=by
 cases a with
 |none=>simp [vT] at h
 |some x=>
  cases b with
  |none=>simp [vT] at h
  |some y=>simp only [vT,Option.some.injEq] at h;exact⟨x,y,rfl,rfl,h.symm⟩
theorem AT {aF bs eN:List AV} {us vs:List Value}(h1:ae w A β us aF)(hl:eN.length=(aF++bs).length)(h:ae w A β (us++vs) eN):
  ae w A β us (eN.take aF.length)∧ae w A β vs (eN.drop aF.length):=by
 obtain⟨wJ,ws,e,r1,r2⟩:=mg (eN.take aF.length) (eN.drop aF.length) _ (by rw [List.take_append_drop];exact h)
 have hu:wJ.length=us.length:=by
  rw [pX _ _ r1,pX _ _ h1,List.length_take]
  simp at hl;omega
 obtain⟨e1,e2⟩:=List.append_inj e hu.symm
 subst e1;subst e2
 exact⟨r1,r2⟩
mutual
theorem Ě:∀(t:TA) (a:AV) (cs:List AV) (v:Value),TA.get t a=some cs→aa w A β v a→
  cs.length=(TA.ę t).length∧∃vs,ae w A β vs cs∧∀eN,eN.length=cs.length→ae w A β vs eN→aa w A β v (TA.put t eN)
 |t,a,cs,v,h,hr=>by
  unfold TA.get at h
  split at h
  · simp only [Option.some.injEq] at h
    subst h
    refine⟨rfl,[v],by simp only [ae];exact⟨v,[],rfl,hr,rfl⟩,fun eN hl k9=> ?_⟩
    match eN,hl with
    | [c],_=>
      simp only [ae] at k9
      obtain⟨v',bI,e,r1,r2⟩:=k9
      simp only [List.cons.injEq] at e
      obtain⟨rfl,rfl⟩:=e
      simpa only [TA.put,List.headD] using r1
  · rename_i k k'
    cases hb:Nat.beq k k' with
    |false=>rw [hb] at h;cases h
    |true=>
     rw [hb] at h
     simp only [cond_true,Option.some.injEq] at h
     subst h
     have :=Nat.eq_of_beq_eq_true hb
     subst this
     exact⟨rfl,[],by simp [ae],fun eN _ _=>by simpa only [TA.put] using hr⟩
  · rename_i k o k' o'
    cases hb:(Nat.beq k k'&&Nat.beq o o') with
    |false=>rw [hb] at h;cases h
    |true=>
     rw [hb] at h
     simp only [cond_true,Option.some.injEq] at h
     subst h
     simp only [Bool.and_eq_true] at hb
     have h1:=Nat.eq_of_beq_eq_true hb.1
     have h2:=Nat.eq_of_beq_eq_true hb.2
     subst h1;subst h2
     exact⟨rfl,[],by simp [ae],fun eN _ _=>by simpa only [TA.put] using hr⟩
  · simp only [Option.some.injEq] at h
    subst h
    exact⟨rfl,[],by simp [ae],fun eN _ _=>by simpa only [TA.put] using hr⟩
  · simp only [Option.some.injEq] at h
    subst h
    exact⟨rfl,[],by simp [ae],fun eN _ _=>by simpa only [TA.put] using hr⟩
  · simp only [Option.some.injEq] at h
    subst h
    exact⟨rfl,[],by simp [ae],fun eN _ _=>by simpa only [TA.put] using hr⟩
  · rename_i l ds
    simp only [aa] at hr
    obtain⟨arr,rfl,hr⟩:=hr
    obtain⟨g1,vs,g2,g3⟩:=uc l ds cs _ h hr
    exact⟨g1,vs,g2,fun eN hl k9=>by simp only [TA.put,aa];exact⟨arr,rfl,g3 eN hl k9⟩⟩
  · rename_i f l m f' ds es
    split at h
    · rename_i hf
      subst hf
      obtain⟨x,y,hx,hy,rfl⟩:=DF h
      simp only [aa] at hr
      obtain⟨a1,a2,rfl,r1,r2⟩:=hr
      obtain⟨g1,us,g2,g3⟩:=uc l ds x _ hx r1
      obtain⟨q1,vs,q2,q3⟩:=uc m es y _ hy r2
      refine⟨by simp [g1,q1],us++vs,iV _ _ _ _ g2 q2,fun eN hl k9=> ?_⟩
      obtain⟨p1,p2⟩:=AT g2 hl k9
      simp only [TA.put,aa]
      rw [←g1]
      refine⟨a1,a2,rfl,g3 _ ?_ p1,q3 _ ?_ p2⟩
      · simp at hl ⊢;omega
      · simp at hl ⊢;omega
    · cases h
  · cases h
theorem uc:∀(ts:List TA) (aF cs:List AV) (CG:List Value),TA.sN ts aF=some cs→ae w A β CG aF→
  cs.length=(TA.fH ts).length∧∃vs,ae w A β vs cs∧∀eN,eN.length=cs.length→ae w A β vs eN→ae w A β CG (TA.rh ts eN)
 | [],[],cs,CG,h,hr=>by
   simp only [TA.sN,Option.some.injEq] at h
   subst h
   exact⟨rfl,[],by simp [ae],fun eN _ _=>by simpa only [TA.rh] using hr⟩
 |t::ts,a::aF,cs,CG,h,hr=>by
  simp only [TA.sN] at h
  obtain⟨x,y,hx,hy,rfl⟩:=DF h
  simp only [ae] at hr
  obtain⟨v,vs1,rfl,r1,r2⟩:=hr
  obtain⟨g1,us,g2,g3⟩:=Ě t a x v hx r1
  obtain⟨q1,vs,q2,q3⟩:=uc ts aF y vs1 hy r2
  refine⟨by simp [g1,q1],us++vs,iV _ _ _ _ g2 q2,fun eN hl k9=> ?_⟩
  obtain⟨p1,p2⟩:=AT g2 hl k9
  simp only [TA.rh,ae]
  rw [←g1]
  refine⟨v,vs1,rfl,g3 _ ?_ p1,q3 _ ?_ p2⟩
  · simp at hl ⊢;omega
  · simp at hl ⊢;omega
 | [],_::_,cs,CG,h,_=>by simp [TA.sN] at h
 |_::_,[],cs,CG,h,_=>by simp [TA.sN] at h
end
theorem zG {ts:List TA} {aF cs:List AV} {CG:List Value} {x:Row (TA.fH ts)}(h:TA.sN ts aF=some cs)(hx:jW (TA.fH ts) cs=some x)(hr:ae w A β CG aF):
  ae w A β CG (TA.rh ts (fc (TA.fH ts) x))∧Row.ok (TA.fH ts) x:=by
 obtain⟨g1,vs,g2,g3⟩:=uc ts aF cs CG h hr
 have hv:=oI _ _ _ _ g2 hx
 exact⟨g3 _ (by rw [lq,g1]) (jf _ _ _ hv),yy _ _ _ hv⟩
theorem ě:∀(b:TB) (ab:AB) (k:Nat) (y:TB.D b),TB.get b ab=some y→BR w A β k ab→BR w A β k (TB.put b y)∧TB.ok b y
 |b,ab,k,y,h,hr=>by
  unfold TB.get at h
  split at h
  · rename_i e r e' r' l
    cases hb:Nat.beq e e' with
    |false=>rw [hb] at h;cases h
    |true=>
     rw [hb] at h
     simp only [cond_true] at h
     have :=Nat.eq_of_beq_eq_true hb
     subst this
     obtain⟨er,hl⟩:=jm h
     subst er
     subst hl
     refine⟨hr,?_⟩
     obtain⟨xs,h1,h2,h3⟩:=hr
     simp only [TB.ok,D.ok]
     refine⟨?_,IM (fun c x hx=>yy _ c x hx) _ xs h2⟩
     rcases h1.2 with⟨_,h⟩|⟨g,cap,cur,_,_,_,g4,g5,_⟩
     · omega
     · exact Nat.le_trans g4 g5
  · rename_i ts cs
    split at h
    · rename_i aF has
      obtain⟨g,arr,e,h1,h2,h3,h4,h5⟩:=hr
      obtain⟨q1,q2⟩:=zG has h h4
      exact⟨⟨g,arr,e,h1,h2,h3,q1,h5⟩,q2⟩
    · cases h
  · rename_i r r' l
    obtain⟨er,hl⟩:=jm h
    subst er
    subst hl
    exact⟨hr,trivial⟩
  · cases h
theorem DG:∀(bs:List TB) (hs:List AB) (y:gD bs) (n:Nat),gD.get bs hs=some y→(∀i ab,hs[i]? =some ab→BR w A β (n+i) ab)→
  (gD.put bs y).length=hs.length∧(∀i ab,(gD.put bs y)[i]? =some ab→BR w A β (n+i) ab)∧gD.ok bs y
 | [],[],y,n,_,_=>⟨rfl,fun i ab h=>by simp [gD.put] at h,trivial⟩
 |b::bs,h::hs,y,n,hg,hr=>by
  simp only [gD.get] at hg
  split at hg
  · rename_i x z hx hz
    simp only [Option.some.injEq] at hg
    subst hg
    obtain⟨g1,g2⟩:=ě b h n x hx (hr 0 h rfl)
    obtain⟨q1,q2,q3⟩:=DG bs hs z (n+1) hz fun i ab hi=>by
     have :=hr (i+1) ab (by simpa using hi)
     rwa [show n+(i+1)=n+1+i by omega] at this
    refine⟨by simp [gD.put,q1],fun i ab hi=> ?_,g2,q3⟩
    cases i with
    |zero=>simp only [gD.put,List.getElem?_cons_zero,Option.some.injEq] at hi;subst hi;exact g1
    |succ i=>
     have :=q2 i ab (by simpa [gD.put] using hi)
     rwa [show n+1+i=n+(i+1) by omega] at this
  · cases hg
 | [],_::_,y,n,h,_=>by simp [gD.get] at h
 |_::_,[],y,n,h,_=>by simp [gD.get] at h
theorem O2:∀(bs:List TB) (y:gD bs),∀ab∈gD.put bs y,sc ab=true
 | [],_,ab,h=>by simp [gD.put] at h
 |b::bs,y,ab,h=>by
  simp only [gD.put,List.mem_cons] at h
  rcases h with rfl|h
  · cases b<;>rfl
  · exact O2 bs y.2 ab h
theorem fI(hE:ak P E)(hm:P.follows .mixedOrders=true) {f:FuncId} {fn:Func} {c:Code}(ts:List TA)(bs:List TB) {F:Row (TA.fH ts)→gD bs→fY}
  (L:Row (TA.fH ts)→gD bs→Nat→Option an) (hf:P.funcs[f]? =some fn) (hb:fn.body=some c)
  (h:∀x y,(F x y).pre→Row.ok (TA.fH ts) x→gD.ok bs y→M7 E (L x y) c fn.ntmps fn.results.toList (TA.rh ts (fc (TA.fH ts) x)) (gD.put bs y) (F x y)):cS P E.lj f (iX ts bs F):=by
 intro w A β args cC hs r hA hG bA fK BH nF hp hlen DE
 unfold iX at nF
 split at nF
 · rename_i cs c7
   split at nF
   · rename_i x y hx hy
     simp only [Option.some.injEq] at nF
     obtain⟨g1,g2⟩:=zG c7 hx bA
     obtain⟨q1,q2,q3⟩:=DG bs hs y 50000 hy fK
     have hv:cS P E.lj f (fun Gr gC=>open Classical in if Gr=TA.rh ts (fc (TA.fH ts) x)∧gC=gD.put bs y then some (F x y) else none):=by
      refine FU hE hm (fun _ _=>L x y) hf hb (fun Gr gC r' DH=> ?_) fun Gr gC r' DH sT=> ?_
      · split at DH
        · rename_i e
          obtain⟨_,rfl⟩:=e
          exact O2 bs y
        · cases DH
      · split at DH
        · rename_i e
          obtain⟨rfl,rfl⟩:=e
          simp only [Option.some.injEq] at DH
          subst DH
          exact h x y sT g2 q3
        · cases DH
     have :=hv w A β args _ _ r hA hG g1 q2 (fun i j b hi hj=>BH i j b (by rw [←q1];exact hi) (by rw [←q1];exact hj)) (by simp only [and_self,if_true,nF]) hp (by rw [q1];exact hlen) (by rw [q1];exact DE)
     rwa [q1] at this
   · cases nF
 · cases nF
theorem cS.or {G:Nat→Option GD} {f:FuncId} {s t:gk}(h1:cS P G f s)(h2:cS P G f t):cS P G f (O1 s t):=by
 intro w A β args cC hs r hA hG bA fK BH nF hp hlen DE
 unfold O1 at nF
 split at nF
 · rename_i r' k9
   simp only [Option.some.injEq] at nF
   subst nF
   exact h1 w A β args cC hs _ hA hG bA fK BH k9 hp hlen DE
 · exact h2 w A β args cC hs r hA hG bA fK BH nF hp hlen DE
def Env.gE(f:Nat)(m:List Bool)(s:gk)(E:Env):Env:= {E with nJ:=fun g=>bif Nat.beq g f then some (m,s) else E.nJ g}
theorem ak.gE(hE:ak P E) {f:FuncId} {m:List Bool} {s:gk}(h:cS P E.lj f s)(hf:aP P f):ak P (E.gE f m s):=by
 refine⟨hE.fu,hE.sig,fun g m' t hg=> ?_⟩
 simp only [Env.gE] at hg
 cases hb:Nat.beq g f with
 |true=>
  rw [hb] at hg
  simp only [cond_true,Option.some.injEq,Prod.mk.injEq] at hg
  have :=Nat.eq_of_beq_eq_true hb
  obtain⟨_,rfl⟩:=hg
  subst this
  exact⟨h,hf⟩
 |false=>
  rw [hb] at hg
  exact hE.nJ g m' t hg
end
end Go.Vg

end
section
namespace Go.S
def len {α:Type}(l:List α):Nat:=l.length
def ai(m n:Nat):Nat:=m-n
def fa {α:Type}(l:List α)(n:Nat):Prop :=n≤l.length
def nW(n m:Nat):Prop :=n≤m
def ko {α:Type}(l:List α):Int:=l.length
def small {α:Type}(l:List α):Prop :=l.length≤1099511627776
theorem lA(n:Int)(k:Nat)(h:0≤n):Vg.bf n ((2:Int)^k-1)=n%2^k:=by
 obtain⟨m,rfl⟩:=Int.eq_ofNat_of_zero_le h
 have h1:((2:Int)^k-1).toNat=2^k-1:=by
  have :(1:Nat)≤2^k:=Nat.one_le_two_pow
  have e:((2:Int)^k-1)=((2^k-1:Nat):Int):=by rw [Int.natCast_sub this];simp
  rw [e];rfl
 simp only [Vg.bf,Int.toNat_natCast,h1,Nat.and_two_pow_sub_one_eq_mod]
 rw [Int.natCast_emod];simp
theorem Sy(n:Int)(h:0≤n):Vg.bf n 7=n%8:=by simpa using lA n 3 h
theorem M8(n:Int)(h:0≤n):Vg.bf n 15=n%16:=by simpa using lA n 4 h
theorem M9(n:Int)(h:0≤n):Vg.bf n 31=n%32:=by simpa using lA n 5 h
theorem DJ(n:Int)(h:0≤n):Vg.bf n 63=n%64:=by simpa using lA n 6 h
theorem gu(n:Int)(h:0≤n):Vg.bf n 127=n%128:=by simpa using lA n 7 h
theorem iE(a b:Int)(k:Nat)(ha:0≤a)(h0:0≤b)(h:b<2^k):Vg.cF (a*2^k) b=a*2^k+b:=by
 obtain⟨m,rfl⟩:=Int.eq_ofNat_of_zero_le ha
 obtain⟨n,rfl⟩:=Int.eq_ofNat_of_zero_le h0
 have h1:((m:Int)*2^k).toNat=m*2^k:=by
  rw [show((m:Int)*2^k)=((m*2^k:Nat):Int) by simp];rfl
 have h2:n<2^k:=by exact_mod_cast h
 simp only [Vg.cF,h1,Int.toNat_natCast]
 rw [Nat.mul_comm,←Nat.two_pow_add_eq_or_of_lt h2]
 simp [Int.mul_comm]
theorem ud(a b:Int):Vg.cF a b=Vg.cF b a:=by simp only [Vg.cF,Nat.or_comm]
theorem DK(n:Int)(h:0≤n)(h1:n<128):Vg.cF n 128=n+128:=by
 rw [ud,show(128:Int)=1*2^7 by rfl,iE 1 n 7 (by omega) h h1];omega
theorem FV {α:Type}(p:α→Bool)(l:List α):(l.takeWhile p).length≤l.length:=by
 induction l with
 |nil=>simp
 |cons x l ih=>simp only [List.takeWhile_cons];split<;>simp<;>omega
end Go.S

end
section
namespace Go.S
abbrev H8:=Int×Int×Int×Int×Int×Int×Int×Int
def right(x n:Int):Int:=(x/2^n.toNat+x*2^(32-n).toNat%4294967296)%4294967296
def B6(p:List UInt8)(i:Nat):Int:=(p.getD i 0).toNat
def word(p:List UInt8)(i:Nat):Int:=B6 p (4*i)*16777216+B6 p (4*i+1)*65536+B6 p (4*i+2)*256+B6 p (4*i+3)
def akN(x:Int):Int:=Vg.kG (Vg.kG (right x 7) (right x 18)) (x/2^Int.toNat 3)
def akO(y:Int):Int:=Vg.kG (Vg.kG (right y 17) (right y 19)) (y/2^Int.toNat 10)
def aeJ(w:List Int)(n:Nat):Int:=(((w.getD (n-16) 0+akN (w.getD (n-15) 0))%4294967296+w.getD (n-7) 0)%4294967296+akO (w.getD (n-2) 0))%4294967296
def Ĝ(p:List UInt8)(w:List Int)(n:Nat):Int:=if n<16 then word p n else aeJ w n
def sched(p:List UInt8):Nat→List Int
 |0=> []
 |n+1=>sched p n++ [Ĝ p (sched p n) n]
def akP:List Int:= [1116352408,1899447441,3049323471,3921009573,961987163,1508970993,2453635748,2870763221,3624381080,310598401,607225278,1426881987,1925078388,2162078206,2614888103,3248222580,3835390401,4022224774,264347078,604807628,770255983,1249150122,1555081692,1996064986,2554220882,2821834349,2952996808,3210313671,3336571891,3584528711,113926993,338241895,666307205,773529912,1294757372,1396182291,1695183700,1986661051,2177026350,2456956037,2730485921,2820302411,3259730800,3345764771,3516065817,3600352804,4094571909,275423344,430227734,506948616,659060556,883997877,958139571,1322822218,1537002063,1747873779,1955562222,2024104815,2227730452,2361852424,2428436474,2756734187,3204031479,3329325298]
def H0:H8:=(1779033703,3144134277,1013904242,2773480762,1359893119,2600822924,528734635,1541459225)
def akQ(a:Int):Int:=Vg.kG (Vg.kG (right a 2) (right a 13)) (right a 22)
def akR(e:Int):Int:=Vg.kG (Vg.kG (right e 6) (right e 11)) (right e 25)
def ch(e f g:Int):Int:=Vg.kG (Vg.bf e f) (Vg.bf (4294967296-1-e) g)
def maj(a b c:Int):Int:=Vg.kG (Vg.kG (Vg.bf a b) (Vg.bf a c)) (Vg.bf b c)
def one(k w e f g h:Int):Int:=((((h+akR e)%4294967296+ch e f g)%4294967296+k)%4294967296+w)%4294967296
def two(a b c:Int):Int:=(akQ a+maj a b c)%4294967296
def rnd(k w:Int)(s:H8):H8:=((one k w s.2.2.2.2.1 s.2.2.2.2.2.1 s.2.2.2.2.2.2.1 s.2.2.2.2.2.2.2+two s.1 s.2.1 s.2.2.1)%4294967296,s.1,s.2.1,s.2.2.1,
 (s.2.2.2.1+one k w s.2.2.2.2.1 s.2.2.2.2.2.1 s.2.2.2.2.2.2.1 s.2.2.2.2.2.2.2)%4294967296,s.2.2.2.2.1,s.2.2.2.2.2.1,s.2.2.2.2.2.2.1)
def acS(w:List Int)(s:H8):Nat→H8
 |0=>s
 |n+1=>rnd (akP.getD n 0) (w.getD n 0) (acS w s n)
def akS(s t:H8):H8:=((s.1+t.1)%4294967296,(s.2.1+t.2.1)%4294967296,(s.2.2.1+t.2.2.1)%4294967296,(s.2.2.2.1+t.2.2.2.1)%4294967296,
 (s.2.2.2.2.1+t.2.2.2.2.1)%4294967296,(s.2.2.2.2.2.1+t.2.2.2.2.2.1)%4294967296,(s.2.2.2.2.2.2.1+t.2.2.2.2.2.2.1)%4294967296,(s.2.2.2.2.2.2.2+t.2.2.2.2.2.2.2)%4294967296)
def block(s:H8)(p:List UInt8):H8:=akS s (acS (sched p 64) s 64)
def proc(s:H8)(b:List UInt8):Nat→H8
 |0=>s
 |n+1=>block (proc s b n) ((b.drop (64*n)).take 64)
def aeK(s:H8):List Int:= [s.1,s.2.1,s.2.2.1,s.2.2.2.1,s.2.2.2.2.1,s.2.2.2.2.2.1,s.2.2.2.2.2.2.1,s.2.2.2.2.2.2.2]
def b32(w:Int):List UInt8:= [UInt8.ofNat (w/16777216%256).toNat,UInt8.ofNat (w/65536%256).toNat,UInt8.ofNat (w/256%256).toNat,UInt8.ofNat (w%256).toNat]
def akT(s:H8)(n:Nat):List UInt8:=((aeK s).take n).flatMap b32
def dig(s:H8):List UInt8:=akT s 8
def akU(n:Nat):Nat:=(119-n%64)%64
def len8(n:Int)(k:Nat):List UInt8:=(List.range k).map fun i=>UInt8.ofNat (n/2^(56-8*i)%256).toNat
def aeL(rest:List UInt8)(k:Nat):List UInt8:=rest++ [128]++List.replicate k 0
def aeM(rest:List UInt8)(n:Int)(k:Nat):List UInt8:=aeL rest (akU rest.length)++len8 (n*8) k
def tail(rest:List UInt8)(n:Int):List UInt8:=aeM rest n 8
def blocks(b:List UInt8):Nat:=b.length/64
def UM(s:H8)(b:List UInt8):H8:=proc s b (blocks b)
def sum(b:List UInt8):List UInt8:=dig (UM H0 (tail b b.length))
end Go.S
namespace Go.S
end Go.S
namespace Go.S
end Go.S
namespace Go.S
end Go.S
namespace Go.S
end Go.S

end
section
namespace Go.S
def lV:Nat→Nat→List UInt8
 |0,_=> []
 |f+1,v=>if v<128 then [UInt8.ofNat v] else UInt8.ofNat (v%128+128)::lV f (v/128)
def num(v:Int):List UInt8:=lV 9 v.toNat
def text(s:List UInt8):List UInt8:=num s.length++s
def iF(v:Int):Bool:=decide (v<0) || decide (4611686018427387904<v)
def iK(b:List UInt8)(v:Int):List UInt8:=if iF v then [] else b++num v
def hU(v:Int):Int:=if iF v then 1 else 0
def nX(l:List UInt8)(v:Int)(m:List UInt8)(u:Int):Prop :=0≤u∧u≤v∧m++num u=l++num v
def yB(l:List UInt8)(v:Int):Prop :=0≤v∧l.length≤70368744177664
def lB(l s:List UInt8):Prop :=l.length≤35184372088832∧s.length≤35184372088832
def lead(b:List UInt8):Nat:=(b.takeWhile fun x=>decide (128≤x.toNat)).length
def cI:List UInt8→Nat
 | []=>0
 |x::l=>x.toNat%128+128*cI l
def first(b:List UInt8):Int×Int×Int:=
 if 9≤lead b then(0,0,2)
 else if lead b=b.length then(0,0,4)
 else if cI (b.take (lead b+1))>4611686018427387904∨num (cI (b.take (lead b+1)))≠b.take (lead b+1) then(0,0,2)
 else(cI (b.take (lead b+1)),lead b+1,0)
def dA(b:List UInt8)(at':Int):Prop :=0≤at'∧at'≤b.length
def AU(at':Int)(x:Int×Int×Int):Int×Int×Int:=(x.1,if x.2.2=0 then at'+x.2.1 else 0,x.2.2)
def aJ(b:List UInt8)(at':Int):Int×Int×Int:=AU at' (first (b.drop at'.toNat))
def bV(b:List UInt8)(p b9:Int):List UInt8×Int×Int:=
 if(aJ b p).2.2≠0 then([],0,(aJ b p).2.2)
 else if b9<(aJ b p).1 then([],0,2)
 else if(b.length:Int)-(aJ b p).2.1<(aJ b p).1 then([],0,4)
 else((b.take ((aJ b p).2.1+(aJ b p).1).toNat).drop (aJ b p).2.1.toNat,(aJ b p).2.1+(aJ b p).1,0)
def inside(b:List UInt8)(a:Int):Bool:=decide (0≤a)&&decide (a≤b.length)
def cU(b:List UInt8)(a e:Int):Int:=if e=0∧inside b a=false then 1 else e
abbrev Rd:=List UInt8×Int×Int
def bj(b:List UInt8)(a e b9:Int):Rd×List UInt8:=
 if cU b a e≠0 then((b,a,cU b a e),[])
 else if(bV b a b9).2.2≠0 then((b,a,(bV b a b9).2.2),[])
 else((b,(bV b a b9).2.1,0),(bV b a b9).1)
def af(b:List UInt8)(a e:Int):Rd×Int:=
 if cU b a e≠0 then((b,a,cU b a e),0)
 else if(aJ b a).2.2≠0 then((b,a,(aJ b a).2.2),0)
 else((b,(aJ b a).2.1,0),(aJ b a).1)
def AW(b:List UInt8)(a e:Int):Rd×List UInt8:=
 if cU b a e≠0 then((b,a,cU b a e),[])
 else if(b.length:Int)-a<32 then((b,a,4),[])
 else((b,a+32,0),(b.drop a.toNat).take 32)
def done(b:List UInt8)(a e:Int):Int:=if e≠0 then e else if inside b a=false then 1 else if a<b.length then 2 else 0
def gv(b:List UInt8)(a:Int)(n:Nat):Prop :=n≤9∧a+n≤b.length∧∀x∈(b.drop a.toNat).take n,128≤x.toNat
def eu(b:List UInt8)(a:Int)(n:Nat):Int:=(cI ((b.drop a.toNat).take n):Int)
def yC(b:List UInt8)(n:Nat):Prop :=n≤9∧n≤b.length∧∀x∈b.take n,128≤x.toNat
theorem zH:∀(f v:Nat),(lV f v).length≤f
 |0,_=>by simp [lV]
 |f+1,v=>by
  have :=zH f (v/128)
  simp only [lV];split<;>simp<;>omega
theorem kp(v:Int):(num v).length≤9:=zH 9 _
theorem DL:∀(f g v:Nat),v<128^f→1≤f→f≤g→lV g v=lV f v
 |0,g,v,_,h,_=>by omega
 |f+1,0,v,_,_,h=>by omega
 |f+1,g+1,v,h,_,hg=>by
  simp only [lV]
  split
  · rfl
  · rename_i hv
    by_cases hf:f=0
    · subst hf;simp at h;omega
    · rw [DL f g (v/128) (by rw [Nat.pow_succ] at h;omega) (by omega) (by omega)]
theorem ĝ(v:Int)(h:v<128):num v= [UInt8.ofNat v.toNat]:=by
 simp only [num,lV];rw [if_pos (by omega)]
theorem Ğ(v:Int)(h:128≤v)(h1:v≤9223372036854775807):num v=UInt8.ofNat (v%128+128).toNat::num (v/128):=by
 simp only [num]
 rw [lV,if_neg (by omega)]
 have e:(v/128).toNat=v.toNat/128:=by omega
 rw [e,DL 8 9 (v.toNat/128) (by omega) (by omega) (by omega)]
 congr 2;omega
theorem AX:∀(l:List UInt8) (h:l≠ []),cI l=0→(l.getLast h).toNat<128→(l.getLast h).toNat=0
 | [x],_,h,hx=>by simp [cI] at h hx ⊢;omega
 |x::y::l,_,h,hx=>by
  simp only [cI] at h
  rw [List.getLast_cons (by simp)] at hx ⊢
  exact AX (y::l) (by simp) (by simp only [cI];omega) hx
theorem Gv:∀(f:Nat) (l:List UInt8) (h:l≠ []),l.length≤f→(∀x∈l.dropLast,128≤x.toNat)→(l.getLast h).toNat<128→(lV f (cI l)=l↔(l.length=1∨(l.getLast h).toNat≠0))
 |0,l,h,hl,_,_=>by
  have :l.length=0:=by omega
  exact absurd (List.eq_nil_of_length_eq_zero this) h
 |f+1,[x],_,_,_,hx=>by
  simp only [List.getLast_singleton] at hx
  have hv:cI [x]=x.toNat:=by simp only [cI];omega
  rw [lV,hv,if_pos hx]
  simp
 |f+1,x::y::l,_,hl,hd,hx=>by
  rw [List.getLast_cons (by simp)] at hx ⊢
  have Bu:128≤x.toNat:=hd x (by simp)
  have hx2:=x.toNat_lt
  have ih:=Gv f (y::l) (by simp) (by simpa using hl) (fun z hz=>hd z (by simp only [List.dropLast_cons_cons,List.mem_cons];exact .inr hz)) hx
  have e:cI (x::y::l)=x.toNat%128+128*cI (y::l):=rfl
  rw [lV,e]
  by_cases hV:cI (y::l)=0
  · have h0:=AX (y::l) (by simp) hV hx
    rw [hV,if_pos (by omega)]
    simp [h0]
  · rw [if_neg (by omega)]
    have e1:(x.toNat%128+128*cI (y::l))%128+128=x.toNat:=by omega
    have e2:(x.toNat%128+128*cI (y::l))/128=cI (y::l):=by omega
    rw [e1,e2,UInt8.ofNat_toNat]
    simp only [List.cons.injEq,true_and,ih]
    constructor
    · rintro(h|h)
      · refine .inr fun h0=> ?_
        have :l= []:=by simpa using h
        subst this
        simp [cI] at hV h0
        omega
      · exact .inr h
    · rintro(h|h)
      · simp at h
      · exact .inr h
theorem zI:∀(l:List UInt8),cI l<128^l.length
 | []=>by simp [cI]
 |x::l=>by
  have :=zI l
  simp only [cI,List.length_cons,Nat.pow_succ];omega
theorem wo:∀(l m:List UInt8),cI (l++m)=cI l+128^l.length*cI m
 | [],m=>by simp [cI]
 |x::l,m=>by
  simp only [List.cons_append,cI,wo l m,List.length_cons,Nat.pow_succ]
  rw [Nat.mul_add,←Nat.mul_assoc,Nat.mul_comm 128 (128^l.length)];omega
theorem KF(b:List UInt8)(n:Nat)(h:∀x∈b.take n,128≤x.toNat)(hn:n≤b.length)(he:n=b.length∨(b.getD n 0).toNat<128):lead b=n:=by
 induction b generalizing n with
 |nil=>simp at hn;subst hn;rfl
 |cons x b ih=>
  cases n with
  |zero=>
   rcases he with he|he
   · simp at he
   · simp only [List.getD_cons_zero] at he
     simp only [lead,List.takeWhile_cons]
     rw [if_neg (by simp;omega)];rfl
  |succ n=>
   have hx:=h x (by simp)
   have :=ih n (fun y hy=>h y (by simp [hy])) (by simpa using hn) (by simpa using he)
   simp only [lead,List.takeWhile_cons] at this ⊢
   rw [if_pos (by simpa using hx),List.length_cons,this]
theorem UN(b:List UInt8)(n:Nat)(h:∀x∈b.take n,128≤x.toNat)(hn:n≤b.length):n≤lead b:=by
 induction b generalizing n with
 |nil=>simp at hn;omega
 |cons x b ih=>
  cases n with
  |zero=>omega
  |succ n=>
   have hx:=h x (by simp)
   have :=ih n (fun y hy=>h y (by simp [hy])) (by simpa using hn)
   simp only [lead,List.takeWhile_cons] at this ⊢
   rw [if_pos (by simpa using hx),List.length_cons];omega
theorem Na(b:List UInt8)(n:Nat)(hn:n<b.length):∃h,(b.take (n+1)).getLast h=b.getD n 0:=by
 refine⟨by intro h;have :=congrArg List.length h;rw [List.length_take,List.length_nil] at this;omega,?_⟩
 rw [List.getLast_eq_getElem]
 simp only [List.length_take,List.getElem_take]
 rw [List.getD_eq_getElem?_getD,List.getElem?_eq_getElem hn,Option.getD_some]
 congr 1;omega
theorem Gw(b:List UInt8)(n:Nat)(h:∀x∈b.take n,128≤x.toNat)(hn:n<b.length)(h9:n<9)(he:(b.getD n 0).toNat<128):
  first b=if((1≤n∧(b.getD n 0).toNat=0)∨cI (b.take (n+1))>4611686018427387904) then(0,0,2) else((cI (b.take (n+1)):Int),(n:Int)+1,0):=by
 have hl:=KF b n h (by omega) (.inr he)
 obtain⟨dH,Iw⟩:=Na b n hn
 have hlen:(b.take (n+1)).length=n+1:=by rw [List.length_take];omega
 have hc:=Gv 9 (b.take (n+1)) dH (by omega) (by
  intro x hx
  rw [List.dropLast_eq_take,hlen,List.take_take] at hx
  exact h x (by rwa [show min (n+1-1) (n+1)=n by omega] at hx)) (by rw [Iw];exact he)
 simp only [first,hl,num,Int.toNat_natCast]
 rw [if_neg (by omega),if_neg (by omega)]
 rw [Iw,hlen] at hc
 have e:((cI (b.take (n+1))>4611686018427387904∨¬lV 9 (cI (b.take (n+1)))=b.take (n+1))↔((1≤n∧(b.getD n 0).toNat=0)∨cI (b.take (n+1))>4611686018427387904)):=by
  rw [hc]
  constructor
  · rintro(h|h)
    · exact .inr h
    · by_cases h0:1≤n∧(b.getD n 0).toNat=0
      · exact .inl h0
      · exact absurd (by omega) h
  · rintro(h|h)
    · exact .inr (by omega)
    · exact .inl h
 simp only [ne_eq,e]
theorem UO(b:List UInt8)(h:∀x∈b.take 9,128≤x.toNat)(hn:9≤b.length):first b=(0,0,2):=by
 have :=UN b 9 h hn
 simp only [first];rw [if_pos this]
theorem Nb(b:List UInt8)(n:Nat)(h:∀x∈b.take n,128≤x.toNat)(hn:n=b.length)(h9:n<9):first b=(0,0,4):=by
 have :=KF b n h (by omega) (.inl hn)
 simp only [first];rw [if_neg (by omega),if_pos (by omega)]
theorem vo(b:List UInt8):0≤(first b).1∧(first b).1≤4611686018427387904∧0≤(first b).2.1∧(first b).2.1≤b.length∧((first b).2.2=0∨(first b).2.2=2∨(first b).2.2=4):=by
 have hl:=FV (fun x:UInt8=>decide (128≤x.toNat)) b
 unfold first
 split
 · simp
 · split
   · simp
   · split
     · simp
     · simp only [lead,not_or,Nat.not_lt] at *;simp only [true_or,and_true];omega
theorem Sz {b:List UInt8} {x:Nat}(h:yC b x)(h1:x<b.length)(h2:x<9)(h3:128≤(b.getD x 0).toNat):yC b (x+1):=by
 refine⟨by omega,by omega,fun y hy=> ?_⟩
 rw [ay b x 0 h1] at hy
 rcases List.mem_append.1 hy with hy|hy
 · exact h.2.2 y hy
 · simp only [List.mem_singleton] at hy;subst hy;exact h3
theorem aeN {b:List UInt8}(h:yC b 9):first b=(0,0,2):=UO b h.2.2 h.2.1
theorem UP {b:List UInt8} {x:Nat}(h:yC b x)(h1:x=b.length)(h2:x≠9):first b=(0,0,4):=Nb b x h.2.2 h1 (by have :=h.1;omega)
theorem akV {b:List UInt8} {p:Int}(h:dA b p):gv b p 0:=by simp only [dA] at h;simp [gv];omega
theorem eU {b:List UInt8} {p:Int} {x:Nat}(h:gv b p x):x≤9∧p+x≤b.length:=⟨h.1,h.2.1⟩
theorem vq(b:List UInt8)(p:Int)(x:Nat)(hp:0≤p):(b.drop p.toNat).getD x 0=b.getD (p+x).toNat 0:=by
 simp only [List.getD_eq_getElem?_getD,List.getElem?_drop];congr 2;omega
theorem DN {b:List UInt8} {p:Int} {x:Nat}(hp:dA b p)(h:gv b p x):yC (b.drop p.toNat) x:=by
 simp only [dA] at hp
 exact⟨h.1,by rw [List.length_drop];have :=h.2.1;omega,h.2.2⟩
theorem SA {b:List UInt8} {p:Int} {x:Nat}(hp:dA b p)(h:gv b p x)(h1:p+x<b.length)(h2:x≠9)(h3:128≤(b.getD (p+x).toNat 0).toNat):gv b p (x+1):=by
 have sT:=hp
 simp only [dA] at sT
 have :=Sz (DN hp h) (by rw [List.length_drop];omega) (by have :=h.1;omega) (by rw [vq _ _ _ sT.1];exact h3)
 exact⟨this.1,by omega,this.2.2⟩
theorem UQ {b:List UInt8} {p:Int}(hp:dA b p)(h:gv b p 9):aJ b p=(0,0,2):=by
 simp [aJ,aeN (DN hp h),AU]
theorem KG {b:List UInt8} {p:Int} {x:Nat}(hp:dA b p)(h:gv b p x)(h1:(x:Int)=b.length-p)(h2:x≠9):aJ b p=(0,0,4):=by
 have sT:=hp
 simp only [dA] at sT
 have :=UP (DN hp h) (by rw [List.length_drop];omega) h2
 simp [aJ,this,AU]
theorem O3 {b:List UInt8} {p:Int} {x:Nat}(hp:dA b p)(h:gv b p x)(h1:p+x<b.length):
  Vg.cF (eu b p x) (Vg.bf ((b.getD (p+x).toNat 0).toNat:Int) 127*2^(7*(x:Int)).toNat)=eu b p (x+1):=by
 have sT:=hp
 simp only [dA] at sT
 have hx:x<(b.drop p.toNat).length:=by rw [List.length_drop];omega
 rw [gu _ (by omega),ud,iE _ _ _ (by omega) (by simp [eu])]
 · simp only [eu]
   rw [ay _ x 0 hx,wo,vq _ _ _ sT.1,List.length_take,Nat.min_eq_left (by omega)]
   simp only [cI,show(7*(x:Int)).toNat=7*x by omega,Nat.mul_zero,Nat.add_zero]
   rw [Int.natCast_add,Int.natCast_mul,Int.natCast_pow,Int.natCast_emod]
   rw [show((128:Nat):Int)=2^7 by rfl,←Int.pow_mul,Int.mul_comm (2^(7*x)),Int.add_comm]
   rfl
 · simp only [eu,show(7*(x:Int)).toNat=7*x by omega]
   have :=zI ((b.drop p.toNat).take x)
   have e:(128:Nat)^((b.drop p.toNat).take x).length≤128^x:=Nat.pow_le_pow_right (by omega) (by rw [List.length_take];omega)
   have e2:((2:Int)^(7*x))=((128^x:Nat):Int):=by rw [Int.natCast_pow,show((128:Nat):Int)=2^7 by rfl,←Int.pow_mul]
   rw [e2];omega
theorem akW(b:List UInt8)(p:Int):eu b p 0=0:=by simp [eu,cI]
theorem vr {b:List UInt8} {p:Int} {x:Nat}(h:x≤9):0≤eu b p x∧eu b p x≤9223372036854775807:=by
 have :=zI ((b.drop p.toNat).take x)
 have e:(128:Nat)^((b.drop p.toNat).take x).length≤128^9:=Nat.pow_le_pow_right (by omega) (by rw [List.length_take];omega)
 simp only [eu];omega
theorem sh(c:Int)(x:Nat)(h0:0≤c)(h1:c≤127)(hx:x≤8):0≤c*2^(7*(x:Int)).toNat∧c*2^(7*(x:Int)).toNat≤9223372036854775807:=by
 have sU:(2:Nat)^(7*(x:Int)).toNat≤2^56:=Nat.pow_le_pow_right (by omega) (by omega)
 have e:(2:Int)^(7*(x:Int)).toNat=((2^(7*(x:Int)).toNat:Nat):Int):=by simp
 have hp:(2:Int)^(7*(x:Int)).toNat≤72057594037927936:=by rw [e];omega
 have hq:(0:Int)<2^(7*(x:Int)).toNat:=Int.pow_pos (by omega)
 constructor
 · exact Int.mul_nonneg h0 (by omega)
 · have :=Int.mul_le_mul h1 hp (by omega) (by omega)
   omega
theorem UR {b:List UInt8} {p:Int} {x:Nat}(hp:dA b p)(h:gv b p x)(h1:p+x<b.length)(h2:x≠9)(h3:(b.getD (p+x).toNat 0).toNat<128):
  aJ b p=if((1≤x∧(b.getD (p+x).toNat 0).toNat=0)∨eu b p (x+1)>4611686018427387904) then(0,0,2) else(eu b p (x+1),p+(x+1),0):=by
 have sT:=hp
 simp only [dA] at sT
 have :=Gw (b.drop p.toNat) x h.2.2 (by rw [List.length_drop];omega) (by have :=h.1;omega) (by rw [vq _ _ _ sT.1];exact h3)
 rw [vq _ _ _ sT.1] at this
 simp only [aJ,this,eu]
 have e:(cI ((b.drop p.toNat).take (x+1))>4611686018427387904)↔((cI ((b.drop p.toNat).take (x+1)):Int)>4611686018427387904):=by omega
 simp only [e]
 rw [apply_ite (AU p)]
 rfl
theorem yD(v:Int):1≤(num v).length:=by
 simp only [num,lV];split<;>simp
theorem ue {l m:List UInt8} {v u:Int}(h:nX l v m u):m.length+1≤l.length+9:=by
 have :=congrArg List.length h.2.2
 have h1:=kp v
 have h2:=yD u
 simp only [List.length_append] at this;omega
theorem SB {l m:List UInt8} {v u:Int}(h:nX l v m u)(h1:127<u)(h2:v≤9223372036854775807):
  nX l v (m++ [UInt8.ofNat (Vg.cF (Vg.bf u 127%256) 128).toNat]) (u/2^(7:Int).toNat):=by
 have h4:=h.2.1
 have e:=Ğ u (by omega) (by omega)
 have e2:Vg.cF (Vg.bf u 127%256) 128=u%128+128:=by
  rw [gu _ (by omega),DK _ (by omega) (by omega)];omega
 have h3:=h.2.2
 rw [e] at h3
 refine⟨by simp;omega,by simp;omega,?_⟩
 rw [e2,List.append_assoc,←h3];rfl
theorem US {l m:List UInt8} {v u:Int}(h:nX l v m u)(h1:¬127<u):m++ [UInt8.ofNat (u%256).toNat]=l++num v:=by
 have e:=ĝ u (by omega)
 rw [←h.2.2,e]
 have :=h.1
 rw [show u%256=u by omega]
theorem yE {l m:List UInt8} {v u:Int}(h:nX l v m u):0≤u:=h.1
theorem aeO(x:Int)(h:0≤x)(P Q:Prop) [Decidable P] [Decidable Q]:((bif decide (1<x+1) then bif decide P then true else decide Q else decide Q)=true)↔((1≤x∧P)∨Q):=by
 by_cases h1:1<x+1<;>by_cases h2:P<;>by_cases h3:Q<;>simp [h1,h2,h3]<;>omega
theorem KH {b:List UInt8} {p:Int} {x:Nat}(hp:dA b p)(h:gv b p x)(h1:p+x<b.length)(h2:x≠9)(h3:(b.getD (p+x).toNat 0).toNat<128) {c:Bool}
  (hc:(bif decide (1<(x:Int)+1) then bif decide (((b.getD (p+((x:Int)+1)-1).toNat 0).toNat:Int)=0) then true else decide (4611686018427387904<Vg.cF (eu b p x) (Vg.bf ((b.getD (p+x).toNat 0).toNat:Int) 127*2^(7*(x:Int)).toNat)) else decide (4611686018427387904<Vg.cF (eu b p x) (Vg.bf ((b.getD (p+x).toNat 0).toNat:Int) 127*2^(7*(x:Int)).toNat)))=c):
  aJ b p=if c=true then(0,0,2) else(Vg.cF (eu b p x) (Vg.bf ((b.getD (p+x).toNat 0).toNat:Int) 127*2^(7*(x:Int)).toNat),p+(x+1),0):=by
 have hf:=UR hp h h1 h2 h3
 rw [←hc,hf]
 rw [O3 hp h h1,show p+((x:Int)+1)-1=p+x by omega]
 simp only [aeO _ (by omega :0≤(x:Int))]
 have e:(1≤x∧(b.getD (p+x).toNat 0).toNat=0)↔(1≤(x:Int)∧((b.getD (p+x).toNat 0).toNat:Int)=0):=by omega
 simp only [e,gt_iff_lt]
theorem zJ {b:List UInt8} {p:Int} {x:Nat}(hp:dA b p)(h:gv b p x)(h1:p+x<b.length)(h2:x≠9)(h3:(b.getD (p+x).toNat 0).toNat<128)
  (hc:(bif decide (1<(x:Int)+1) then bif decide (((b.getD (p+((x:Int)+1)-1).toNat 0).toNat:Int)=0) then true else decide (4611686018427387904<Vg.cF (eu b p x) (Vg.bf ((b.getD (p+x).toNat 0).toNat:Int) 127*2^(7*(x:Int)).toNat)) else decide (4611686018427387904<Vg.cF (eu b p x) (Vg.bf ((b.getD (p+x).toNat 0).toNat:Int) 127*2^(7*(x:Int)).toNat)))=true):
  0=(aJ b p).1∧0=(aJ b p).2.1∧2=(aJ b p).2.2:=by
 rw [KH hp h h1 h2 h3 hc];exact⟨rfl,rfl,rfl⟩
theorem zK {b:List UInt8} {p:Int} {x:Nat}(hp:dA b p)(h:gv b p x)(h1:p+x<b.length)(h2:x≠9)(h3:(b.getD (p+x).toNat 0).toNat<128)
  (hc:(bif decide (1<(x:Int)+1) then bif decide (((b.getD (p+((x:Int)+1)-1).toNat 0).toNat:Int)=0) then true else decide (4611686018427387904<Vg.cF (eu b p x) (Vg.bf ((b.getD (p+x).toNat 0).toNat:Int) 127*2^(7*(x:Int)).toNat)) else decide (4611686018427387904<Vg.cF (eu b p x) (Vg.bf ((b.getD (p+x).toNat 0).toNat:Int) 127*2^(7*(x:Int)).toNat)))=false):
  Vg.cF (eu b p x) (Vg.bf ((b.getD (p+x).toNat 0).toNat:Int) 127*2^(7*(x:Int)).toNat)=(aJ b p).1∧p+(x+1)=(aJ b p).2.1∧0=(aJ b p).2.2:=by
 rw [KH hp h h1 h2 h3 hc];exact⟨rfl,rfl,rfl⟩
theorem Nc {b:List UInt8} {p:Int}(hp:dA b p):0≤(aJ b p).1∧(aJ b p).1≤4611686018427387904∧0≤(aJ b p).2.1∧(aJ b p).2.1≤b.length∧((aJ b p).2.2=0∨(aJ b p).2.2=2∨(aJ b p).2.2=4):=by
 have h:=vo (b.drop p.toNat)
 simp only [dA] at hp
 rw [List.length_drop] at h
 simp only [aJ,AU]
 refine⟨h.1,h.2.1,?_,?_,h.2.2.2.2⟩<;>split<;>omega
end Go.S

end
section
namespace Go.S
def aeP(kind:Nat)(b:List UInt8):List UInt8:=UInt8.ofNat kind::b
def Nd(kind:Nat)(b:List UInt8):List UInt8:=sum (aeP kind b)
def leaf(b:List UInt8):List UInt8:=Nd 0 b
def aeQ(l r:List UInt8):List UInt8:=Nd 1 (l++r)
def akX(l r:List UInt8):Bool:=decide (l.length=32)&&decide (r.length=32)
def SC(l r:List UInt8):List UInt8:=if akX l r then aeQ l r else []
end Go.S

end
section
namespace Go.S
def bn(c:Int):Bool:=decide (0≤c)&&(decide (c≤1114111)&&(decide (c<55296) || decide (57343<c)))
def cY(c:Int):Int:=if c<128 then 1 else if c<2048 then 2 else if c<65536 then 3 else 4
def u8(c:Int):UInt8:=UInt8.ofNat c.toNat
def more(c:Int):UInt8:=u8 (128+c%64)
def enc(c:Int):List UInt8:=if c<128 then [u8 c] else if c<2048 then [u8 (192+c/64),more c] else if c<65536 then [u8 (224+c/4096),more (c/64),more c]
 else [u8 (240+c/262144),more (c/4096),more (c/64),more c]
def fb(c:Int):List UInt8:=if bn c then enc c else []
def sO(c:Int):Int:=if bn c then 0 else 1
def cb(b:List UInt8):Int:=((b.getD 0 0).toNat:Int)
def uN(b:List UInt8):Nat:=if cb b<128 then 1 else if cb b/32=6 then 2 else if cb b/16=14 then 3 else if cb b/8=30 then 4 else 0
def uC(b:List UInt8):Int:=if cb b/32=6 then cb b%32 else if cb b/16=14 then cb b%16 else cb b%8
def bB(b:List UInt8):Nat→Int
 |0=>uC b
 |k+1=>bB b k*64+((b.getD (k+1) 0).toNat:Int)%64
def o9(b:List UInt8)(n:Nat):Bool:=((b.drop 1).take (n-1)).all fun x=>x.toNat/64==2
def aM(b:List UInt8):Int×Int:=
 if uN b=1 then(cb b,1)
 else if uN b=0∨b.length<uN b∨o9 b (uN b)=false∨bn (bB b (uN b-1))=false∨cY (bB b (uN b-1))≠uN b then(65533,1)
 else(bB b (uN b-1),uN b)
def p0:Nat→List UInt8→List Int
 |0,_=> []
 |f+1,b=>if b.isEmpty then [] else(aM b).1::p0 f (b.drop (aM b).2.toNat)
def decode(b:List UInt8):List Int:=p0 b.length b
def kq:List (Int×Int):= [(65,90),(97,122),(192,214),(216,246),(248,255),(913,929),(931,937),(945,969),(1024,1119)]
def iY:List (Int×Int×Int):= [(65,90,32),(192,214,32),(216,222,32),(913,929,32),(931,937,32),(1024,1039,80),(1040,1071,32)]
def jQ(c:Int)(s:Int×Int):Bool:=decide (s.1≤c)&&decide (c≤s.2)
def letter(c:Int):Bool:=kq.any (jQ c)
def digit(c:Int):Bool:=decide (48≤c)&&decide (c≤57)
def br(c:Int):Int:=match iY.find? (fun s=>jQ c (s.1,s.2.1)) with
 |some s=>c+s.2.2
 |none=>c
def kX(c:Int)(k:Nat):Prop :=k≤9∧∀s∈kq.take k,jQ c s=false
def lC(c:Int)(k:Nat):Prop :=k≤7∧∀s∈iY.take k,jQ c (s.1,s.2.1)=false
def kY(b:List UInt8)(k:Nat):Prop :=(2≤uN b∧k+1≤uN b∧uN b≤b.length)∧∀x∈(b.drop 1).take k,x.toNat/64=2
def nY(b:List UInt8)(r:List UInt8)(l:List Int):Prop :=l++decode r=decode b∧r.length+l.length≤b.length
theorem bM(b:List UInt8)(m:Int)(h1:1≤m)(h:m≤b.length):(List.drop (Int.toNat 1) (List.take (Int.toNat m) b)).length=m.toNat-1:=by
 rw [List.length_drop,List.length_take];omega
theorem hX(b:List UInt8)(m:Int)(x:Nat)(h:(x:Int)+1<m):List.getD (List.drop (Int.toNat 1) (List.take (Int.toNat m) b)) (Int.toNat (x:Int)) 0=b.getD (x+1) 0:=by
 simp only [List.getD_eq_getElem?_getD,List.getElem?_drop,List.getElem?_take,Int.toNat_natCast,show Int.toNat 1=1 by rfl]
 rw [if_pos (by omega),Nat.add_comm]
theorem jR(b:List UInt8)(m:Int)(x:Nat)(h:(x:Int)+1<m):List.getD (List.drop (Int.toNat 1) (List.take (Int.toNat m) b)) x 0=b.getD (x+1) 0:=hX b m x h
section
variable {b:List UInt8} {n x:Nat}
theorem pa(h1:¬((b.getD (Int.toNat 0) 0).toNat:Int)<128)(h2:((b.getD (Int.toNat 0) 0).toNat:Int)/2^Int.toNat 5=6):uN b=2:=by
 have e:((b.getD (Int.toNat 0) 0).toNat:Int)=cb b:=rfl
 simp only [e,show Int.toNat 5=5 by rfl,show Int.toNat 4=4 by rfl,show Int.toNat 3=3 by rfl] at *
 unfold uN
 (repeat' split)<;>omega
theorem pb(h1:¬((b.getD (Int.toNat 0) 0).toNat:Int)<128)(h2:¬((b.getD (Int.toNat 0) 0).toNat:Int)/2^Int.toNat 5=6)(h3:((b.getD (Int.toNat 0) 0).toNat:Int)/2^Int.toNat 4=14):uN b=3:=by
 have e:((b.getD (Int.toNat 0) 0).toNat:Int)=cb b:=rfl
 simp only [e,show Int.toNat 5=5 by rfl,show Int.toNat 4=4 by rfl,show Int.toNat 3=3 by rfl] at *
 unfold uN
 (repeat' split)<;>omega
theorem pc(h1:¬((b.getD (Int.toNat 0) 0).toNat:Int)<128)(h2:¬((b.getD (Int.toNat 0) 0).toNat:Int)/2^Int.toNat 5=6)(h3:¬((b.getD (Int.toNat 0) 0).toNat:Int)/2^Int.toNat 4=14)
  (h4:((b.getD (Int.toNat 0) 0).toNat:Int)/2^Int.toNat 3=30):uN b=4:=by
 have e:((b.getD (Int.toNat 0) 0).toNat:Int)=cb b:=rfl
 simp only [e,show Int.toNat 5=5 by rfl,show Int.toNat 4=4 by rfl,show Int.toNat 3=3 by rfl] at *
 unfold uN
 (repeat' split)<;>omega
theorem uf1(h1:((b.getD (Int.toNat 0) 0).toNat:Int)<128):aM b=(((b.getD (Int.toNat 0) 0).toNat:Int),1):=by
 have hn:uN b=1:=by
  unfold uN;exact if_pos h1
 simp only [aM,hn,if_true];rfl
theorem uf0(h1:¬((b.getD (Int.toNat 0) 0).toNat:Int)<128)(h2:¬((b.getD (Int.toNat 0) 0).toNat:Int)/2^Int.toNat 5=6)(h3:¬((b.getD (Int.toNat 0) 0).toNat:Int)/2^Int.toNat 4=14)
  (h4:¬((b.getD (Int.toNat 0) 0).toNat:Int)/2^Int.toNat 3=30):aM b=(65533,1):=by
 have hn:uN b=0:=by
  have e:((b.getD (Int.toNat 0) 0).toNat:Int)=cb b:=rfl
  simp only [e,show Int.toNat 5=5 by rfl,show Int.toNat 4=4 by rfl,show Int.toNat 3=3 by rfl] at *
  unfold uN
  (repeat' split)<;>omega
 simp [aM,hn]
theorem IY(hn:uN b=n)(h2:2≤n)(h:b.length<n∨o9 b n=false∨bn (bB b (n-1))=false∨cY (bB b (n-1))≠n):aM b=(65533,1):=by
 subst hn
 simp only [aM]
 rw [if_neg (by omega),if_pos (.inr h)]
theorem oq(hn:uN b=n)(h2:2≤n)(h:(b.length:Int)<n):aM b=(65533,1):=IY hn h2 (.inl (by omega))
theorem Nf(hn:uN b=n)(h2:2≤n)(h:¬(b.length:Int)<n):kY b 0:=⟨by omega,by simp⟩
theorem ak0(h2:((b.getD (Int.toNat 0) 0).toNat:Int)/2^Int.toNat 5=6):Vg.bf ((b.getD (Int.toNat 0) 0).toNat:Int) 31=bB b 0:=by
 rw [M9 _ (by omega)]
 have e:((b.getD (Int.toNat 0) 0).toNat:Int)=cb b:=rfl
 simp only [e,show Int.toNat 5=5 by rfl,show Int.toNat 4=4 by rfl,show Int.toNat 3=3 by rfl] at *
 unfold bB uC
 (repeat' split)<;>omega
theorem ak1(h2:¬((b.getD (Int.toNat 0) 0).toNat:Int)/2^Int.toNat 5=6)(h3:((b.getD (Int.toNat 0) 0).toNat:Int)/2^Int.toNat 4=14):Vg.bf ((b.getD (Int.toNat 0) 0).toNat:Int) 15=bB b 0:=by
 rw [M8 _ (by omega)]
 have e:((b.getD (Int.toNat 0) 0).toNat:Int)=cb b:=rfl
 simp only [e,show Int.toNat 5=5 by rfl,show Int.toNat 4=4 by rfl,show Int.toNat 3=3 by rfl] at *
 unfold bB uC
 (repeat' split)<;>omega
theorem ak2(h2:¬((b.getD (Int.toNat 0) 0).toNat:Int)/2^Int.toNat 5=6)(h3:¬((b.getD (Int.toNat 0) 0).toNat:Int)/2^Int.toNat 4=14):Vg.bf ((b.getD (Int.toNat 0) 0).toNat:Int) 7=bB b 0:=by
 rw [Sy _ (by omega)]
 have e:((b.getD (Int.toNat 0) 0).toNat:Int)=cb b:=rfl
 simp only [e,show Int.toNat 5=5 by rfl,show Int.toNat 4=4 by rfl,show Int.toNat 3=3 by rfl] at *
 unfold bB uC
 (repeat' split)<;>omega
theorem KI(b:List UInt8):∀k,k≤4→0≤bB b k∧bB b k*64^(4-k)≤536870911
 |0,_=>by simp only [bB,uC];split<;>(try split)<;>omega
 |k+1,h=>by
  have ih:=KI b k (by omega)
  simp only [bB]
  refine⟨by omega,?_⟩
  rw [show 4-k=(4-(k+1))+1 by omega,Int.pow_succ] at ih
  have :k=0∨k=1∨k=2∨k=3:=by omega
  rcases this with rfl|rfl|rfl|rfl<;>simp at ih ⊢ <;>omega
theorem bx(h:kY b x):x≤3∧0≤bB b x∧bB b x≤536870911∧2≤uN b∧uN b≤4∧x+1≤uN b∧uN b≤b.length:=by
 have h4:uN b≤4:=by simp only [uN];repeat' split<;>try omega
 have hx:x≤3:=by have :=h.1;omega
 have :=KI b x (by omega)
 have hp:(1:Int)≤64^(4-x):=by
  have :x=0∨x=1∨x=2∨x=3:=by omega
  rcases this with rfl|rfl|rfl|rfl<;>decide
 have hm:bB b x*1≤bB b x*64^(4-x):=Int.mul_le_mul_of_nonneg_left hp this.1
 exact⟨hx,this.1,by omega,h.1.1,h4,h.1.2.1,h.1.2.2⟩
theorem Ng(h1:1≤x)(h:x<b.length)(m:Nat)(hm:x≤m):b.getD x 0∈(b.drop 1).take m:=by
 have eB:x-1<((b.drop 1).take m).length:=by rw [List.length_take,List.length_drop];omega
 have :((b.drop 1).take m)[x-1]=b.getD x 0:=by
  rw [List.getElem_take,List.getElem_drop,List.getD_eq_getElem?_getD]
  rw [List.getElem?_eq_getElem h,Option.getD_some]
  congr 1;omega
 rw [←this];exact List.getElem_mem eB
theorem ri(hn:uN b=n)(h:kY b x)(hx:x+1<n)(hb:¬((b.getD (x+1) 0).toNat:Int)/2^Int.toNat 6=2):aM b=(65533,1):=by
 have bz:=bx h
 refine IY hn (by omega) (.inr (.inl ?_))
 cases hc:o9 b n with
 |false=>rfl
 |true=>
  simp only [o9,List.all_eq_true] at hc
  have :=hc _ (Ng (b:=b) (x:=x+1) (by omega) (by omega) (n-1) (by omega))
  simp only [beq_iff_eq] at this
  simp only [show Int.toNat 6=6 by rfl] at hb
  omega
theorem IZ(h:kY b x)(hb:((b.getD (x+1) 0).toNat:Int)/2^Int.toNat 6=2)(hx:x+1<uN b):kY b (x+1):=by
 refine⟨by have :=h.1;omega,fun y hy=> ?_⟩
 have bz:=bx h
 have hl:x<(b.drop 1).length:=by rw [List.length_drop];omega
 rw [ay _ x 0 hl] at hy
 rcases List.mem_append.1 hy with hy|hy
 · exact h.2 y hy
 · simp only [List.mem_singleton,List.getD_eq_getElem?_getD,List.getElem?_drop] at hy
   subst hy
   simp only [List.getD_eq_getElem?_getD,show Int.toNat 6=6 by rfl,Nat.add_comm x 1] at hb
   omega
theorem Nh(h:kY b x)(hx:x+1<uN b):Vg.cF (bB b x*2^Int.toNat 6) (Vg.bf ((b.getD (x+1) 0).toNat:Int) 63)=bB b (x+1):=by
 have :=bx h
 rw [DJ _ (by omega),show Int.toNat 6=6 by rfl,iE _ _ 6 this.2.1 (by omega) (by omega)]
 rfl
theorem KJ(h:kY b x)(hx:x+1=uN b):o9 b (uN b)=true :=by
 simp only [o9,List.all_eq_true,←hx,Nat.add_sub_cancel]
 intro y hy
 simpa using h.2 y hy
theorem ğ {c:Bool}(hn:uN b=n)(h:kY b x)(hx:x+1=n)(hc:(bif !bn (bB b x) then true else !decide (cY (bB b x)=(n:Int)))=c):aM b=if c=true then(65533,1) else(bB b x,(n:Int)):=by
 have hb:=bx h
 have aeR:=KJ h (by omega)
 subst hn
 simp only [aM,←hx,Nat.add_sub_cancel]
 rw [hx,aeR]
 rw [if_neg (by omega)]
 rw [hx] at *
 cases hr:bn (bB b x)<;>by_cases hs:cY (bB b x)=(uN b:Int)<;>simp [hr,hs] at hc ⊢ <;>subst hc<;>simp<;>omega
end
theorem Ġ(c:Int):Vg.cF (c%64) 128=((more c).toNat:Int):=by
 rw [DK _ (by omega) (by omega)]
 simp only [more,u8]
 rw [UInt8.toNat_ofNat'];omega
theorem dD {c:Int}(h:bn c=true):0≤c∧c≤1114111:=by
 simp only [bn,Bool.and_eq_true,decide_eq_true_eq] at h;exact⟨h.1,h.2.1⟩
theorem Ni(x:UInt8):UInt8.ofNat (Int.toNat (x.toNat:Int))=x:=by simp
theorem ġ(c:Int)(h0:0≤c)(h:c<128): [UInt8.ofNat (Int.toNat (c%256))]=enc c:=by
 simp only [enc,if_pos h,u8,show c%256=c by omega]
theorem Ģ(d:Int)(h0:0≤d)(h:d<32):Vg.cF 192 d=192+d:=by
 rw [show(192:Int)=6*2^5 by rfl,iE 6 d 5 (by omega) h0 h]
theorem ģ(d:Int)(h0:0≤d)(h:d<16):Vg.cF 224 d=224+d:=by
 rw [show(224:Int)=14*2^4 by rfl,iE 14 d 4 (by omega) h0 h]
theorem Ĥ(d:Int)(h0:0≤d)(h:d<8):Vg.cF 240 d=240+d:=by
 rw [show(240:Int)=30*2^3 by rfl,iE 30 d 3 (by omega) h0 h]
theorem ĥ(c:Int)(h0:0≤c)(h:128≤c∧c<2048): [UInt8.ofNat (Int.toNat (Vg.cF 192 (c/2^Int.toNat 6%256))),UInt8.ofNat (Int.toNat ((more c).toNat:Int))]=enc c:=by
 simp only [enc,if_neg (by omega :¬c<128),if_pos h.2,Ni,u8,show Int.toNat 6=6 by rfl]
 rw [show c/2^6%256=c/64 by omega,Ģ _ (by omega) (by omega)]
theorem Ħ(c:Int)(h0:0≤c)(h:2048≤c∧c<65536): [UInt8.ofNat (Int.toNat (Vg.cF 224 (c/2^Int.toNat 12%256))),UInt8.ofNat (Int.toNat ((more (c/2^Int.toNat 6)).toNat:Int)),UInt8.ofNat (Int.toNat ((more c).toNat:Int))]=enc c:=by
 simp only [enc,if_neg (by omega :¬c<128),if_neg (by omega :¬c<2048),if_pos h.2,Ni,u8,show Int.toNat 6=6 by rfl,show Int.toNat 12=12 by rfl]
 rw [show c/2^12%256=c/4096 by omega,ģ _ (by omega) (by omega),show c/2^6=c/64 by omega]
theorem ħ(c:Int)(h0:0≤c)(h1:c≤1114111)(h:65536≤c): [UInt8.ofNat (Int.toNat (Vg.cF 240 (c/2^Int.toNat 18%256))),UInt8.ofNat (Int.toNat ((more (c/2^Int.toNat 12)).toNat:Int)),UInt8.ofNat (Int.toNat ((more (c/2^Int.toNat 6)).toNat:Int)),UInt8.ofNat (Int.toNat ((more c).toNat:Int))]=enc c:=by
 simp only [enc,if_neg (by omega :¬c<128),if_neg (by omega :¬c<2048),if_neg (by omega :¬c<65536),Ni,u8,show Int.toNat 6=6 by rfl,show Int.toNat 12=12 by rfl,show Int.toNat 18=18 by rfl]
 rw [show c/2^18%256=c/262144 by omega,Ĥ _ (by omega) (by omega),show c/2^6=c/64 by omega,show c/2^12=c/4096 by omega]
theorem pd(b:List UInt8)(h:0<b.length):1≤(aM b).2∧(aM b).2≤b.length∧0≤(aM b).1∧(aM b).1≤1114111:=by
 unfold aM
 split
 · have :=(b.getD 0 0).toNat_lt
   simp only [cb];omega
 · split
   · simp only;omega
   · rename_i h1 h2
     simp only [not_or,Bool.not_eq_false] at h2
     have :=dD h2.2.2.2.1
     simp only;omega
theorem yF:∀(f g:Nat) (b:List UInt8),b.length≤f→b.length≤g→p0 f b=p0 g b
 |0,0,b,_,_=>rfl
 |0,g+1,b,h,_=>by
  have :b= []:=List.eq_nil_of_length_eq_zero (by omega)
  subst this;simp [p0]
 |f+1,0,b,_,h=>by
  have :b= []:=List.eq_nil_of_length_eq_zero (by omega)
  subst this;simp [p0]
 |f+1,g+1,b,h1,h2=>by
  simp only [p0]
  cases hb:b.isEmpty with
  |true=>rfl
  |false=>
   have hl:0<b.length:=by
    rw [List.isEmpty_eq_false_iff] at hb
    exact List.length_pos_iff.2 hb
   have :=pd b hl
   simp only [Bool.false_eq_true,if_false]
   rw [yF f g _ (by rw [List.length_drop];omega) (by rw [List.length_drop];omega)]
theorem KK:decode []= []:=rfl
theorem si(b:List UInt8)(h:0<b.length):decode b=(aM b).1::decode (b.drop (aM b).2.toNat):=by
 have hb:=pd b h
 unfold decode
 obtain⟨n,hn⟩:∃n,b.length=n+1:=⟨b.length-1,by omega⟩
 rw [hn]
 simp only [p0]
 have :b.isEmpty=false :=by rw [List.isEmpty_eq_false_iff];exact List.length_pos_iff.1 h
 rw [this]
 simp only [Bool.false_eq_true,if_false]
 rw [yF n _ _ (by rw [List.length_drop];omega) (Nat.le_refl _)]
theorem aeS(b:List UInt8):nY b b []:=⟨rfl,by simp⟩
theorem I0 {b r:List UInt8} {l:List Int}(h:nY b r l)(hr:0<(r.length:Int)):1≤(aM r).2∧(aM r).2≤r.length∧r.length+l.length≤b.length:=by
 have :=pd r (by omega)
 exact⟨this.1,this.2.1,h.2⟩
theorem SD {b r:List UInt8} {l:List Int}(h:nY b r l)(hr:0<(r.length:Int)):nY b (r.drop (aM r).2.toNat) (l++ [(aM r).1]):=by
 have hb:=pd r (by omega)
 refine⟨?_,?_⟩
 · rw [List.append_assoc,List.singleton_append,←si r (by omega)];exact h.1
 · have :=h.2
   rw [List.length_drop,List.length_append];simp;omega
theorem UT {b r:List UInt8} {l:List Int}(h:nY b r l)(hr:¬0<(r.length:Int)):l=decode b:=by
 have :r= []:=List.eq_nil_of_length_eq_zero (by omega)
 subst this
 have :=h.1
 rw [KK,List.append_nil] at this;exact this
theorem uf(b:List UInt8):(decode b).length≤b.length:=by
 have :∀f (c:List UInt8),(p0 f c).length≤f:=by
  intro f
  induction f with
  |zero=>intro c;simp [p0]
  |succ f ih=>intro c;simp only [p0];split;simp;have :=ih (c.drop (aM c).2.toNat);simp;omega
 exact this _ _
theorem yG(a b:Bool):(bif a then b else false)=(a&&b):=by cases a<;>rfl
theorem nine {x:Nat}(h:(x:Int)<9):x=0∨x=1∨x=2∨x=3∨x=4∨x=5∨x=6∨x=7∨x=8:=by omega
theorem DO {c:Int} {x:Nat}(h:(x:Int)<9):(bif decide (List.getD [65,97,192,216,248,913,931,945,1024] (Int.toNat (x:Int)) 0≤c) then decide (c≤List.getD [90,122,214,246,255,929,937,969,1119] (Int.toNat (x:Int)) 0) else false)=jQ c (kq.getD x (0,0)):=by
 rcases nine h with rfl|rfl|rfl|rfl|rfl|rfl|rfl|rfl|rfl<;>simp only [jQ,kq,Int.toNat_natCast,List.getD_cons_zero,List.getD_cons_succ,yG]
theorem Nj {c:Int} {x:Nat}(h:(x:Int)<9)(hc:(bif decide (List.getD [65,97,192,216,248,913,931,945,1024] (Int.toNat (x:Int)) 0≤c) then decide (c≤List.getD [90,122,214,246,255,929,937,969,1119] (Int.toNat (x:Int)) 0) else false)=true):true=letter c:=by
 rw [DO h] at hc
 symm
 simp only [letter,List.any_eq_true]
 exact⟨_,bu kq x (0,0) (by simp only [kq,List.length_cons,List.length_nil];omega),hc⟩
theorem Nk {c:Int} {x:Nat}(hi:kX c x)(h:(x:Int)<9)(hc:(bif decide (List.getD [65,97,192,216,248,913,931,945,1024] (Int.toNat (x:Int)) 0≤c) then decide (c≤List.getD [90,122,214,246,255,929,937,969,1119] (Int.toNat (x:Int)) 0) else false)=false):kX c (x+1):=by
 rw [DO h] at hc
 refine⟨by omega,fun s hs=> ?_⟩
 rw [ay kq x (0,0) (by simp only [kq,List.length_cons,List.length_nil];omega)] at hs
 rcases List.mem_append.1 hs with hs|hs
 · exact hi.2 s hs
 · rw [List.mem_singleton.1 hs];exact hc
theorem Nl {c:Int} {x:Nat}(hi:kX c x)(h:¬(x:Int)<9):false=letter c:=by
 symm
 have hx:x=9:=by have :=hi.1;omega
 subst hx
 simp only [letter,List.any_eq_false]
 intro s hs
 have :=hi.2 s (by simpa [kq] using hs)
 rw [this];simp
theorem seven {x:Nat}(h:(x:Int)<7):x=0∨x=1∨x=2∨x=3∨x=4∨x=5∨x=6:=by omega
theorem Gx {c:Int} {x:Nat}(h:(x:Int)<7):(bif decide (List.getD [65,192,216,913,931,1024,1040] (Int.toNat (x:Int)) 0≤c) then decide (c≤List.getD [90,214,222,929,937,1039,1071] (Int.toNat (x:Int)) 0) else false)=jQ c ((iY.getD x (0,0,0)).1,(iY.getD x (0,0,0)).2.1)∧
  List.getD ([32,32,32,32,32,80,32]:List Int) (Int.toNat (x:Int)) 0=(iY.getD x (0,0,0)).2.2:=by
 rcases seven h with rfl|rfl|rfl|rfl|rfl|rfl|rfl<;>simp only [jQ,iY,Int.toNat_natCast,List.getD_cons_zero,List.getD_cons_succ,yG,and_self]
theorem AY {α:Type}(p:α→Bool)(d:α):∀(l:List α) (x:Nat),x<l.length→(∀s∈l.take x,p s=false)→p (l.getD x d)=true→l.find? p=some (l.getD x d)
 | [],x,h,_,_=>by simp at h
 |a::l,0,_,_,h=>by simp only [List.getD_cons_zero] at h ⊢;simp [List.find?_cons,h]
 |a::l,x+1,hx,h1,h=>by
  have ha:=h1 a (by simp)
  simp only [List.getD_cons_succ] at h ⊢
  rw [List.find?_cons,ha]
  exact AY p d l x (by simpa using hx) (fun s hs=>h1 s (by simp [hs])) h
theorem Gy {c:Int} {x:Nat}(hi:lC c x)(h:(x:Int)<7)(hc:(bif decide (List.getD [65,192,216,913,931,1024,1040] (Int.toNat (x:Int)) 0≤c) then decide (c≤List.getD [90,214,222,929,937,1039,1071] (Int.toNat (x:Int)) 0) else false)=true):
  c+List.getD ([32,32,32,32,32,80,32]:List Int) (Int.toNat (x:Int)) 0=br c∧(c≤1071∧65≤c∧List.getD ([32,32,32,32,32,80,32]:List Int) (Int.toNat (x:Int)) 0≤80∧0≤List.getD ([32,32,32,32,32,80,32]:List Int) (Int.toNat (x:Int)) 0):=by
 have KL:=Gx (c:=c) h
 refine⟨?_,?_⟩
 · rw [KL.1] at hc
   rw [KL.2]
   simp only [br]
   rw [AY (fun s=>jQ c (s.1,s.2.1)) (0,0,0) iY x (by simp only [iY,List.length_cons,List.length_nil];omega) hi.2 hc]
 · rcases seven h with rfl|rfl|rfl|rfl|rfl|rfl|rfl<;>simp [List.getD] at hc ⊢ <;>omega
theorem SE {c:Int} {x:Nat}(hi:lC c x)(h:(x:Int)<7)(hc:(bif decide (List.getD [65,192,216,913,931,1024,1040] (Int.toNat (x:Int)) 0≤c) then decide (c≤List.getD [90,214,222,929,937,1039,1071] (Int.toNat (x:Int)) 0) else false)=false):lC c (x+1):=by
 rw [(Gx h).1] at hc
 refine⟨by omega,fun s hs=> ?_⟩
 rw [ay iY x (0,0,0) (by simp only [iY,List.length_cons,List.length_nil];omega)] at hs
 rcases List.mem_append.1 hs with hs|hs
 · exact hi.2 s hs
 · rw [List.mem_singleton.1 hs];exact hc
theorem SF {c:Int} {x:Nat}(hi:lC c x)(h:¬(x:Int)<7):c=br c:=by
 have hx:x=7:=by have :=hi.1;omega
 subst hx
 simp only [br]
 rw [List.find?_eq_none.2 (fun s hs=>by rw [hi.2 s (by simpa [iY] using hs)];simp)]
theorem rj {b:List UInt8} {n x:Nat} {m:Int}(hn:uN b=n)(h:kY b x)(hx:x+1=n)(hc:bn (bB b x)=false∨¬cY (bB b x)=m)(hm:(n:Int)=m):aM b=(65533,1):=by
 subst hm
 have hb:=bx h
 refine IY hn (by omega) ?_
 rw [show n-1=x by omega]
 rcases hc with hc|hc
 · exact .inr (.inr (.inl hc))
 · exact .inr (.inr (.inr hc))
theorem rk {b:List UInt8} {n x:Nat} {m:Int}(hn:uN b=n)(h:kY b x)(hx:x+1=n)(hc:bn (bB b x)=true∧cY (bB b x)=m)(hm:(n:Int)=m):aM b=(bB b x,m):=by
 subst hm
 have :=ğ (c:=false) hn h hx (by simp [hc.1,hc.2])
 simpa using this
theorem Nn {A B:Prop} [Decidable A] [Decidable B](h:A∧B):(bif decide A then decide B else false)=true :=by simp [h.1,h.2]
theorem UU {A B:Prop} [Decidable A] [Decidable B](h:¬A∨¬B):(bif decide A then decide B else false)=false :=by
 by_cases ha:A<;>by_cases hb:B<;>simp_all
end Go.S
namespace Go.S
def B7(c:Int):Bool:=(decide (0≤c)&&decide (c<55296)) || (decide (57343<c)&&decide (c<1114112))
def dY(c a b:Int):Bool:=decide (a≤c)&&decide (c≤b)
def O4(n:Int):Int:= [0,0,192,224,240].getD n.toNat 0
def UW(b:List UInt8)(n:Int):Nat→Int
 |0=>cb b-O4 n
 |k+1=>UW b n k*64+((b.getD (k+1) 0).toNat:Int)-128
def bH(b:List UInt8)(n:Int):Int:=if(b.length:Int)<n then -1 else UW b n (n.toNat-1)
def nM(b:List UInt8)(k:Nat):Bool:=B7 (bH b k)&&decide (enc (bH b k)=b.take k)
def qE(b:List UInt8):Nat→Int×Int
 |0=>(65533,1)
 |k+1=>if nM b (k+1) then(bH b (k+1:Nat),((k+1:Nat):Int)) else qE b k
theorem Np(c:Int):B7 c=bn c:=by
 simp only [B7,bn]
 by_cases h1:0≤c<;>by_cases h2:c<55296<;>by_cases h3:57343<c<;>by_cases h4:c≤1114111<;>simp [h1,h2,h3,h4]<;>omega
theorem zL {c:Int} {y:UInt8}(h0:0≤c)(h1:c<256):u8 c=y↔c=(y.toNat:Int):=by
 have hy:=y.toNat_lt
 constructor
 · intro h
   have :=congrArg UInt8.toNat h
   simp only [u8] at this
   rw [UInt8.toNat_ofNat'] at this
   omega
 · intro h
   subst h;simp [u8]
theorem DP {c:Int} {y:UInt8}:more c=y↔128+c%64=(y.toNat:Int):=zL (by omega) (by omega)
theorem aeT {c:Int} {y0:UInt8}(h0:0≤c)(h1:c≤1114111):enc c= [y0]↔c<128∧c=(y0.toNat:Int):=by
 unfold enc
 split
 · simp only [List.cons.injEq,and_true,zL h0 (by omega), *,true_and]
 · (repeat' split)<;>simp<;>omega
theorem UX {c:Int} {y0 y1:UInt8}(h0:0≤c)(h1:c≤1114111):enc c= [y0,y1]↔128≤c∧c<2048∧192+c/64=(y0.toNat:Int)∧128+c%64=(y1.toNat:Int):=by
 unfold enc
 split
 · simp;omega
 · split
   · simp only [List.cons.injEq,and_true,zL (c:=192+c/64) (by omega) (by omega),DP];omega
   · (repeat' split)<;>simp<;>omega
theorem UY {c:Int} {y0 y1 y2:UInt8}(h0:0≤c)(h1:c≤1114111):enc c= [y0,y1,y2]↔2048≤c∧c<65536∧224+c/4096=(y0.toNat:Int)∧128+c/64%64=(y1.toNat:Int)∧128+c%64=(y2.toNat:Int):=by
 unfold enc
 split
 · simp;omega
 · split
   · simp;omega
   · split
     · simp only [List.cons.injEq,and_true,zL (c:=224+c/4096) (by omega) (by omega),DP];omega
     · simp;omega
theorem UZ {c:Int} {y0 y1 y2 y3:UInt8}(h0:0≤c)(h1:c≤1114111):enc c= [y0,y1,y2,y3]↔65536≤c∧240+c/262144=(y0.toNat:Int)∧128+c/4096%64=(y1.toNat:Int)∧128+c/64%64=(y2.toNat:Int)∧128+c%64=(y3.toNat:Int):=by
 unfold enc
 split
 · simp;omega
 · split
   · simp;omega
   · split
     · simp;omega
     · simp only [List.cons.injEq,and_true,zL (c:=240+c/262144) (by omega) (by omega),DP];omega
def hY(b:List UInt8)(k:Nat):Prop :=uN b=k∧k≤b.length∧(k=1∨(o9 b k=true∧bn (bB b (k-1))=true∧cY (bB b (k-1))=(k:Int)))
theorem rl(b:List UInt8)(k:Nat):nM b k=true↔bn (bH b k)=true∧enc (bH b k)=b.take k:=by
 simp only [nM,Np,Bool.and_eq_true,decide_eq_true_eq]
theorem Nq {b:List UInt8} {k:Nat}(h:b.length<k):nM b k=false :=by
 have :bH b k= -1:=by simp only [bH];rw [if_pos (by omega)]
 simp only [nM,this,B7];rfl
theorem KM(b:List UInt8):0≤cb b∧cb b<256:=by have :=(b.getD 0 0).toNat_lt;simp only [cb];omega
theorem I1(x0:UInt8)(l:List UInt8):(nM (x0::l) 1=true↔hY (x0::l) 1)∧bH (x0::l) 1=cb (x0::l):=by
 have hb:bH (x0::l) 1=cb (x0::l):=by
  simp only [bH];rw [if_neg (by simp;omega)];simp [UW,O4]
 refine⟨?_,hb⟩
 have hl:=KM (x0::l)
 rw [rl]
 show bn (bH (x0::l) 1)=true∧enc (bH (x0::l) 1)= [x0]↔_
 rw [hb]
 have hr:bn (cb (x0::l))=true :=by simp [bn];omega
 rw [aeT hl.1 (by omega),hr]
 simp only [hY,uN,true_or,and_true,List.length_cons,true_and]
 have :cb (x0::l)=(x0.toNat:Int):=rfl
 constructor
 · intro h;rw [if_pos h.1];exact⟨rfl,by omega⟩
 · intro h
   refine⟨?_,this⟩
   by_cases h1:cb (x0::l)<128
   · exact h1
   · rw [if_neg h1] at h;(repeat' split at h)<;>omega
theorem SG(b:List UInt8):uN b=2↔cb b/32=6:=by unfold uN;(repeat' split)<;>omega
theorem SH(b:List UInt8):uN b=3↔cb b/16=14:=by unfold uN;(repeat' split)<;>omega
theorem SI(b:List UInt8):uN b=4↔cb b/8=30:=by unfold uN;(repeat' split)<;>omega
theorem KN(c:Int):cY c=2↔128≤c∧c<2048:=by unfold cY;(repeat' split)<;>omega
theorem KO(c:Int):cY c=3↔2048≤c∧c<65536:=by unfold cY;(repeat' split)<;>omega
theorem KP(c:Int):cY c=4↔65536≤c:=by unfold cY;(repeat' split)<;>omega
theorem dy(c:Int):bn c=true↔0≤c∧c≤1114111∧(c<55296∨57343<c):=by simp [bn]
theorem U0(x0 x1:UInt8)(l:List UInt8):(nM (x0::x1::l) 2=true↔hY (x0::x1::l) 2)∧(hY (x0::x1::l) 2→bH (x0::x1::l) 2=bB (x0::x1::l) 1):=by
 have h0:=x0.toNat_lt;have h1:=x1.toNat_lt
 have hb:bH (x0::x1::l) 2=((x0.toNat:Int)-192)*64+x1.toNat-128:=by
  simp only [bH];rw [if_neg (by simp;omega)];rfl
 have hl:cb (x0::x1::l)=(x0.toNat:Int):=rfl
 have ha:cb (x0::x1::l)/32=6→bB (x0::x1::l) 1=(x0.toNat:Int)%32*64+(x1.toNat:Int)%64:=by
  intro h
  simp only [bB,uC];rw [if_pos h];rfl
 have hg:hY (x0::x1::l) 2↔(cb (x0::x1::l)/32=6∧(x1.toNat/64=2∧bn (bB (x0::x1::l) 1)=true∧cY (bB (x0::x1::l) 1)=2)):=by
  simp only [hY,SG]
  simp [o9]
 rw [hg,rl]
 show(bn (bH (x0::x1::l) 2)=true∧enc (bH (x0::x1::l) 2)= [x0,x1]↔_)∧_
 rw [hb]
 refine⟨⟨fun⟨g1,g2⟩=> ?_,fun⟨g1,g2,g3,g4⟩=> ?_⟩,fun⟨g1,g2,g3,g4⟩=> ?_⟩
 · rw [dy] at g1
   rw [UX (by omega) (by omega)] at g2
   have g6:cb (x0::x1::l)/32=6:=by rw [hl];omega
   refine⟨g6,by omega,?_,?_⟩
   · rw [ha g6,dy];omega
   · rw [ha g6,KN];omega
 · rw [ha g1] at g3 g4
   rw [dy] at g3;rw [KN] at g4;rw [hl] at g1
   have :((x0.toNat:Int)-192)*64+x1.toNat-128=(x0.toNat:Int)%32*64+(x1.toNat:Int)%64:=by omega
   rw [this,dy]
   refine⟨g3,?_⟩
   rw [UX (by omega) (by omega)];omega
 · rw [ha g1];rw [hl] at g1;omega
theorem U1(x0 x1 x2:UInt8)(l:List UInt8):(nM (x0::x1::x2::l) 3=true↔hY (x0::x1::x2::l) 3)∧(hY (x0::x1::x2::l) 3→bH (x0::x1::x2::l) 3=bB (x0::x1::x2::l) 2):=by
 have h0:=x0.toNat_lt;have h1:=x1.toNat_lt;have h2:=x2.toNat_lt
 have hb:bH (x0::x1::x2::l) 3=(((x0.toNat:Int)-224)*64+x1.toNat-128)*64+x2.toNat-128:=by
  simp only [bH];rw [if_neg (by simp;omega)];rfl
 have hl:cb (x0::x1::x2::l)=(x0.toNat:Int):=rfl
 have ha:cb (x0::x1::x2::l)/16=14→bB (x0::x1::x2::l) 2=((x0.toNat:Int)%16*64+(x1.toNat:Int)%64)*64+(x2.toNat:Int)%64:=by
  intro h
  simp only [bB,uC];rw [if_neg (by omega),if_pos h];rfl
 have hg:hY (x0::x1::x2::l) 3↔(cb (x0::x1::x2::l)/16=14∧((x1.toNat/64=2∧x2.toNat/64=2)∧bn (bB (x0::x1::x2::l) 2)=true∧cY (bB (x0::x1::x2::l) 2)=3)):=by
  simp only [hY,SH]
  simp [o9]
 rw [hg,rl]
 show(bn (bH (x0::x1::x2::l) 3)=true∧enc (bH (x0::x1::x2::l) 3)= [x0,x1,x2]↔_)∧_
 rw [hb]
 refine⟨⟨fun⟨g1,g2⟩=> ?_,fun⟨g1,g2,g3,g4⟩=> ?_⟩,fun⟨g1,g2,g3,g4⟩=> ?_⟩
 · rw [dy] at g1
   rw [UY (by omega) (by omega)] at g2
   have g6:cb (x0::x1::x2::l)/16=14:=by rw [hl];omega
   refine⟨g6,by omega,?_,?_⟩
   · rw [ha g6,dy];omega
   · rw [ha g6,KO];omega
 · rw [ha g1] at g3 g4
   rw [dy] at g3;rw [KO] at g4;rw [hl] at g1
   have :(((x0.toNat:Int)-224)*64+x1.toNat-128)*64+x2.toNat-128=((x0.toNat:Int)%16*64+(x1.toNat:Int)%64)*64+(x2.toNat:Int)%64:=by omega
   rw [this,dy]
   refine⟨g3,?_⟩
   rw [UY (by omega) (by omega)];omega
 · rw [ha g1];rw [hl] at g1;omega
theorem U2(x0 x1 x2 x3:UInt8)(l:List UInt8):(nM (x0::x1::x2::x3::l) 4=true↔hY (x0::x1::x2::x3::l) 4)∧(hY (x0::x1::x2::x3::l) 4→bH (x0::x1::x2::x3::l) 4=bB (x0::x1::x2::x3::l) 3):=by
 have h0:=x0.toNat_lt;have h1:=x1.toNat_lt;have h2:=x2.toNat_lt;have h3:=x3.toNat_lt
 have hb:bH (x0::x1::x2::x3::l) 4=((((x0.toNat:Int)-240)*64+x1.toNat-128)*64+x2.toNat-128)*64+x3.toNat-128:=by
  simp only [bH];rw [if_neg (by simp;omega)];rfl
 have hl:cb (x0::x1::x2::x3::l)=(x0.toNat:Int):=rfl
 have ha:cb (x0::x1::x2::x3::l)/8=30→bB (x0::x1::x2::x3::l) 3=(((x0.toNat:Int)%8*64+(x1.toNat:Int)%64)*64+(x2.toNat:Int)%64)*64+(x3.toNat:Int)%64:=by
  intro h
  simp only [bB,uC];rw [if_neg (by omega),if_neg (by omega)];rfl
 have hg:hY (x0::x1::x2::x3::l) 4↔(cb (x0::x1::x2::x3::l)/8=30∧((x1.toNat/64=2∧x2.toNat/64=2∧x3.toNat/64=2)∧bn (bB (x0::x1::x2::x3::l) 3)=true∧cY (bB (x0::x1::x2::x3::l) 3)=4)):=by
  simp only [hY,SI]
  simp [o9]
 rw [hg,rl]
 show(bn (bH (x0::x1::x2::x3::l) 4)=true∧enc (bH (x0::x1::x2::x3::l) 4)= [x0,x1,x2,x3]↔_)∧_
 rw [hb]
 refine⟨⟨fun⟨g1,g2⟩=> ?_,fun⟨g1,g2,g3,g4⟩=> ?_⟩,fun⟨g1,g2,g3,g4⟩=> ?_⟩
 · rw [dy] at g1
   rw [UZ (by omega) (by omega)] at g2
   have g6:cb (x0::x1::x2::x3::l)/8=30:=by rw [hl];omega
   refine⟨g6,by omega,?_,?_⟩
   · rw [ha g6,dy];omega
   · rw [ha g6,KP];omega
 · rw [ha g1] at g3 g4
   rw [dy] at g3;rw [KP] at g4;rw [hl] at g1
   have :((((x0.toNat:Int)-240)*64+x1.toNat-128)*64+x2.toNat-128)*64+x3.toNat-128=(((x0.toNat:Int)%8*64+(x1.toNat:Int)%64)*64+(x2.toNat:Int)%64)*64+(x3.toNat:Int)%64:=by omega
   rw [this,dy]
   refine⟨g3,?_⟩
   rw [UZ (by omega) (by omega)];omega
 · rw [ha g1];rw [hl] at g1;omega
theorem pe(b:List UInt8)(k:Nat)(hb:0<b.length)(h1:1≤k)(h4:k≤4):(nM b k=true↔hY b k)∧(hY b k→bH b k=bB b (k-1)∨(k=1∧bH b k=cb b)):=by
 by_cases hs:b.length<k
 · rw [Nq hs]
   exact⟨⟨fun h=>absurd h (by decide),fun h=>absurd h.2.1 (by omega)⟩,fun h=>absurd h.2.1 (by omega)⟩
 · have :k=1∨k=2∨k=3∨k=4:=by omega
   match b,this with
   | [],_=>simp at hb
   |x0::l, .inl h=>subst h;exact⟨(I1 x0 l).1,fun _=> .inr ⟨rfl,(I1 x0 l).2⟩⟩
   |x0::x1::l, .inr (.inl h)=>subst h;exact⟨(U0 x0 x1 l).1,fun g=> .inl ((U0 x0 x1 l).2 g)⟩
   |x0::x1::x2::l, .inr (.inr (.inl h))=>subst h;exact⟨(U1 x0 x1 x2 l).1,fun g=> .inl ((U1 x0 x1 x2 l).2 g)⟩
   |x0::x1::x2::x3::l, .inr (.inr (.inr h))=>subst h;exact⟨(U2 x0 x1 x2 x3 l).1,fun g=> .inl ((U2 x0 x1 x2 x3 l).2 g)⟩
   | [_], .inr (.inl h)=>subst h;simp at hs
   | [_], .inr (.inr (.inl h))=>subst h;simp at hs
   | [_,_], .inr (.inr (.inl h))=>subst h;simp at hs
   | [_], .inr (.inr (.inr h))=>subst h;simp at hs
   | [_,_], .inr (.inr (.inr h))=>subst h;simp at hs
   | [_,_,_], .inr (.inr (.inr h))=>subst h;simp at hs
theorem KQ {b:List UInt8} {k:Nat}(h:hY b k)(h1:1≤k)(h4:k≤4)(hb:0<b.length):aM b=(bH b k,(k:Int)):=by
 have ht:=(pe b k hb h1 h4).2 h
 obtain⟨hn,hl,hr⟩:=h
 simp only [aM,hn]
 by_cases hk:k=1
 · subst hk
   rw [if_pos rfl]
   rcases ht with ht|ht
   · obtain⟨x0,l,rfl⟩:∃x0 l,b=x0::l:=by cases b with
      |nil=>simp at hb
      |cons x l=>exact⟨x,l,rfl⟩
     have e:bH (x0::l) ((1:Nat):Int)=cb (x0::l):=(I1 x0 l).2
     rw [e];rfl
   · rw [ht.2];rfl
 · rw [if_neg hk]
   rcases hr with hr|hr
   · omega
   · rw [if_neg (by simp only [not_or];refine⟨by omega,by omega,by simp [hr.1],by simp [hr.2.1],by simp [hr.2.2]⟩)]
     rcases ht with ht|ht
     · rw [ht]
     · omega
theorem Gz {b:List UInt8}(hb:0<b.length)(n:Nat):∀k,k≤4→(∀j,j≤k→1≤j→¬hY b j)→qE b k=(65533,1)
 |0,_,_=>rfl
 |k+1,h4,h=>by
  simp only [qE]
  have :nM b (k+1)=false :=by
   cases ht:nM b (k+1) with
   |false=>rfl
   |true=>exact absurd ((pe b (k+1) hb (by omega) h4).1.1 ht) (h _ (Nat.le_refl _) (by omega))
  rw [this]
  exact Gz hb n k (by omega) (fun j hj=>h j (by omega))
theorem xf {b:List UInt8}(hb:0<b.length) {n:Nat}(hg:hY b n)(h1:1≤n):∀k,k≤4→n≤k→qE b k=(bH b n,(n:Int))
 |0,_,h=>by omega
 |k+1,h4,h=>by
  simp only [qE]
  by_cases hk:n=k+1
  · subst hk
    rw [(pe b (k+1) hb (by omega) h4).1.2 hg,if_pos rfl]
  · have :nM b (k+1)=false :=by
     cases ht:nM b (k+1) with
     |false=>rfl
     |true=>
      have :=(pe b (k+1) hb (by omega) h4).1.1 ht
      have h2:=this.1;have h3:=hg.1;omega
    rw [this]
    exact xf hb hg h1 k (by omega) (by omega)
theorem U3(b:List UInt8):uN b≤4:=by unfold uN;(repeat' split)<;>omega
theorem AZ(b:List UInt8)(hb:0<b.length):qE b 4=aM b:=by
 by_cases hg:hY b (uN b)∧1≤uN b
 · rw [xf hb hg.1 hg.2 4 (Nat.le_refl _) (U3 b),KQ hg.1 hg.2 (U3 b) hb]
 · rw [Gz hb 0 4 (Nat.le_refl _) (fun j hj h1 h=>hg (by have :=h.1;rw [this];exact⟨h,h1⟩))]
   symm
   simp only [aM]
   by_cases h1:uN b=1
   · exfalso;apply hg
     exact⟨⟨rfl,by omega, .inl h1⟩,by omega⟩
   · rw [if_neg h1]
     rw [if_pos]
     by_cases h0:uN b=0
     · exact .inl h0
     · refine .inr ?_
       by_cases hl:b.length<uN b
       · exact .inl hl
       · refine .inr ?_
         cases hc:o9 b (uN b) with
         |false=>exact .inl rfl
         |true=>
          cases hr:bn (bB b (uN b-1)) with
          |false=>exact .inr (.inl rfl)
          |true=>
           refine .inr (.inr fun hs=>hg ⟨⟨rfl,by omega, .inr ⟨hc,hr,hs⟩⟩,by omega⟩)
theorem Nr(c:Int):letter c=(dY c 65 90 || (dY c 97 122 || (dY c 192 214 || (dY c 216 246 || (dY c 248 255 || (dY c 913 929 || (dY c 931 937 || (dY c 945 969 || dY c 1024 1119)))))))):=by
 simp only [letter,kq,jQ,dY,List.any_cons,List.any_nil,Bool.or_false]
theorem zM {c:Int}(h:dY c 1024 1039=true):c+80=br c∧c≤1039∧1024≤c:=by
 simp only [dY,Bool.and_eq_true,decide_eq_true_eq] at h
 refine⟨?_,by omega⟩
 have :∀a e:Int,e<1024→(decide (a≤c)&&decide (c≤e))=false :=fun a e he=>by
  rw [decide_eq_false (p:=c≤e) (by omega),Bool.and_false]
 simp only [br,iY,jQ,List.find?_cons]
 rw [this _ _ (by decide),this _ _ (by decide),this _ _ (by decide),this _ _ (by decide),this _ _ (by decide)]
 simp only [decide_eq_true h.1,decide_eq_true h.2,Bool.and_self]
theorem zN {c:Int}(h:dY c 1024 1039=false)(hc:dY c 65 90=true∨dY c 192 214=true∨dY c 216 222=true∨dY c 913 929=true∨dY c 931 937=true∨dY c 1040 1071=true):c+32=br c∧c≤1071∧65≤c:=by
 have hb:c≤1071∧65≤c:=by
  simp only [dY,Bool.and_eq_true,decide_eq_true_eq] at hc;omega
 refine⟨?_,hb⟩
 have e:∀a b:Int,jQ c (a,b)=dY c a b:=fun _ _=>rfl
 simp only [br,iY,List.find?_cons,e,h]
 cases h1:dY c 65 90<;>cases h2:dY c 192 214<;>cases h3:dY c 216 222<;>cases h4:dY c 913 929<;>cases h5:dY c 931 937<;>cases h6:dY c 1040 1071<;>simp_all
theorem ug {c:Int}(h:dY c 1024 1039=false)(hc:dY c 65 90=false∧dY c 192 214=false∧dY c 216 222=false∧dY c 913 929=false∧dY c 931 937=false∧dY c 1040 1071=false):c=br c:=by
 have e:∀a b:Int,jQ c (a,b)=dY c a b:=fun _ _=>rfl
 simp only [br,iY,List.find?_cons,e,h,hc,List.find?_nil]
end Go.S

end
section
namespace Go.S
def iG(c:Int):Bool:=letter c || digit c
def iH(t:List UInt8):List Int→List UInt8
 | []=>t
 |c::w=>if 64<t.length+(fb (br c)).length then t else iH (t++fb (br c)) w
def fX(w:List Int):List UInt8:=iH [] w
def U4(w:List Int):Prop :=w.length≤1099511627776∧∀c∈w,bn c=true
def lD(w:List Int)(k:Nat)(t:List UInt8):Prop :=iH t (w.drop k)=fX w∧k≤w.length∧t.length≤64
def la(acc:List Int):List Int→List (List Int)
 | []=>if acc.isEmpty then [] else [acc]
 |c::l=>if iG c then la (acc++ [c]) l else if acc.isEmpty then la [] l else acc::la [] l
def bJ(b:List UInt8):List (List UInt8):=(la [] (decode b)).map fX
def gO(d:List Int)(k:Nat)(T:List (List UInt8))(W:List Int):Prop :=
 T++(la W (d.drop k)).map fX=(la [] d).map fX∧k≤d.length∧T.length≤k∧W.length≤k∧(∀c∈W,c∈d)
def isTerm(s:List UInt8):Bool:=decide (bJ s= [s])
def ku(l:List (List UInt8)):Nat→Nat
 |0=>0
 |k+1=>if Op.bytesLess (l.getD k []) (l.getD (ku l k) []) then k else ku l k
def hZ(l:List (List UInt8)):Nat:=ku l l.length
theorem I2(c:Int):br c=c∨(65≤c∧c≤1071∧(br c=c+32∨br c=c+80)):=by
 cases h:dY c 1024 1039 with
 |true=>have :=zM h;omega
 |false=>
  by_cases h2:dY c 65 90=true∨dY c 192 214=true∨dY c 216 222=true∨dY c 913 929=true∨dY c 931 937=true∨dY c 1040 1071=true
  · have :=zN h h2;omega
  · simp only [not_or,Bool.not_eq_true] at h2
    exact .inl (ug h h2).symm
theorem yH {c:Int}(h:bn c=true):bn (br c)=true :=by
 have :=I2 c
 rw [dy] at *
 omega
theorem FW(b:List UInt8):bn (aM b).1=true :=by
 unfold aM
 split
 · rename_i h
   have :=KM b
   have e:bn (cb b)=true :=(dy _).2 (by omega)
   exact e
 · split
   · have e:bn 65533=true :=by rw [dy];omega
     exact e
   · rename_i h1 h2
     simp only [not_or,Bool.not_eq_false] at h2
     have e:bn (bB b (uN b-1))=true :=by have :=h2.2.2.2.1;assumption
     simp only;exact e
theorem mH(b:List UInt8):∀c∈decode b,bn c=true :=by
 have :∀f (x:List UInt8),∀c∈p0 f x,bn c=true :=by
  intro f
  induction f with
  |zero=>intro x c h;simp [p0] at h
  |succ f ih=>
   intro x c h
   simp only [p0] at h
   split at h
   · cases h
   · rcases List.mem_cons.1 h with h|h
     · rw [h];exact FW x
     · exact ih _ c h
 exact this _ b
theorem pg {α:Type}(l:List α)(k:Nat)(d:α)(h:k<l.length):l.drop k=l.getD k d::l.drop (k+1):=by
 rw [List.drop_eq_getElem_cons h,List.getD_eq_getElem?_getD,List.getElem?_eq_getElem h,Option.getD_some]
theorem Ĩ(w:List Int):lD w 0 []:=⟨rfl,Nat.zero_le _,by simp⟩
theorem Ns {w:List Int} {k:Nat} {t:List UInt8}(h:lD w k t)(hk:(k:Int)<w.length)(hs:¬(64:Int)<(t.length:Int)+((fb (br (w.getD (Int.toNat (k:Int)) 0))).length:Int)):lD w (k+1) (t++fb (br (w.getD (Int.toNat (k:Int)) 0))):=by
 obtain⟨h1,h2,h3⟩:=h
 rw [Int.toNat_natCast] at *
 rw [pg w k 0 (by omega)] at h1
 simp only [iH] at h1
 rw [if_neg (by omega)] at h1
 exact⟨h1,by omega,by rw [List.length_append];omega⟩
theorem Nt {w:List Int} {k:Nat} {t:List UInt8}(h:lD w k t)(hk:(k:Int)<w.length)(hs:(64:Int)<(t.length:Int)+((fb (br (w.getD (Int.toNat (k:Int)) 0))).length:Int)):t=fX w:=by
 obtain⟨h1,h2,h3⟩:=h
 rw [Int.toNat_natCast] at *
 rw [pg w k 0 (by omega)] at h1
 simp only [iH] at h1
 rw [if_pos (by omega)] at h1
 exact h1
theorem SJ {w:List Int} {k:Nat} {t:List UInt8}(h:lD w k t)(hk:¬(k:Int)<w.length):t=fX w:=by
 obtain⟨h1,h2,h3⟩:=h
 rw [List.drop_eq_nil_of_le (by omega)] at h1
 exact h1
theorem U5(c:Int):(enc c).length≤4:=by unfold enc;(repeat' split)<;>simp
theorem GA(c:Int):(fb c).length≤4:=by unfold fb;split;exact U5 c;simp
theorem aeU(d:List Int):gO d 0 [] []:=⟨rfl,Nat.zero_le _,by simp,by simp,by simp⟩
theorem SK {d:List Int} {k:Nat} {T:List (List UInt8)} {W:List Int}(h:gO d k T W)(hk:(k:Int)<d.length)(hw:iG (d.getD (Int.toNat (k:Int)) 0)=true):gO d (k+1) T (W++ [d.getD (Int.toNat (k:Int)) 0]):=by
 obtain⟨h1,h2,h3,h4,h5⟩:=h
 rw [Int.toNat_natCast] at *
 rw [pg d k 0 (by omega)] at h1
 simp only [la] at h1
 rw [if_pos hw] at h1
 refine⟨h1,by omega,by omega,by simp;omega,fun c hc=> ?_⟩
 rcases List.mem_append.1 hc with hc|hc
 · exact h5 c hc
 · rw [List.mem_singleton.1 hc];exact bu d k 0 (by omega)
theorem U6 {d:List Int} {k:Nat} {T:List (List UInt8)} {W:List Int}(h:gO d k T W)(hk:(k:Int)<d.length)(hw:iG (d.getD (Int.toNat (k:Int)) 0)=false)(hW:(0:Int)<W.length):gO d (k+1) (T++ [fX W]) []:=by
 obtain⟨h1,h2,h3,h4,h5⟩:=h
 rw [Int.toNat_natCast] at *
 rw [pg d k 0 (by omega)] at h1
 simp only [la] at h1
 rw [if_neg (by rw [hw];decide),if_neg (by cases W;simp at hW;simp)] at h1
 refine⟨?_,by omega,by simp;omega,by simp,by simp⟩
 rw [List.append_assoc];exact h1
theorem SL {d:List Int} {k:Nat} {T:List (List UInt8)} {W:List Int}(h:gO d k T W)(hk:(k:Int)<d.length)(hw:iG (d.getD (Int.toNat (k:Int)) 0)=false)(hW:¬(0:Int)<W.length):gO d (k+1) T W:=by
 obtain⟨h1,h2,h3,h4,h5⟩:=h
 rw [Int.toNat_natCast] at *
 have :W= []:=List.eq_nil_of_length_eq_zero (by omega)
 subst this
 rw [pg d k 0 (by omega)] at h1
 simp only [la] at h1
 rw [if_neg (by rw [hw];decide),if_pos (by simp)] at h1
 exact⟨h1,by omega,by omega,by simp,by simp⟩
theorem SM {b:List UInt8} {k:Nat} {T:List (List UInt8)} {W:List Int}(h:gO (decode b) k T W)(hk:¬(k:Int)<(decode b).length)(hW:(0:Int)<W.length):T++ [fX W]=bJ b:=by
 obtain⟨h1,h2,h3,h4,h5⟩:=h
 rw [List.drop_eq_nil_of_le (by omega)] at h1
 simp only [la] at h1
 rw [if_neg (by cases W;simp at hW;simp)] at h1
 exact h1
theorem SN {b:List UInt8} {k:Nat} {T:List (List UInt8)} {W:List Int}(h:gO (decode b) k T W)(hk:¬(k:Int)<(decode b).length)(hW:¬(0:Int)<W.length):T=bJ b:=by
 obtain⟨h1,h2,h3,h4,h5⟩:=h
 have :W= []:=List.eq_nil_of_length_eq_zero (by omega)
 subst this
 rw [List.drop_eq_nil_of_le (by omega)] at h1
 simp only [la,List.isEmpty_nil,if_true,List.map_nil,List.append_nil] at h1
 exact h1
theorem lE {b:List UInt8} {k:Nat} {T:List (List UInt8)} {W:List Int}(h:gO (decode b) k T W)(hb:b.length≤1099511627776):U4 W∧T.length≤1099511627776∧W.length≤1099511627776∧k≤1099511627776:=by
 obtain⟨h1,h2,h3,h4,h5⟩:=h
 have :=uf b
 exact⟨⟨by omega,fun c hc=>mH b c (h5 c hc)⟩,by omega,by omega,by omega⟩
theorem KR:∀(u acc rest:List Int),(∀c∈u,iG c=true)→la acc (u++rest)=la (acc++u) rest
 | [],acc,rest,_=>by simp
 |c::u,acc,rest,h=>by
  simp only [List.cons_append,la]
  rw [if_pos (h c (by simp)),KR u _ rest (fun x hx=>h x (by simp [hx]))]
  rw [List.append_assoc];rfl
theorem SO(s:List UInt8):(bif decide (((bJ s).length:Int)=1) then decide (List.getD (bJ s) (Int.toNat 0) []=s) else false)=isTerm s:=by
 unfold isTerm
 match h:bJ s with
 | []=>simp
 | [x]=>by_cases hx:x=s<;>simp [hx]
 |x::y::l=>simp;omega
theorem A3 {l:List (List UInt8)}:∀k,0<l.length→k≤l.length→ku l k<l.length
 |0,h,_=>h
 |k+1,h,hk=>by
  simp only [ku];split
  · omega
  · exact A3 k h (by omega)
theorem U7 {c:Int}(h:letter c=true∨digit c=true):iG c=true :=by simpa [iG] using h
theorem KT {c:Int}(h:letter c=false∧digit c=false):iG c=false :=by simpa [iG] using h
def sk:Nat→List (List UInt8)→List (List UInt8)
 |0,_=> []
 |f+1,l=>if l.isEmpty then [] else l.getD (hZ l) []::sk f (l.filter (fun x=> !decide (x=l.getD (hZ l) [])))
def sorted(l:List (List UInt8)):List (List UInt8):=sk l.length l
def GB(l:List (List UInt8))(t:List UInt8)(k:Nat):List Int:=((List.range k).filter (fun i=>decide (l.getD i []=t))).map (fun(i:Nat)=>(i:Int))
def places(b t:List UInt8):List Int:=GB (bJ b) t (bJ b).length
def Nu(c:Int):Bool:=iG c&&decide (br c=c)
def Nv(s:List UInt8):Bool:=(decode s).all Nu&&(decide (0<((decode s).length:Int))&&decide ((s.length:Int)≤64))
theorem A4 {l:List (List UInt8)}(h:0<l.length):hZ l<l.length:=A3 _ h (Nat.le_refl _)
theorem sm {l:List (List UInt8)}(h:0<l.length):(l.filter (fun x=> !decide (x=l.getD (hZ l) []))).length<l.length:=by
 have hm:=bu l (hZ l) [] (A4 h)
 exact List.length_filter_lt_length_iff_exists.2 ⟨_,hm,by simp⟩
theorem wu:∀(f g:Nat) (l:List (List UInt8)),l.length≤f→l.length≤g→sk f l=sk g l
 |0,0,_,_,_=>rfl
 |0,g+1,l,h,_=>by
  have :l= []:=List.eq_nil_of_length_eq_zero (by omega)
  subst this;rfl
 |f+1,0,l,_,h=>by
  have :l= []:=List.eq_nil_of_length_eq_zero (by omega)
  subst this;rfl
 |f+1,g+1,l,h1,h2=>by
  simp only [sk]
  cases hl:l.isEmpty with
  |true=>rfl
  |false=>
   have hp:0<l.length:=by rw [List.isEmpty_eq_false_iff] at hl;exact List.length_pos_iff.2 hl
   have :=sm hp
   rw [if_neg (by simp),if_neg (by simp),wu f g _ (by omega) (by omega)]
theorem I3 {l:List (List UInt8)}(h:0<l.length):sorted l=l.getD (hZ l) []::sorted (l.filter (fun x=> !decide (x=l.getD (hZ l) []))):=by
 have hr:=sm h
 unfold sorted
 obtain⟨n,hn⟩:∃n,l.length=n+1:=⟨l.length-1,by omega⟩
 rw [hn]
 simp only [sk]
 have :l.isEmpty=false :=by rw [List.isEmpty_eq_false_iff];exact List.length_pos_iff.1 h
 rw [this,if_neg (by simp),wu n _ _ (by omega) (Nat.le_refl _)]
theorem DQ(b:List UInt8):(bJ b).length≤b.length:=by
 have h0:∀(l acc:List Int),(la acc l).length≤l.length+acc.length:=by
  intro l
  induction l with
  |nil=>intro acc;simp only [la];cases acc<;>simp
  |cons c l ih=>
   intro acc
   simp only [la]
   split
   · have :=ih (acc++ [c]);simp at this ⊢;omega
   · split
     · have :=ih [];simp at this ⊢;omega
     · rename_i h1 h2
       have :0<acc.length:=by cases acc;simp at h2;simp
       have :=ih [];simp at this ⊢;omega
 have :=h0 (decode b) []
 have :=uf b
 simp only [bJ,List.length_map]
 simp at *;omega
end Go.S

end
section
namespace Go.S
theorem GC(b:List UInt8):∀k,(qE b k).1≠65533→enc (qE b k).1=b.take (qE b k).2.toNat
 |0,h=>absurd rfl h
 |k+1,h=>by
  simp only [qE] at h ⊢
  by_cases ht:nM b (k+1)=true
  · rw [if_pos ht] at h ⊢
    have :=((rl b (k+1)).1 ht).2
    simpa using this
  · rw [if_neg ht] at h ⊢
    exact GC b k h
theorem KU {b:List UInt8}(hb:0<b.length)(h:(aM b).1≠65533):enc (aM b).1=b.take (aM b).2.toNat:=by
 rw [←AZ b hb] at h ⊢;exact GC b 4 h
theorem I4:∀(n:Nat) (b:List UInt8),b.length≤n→(∀c∈decode b,c≠65533)→(decode b).flatMap enc=b:=by
 intro n
 induction n with
 |zero=>intro b h _;have :b= []:=List.eq_nil_of_length_eq_zero (by omega)
        subst this;rfl
 |succ n ih=>
  intro b h hc
  by_cases h0:b.length=0
  · have :b= []:=List.eq_nil_of_length_eq_zero h0
    subst this;rfl
  · have hb:=pd b (by omega)
    rw [si b (by omega)] at hc ⊢
    rw [List.flatMap_cons,KU (by omega) (hc _ (by simp)),ih _ (by rw [List.length_drop];omega) (fun c h'=>hc c (by simp [h']))]
    exact List.take_append_drop _ _
theorem mI {c:Int}(h0:0≤c)(h1:c<256):((u8 c).toNat:Int)=c:=((zL h0 h1).1 rfl).symm
theorem uh {c:Int}(hr:bn c=true)(r:List UInt8):bH (enc c++r) ((enc c).length:Nat)=c∧1≤(enc c).length∧(enc c).length≤4:=by
 have hb:=dD hr
 unfold enc
 split
 · refine⟨?_,by simp,by simp⟩
   have e:=(I1 (u8 c) r).2
   have e2:cb (u8 c::r)=c:=mI hb.1 (by omega)
   rw [e2] at e;exact e
 · split
   · refine⟨?_,by simp,by simp⟩
     show bH (u8 (192+c/64)::more c::r) 2=c
     have h1:=mI (c:=192+c/64) (by omega) (by omega)
     have h2:((more c).toNat:Int)=128+c%64:=mI (c:=128+c%64) (by omega) (by omega)
     have e:bH (u8 (192+c/64)::more c::r) 2=(((u8 (192+c/64)).toNat:Int)-192)*64+(more c).toNat-128:=by
      simp only [bH];rw [if_neg (by simp;omega)];rfl
     rw [e,h1,h2];omega
   · split
     · refine⟨?_,by simp,by simp⟩
       show bH (u8 (224+c/4096)::more (c/64)::more c::r) 3=c
       have h1:=mI (c:=224+c/4096) (by omega) (by omega)
       have h2:((more (c/64)).toNat:Int)=128+c/64%64:=mI (c:=128+c/64%64) (by omega) (by omega)
       have h3:((more c).toNat:Int)=128+c%64:=mI (c:=128+c%64) (by omega) (by omega)
       have e:bH (u8 (224+c/4096)::more (c/64)::more c::r) 3=((((u8 (224+c/4096)).toNat:Int)-224)*64+(more (c/64)).toNat-128)*64+(more c).toNat-128:=by
        simp only [bH];rw [if_neg (by simp;omega)];rfl
       rw [e,h1,h2,h3];omega
     · refine⟨?_,by simp,by simp⟩
       show bH (u8 (240+c/262144)::more (c/4096)::more (c/64)::more c::r) 4=c
       have h1:=mI (c:=240+c/262144) (by omega) (by omega)
       have h2:((more (c/4096)).toNat:Int)=128+c/4096%64:=mI (c:=128+c/4096%64) (by omega) (by omega)
       have h3:((more (c/64)).toNat:Int)=128+c/64%64:=mI (c:=128+c/64%64) (by omega) (by omega)
       have h4:((more c).toNat:Int)=128+c%64:=mI (c:=128+c%64) (by omega) (by omega)
       have e:bH (u8 (240+c/262144)::more (c/4096)::more (c/64)::more c::r) 4=(((((u8 (240+c/262144)).toNat:Int)-240)*64+(more (c/4096)).toNat-128)*64+(more (c/64)).toNat-128)*64+(more c).toNat-128:=by
        simp only [bH];rw [if_neg (by simp;omega)];rfl
       rw [e,h1,h2,h3,h4];omega
theorem Nw {c:Int}(hr:bn c=true)(r:List UInt8):aM (enc c++r)=(c,((enc c).length:Int)):=by
 obtain⟨hb,h1,h4⟩:=uh hr r
 have hl:0<(enc c++r).length:=by rw [List.length_append];omega
 have ht:nM (enc c++r) (enc c).length=true :=by
  rw [rl,hb];exact⟨hr,by rw [List.take_left'];rfl⟩
 have hg:=(pe _ _ hl h1 h4).1.1 ht
 rw [←AZ _ hl,xf hl hg h1 4 (Nat.le_refl _) h4,hb]
theorem ui:∀(P:List Int),(∀c∈P,bn c=true)→decode (P.flatMap enc)=P
 | [],_=>rfl
 |c::P,h=>by
  have hr:=h c (by simp)
  have h1:=(uh hr []).2.1
  rw [List.flatMap_cons,si _ (by rw [List.length_append];omega),Nw hr]
  simp only
  rw [Int.toNat_natCast,List.drop_left' rfl,ui P (fun x hx=>h x (by simp [hx]))]
theorem DR:∀(w:List Int) (t:List UInt8),t.length+(w.flatMap fun c=>fb (br c)).length≤64→iH t w=t++w.flatMap fun c=>fb (br c)
 | [],t,_=>by simp [iH]
 |c::w,t,h=>by
  rw [List.flatMap_cons,List.length_append] at h
  simp only [iH]
  rw [if_neg (by omega),DR w _ (by rw [List.length_append];omega),List.flatMap_cons,List.append_assoc]
theorem uj:∀(w:List Int) (t:List UInt8),∃p:List Int,(∀c∈p,c∈w)∧iH t w=t++p.flatMap fun c=>fb (br c)
 | [],t=>⟨[],by simp,by simp [iH]⟩
 |c::w,t=>by
  simp only [iH]
  split
  · exact⟨[],by simp,by simp⟩
  · obtain⟨p,h1,h2⟩:=uj w (t++fb (br c))
    refine⟨c::p,?_,by rw [h2,List.flatMap_cons,List.append_assoc]⟩
    intro x hx
    rcases List.mem_cons.1 hx with hx|hx
    · simp [hx]
    · simp [h1 x hx]
theorem vt:∀(w:List Int) (t:List UInt8),t.length≤64→(iH t w).length≤64
 | [],t,h=>h
 |c::w,t,h=>by
  simp only [iH]
  split
  · exact h
  · exact vt w _ (by rw [List.length_append];omega)
theorem yI:∀(l acc:List Int),(∀c∈acc,iG c=true)→∀W∈la acc l,∀c∈W,iG c=true∧(c∈acc∨c∈l)
 | [],acc,ha,W,hW,c,hc=>by
   simp only [la] at hW
   split at hW
   · cases hW
   · rw [List.mem_singleton.1 hW] at hc;exact⟨ha c hc, .inl hc⟩
 |x::l,acc,ha,W,hW,c,hc=>by
  simp only [la] at hW
  by_cases hx:iG x=true
  · rw [if_pos hx] at hW
    have :=yI l (acc++ [x]) (fun y hy=>by
     rcases List.mem_append.1 hy with hy|hy
     · exact ha y hy
     · rw [List.mem_singleton.1 hy];exact hx) W hW c hc
    refine⟨this.1,?_⟩
    rcases this.2 with h|h
    · rcases List.mem_append.1 h with h|h
      · exact .inl h
      · exact .inr (by simp [List.mem_singleton.1 h])
    · exact .inr (by simp [h])
  · rw [if_neg hx] at hW
    have hn:∀W'∈la [] l,∀c∈W',iG c=true∧(c∈acc∨c∈x::l):=fun W' h' y hy=>by
     have :=yI l [] (by simp) W' h' y hy
     refine⟨this.1, .inr ?_⟩
     rcases this.2 with h|h
     · cases h
     · simp [h]
    split at hW
    · exact hn W hW c hc
    · rcases List.mem_cons.1 hW with h|h
      · rw [h] at hc;exact⟨ha c hc, .inl hc⟩
      · exact hn W h c hc
theorem sn {c a b:Int}(h:c<a∨b<c):dY c a b=false :=by
 simp only [dY,Bool.and_eq_false_iff,decide_eq_false_iff_not];omega
theorem DS {c a b:Int}:dY c a b=true↔a≤c∧c≤b:=by simp [dY]
theorem yJ(c:Int):br (br c)=br c:=by
 have stay:∀x:Int,(97≤x∧x<192)∨(223≤x∧x<913)∨(938≤x∧x<1024)∨1072≤x→br x=x:=fun x h=>by
  refine(ug (sn (by omega)) ⟨sn (by omega),sn (by omega),sn (by omega),sn (by omega),sn (by omega),sn (by omega)⟩).symm
 cases h:dY c 1024 1039 with
 |true=>have :=zM h;exact stay _ (by omega)
 |false=>
  by_cases h2:dY c 65 90=true∨dY c 192 214=true∨dY c 216 222=true∨dY c 913 929=true∨dY c 931 937=true∨dY c 1040 1071=true
  · have :=zN h h2
    simp only [DS] at h2
    exact stay _ (by omega)
  · simp only [not_or,Bool.not_eq_true] at h2
    rw [←ug h h2,←ug h h2]
theorem uk(c:Int):letter c=true↔(65≤c∧c≤90)∨(97≤c∧c≤122)∨(192≤c∧c≤214)∨(216≤c∧c≤246)∨(248≤c∧c≤255)∨(913≤c∧c≤929)∨(931≤c∧c≤937)∨(945≤c∧c≤969)∨(1024≤c∧c≤1119):=by
 rw [Nr];simp only [Bool.or_eq_true,DS]
theorem zO(c:Int):iG c=true↔letter c=true∨(48≤c∧c≤57):=by simp [iG,digit]
theorem A5 {c:Int}(h:iG c=true):iG (br c)=true :=by
 cases h1:dY c 1024 1039 with
 |true=>have :=zM h1;rw [zO,uk];omega
 |false=>
  by_cases h2:dY c 65 90=true∨dY c 192 214=true∨dY c 216 222=true∨dY c 913 929=true∨dY c 931 937=true∨dY c 1040 1071=true
  · have :=zN h1 h2
    simp only [DS] at h2
    rw [zO,uk];omega
  · simp only [not_or,Bool.not_eq_true] at h2
    rw [←ug h1 h2];exact h
theorem p6 {α β:Type} {l:List α} {f g:α→List β}(h:∀x∈l,f x=g x):l.flatMap f=l.flatMap g:=by
 induction l with
 |nil=>rfl
 |cons a l ih=>rw [List.flatMap_cons,List.flatMap_cons,h a (by simp),ih (fun x hx=>h x (by simp [hx]))]
theorem yK {c:Int}(h:bn c=true):fb c=enc c:=by simp only [fb,h,if_true]
theorem SP(s:List UInt8):Nv s=isTerm s:=by
 rw [Bool.eq_iff_iff]
 simp only [Nv,isTerm,Bool.and_eq_true,decide_eq_true_eq,List.all_eq_true,Nu]
 constructor
 · rintro⟨hg,h0,hl⟩
   have hf:=I4 s.length s (Nat.le_refl _) (fun c hc e=>by
    have :=(hg c hc).1;rw [e,zO,uk] at this;omega)
   have hw:la [] (decode s)= [decode s]:=by
    have :=KR (decode s) [] [] (fun c hc=>(hg c hc).1)
    rw [List.append_nil,List.nil_append] at this
    rw [this];simp only [la]
    rw [if_neg];intro he
    rw [List.isEmpty_iff.1 he] at h0;simp at h0
   have he:(decode s).flatMap (fun c=>fb (br c))=s:=by
    rw [p6 (g:=enc) (fun c hc=>by rw [(hg c hc).2,yK (mH s c hc)]),hf]
   simp only [bJ,hw,List.map_cons,List.map_nil,fX]
   rw [DR _ _ (by rw [he];simp;omega),he];rfl
 · intro h
   have hlen:s.length≤64:=by
    have hm:s∈bJ s:=by rw [h];simp
    simp only [bJ,List.mem_map] at hm
    obtain⟨w,_,hw⟩:=hm
    rw [←hw];exact vt w [] (by simp)
   have hm:s∈bJ s:=by rw [h];simp
   simp only [bJ,List.mem_map] at hm
   obtain⟨W,hW,hs⟩:=hm
   have aE:=yI (decode s) [] (by simp) W hW
   obtain⟨p,hp,hpf⟩:=uj W []
   have hr:∀c∈p,bn (br c)=true :=fun c hc=>yH (mH s c (by
    rcases(aE c (hp c hc)).2 with h|h
    · cases h
    · exact h))
   have Ib:s=(p.map br).flatMap enc:=by
    rw [←hs];show iH [] W=_
    rw [hpf,List.nil_append,List.flatMap_map]
    exact p6 fun c hc=>yK (hr c hc)
   have hd:decode s=p.map br:=by
    conv=>lhs;rw [Ib]
    exact ui _ (fun c hc=>by
     obtain⟨c',h',rfl⟩:=List.mem_map.1 hc;exact hr c' h')
   refine⟨fun c hc=> ?_,?_,by omega⟩
   · rw [hd] at hc
     obtain⟨c',h',rfl⟩:=List.mem_map.1 hc
     exact⟨A5 (aE c' (hp c' h')).1,yJ c'⟩
   · by_cases h0:decode s= []
     · rw [h0] at hW;simp [la] at hW
     · have :=List.length_pos_iff.2 h0;omega
end Go.S

end
section
namespace Go.S
theorem bU:∀a:List UInt8,Op.bytesLess a a=false
 | []=>rfl
 |a::x=>by simp [Op.bytesLess,bU x]
theorem jS:∀a b c:List UInt8,Op.bytesLess a b=true→Op.bytesLess b c=true→Op.bytesLess a c=true
 |_,[],_,h,_=>by simp [Op.bytesLess] at h
 |_,_::_,[],_,h=>by simp [Op.bytesLess] at h
 | [],_::_,_::_,_,_=>rfl
 |a::x,b::y,c::z,h1,h2=>by
  simp only [Op.bytesLess,Bool.or_eq_true,decide_eq_true_eq,Bool.and_eq_true,beq_iff_eq] at h1 h2 ⊢
  rcases h1 with h1|⟨rfl,h1⟩
  · rcases h2 with h2|⟨rfl,h2⟩
    · left;rw [UInt8.lt_iff_toNat_lt] at *;omega
    · left;exact h1
  · rcases h2 with h2|⟨rfl,h2⟩
    · left;exact h2
    · right;exact⟨rfl,jS x y z h1 h2⟩
theorem gw:∀a b:List UInt8,Op.bytesLess a b=true∨a=b∨Op.bytesLess b a=true
 | [],[]=> .inr (.inl rfl)
 | [],_::_=> .inl rfl
 |_::_,[]=> .inr (.inr rfl)
 |a::x,b::y=>by
  simp only [Op.bytesLess,Bool.or_eq_true,decide_eq_true_eq,Bool.and_eq_true,beq_iff_eq,List.cons.injEq]
  by_cases h:a=b
  · subst h
    rcases gw x y with h|h|h
    · exact .inl (.inr ⟨rfl,h⟩)
    · exact .inr (.inl ⟨rfl,h⟩)
    · exact .inr (.inr (.inr ⟨rfl,h⟩))
  · have :a.toNat≠b.toNat:=fun e=>h (UInt8.toNat_inj.1 e)
    by_cases h2:a.toNat<b.toNat
    · exact .inl (.inl (UInt8.lt_iff_toNat_lt.2 h2))
    · exact .inr (.inr (.inl (UInt8.lt_iff_toNat_lt.2 (by omega))))
theorem ia {a b:List UInt8}(h:Op.bytesLess a b=true):Op.bytesLess b a=false :=by
 cases h2:Op.bytesLess b a with
 |false=>rfl
 |true=>have :=jS _ _ _ h h2;rw [bU] at this;cases this
def lW(l:List (List UInt8)):Prop :=l.Pairwise fun a b=>Op.bytesLess a b=true
theorem so:∀(l m:List (List UInt8)),lW l→lW m→(∀x,x∈l↔x∈m)→l=m
 | [],[],_,_,_=>rfl
 | [],b::m,_,_,h=>by have :=(h b).2 (by simp);cases this
 |a::l,[],_,_,h=>by have :=(h a).1 (by simp);cases this
 |a::l,b::m,hl,hm,h=>by
  obtain⟨hl1,hl2⟩:=List.pairwise_cons.1 hl
  obtain⟨Ĕ,ĕ⟩:=List.pairwise_cons.1 hm
  have fk:a=b:=by
   rcases List.mem_cons.1 ((h a).1 (by simp)) with e|e
   · exact e
   · rcases List.mem_cons.1 ((h b).2 (by simp)) with e2|e2
     · exact e2.symm
     · have q1:=Ĕ a e
       have q2:=ia (hl1 b e2)
       rw [q1] at q2;cases q2
  subst fk
  have :=so l m hl2 ĕ (fun x=>by
   constructor
   · intro hx
     rcases List.mem_cons.1 ((h x).1 (by simp [hx])) with e|e
     · have :=hl1 x hx;rw [e,bU] at this;cases this
     · exact e
   · intro hx
     rcases List.mem_cons.1 ((h x).2 (by simp [hx])) with e|e
     · have :=Ĕ x hx;rw [e,bU] at this;cases this
     · exact e)
  rw [this]
theorem DT(l:List (List UInt8)):∀k,k≤l.length→∀i,i<k→Op.bytesLess (l.getD i []) (l.getD (ku l k) [])=false
 |0,_,i,hi=>by omega
 |k+1,hk,i,hi=>by
  have ih:=DT l k (by omega)
  rw [show ku l (k+1)=if Op.bytesLess (l.getD k []) (l.getD (ku l k) [])=true then k else ku l k from rfl]
  by_cases h:Op.bytesLess (l.getD k []) (l.getD (ku l k) [])=true
  · rw [if_pos h]
    by_cases e:i=k
    · rw [e];exact bU _
    · have q:=ih i (by omega)
      cases hq:Op.bytesLess (l.getD i []) (l.getD k []) with
      |false=>rfl
      |true=>have :=jS _ _ _ hq h;rw [this] at q;cases q
  · rw [if_neg h]
    by_cases e:i=k
    · rw [e];simpa using h
    · exact ih i (by omega)
theorem DU:∀(n:Nat) (l:List (List UInt8)),l.length≤n→lW (sorted l)∧∀x,x∈sorted l↔x∈l:=by
 intro n
 induction n with
 |zero=>
  intro l h
  have :l= []:=List.eq_nil_of_length_eq_zero (by omega)
  subst this
  exact⟨List.Pairwise.nil,fun x=>Iff.rfl⟩
 |succ n ih=>
  intro l h
  by_cases h0:l.length=0
  · have :l= []:=List.eq_nil_of_length_eq_zero h0
    subst this
    exact⟨List.Pairwise.nil,fun x=>Iff.rfl⟩
  · have hp:0<l.length:=by omega
    have hr:=sm hp
    obtain⟨i1,i2⟩:=ih (l.filter (fun x=> !decide (x=l.getD (hZ l) []))) (by omega)
    have hm:l.getD (hZ l) []∈l:=bu l _ [] (A4 hp)
    rw [I3 hp]
    refine⟨List.pairwise_cons.2 ⟨fun x hx=> ?_,i1⟩,fun x=> ?_⟩
    · have jH:=(i2 x).1 hx
      simp only [List.mem_filter,Bool.not_eq_true',decide_eq_false_iff_not] at jH
      obtain⟨i,hi,e⟩:=List.mem_iff_getElem.1 jH.1
      have e2:l.getD i []=x:=by rw [List.getD_eq_getElem?_getD,List.getElem?_eq_getElem hi];exact e
      have q:=DT l l.length (Nat.le_refl _) i hi
      rw [e2] at q
      rcases gw (l.getD (hZ l) []) x with t|t|t
      · exact t
      · exact absurd t.symm jH.2
      · have q':Op.bytesLess x (l.getD (hZ l) [])=false :=q
        rw [t] at q';cases q'
    · rw [List.mem_cons,i2 x,List.mem_filter]
      simp only [Bool.not_eq_true',decide_eq_false_iff_not]
      constructor
      · rintro(h|h)
        · rw [h];exact hm
        · exact h.1
      · intro hx
        by_cases e:x=l.getD (hZ l) []
        · exact .inl e
        · exact .inr ⟨hx,e⟩
theorem jT(l:List (List UInt8)):lW (sorted l):=(DU _ l (Nat.le_refl _)).1
theorem fJ(l:List (List UInt8))(x:List UInt8):x∈sorted l↔x∈l:=(DU _ l (Nat.le_refl _)).2 x
theorem Nx {l m:List (List UInt8)}(h1:lW m)(h2:∀x,x∈m↔x∈l):m=sorted l:=
 so _ _ h1 (jT l) (fun x=>(h2 x).trans (fJ l x).symm)
def bN:List (List UInt8)→List (List UInt8)
 | []=> []
 |a::l=>match bN l with
  | []=> [a]
  |b::r=>if a=b then b::r else a::b::r
theorem nZ:∀(l:List (List UInt8)) (x:List UInt8),x∈bN l↔x∈l
 | [],_=>Iff.rfl
 |a::l,x=>by
  have ih:=nZ l x
  simp only [bN]
  split
  · rename_i h;rw [h] at ih
    rw [List.mem_singleton,List.mem_cons]
    constructor
    · exact .inl
    · rintro(h|h)
      · exact h
      · have :=ih.2 h;cases this
  · rename_i b r h;rw [h] at ih
    split
    · rename_i e;subst e
      rw [ih,List.mem_cons]
      constructor
      · exact .inr
      · rintro(h2|h2)
        · rw [←ih,h2];simp
        · exact h2
    · rw [List.mem_cons,ih,List.mem_cons]
theorem wv:∀(l:List (List UInt8)),(l.Pairwise fun a b=>Op.bytesLess b a=false)→lW (bN l)
 | [],_=>List.Pairwise.nil
 |a::l,h=>by
  obtain⟨h1,h2⟩:=List.pairwise_cons.1 h
  have ih:=wv l h2
  simp only [bN]
  split
  · exact List.pairwise_singleton _ _
  · rename_i b r hb
    rw [hb] at ih
    split
    · exact ih
    · rename_i dH
      refine List.pairwise_cons.2 ⟨fun x hx=> ?_,ih⟩
      have n0:b∈l:=by rw [←nZ l,hb];simp
      have fk:Op.bytesLess a b=true :=by
       rcases gw a b with t|t|t
       · exact t
       · exact absurd t dH
       · rw [h1 b n0] at t;cases t
      rcases List.mem_cons.1 hx with e|e
      · rw [e];exact fk
      · exact jS _ _ _ fk ((List.pairwise_cons.1 ih).1 x e)
theorem BI {l m:List (List UInt8)}(h1:m.Pairwise fun a b=>Op.bytesLess b a=false)(h2:∀x,x∈m↔x∈l):bN m=sorted l:=
 Nx (wv m h1) (fun x=>(nZ m x).trans (h2 x))
end Go.S
namespace Go.S
def fU(a b:List UInt8):Int:=if Op.bytesLess a b then -1 else if Op.bytesLess b a then 1 else 0
theorem ĩ(a b:List UInt8):decide (fU a b=0)=decide (a=b):=by
 rw [decide_eq_decide]
 unfold fU
 rcases gw a b with h|h|h
 · rw [if_pos h]
   constructor
   · intro e;exact absurd e (by decide)
   · intro e;rw [e,bU] at h;cases h
 · subst h;simp [bU]
 · rw [if_neg (by rw [ia h];decide),if_pos h]
   constructor
   · intro e;exact absurd e (by decide)
   · intro e;rw [e,bU] at h;cases h
end Go.S
namespace Go.S
def n3(l:List (List UInt8))(k:Nat):Prop :=1≤k∧k≤l.length∧∀j,j+1<k→¬l.getD (j+1) []=l.getD j []
def jq(l:List (List UInt8))(x i k:Nat)(m:List (List UInt8)):Prop :=1≤k∧x+k≤l.length∧1≤i∧i+1≤x+k∧m.length=l.length∧m.drop i=l.drop i∧m.take i=bN (l.take (x+k))
theorem KV {l:List (List UInt8)}(h:l≠ []):∃b r,bN l=b::r:=by
 cases hc:bN l with
 |nil=>
  cases l with
  |nil=>exact absurd rfl h
  |cons a l=>have :=(nZ (a::l) a).2 (by simp);rw [hc] at this;cases this
 |cons b r=>exact⟨b,r,rfl⟩
theorem wx(a b:List UInt8):∀p:List (List UInt8),bN (p++ [a,b])=if a=b then bN (p++ [a]) else bN (p++ [a])++ [b]
 | []=>by
   by_cases h:a=b
   · subst h;simp [bN]
   · simp [bN,h]
 |c::p=>by
  have ih:=wx a b p
  obtain⟨h,r,e⟩:=KV (l:=p++ [a]) (by simp)
  simp only [List.cons_append,bN]
  rw [ih,e]
  by_cases fk:a=b
  · simp only [if_pos fk]
  · simp only [if_neg fk,List.cons_append]
    by_cases hc:c=h
    · simp only [if_pos hc,List.cons_append]
    · simp only [if_neg hc,List.cons_append]
theorem mJ {l:List (List UInt8)} {n:Nat}(h:n+1<l.length):bN (l.take (n+2))=if l.getD n []=l.getD (n+1) [] then bN (l.take (n+1)) else bN (l.take (n+1))++ [l.getD (n+1) []]:=by
 rw [ay l (n+1) [] h,ay l n [] (by omega),List.append_assoc,List.singleton_append]
 exact wx _ _ _
theorem zP {l:List (List UInt8)}:∀k,k≤l.length→(∀j,j+1<k→¬l.getD (j+1) []=l.getD j [])→bN (l.take k)=l.take k
 |0,_,_=>by simp [bN]
 |1,h,_=>by
  cases l with
  |nil=>simp at h
  |cons a l=>simp [bN]
 |k+2,hk,h=>by
  rw [mJ (by omega),if_neg (fun e=>h k (by omega) e.symm),zP (k+1) (by omega) (fun j hj=>h j (by omega)),←ay l (k+1) [] (by omega)]
theorem Ny {l:List (List UInt8)}(h:(l.length:Int)<2):l=bN l:=by
 match l,h with
 | [],_=>rfl
 | [a],_=>rfl
 |a::b::l,h=>simp at h;omega
theorem aeX {l:List (List UInt8)}(h:¬(l.length:Int)<2):n3 l 1:=⟨Nat.le_refl _,by omega,fun j hj=>by omega⟩
theorem SQ {l:List (List UInt8)} {k:Nat}(h:n3 l k)(hk:(k:Int)<l.length)(hn:¬l.getD k []=l.getD (Int.toNat ((k:Int)-1)) []):n3 l (k+1):=by
 obtain⟨h1,h2,h3⟩:=h
 rw [show Int.toNat ((k:Int)-1)=k-1 by omega] at hn
 refine⟨by omega,by omega,fun j hj=> ?_⟩
 by_cases e:j+1=k
 · rw [show j=k-1 by omega,show k-1+1=k by omega];exact hn
 · exact h3 j (by omega)
theorem U8 {l:List (List UInt8)} {k:Nat}(h:n3 l k)(hk:¬(k:Int)<l.length):l=bN l:=by
 obtain⟨h1,h2,h3⟩:=h
 have e:=zP k h2 h3
 rw [List.take_of_length_le (by omega)] at e
 exact e.symm
theorem Ī {l:List (List UInt8)} {x:Nat}(h:n3 l x)(hx:(x:Int)<l.length)(he:l.getD x []=l.getD (Int.toNat ((x:Int)-1)) []):jq l x x 1 l:=by
 obtain⟨h1,h2,h3⟩:=h
 rw [show Int.toNat ((x:Int)-1)=x-1 by omega] at he
 refine⟨Nat.le_refl _,by omega,h1,Nat.le_refl _,rfl,rfl,?_⟩
 obtain⟨y,rfl⟩:∃y,x=y+1:=⟨x-1,by omega⟩
 rw [Nat.add_sub_cancel] at he
 rw [show y+1+1=y+2 by omega,mJ (by omega),if_pos he.symm,zP (y+1) (by omega) h3]
theorem GF {l m:List (List UInt8)} {x i k:Nat}(h:jq l x i k m)(hk:x+k<l.length):m.getD (x+k) []=l.getD (x+k) []∧m.getD (x+k-1) []=l.getD (x+k-1) []:=by
 obtain⟨h1,h2,h3,h4,h5,h6,h7⟩:=h
 have key:∀j,i≤j→m.getD j []=l.getD j []:=fun j hj=>by
  have :=congrArg (fun q=>q.getD (j-i) []) h6
  simp only [List.getD_eq_getElem?_getD,List.getElem?_drop] at this ⊢
  rwa [show i+(j-i)=j by omega] at this
 exact⟨key _ (by omega),key _ (by omega)⟩
theorem Nz {l m:List (List UInt8)} {x i k:Nat}(h:jq l x i k m)(hk:x+k<l.length)(he:m.getD (x+k) []=m.getD (x+k-1) []):jq l x i (k+1) m:=by
 have hg:=GF h hk
 obtain⟨h1,h2,h3,h4,h5,h6,h7⟩:=h
 rw [hg.1,hg.2] at he
 refine⟨by omega,by omega,h3,by omega,h5,h6,?_⟩
 rw [h7]
 obtain⟨n,hn⟩:∃n,x+k=n+1:=⟨x+k-1,by omega⟩
 rw [show x+(k+1)=n+2 by omega,hn,mJ (by omega),if_pos]
 rw [hn,Nat.add_sub_cancel] at he;exact he.symm
theorem SR {l m:List (List UInt8)} {x i k:Nat}(h:jq l x i k m)(hk:x+k<l.length)(he:¬m.getD (x+k) []=m.getD (x+k-1) []):jq l x (i+1) (k+1) (m.set i (m.getD (x+k) [])):=by
 have hg:=GF h hk
 obtain⟨h1,h2,h3,h4,h5,h6,h7⟩:=h
 rw [hg.1,hg.2] at he
 rw [hg.1]
 refine⟨by omega,by omega,by omega,by omega,by rw [List.length_set];exact h5,?_,?_⟩
 · rw [List.drop_set,if_pos (by omega)]
   have :=congrArg (List.drop 1) h6
   rwa [List.drop_drop,List.drop_drop] at this
 · have hi:i<(m.set i (l.getD (x+k) [])).length:=by rw [List.length_set];omega
   rw [ay _ _ [] hi,List.take_set,List.set_eq_of_length_le (by rw [List.length_take];omega),h7]
   rw [List.getD_eq_getElem?_getD,List.getElem?_set_self (by omega),Option.getD_some]
   obtain⟨n,hn⟩:∃n,x+k=n+1:=⟨x+k-1,by omega⟩
   rw [show x+(k+1)=n+2 by omega,hn,mJ (by omega),if_neg]
   rw [hn,Nat.add_sub_cancel] at he;exact fun e=>he e.symm
theorem SS {l m:List (List UInt8)} {x i k:Nat}(h:jq l x i k m)(hk:¬x+k<l.length):m.take i=bN l:=by
 obtain⟨h1,h2,h3,h4,h5,h6,h7⟩:=h
 rw [h7,List.take_of_length_le (by omega)]
end Go.S

end
section
namespace Go.S
def up(l:List (List UInt8)):Prop :=l.Pairwise fun a b=>Op.bytesLess b a=false
def fV(l:List (List UInt8)):List (List UInt8):=l.mergeSort fun a b=> !Op.bytesLess b a
theorem SU(l:List (List UInt8)):up (fV l):=by
 have :=List.pairwise_mergeSort (le:=fun a b=> !Op.bytesLess b a) (fun a b c h1 h2=>by
  simp only [Bool.not_eq_true'] at h1 h2 ⊢
  cases h:Op.bytesLess c a with
  |false=>rfl
  |true=>
   rcases gw a b with t|t|t
   · rw [jS _ _ _ h t] at h2;cases h2
   · subst t;rw [h] at h2;cases h2
   · rw [t] at h1;cases h1) (fun a b=>by
  simp only [Bool.or_eq_true,Bool.not_eq_true']
  rcases gw a b with t|t|t
  · exact .inl (ia t)
  · subst t;exact .inl (bU _)
  · exact .inr (ia t)) l
 exact this.imp (fun h=>by simpa using h)
theorem KW(l:List (List UInt8)):(fV l).Perm l:=List.mergeSort_perm l _
theorem U9(l:List (List UInt8)):bN (fV l)=sorted l:=BI (SU l) (fun _=>(KW l).mem_iff)
end Go.S

end
section
namespace Go.S
def sp(n:Nat):Nat:=2^Nat.log2 (n-1)
def split(n:Int):Int:=if n<2∨1099511627776<n then 0 else((sp n.toNat:Nat):Int)
def NA:Nat→List (List UInt8)→List UInt8
 |0,_=>sum []
 |f+1,l=>if l.length=0 then sum [] else if l.length=1 then l.getD 0 [] else SC (NA f (l.take (sp l.length))) (NA f (l.drop (sp l.length)))
def root(l:List (List UInt8)):List UInt8:=NA l.length l
def leaves(l:List (List UInt8)):List (List UInt8):=l.map leaf
def DV(l:List (List UInt8))(t a:Nat):List UInt8:=root ((l.drop (2^t*a)).take (2^t))
end Go.S

end
section
namespace Go.S
def mh(l:List Int)(i:Nat):Int:=if i=0 then -1 else l.getD (i-1) 0
def DW(l:List Int)(i:Nat):Bool:=decide (mh l i<l.getD i 0)&&decide (l.getD i 0<1000)
def fx(l:List Int):Bool:=(List.range l.length).all (DW l)
def kv(l:List Int)(k:Nat):Prop :=(∀i,i<k→DW l i=true)∧k≤l.length
def ī(l:List Int)(k:Nat):List UInt8:=num l.length++(List.range k).flatMap (fun i=>num (l.getD i 0-mh l i-1))
def aeY(l:List Int):List UInt8:=ī l l.length
def Ĭ(l:List Int):List UInt8:=Nd 2 (aeY l)
def ph(n a b:Int):Bool:=decide (a≤n)&&decide (n<b)
def fy:List Int:= []
def SV(l:List Int):List Int:=if fx l then l else []
def DX(l:List Int)(a b:Int):List Int:=(SV l).filter (fun n=>ph n a b)
def jr(l:List Int)(a b:Int)(r out:List Int):Prop :=out++r.filter (fun n=>ph n a b)=DX l a b∧out.length+r.length≤1000
def p7(a b:List Int)(k:Nat):Prop :=a.length=b.length∧a.take k=b.take k∧k≤a.length
def mi(a b:List Int):Bool:=decide (a=b)
theorem pj(l:List Int):fx l=true↔∀i,i<l.length→DW l i=true :=by
 simp only [fx,List.all_eq_true,List.mem_range]
theorem mj(l:List Int)(i:Nat):DW l i=true↔mh l i<l.getD i 0∧l.getD i 0<1000:=by
 simp only [DW,Bool.and_eq_true,decide_eq_true_eq]
theorem p8(l:List Int)(k:Nat):mh l (k+1)=l.getD k 0:=by
 simp only [mh];rw [if_neg (by omega),Nat.add_sub_cancel]
theorem KX(l:List Int):mh l 0= -1:=rfl
theorem O5 {l:List Int} {k:Nat}(h:kv l k):∀i,i<k→(i:Int)≤l.getD i 0∧l.getD i 0<1000
 |0,hi=>by have :=(mj l 0).1 (h.1 0 hi);rw [KX] at this;omega
 |i+1,hi=>by
  have :=(mj l (i+1)).1 (h.1 (i+1) hi)
  rw [p8] at this
  have :=O5 h i (by omega)
  omega
theorem Va {l:List Int}(h:fx l=true):kv l l.length:=⟨(pj l).1 h,Nat.le_refl _⟩
theorem GG {l:List Int}(h:fx l=true):l.length≤1000:=by
 by_cases h0:l.length=0
 · omega
 · have :=O5 (Va h) (l.length-1) (by omega);omega
theorem ĭ(l:List Int):kv l 0:=⟨fun i hi=>by omega,Nat.zero_le _⟩
theorem NB {l:List Int} {k:Nat}(h:kv l k)(hk:(k:Int)<l.length)(hg:¬l.getD (Int.toNat (k:Int)) 0≤mh l k∧¬1000≤l.getD (Int.toNat (k:Int)) 0):kv l (k+1):=by
 rw [Int.toNat_natCast] at hg
 refine⟨fun i hi=> ?_,by omega⟩
 by_cases he:i=k
 · subst he;exact(mj l i).2 (by omega)
 · exact h.1 i (by omega)
theorem SX {l:List Int} {k:Nat}(hk:(k:Int)<l.length)(hg:l.getD (Int.toNat (k:Int)) 0≤mh l k∨1000≤l.getD (Int.toNat (k:Int)) 0):false=fx l:=by
 rw [Int.toNat_natCast] at hg
 cases hp:fx l with
 |false=>rfl
 |true=>have :=(mj l k).1 ((pj l).1 hp k (by omega));omega
theorem SY {l:List Int} {k:Nat}(h:kv l k)(hk:¬(k:Int)<l.length):true=fx l:=by
 symm
 exact(pj l).2 fun i hi=>h.1 i (by omega)
theorem SZ {v:Int}(h0:0≤v)(h:v≤4611686018427387904):iK (Vg.iU UInt8) v=num v:=by
 have :iF v=false :=by simp only [iF,Bool.or_eq_false_iff,decide_eq_false_iff_not];omega
 simp only [iK,this];rfl
theorem Į(a:List Int)(s1 s2:Int):jr a s1 s2 (SV a) []:=by
 refine⟨rfl,?_⟩
 unfold SV;split
 · rename_i h;have :=GG h;simp;omega
 · simp
theorem S0 {a:List Int} {s1 s2 n:Int} {r out:List Int}(h:jr a s1 s2 (n::r) out)(hn:ph n s1 s2=true):jr a s1 s2 r (out++ [n]):=by
 obtain⟨h1,h2⟩:=h
 rw [List.filter_cons,if_pos hn] at h1
 refine⟨by rw [List.append_assoc];exact h1,by simp at h2 ⊢;omega⟩
theorem Vb {a:List Int} {s1 s2 n:Int} {r out:List Int}(h:jr a s1 s2 (n::r) out)(hn:ph n s1 s2=false):jr a s1 s2 r out:=by
 obtain⟨h1,h2⟩:=h
 rw [List.filter_cons,if_neg (by rw [hn];decide)] at h1
 exact⟨h1,by simp at h2 ⊢;omega⟩
theorem S1 {a:List Int} {s1 s2:Int} {out:List Int}(h:jr a s1 s2 [] out):out=DX a s1 s2:=by
 have :=h.1;simpa using this
theorem į {a b:List Int}(h:(a.length:Int)=b.length):p7 a b 0:=⟨by omega,by simp,Nat.zero_le _⟩
theorem NC {a b:List Int} {k:Nat}(h:p7 a b k)(hk:(k:Int)<a.length)(he:a.getD (Int.toNat (k:Int)) 0=b.getD (Int.toNat (k:Int)) 0):p7 a b (k+1):=by
 rw [Int.toNat_natCast] at he
 obtain⟨h1,h2,h3⟩:=h
 exact⟨h1,by rw [ay a k 0 (by omega),ay b k 0 (by omega),h2,he],by omega⟩
theorem S2 {a b:List Int} {k:Nat}(he:¬a.getD (Int.toNat (k:Int)) 0=b.getD (Int.toNat (k:Int)) 0):false=mi a b:=by
 symm;simp only [mi,decide_eq_false_iff_not];intro h;rw [h] at he;exact he rfl
theorem S3 {a b:List Int}(h:¬(a.length:Int)=b.length):false=mi a b:=by
 symm;simp only [mi,decide_eq_false_iff_not];intro e;rw [e] at h;exact h rfl
theorem S4 {a b:List Int} {k:Nat}(h:p7 a b k)(hk:¬(k:Int)<a.length):true=mi a b:=by
 obtain⟨h1,h2,h3⟩:=h
 symm;simp only [mi,decide_eq_true_eq]
 rw [List.take_of_length_le (by omega),List.take_of_length_le (by omega)] at h2;exact h2
end Go.S

end
section
namespace Go.S
abbrev ew:=List UInt8×List Int
def BJ(a b:List UInt8):Bool:=Op.bytesLess a b || decide (a=b)
def ca(d:List ew)(i:Nat):List UInt8:=(d.getD i ([],[])).1
def iv(d:List ew)(i:Nat):List Int:=(d.getD i ([],[])).2
def js(d:List ew):Prop :=d.length≤1048576∧∀e∈d,e.1.length≤1099511627776
def sq(d:List ew)(i:Nat):Bool:= !(decide (0<i)&&BJ (ca d i) (ca d (i-1)))&&(!decide ((iv d i).length=0)&&(fx (iv d i)&&isTerm (ca d i)))
def dF(d:List ew):Bool:=(List.range d.length).all (sq d)
def A6(d:List ew)(k:Nat):Prop :=(∀i,i<k→sq d i=true)∧k≤d.length
def aeZ(a b c:List UInt8):List UInt8:=text a++text b++c
def İ(d:List ew)(i:Nat):List UInt8:=
 aeZ (if i=0 then [] else ca d (i-1)) (if i<d.length then ca d i else []) (Ĭ (if i=0 then [] else iv d (i-1)))
def Vc(d:List ew)(k:Nat):List (List UInt8):=(List.range k).map (İ d)
def Vd(d:List ew):List (List UInt8):=Vc d (d.length+1)
def ı(d:List ew):List UInt8:=root (leaves (Vd d))
def fi(a b:List ew):Bool:=decide (a=b)
def iL(a b:List ew)(k:Nat):Prop :=a.length=b.length∧a.take k=b.take k∧k≤a.length
def kR(a b:List (List UInt8)):Bool:=decide (a=b)
def nj(a b:List (List UInt8))(k:Nat):Prop :=a.length=b.length∧a.take k=b.take k∧k≤a.length
def dB(docs:List (List UInt8))(s1 s2:Int):Bool:=
 docs.all (fun b=>decide ((b.length:Int)≤2000))&&(decide ((docs.length:Int)≤1000)&&(decide (0≤s1)&&(decide (s1≤s2)&&decide (s2≤(docs.length:Int)))))
def uo(docs:List (List UInt8))(k:Nat):Prop :=(∀b∈docs.take k,b.length≤2000)∧k≤docs.length
def uq(b t:List UInt8):Bool:=decide (0<((places b t).length:Int))
theorem vu(d:List ew):dF d=true↔∀i,i<d.length→sq d i=true :=by
 simp only [dF,List.all_eq_true,List.mem_range]
theorem ak4(d:List ew):A6 d 0:=⟨fun i hi=>by omega,Nat.zero_le _⟩
theorem O6 {d:List ew} {k:Nat}(hk:(k:Int)<d.length)(h:sq d k=false):false=dF d:=by
 cases hr:dF d with
 |false=>rfl
 |true=>have :=(vu d).1 hr k (by omega);rw [h] at this;cases this
theorem Ve {d:List ew} {k:Nat}(h:A6 d k)(hk:(k:Int)<d.length)(he:sq d k=true):A6 d (k+1):=by
 refine⟨fun i hi=> ?_,by omega⟩
 by_cases e:i=k
 · subst e;exact he
 · exact h.1 i (by omega)
theorem Ĳ {d:List ew} {k:Nat}(h:A6 d k)(hk:¬(k:Int)<d.length):true=dF d:=by
 symm;exact(vu d).2 fun i hi=>h.1 i (by omega)
theorem S5 {d:List ew} {k:Nat}(h:js d):(d.getD k ([],[])).1.length≤1099511627776:=by
 by_cases hk:k<d.length
 · exact h.2 _ (bu d k _ hk)
 · rw [List.getD_eq_getElem?_getD,List.getElem?_eq_none (by omega)];simp
theorem rm(d:List ew)(i:Nat):sq d i=true↔(i=0∨BJ (ca d i) (ca d (i-1))=false)∧(iv d i).length≠0∧fx (iv d i)=true∧isTerm (ca d i)=true :=by
 simp only [sq,Bool.and_eq_true,Bool.not_eq_true',Bool.and_eq_false_iff,decide_eq_false_iff_not]
 constructor
 · rintro⟨h1,h2,h3,h4⟩;exact⟨h1.imp (by omega) id,h2,h3,h4⟩
 · rintro⟨h1,h2,h3,h4⟩;exact⟨h1.imp (by omega) id,h2,h3,h4⟩
theorem DY(d:List ew)(i:Nat):sq d i=false↔(0<i∧BJ (ca d i) (ca d (i-1))=true)∨(iv d i).length=0∨fx (iv d i)=false∨isTerm (ca d i)=false :=by
 have :=rm d i
 cases h:sq d i with
 |true=>
  have h1:=this.1 h
  simp only [Bool.true_eq_false,false_iff]
  rintro(⟨h2,h3⟩|h2|h2|h2)
  · rcases h1.1 with h4|h4
    · omega
    · rw [h4] at h3;cases h3
  · exact h1.2.1 h2
  · rw [h1.2.2.1] at h2;cases h2
  · rw [h1.2.2.2] at h2;cases h2
 |false=>
  simp only [true_iff]
  by_cases a1:0<i∧BJ (ca d i) (ca d (i-1))=true
  · exact .inl a1
  · by_cases a2:(iv d i).length=0
    · exact .inr (.inl a2)
    · cases a3:fx (iv d i) with
      |false=>exact .inr (.inr (.inl rfl))
      |true=>
       cases a4:isTerm (ca d i) with
       |false=>exact .inr (.inr (.inr rfl))
       |true=>
        exfalso
        rw [h] at this
        have :false=true :=this.2 ⟨by
         cases hl:BJ (ca d i) (ca d (i-1)) with
         |false=>exact .inr rfl
         |true=>rw [hl] at a1;left;by_cases h0:0<i;exact absurd ⟨h0,rfl⟩ a1;omega,a2,a3,a4⟩
        cases this
theorem DZ:∀(w:List Int) (t:List UInt8),t.length≤64→(iH t w).length≤64
 | [],t,h=>h
 |c::w,t,h=>by
  simp only [iH]
  split
  · exact h
  · exact DZ w _ (by rw [List.length_append];omega)
theorem A7 {s:List UInt8}(h:isTerm s=true):s.length≤64:=by
 simp only [isTerm,decide_eq_true_eq] at h
 have hm:s∈bJ s:=by rw [h];simp
 simp only [bJ,List.mem_map] at hm
 obtain⟨w,_,hw⟩:=hm
 rw [←hw];exact DZ w [] (by simp)
theorem Vf {d:List ew}(h:dF d=true) {i:Nat}(hi:i<d.length):(ca d i).length≤64∧fx (iv d i)=true :=by
 have :=(rm d i).1 ((vu d).1 h i hi)
 exact⟨A7 this.2.2.2,this.2.2.1⟩
theorem Vh {a b:List ew}(h:(a.length:Int)=b.length):iL a b 0:=⟨by omega,by simp,Nat.zero_le _⟩
theorem KY {a b:List ew} {k:Nat}(h:iL a b k)(hk:(k:Int)<a.length)(he:a.getD k ([],[])=b.getD k ([],[])):iL a b (k+1):=by
 obtain⟨h1,h2,h3⟩:=h
 exact⟨h1,by rw [ay a k ([],[]) (by omega),ay b k ([],[]) (by omega),h2,he],by omega⟩
theorem ND {a b:List ew} {k:Nat}(he:¬a.getD k ([],[])=b.getD k ([],[])):false=fi a b:=by
 symm;simp only [fi,decide_eq_false_iff_not];intro h;rw [h] at he;exact he rfl
theorem NF {a b:List ew}(h:¬(a.length:Int)=b.length):false=fi a b:=by
 symm;simp only [fi,decide_eq_false_iff_not];intro e;rw [e] at h;exact h rfl
theorem NG {a b:List ew} {k:Nat}(h:iL a b k)(hk:¬(k:Int)<a.length):true=fi a b:=by
 obtain⟨h1,h2,h3⟩:=h
 symm;simp only [fi,decide_eq_true_eq]
 rw [List.take_of_length_le (by omega),List.take_of_length_le (by omega)] at h2;exact h2
theorem Vi {a b:List (List UInt8)}(h:(a.length:Int)=b.length):nj a b 0:=⟨by omega,by simp,Nat.zero_le _⟩
theorem KZ {a b:List (List UInt8)} {k:Nat}(h:nj a b k)(hk:(k:Int)<a.length)(he:a.getD k []=b.getD k []):nj a b (k+1):=by
 obtain⟨h1,h2,h3⟩:=h
 exact⟨h1,by rw [ay a k [] (by omega),ay b k [] (by omega),h2,he],by omega⟩
theorem NH {a b:List (List UInt8)} {k:Nat}(he:¬a.getD k []=b.getD k []):false=kR a b:=by
 symm;simp only [kR,decide_eq_false_iff_not];intro h;rw [h] at he;exact he rfl
theorem NI {a b:List (List UInt8)}(h:¬(a.length:Int)=b.length):false=kR a b:=by
 symm;simp only [kR,decide_eq_false_iff_not];intro e;rw [e] at h;exact h rfl
theorem NJ {a b:List (List UInt8)} {k:Nat}(h:nj a b k)(hk:¬(k:Int)<a.length):true=kR a b:=by
 obtain⟨h1,h2,h3⟩:=h
 symm;simp only [kR,decide_eq_true_eq]
 rw [List.take_of_length_le (by omega),List.take_of_length_le (by omega)] at h2;exact h2
theorem ĳ(docs:List (List UInt8)):uo docs 0:=⟨by simp,Nat.zero_le _⟩
theorem NK {docs:List (List UInt8)} {k:Nat}(h:uo docs k)(hk:(k:Int)<docs.length)(hl:((docs.getD k []).length:Int)≤2000):uo docs (k+1):=by
 refine⟨fun b hb=> ?_,by omega⟩
 rw [ay docs k [] (by omega)] at hb
 rcases List.mem_append.1 hb with hb|hb
 · exact h.1 b hb
 · rw [List.mem_singleton.1 hb];omega
theorem S6 {docs:List (List UInt8)} {k:Nat} {s1 s2:Int}(hk:(k:Int)<docs.length)(hl:2000<((docs.getD k []).length:Int)):false=dB docs s1 s2:=by
 have :docs.all (fun b=>decide ((b.length:Int)≤2000))=false :=by
  rw [List.all_eq_false]
  exact⟨_,bu docs k [] (by omega),by rw [decide_eq_true_eq];omega⟩
 simp only [dB,this,Bool.false_and]
theorem S7 {docs:List (List UInt8)} {k:Nat}(h:uo docs k)(hk:¬(k:Int)<docs.length):docs.all (fun b=>decide ((b.length:Int)≤2000))=true :=by
 rw [List.all_eq_true]
 have h1:=h.1
 rw [List.take_of_length_le (by omega)] at h1
 intro b hb
 have :=h1 b hb
 simp;omega
theorem K2:∀(a b:List UInt8),BJ b a= !Op.bytesLess a b
 | [],[]=>rfl
 | [],b::y=>by simp [BJ,Op.bytesLess]
 |a::x,[]=>by simp [BJ,Op.bytesLess]
 |a::x,b::y=>by
  have ih:=K2 x y
  simp only [BJ] at ih
  simp only [BJ,Op.bytesLess]
  rcases UInt8.lt_or_lt_of_ne (a:=a) (b:=b) |> fun h=>Classical.em (a=b) with h|h
  · subst h
    simp only [UInt8.lt_irrefl,decide_false,Bool.false_or,beq_self_eq_true,Bool.true_and,List.cons.injEq,true_and]
    exact ih
  · have hba:(b==a)=false :=by simpa using fun e=>h e.symm
    have fk:(a==b)=false :=by simpa using h
    have dH:¬(b::y=a::x):=by simp only [List.cons.injEq];exact fun e=>h e.1.symm
    rw [hba,fk,decide_eq_false dH]
    simp only [Bool.false_and,Bool.or_false]
    have :a.toNat≠b.toNat:=fun e=>h (UInt8.toNat_inj.1 e)
    rw [←decide_not,decide_eq_decide,UInt8.lt_iff_toNat_lt,UInt8.lt_iff_toNat_lt];omega
theorem S8 {s:List UInt8}:(text s).length≤s.length+9:=by
 have :=kp (s.length:Int)
 simp only [text,List.length_append];omega
end Go.S
namespace Go.S
def nG(docs:List (List UInt8))(a:Int)(k:Nat):List (List UInt8):=(List.range k).flatMap fun(i:Nat)=>sorted (bJ (docs.getD (a+i).toNat []))
def cB(docs:List (List UInt8))(a:Int)(t:List UInt8)(k:Nat):List Int:=((List.range k).filter fun(i:Nat)=>uq (docs.getD (a+i).toNat []) t).map fun(i:Nat)=>a+i
def cD(docs:List (List UInt8))(a b:Int):List (List UInt8):=sorted (nG docs a (b-a).toNat)
def vv(docs:List (List UInt8))(a b:Int)(k:Nat):List ew:=((cD docs a b).take k).map fun t=>(t,cB docs a t (b-a).toNat)
def make(docs:List (List UInt8))(a b:Int):List ew:=(cD docs a b).map fun t=>(t,cB docs a t (b-a).toNat)
def kz(docs:List (List UInt8))(a b:Int):Prop :=0≤a∧a≤b∧b≤docs.length∧docs.length≤1000∧∀d∈docs,d.length≤4000
end Go.S
namespace Go.S
theorem GH:∀(f:Nat) (l:List (List UInt8)),(sk f l).length≤l.length
 |0,l=>by simp [sk]
 |f+1,l=>by
  simp only [sk]
  split
  · simp
  · rename_i h
    have h0:0<l.length:=by cases l;simp at h;simp
    have :=GH f (l.filter (fun x=> !decide (x=l.getD (hZ l) [])))
    have :=sm h0
    rw [List.length_cons];omega
theorem sr(l:List (List UInt8)):(sorted l).length≤l.length:=GH _ l
theorem Vj {docs:List (List UInt8)} {a b:Int}(hp:kz docs a b)(i:Nat):(docs.getD i []).length≤4000:=by
 by_cases h:i<docs.length
 · exact hp.2.2.2.2 _ (bu docs i [] h)
 · rw [List.getD_eq_getElem?_getD,List.getElem?_eq_none (by omega)];simp
theorem A8(docs:List (List UInt8))(a:Int)(k:Nat):nG docs a k++sorted (bJ (docs.getD (Int.toNat (a+(k:Int))) []))=nG docs a (k+1):=by
 simp only [nG,List.range_succ,List.flatMap_append,List.flatMap_cons,List.flatMap_nil,List.append_nil]
theorem K3 {docs:List (List UInt8)} {a b:Int}(hp:kz docs a b)(i:Nat):(sorted (bJ (docs.getD i []))).length≤4000:=by
 have :=Vj hp i
 have :=DQ (docs.getD i [])
 have :=sr (bJ (docs.getD i []))
 omega
theorem A9 {docs:List (List UInt8)} {a:Int} {t:List UInt8} {k:Nat}(h:uq (docs.getD (Int.toNat (a+(k:Int))) []) t=true):cB docs a t k++ [a+(k:Int)]=cB docs a t (k+1):=by
 simp only [cB,List.range_succ,List.filter_append,List.map_append,List.filter_cons,h,if_true,List.filter_nil,List.map_cons,List.map_nil]
theorem D1 {docs:List (List UInt8)} {a:Int} {t:List UInt8} {k:Nat}(h:uq (docs.getD (Int.toNat (a+(k:Int))) []) t=false):cB docs a t k=cB docs a t (k+1):=by
 simp only [cB,List.range_succ,List.filter_append,List.map_append,List.filter_cons,h,List.filter_nil]
 simp
theorem K4(docs:List (List UInt8))(a:Int)(t:List UInt8)(k:Nat):(cB docs a t k).length≤k:=by
 simp only [cB,List.length_map]
 have :=List.length_filter_le (fun(i:Nat)=>uq (docs.getD (a+i).toNat []) t) (List.range k)
 rw [List.length_range] at this;exact this
theorem I5 {docs:List (List UInt8)} {a b:Int} {k j:Nat} {t:List UInt8}(hk:k<(cD docs a b).length)(hj:j=(b-a).toNat)(ht:(cD docs a b).getD k []=t):vv docs a b k++ [(t,cB docs a t j)]=vv docs a b (k+1):=by
 subst ht;subst hj
 simp only [vv]
 rw [ay (cD docs a b) k [] hk,List.map_append];rfl
theorem K5 {docs:List (List UInt8)} {a b:Int} {k:Nat}(h:¬k<(cD docs a b).length):vv docs a b k=make docs a b:=by
 simp only [vv,make];rw [List.take_of_length_le (by omega)]
end Go.S

end
section
namespace Go.S
end Go.S

end
section
namespace Go.S
theorem rn(b t:List UInt8):uq b t=true↔t∈bJ b:=by
 unfold uq
 rw [decide_eq_true_iff]
 simp only [places,GB,List.length_map]
 constructor
 · intro h
   have h1:0<((List.range (bJ b).length).filter (fun i=>decide ((bJ b).getD i []=t))).length:=by omega
   obtain⟨i,hi⟩:=List.exists_mem_of_length_pos h1
   simp only [List.mem_filter,List.mem_range,decide_eq_true_eq] at hi
   rw [←hi.2,List.getD_eq_getElem?_getD,List.getElem?_eq_getElem hi.1]
   exact List.getElem_mem _
 · intro h
   obtain⟨i,hi,he⟩:=List.getElem_of_mem h
   have :i∈(List.range (bJ b).length).filter (fun i=>decide ((bJ b).getD i []=t)):=by
    simp only [List.mem_filter,List.mem_range,decide_eq_true_eq]
    exact⟨hi,by rw [List.getD_eq_getElem?_getD,List.getElem?_eq_getElem hi];exact he⟩
   have :=List.length_pos_of_mem this
   omega
def eH(docs:List (List UInt8))(a:Int)(k:Nat):List (List UInt8):=sorted (bJ (docs.getD (a+(k:Int)).toNat []))
def su(docs:List (List UInt8))(a:Int)(k j:Nat)(s:List UInt8):List Int:=cB docs a s k++if s∈(eH docs a k).take j then [a+(k:Int)] else []
theorem ae0(docs:List (List UInt8))(a:Int)(s:List UInt8):su docs a 0 0 s= []:=by simp [su,cB]
theorem ur {l:List (List UInt8)}(h:lW l):l.Nodup:=h.imp fun {a b} fk dH=>by
 subst dH
 rw [bU] at fk;cases fk
theorem lF {l:List (List UInt8)} {j:Nat}(hj:j<l.length)(s:List UInt8):s∈l.take (j+1)↔s∈l.take j∨s=l.getD j []:=by
 rw [List.take_add_one,List.mem_append,List.getElem?_eq_getElem hj,List.getD_eq_getElem?_getD,List.getElem?_eq_getElem hj]
 simp
theorem Ba {l:List (List UInt8)}(h:l.Nodup) {j:Nat}(hj:j<l.length):l.getD j []∉l.take j:=by
 intro hm
 rw [List.getD_eq_getElem?_getD,List.getElem?_eq_getElem hj] at hm
 obtain⟨i,hi,he⟩:=List.getElem_of_mem hm
 simp only [List.length_take] at hi
 rw [List.getElem_take] at he
 exact(List.pairwise_iff_getElem.1 h) i j (by omega) hj (by omega) he
theorem Vk {docs:List (List UInt8)} {a:Int} {k j:Nat}(hj:j<(eH docs a k).length):su docs a k (j+1) ((eH docs a k).getD j [])=su docs a k j ((eH docs a k).getD j [])++ [a+(k:Int)]:=by
 have h1:(eH docs a k).getD j []∉(eH docs a k).take j:=Ba (ur (jT (bJ (docs.getD (a+(k:Int)).toNat [])))) hj
 have h2:=(lF hj ((eH docs a k).getD j [])).2 (.inr rfl)
 simp only [su]
 rw [if_pos h2,if_neg h1,List.append_nil]
theorem S9 {docs:List (List UInt8)} {a:Int} {k j:Nat}(hj:j<(eH docs a k).length) {s:List UInt8}(hs:s≠(eH docs a k).getD j []):su docs a k (j+1) s=su docs a k j s:=by
 simp only [su]
 by_cases h:s∈(eH docs a k).take j
 · rw [if_pos h,if_pos ((lF hj s).2 (.inl h))]
 · rw [if_neg h,if_neg (fun h'=>by rcases(lF hj s).1 h' with h'|h';exact h h';exact hs h')]
theorem Ta {docs:List (List UInt8)} {a:Int} {k j:Nat}(hj:¬j<(eH docs a k).length)(s:List UInt8):su docs a k j s=su docs a (k+1) 0 s:=by
 simp only [su,List.take_zero,List.not_mem_nil,if_false,List.append_nil]
 rw [List.take_of_length_le (by omega)]
 by_cases h:s∈eH docs a k
 · rw [if_pos h]
   exact A9 ((rn _ _).2 ((fJ _ _).1 h))
 · rw [if_neg h,List.append_nil]
   refine D1 ?_
   cases hh:uq (docs.getD (Int.toNat (a+(k:Int))) []) s with
   |false=>rfl
   |true=>exact absurd ((fJ _ _).2 ((rn _ _).1 hh)) h
theorem Vl(docs:List (List UInt8))(a:Int)(k j:Nat)(s:List UInt8):(su docs a k j s).length≤k+1:=by
 have :=K4 docs a s k
 simp only [su,List.length_append]
 split<;>simp<;>omega
theorem xg(docs:List (List UInt8))(a:Int)(x:List UInt8):∀k,x∈nG docs a k↔cB docs a x k≠ []
 |0=>by simp [nG,cB]
 |k+1=>by
  rw [←A8,List.mem_append,xg docs a x k,fJ,←rn]
  cases h:uq (docs.getD (Int.toNat (a+(k:Int))) []) x with
  |true=>rw [←A9 h];simp
  |false=>rw [←D1 h];simp
end Go.S
namespace Go.S
def gd(docs:List (List UInt8))(a b:Int):List ew×Int:=if dB docs a b then(make docs a b,0) else([],1)
end Go.S

end
section
namespace Go.S
abbrev Sg:=Int×Int×Int×List UInt8
def iI(a b:Int):Bool:=decide (0≤a)&&(decide (a<b)&&decide (b≤1000))
def zQ(d:List ew)(a b:Int)(i:Nat):Bool:=decide (((DX (iv d i) a b).length:Int)=((iv d i).length:Int))
def gP(a b:Int)(d:List ew):Bool:=(iI a b&&dF d)&&(List.range d.length).all (zQ d a b)
def p9(a b:Int)(d:List ew)(k:Nat):Prop :=iI a b=true∧dF d=true∧(∀i,i<k→zQ d a b i=true)∧k≤d.length
def rOf(a b:Int)(d:List ew):Int×Int×Int×List UInt8:=(a,b,((Vd d).length:Int),ı d)
def zR(a b n:Int)(r:List UInt8):Bool:=iI a b&&(decide (1≤n)&&(decide (n≤1099511627776)&&decide ((r.length:Int)=32)))
def fW(docs:List (List UInt8))(a b:Int):Bool:=dB docs a b&&decide (a<b)
def sg(l:List Sg)(i:Nat):Sg:=l.getD i (0,0,0,[])
def O7(l:List Sg)(i:Nat):Bool:=zR (sg l i).1 (sg l i).2.1 (sg l i).2.2.1 (sg l i).2.2.2&& !(decide (0<i)&& !decide ((sg l i).1=(sg l (i-1)).2.1))
def O8(l:List Sg)(n:Int):Bool:=
 if l.length=0 then decide (n=0)
 else(List.range l.length).all (O7 l)&&(decide ((l.length:Int)≤64)&&(decide ((sg l 0).1=0)&&decide ((sg l (l.length-1)).2.1=n)))
theorem Ĵ {l:List Int} {a b:Int}(h:fx l=true)(h0:l.length≠0):(DX l a b).length=l.length↔a≤l.getD 0 0∧l.getD (l.length-1) 0<b:=by
 have hs:∀n,n<l.length→∀i,i≤n→l.getD i 0≤l.getD n 0:=by
  intro n
  induction n with
  |zero=>intro _ i hi;rw [show i=0 by omega];exact Int.le_refl _
  |succ n ih=>
   intro hn i hi
   by_cases e:i=n+1
   · rw [e];exact Int.le_refl _
   · have h1:=ih (by omega) i (by omega)
     have h2:=(mj l (n+1)).1 ((pj l).1 h (n+1) hn)
     rw [p8] at h2;omega
 simp only [DX,SV,h,if_true]
 rw [List.length_filter_eq_length_iff]
 constructor
 · intro jk
   have h1:=jk _ (bu l 0 0 (by omega))
   have h2:=jk _ (bu l (l.length-1) 0 (by omega))
   simp only [ph,Bool.and_eq_true,decide_eq_true_eq] at h1 h2
   exact⟨h1.1,h2.2⟩
 · rintro⟨h1,h2⟩ x hx
   obtain⟨i,hi,rfl⟩:=List.mem_iff_getElem.1 hx
   have e:l[i]=l.getD i 0:=by rw [List.getD_eq_getElem?_getD,List.getElem?_eq_getElem hi];rfl
   rw [e]
   have q1:=hs i hi 0 (Nat.zero_le _)
   have q2:=hs (l.length-1) (by omega) i (by omega)
   simp only [ph,Bool.and_eq_true,decide_eq_true_eq];omega
theorem ae1 {a b:Int} {d:List ew}(h1:iI a b=true)(h2:dF d=true):p9 a b d 0:=⟨h1,h2,fun i hi=>by omega,Nat.zero_le _⟩
theorem Tb {a b:Int} {d:List ew} {k:Nat}(h:p9 a b d k)(hk:(k:Int)<d.length)(he:zQ d a b k=true):p9 a b d (k+1):=by
 refine⟨h.1,h.2.1,fun i hi=> ?_,by omega⟩
 by_cases e:i=k
 · subst e;exact he
 · exact h.2.2.1 i (by omega)
theorem Vm {a b:Int} {d:List ew} {k:Nat}(hk:(k:Int)<d.length)(he:zQ d a b k=false):false=gP a b d:=by
 symm
 simp only [gP]
 have :(List.range d.length).all (zQ d a b)=false :=by
  rw [List.all_eq_false];exact⟨k,by rw [List.mem_range];omega,by rw [he];decide⟩
 rw [this,Bool.and_false]
theorem Vn {a b:Int} {d:List ew} {k:Nat}(h:p9 a b d k)(hk:¬(k:Int)<d.length):true=gP a b d:=by
 symm
 simp only [gP,h.1,h.2.1,Bool.true_and,List.all_eq_true,List.mem_range]
 intro i hi;exact h.2.2.1 i (by have :=h.2.2.2;omega)
theorem ĵ {a b:Int} {d:List ew}(h:iI a b=false∨dF d=false):false=gP a b d:=by
 symm
 rcases h with h|h<;>simp only [gP,h,Bool.false_and,Bool.and_false]
end Go.S
namespace Go.S
end Go.S

end
section
namespace Go.S
def cu(docs:List (List UInt8))(a b:Int):(Int×Int×List ew)×Int:=if fW docs a b then((a,b,make docs a b),0) else((0,0,[]),1)
def sv(a1 a2:Int)(a3:List ew)(b1 b2:Int)(b3:List ew):Bool:=decide (a1=b1)&&(decide (a2=b2)&&decide (a3=b3))
def O0(l:List Sg)(k:Nat):Prop :=(∀i,i<k→O7 l i=true)∧k≤l.length∧l.length≤64∧(0<k→(sg l 0).1=0)
end Go.S
namespace Go.S
theorem K6 {m r d:List (List UInt8)} {i:Nat}(h:i≤m.length):(m.take i++r++d).take i=m.take i:=by
 rw [List.append_assoc,List.take_append_of_le_length (by rw [List.length_take];omega),List.take_take,Nat.min_self]
theorem I6 {b:List UInt8}(h:small b):small (bJ b):=by
 have :=DQ b
 simp only [small] at *
 omega
theorem I7 {l:List (List UInt8)}(h:small l):small (fV l):=by
 simp only [small,fV,List.length_mergeSort] at *
 exact h
end Go.S
namespace Go.S
theorem Vo(a b:Bool):(Bool.rec false b a:Bool)=(a&&b):=by cases a<;>rfl
theorem K7 {docs:List (List UInt8)} {a b:Int}(h:¬(gd docs a b).2=0):cu docs a b=((0,0,[]),1)∧(gd docs a b).2=1:=by
 unfold gd at *
 by_cases hf:dB docs a b=true
 · rw [if_pos hf] at h;exact absurd rfl h
 · rw [if_neg hf]
   refine⟨?_,rfl⟩
   unfold cu fW
   have :dB docs a b=false :=by simpa using hf
   rw [this];rfl
theorem Vp {docs:List (List UInt8)} {a b:Int}(h:(gd docs a b).2=0):dB docs a b=true∧gd docs a b=(make docs a b,0):=by
 unfold gd at *
 by_cases hf:dB docs a b=true
 · exact⟨hf,by rw [if_pos hf]⟩
 · rw [if_neg hf] at h;cases h
theorem K8 {docs:List (List UInt8)} {a b:Int}(h:a=b):cu docs a b=((0,0,[]),1):=by
 unfold cu fW
 have :decide (a<b)=false :=decide_eq_false (by omega)
 rw [this,Bool.and_false];rfl
theorem K9 {docs:List (List UInt8)} {a b:Int}(h:(gd docs a b).2=0)(dH:¬a=b):cu docs a b=((a,b,(gd docs a b).1),0):=by
 obtain⟨h1,h2⟩:=Vp h
 rw [h2]
 unfold cu fW
 have hp:a≤b:=by
  simp only [dB,Bool.and_eq_true,decide_eq_true_eq] at h1
  exact h1.2.2.2.1
 have :decide (a<b)=true :=decide_eq_true (by omega)
 rw [h1,this];rfl
end Go.S
namespace Go.S
end Go.S
namespace Go.S
end Go.S

end
section
namespace Go.S
end Go.S

end
section
namespace Go.S
theorem pn {docs:List (List UInt8)} {f t:Int}(h:fW docs f t=true):kz docs f t:=by
 simp only [fW,dB,Bool.and_eq_true,List.all_eq_true,decide_eq_true_eq] at h
 obtain⟨⟨h1,h2,h3,h4,h5⟩,h6⟩:=h
 exact⟨h3,h4,h5,by omega,fun d hd=>by have :=h1 d hd;omega⟩
theorem La(a b:Int)(d:List ew):sv a b d a b d=true :=by simp [sv]
end Go.S
namespace Go.S
end Go.S

end
section
namespace Go.S
theorem B8:∀(l acc:List Int),∀W∈la acc l,W≠ []
 | [],acc,W,hW=>by
   simp only [la] at hW
   split at hW
   · cases hW
   · rename_i h
     rw [List.mem_singleton.1 hW]
     intro e;rw [e] at h;exact h rfl
 |x::l,acc,W,hW=>by
  simp only [la] at hW
  split at hW
  · exact B8 l _ W hW
  · split at hW
    · exact B8 l _ W hW
    · rename_i h
      rcases List.mem_cons.1 hW with e|hW
      · subst e
        intro e;rw [e] at h;exact h rfl
      · exact B8 l _ W hW
theorem Lb {b t:List UInt8}(h:t∈bJ b):isTerm t=true :=by
 rw [←SP]
 simp only [bJ,List.mem_map] at h
 obtain⟨W,hW,hs⟩:=h
 have aE:=yI (decode b) [] (by simp) W hW
 have dH:=B8 (decode b) [] W hW
 have hrW:∀c∈W,bn (br c)=true :=fun c hc=>yH (mH b c (by
  rcases(aE c hc).2 with h|h
  · cases h
  · exact h))
 have hlen:t.length≤64:=by rw [←hs];exact vt W [] (by simp)
 obtain⟨p,hp,hpf,hpn⟩:∃p:List Int,(∀c∈p,c∈W)∧iH [] W=p.flatMap (fun c=>fb (br c))∧p≠ []:=by
  cases W with
  |nil=>exact absurd rfl dH
  |cons c w=>
   obtain⟨p,h1,h2⟩:=uj w ([]++fb (br c))
   have hl:(fb (br c)).length≤4:=by rw [yK (hrW c (by simp))];exact(uh (hrW c (by simp)) []).2.2
   refine⟨c::p,fun x hx=> ?_,?_,by simp⟩
   · rcases List.mem_cons.1 hx with hx|hx
     · simp [hx]
     · simp [h1 x hx]
   · simp only [iH,List.length_nil]
     rw [if_neg (by omega),h2,List.flatMap_cons,List.nil_append]
 have hr:∀c∈p,bn (br c)=true :=fun c hc=>hrW c (hp c hc)
 have Ib:t=(p.map br).flatMap enc:=by
  rw [←hs];show iH [] W=_
  rw [hpf,List.flatMap_map]
  exact p6 fun c hc=>yK (hr c hc)
 have hd:decode t=p.map br:=by
  rw [Ib]
  exact ui _ (fun c hc=>by
   obtain⟨c',h',rfl⟩:=List.mem_map.1 hc;exact hr c' h')
 simp only [Nv,Bool.and_eq_true,decide_eq_true_eq,List.all_eq_true,Nu,hd]
 refine⟨fun c hc=> ?_,?_,by omega⟩
 · obtain⟨c',h',rfl⟩:=List.mem_map.1 hc
   exact⟨A5 (aE c' (hp c' h')).1,yJ c'⟩
 · have :=List.length_pos_iff.2 hpn
   simp;omega
end Go.S
namespace Go.S
theorem qa {docs:List (List UInt8)} {a:Int} {t:List UInt8} {k:Nat} {i:Int}:i∈cB docs a t k↔a≤i∧i<a+(k:Int)∧uq (docs.getD i.toNat []) t=true :=by
 simp only [cB,List.mem_map,List.mem_filter,List.mem_range]
 constructor
 · rintro⟨q,⟨h1,h2⟩,rfl⟩
   exact⟨by omega,by omega,h2⟩
 · rintro⟨h1,h2,h3⟩
   refine⟨(i-a).toNat,⟨by omega,?_⟩,by omega⟩
   rw [show a+(((i-a).toNat:Nat):Int)=i by omega];exact h3
theorem I8(docs:List (List UInt8))(a:Int)(t:List UInt8)(k:Nat):(cB docs a t k).Pairwise (· < ·):=by
 simp only [cB]
 refine List.pairwise_map.2 ?_
 refine List.Pairwise.filter _ ?_
 exact(List.pairwise_lt_range (n:=k)).imp fun {x y} h=>by omega
theorem Tc {l:List Int}(h:l.Pairwise (· < ·))(hb:∀x∈l,0≤x∧x<1000):fx l=true :=by
 rw [pj]
 intro i hi
 rw [mj]
 have hm:=hb _ (bu l i 0 hi)
 refine⟨?_,hm.2⟩
 cases i with
 |zero=>simp only [mh,if_pos];omega
 |succ i=>
  rw [p8]
  have :=(List.pairwise_iff_getElem.1 h) i (i+1) (by omega) hi (by omega)
  rw [List.getD_eq_getElem?_getD,List.getD_eq_getElem?_getD,List.getElem?_eq_getElem hi,List.getElem?_eq_getElem (show i<l.length by omega)]
  exact this
theorem vw(docs:List (List UInt8))(a b:Int):(make docs a b).length=(cD docs a b).length:=by simp [make]
theorem I9 {docs:List (List UInt8)} {a b:Int} {i:Nat}(h:i<(cD docs a b).length):ca (make docs a b) i=(cD docs a b).getD i []:=by
 unfold ca make
 rw [List.getD_eq_getElem?_getD,List.getElem?_map,List.getElem?_eq_getElem h,List.getD_eq_getElem?_getD,List.getElem?_eq_getElem h];rfl
theorem Ja {docs:List (List UInt8)} {a b:Int} {i:Nat}(h:i<(cD docs a b).length):iv (make docs a b) i=cB docs a ((cD docs a b).getD i []) (b-a).toNat:=by
 unfold iv make
 rw [List.getD_eq_getElem?_getD,List.getElem?_map,List.getElem?_eq_getElem h,List.getD_eq_getElem?_getD,List.getElem?_eq_getElem h];rfl
theorem nk {docs:List (List UInt8)} {a b:Int} {t:List UInt8}:t∈cD docs a b↔cB docs a t (b-a).toNat≠ []:=by
 unfold cD
 rw [fJ,xg]
theorem uu {docs:List (List UInt8)} {a b:Int}(hp:kz docs a b):dF (make docs a b)=true :=by
 rw [vu]
 intro i hi
 rw [vw] at hi
 rw [rm,I9 hi,Ja hi]
 have hm:=bu (cD docs a b) i [] hi
 have dH:=nk.1 hm
 have h1:=hp.1
 have h2:=hp.2.1
 have h3:=hp.2.2.1
 have h4:=hp.2.2.2.1
 refine⟨?_,?_,?_,?_⟩
 · by_cases h0:i=0
   · exact .inl h0
   right
   rw [I9 (by omega)]
   have By:lW (cD docs a b):=jT _
   have :=(List.pairwise_iff_getElem.1 By) (i-1) i (by omega) hi (by omega)
   rw [K2,List.getD_eq_getElem?_getD,List.getD_eq_getElem?_getD,List.getElem?_eq_getElem hi,List.getElem?_eq_getElem (show i-1<(cD docs a b).length by omega)]
   simpa using this
 · intro e
   exact dH (List.length_eq_zero_iff.1 e)
 · refine Tc (I8 _ _ _ _) fun x hx=> ?_
   have :=qa.1 hx
   omega
 · obtain⟨x,hx⟩:=List.exists_mem_of_ne_nil _ dH
   have :=qa.1 hx
   exact Lb ((rn _ _).1 this.2.2)
theorem NL {docs:List (List UInt8)} {a b:Int}(hp:kz docs a b)(hn:(cD docs a b).length≤1048576):js (make docs a b):=by
 refine⟨by rw [vw];exact hn,fun e he=> ?_⟩
 simp only [make,List.mem_map] at he
 obtain⟨t,ht,rfl⟩:=he
 obtain⟨x,hx⟩:=List.exists_mem_of_ne_nil _ (nk.1 ht)
 have h:=Lb ((rn _ _).1 (qa.1 hx).2.2)
 have :=A7 h
 simp only;omega
end Go.S

end
section
namespace Go.S
end Go.S
namespace Go.S
end Go.S
namespace Go.S
theorem Vq {docs:List (List UInt8)} {a b:Int}(hp:kz docs a b)(fk:a<b):gP a b (make docs a b)=true :=by
 have h1:=hp.1
 have h2:=hp.2.2.1
 have h3:=hp.2.2.2.1
 unfold gP
 rw [uu hp]
 have hw:iI a b=true :=by
  unfold iI
  simp only [Bool.and_eq_true,decide_eq_true_eq];omega
 rw [hw,Bool.true_and,Bool.true_and,List.all_eq_true]
 intro i hi
 rw [List.mem_range] at hi
 have hr:=(rm _ _).1 ((vu _).1 (uu hp) i hi)
 unfold zQ
 rw [decide_eq_true_eq]
 have h:=(Ĵ hr.2.2.1 hr.2.1 (a:=a) (b:=b)).2 ?_
 · omega
 · rw [vw] at hi
   have hd:∀x∈iv (make docs a b) i,a≤x∧x<b:=fun x hx=>by
    rw [Ja hi] at hx
    have :=qa.1 hx
    omega
   have hn:=hr.2.1
   exact⟨(hd _ (bu _ 0 0 (by omega))).1,(hd _ (bu _ _ 0 (by omega))).2⟩
end Go.S

end
section
namespace Go.S
theorem NM {b:List UInt8}(h:(first b).2.2=0):num (first b).1=b.take (first b).2.1.toNat∧(first b).2.1≤b.length:=by
 unfold first at h ⊢
 split at h
 · cases h
 · rename_i h1
   split at h
   · cases h
   · rename_i h2
     split at h
     · cases h
     · rename_i h3
       rw [if_neg h1,if_neg h2,if_neg h3]
       have q:lead b≤b.length:=List.Sublist.length_le (List.takeWhile_sublist _)
       refine⟨?_,by simp only;omega⟩
       have :num (cI (b.take (lead b+1)))=b.take (lead b+1):=Classical.byContradiction fun e=>h3 (.inr e)
       rw [this]
       congr 1
end Go.S
namespace Go.S
end Go.S
namespace Go.S
end Go.S
namespace Go.S
end Go.S

end
section
namespace Go.S
abbrev ax:=Int×Int×List ew
def ar(l:List ax)(i:Nat):ax:=l.getD i (0,0,[])
def dT(d:List ew):List (List UInt8):=d.map (·.1)
def Bb(l:List ax):List (List UInt8):=l.flatMap fun s=>dT s.2.2
def uT(l:List ax):List (List UInt8):=sorted (Bb l)
def mK(t:List UInt8)(d:List ew):List Int:=(d.filter fun e=>decide (e.1=t)).flatMap (·.2)
def nH(l:List ax)(t:List UInt8):List Int:=l.flatMap fun s=>mK t s.2.2
def cv(l:List ax)(k:Nat):List ew:=((uT l).take k).map fun t=>(t,nH l t)
def mL(l:List ax):List ew:=(uT l).map fun t=>(t,nH l t)
def bY(l:List ax)(k:Nat)(s:ax):Int:=(((dT s.2.2).filter fun t=>decide (t∈(uT l).take k)).length:Nat)
def aA(l:List ax)(k:Nat):List Int:=l.map (bY l k)
def aY(l:List ax)(k i:Nat):List Int:=(aA l (k+1)).take i++(aA l k).drop i
def cJ(l:List ax)(nx:List Int):Nat→Int
 |0=> -1
 |i+1=>if nx.getD i 0=((ar l i).2.2.length:Int) then cJ l nx i
  else if cJ l nx i<0∨Op.bytesLess (ca (ar l i).2.2 (nx.getD i 0).toNat) (ca (ar l (cJ l nx i).toNat).2.2 (nx.getD (cJ l nx i).toNat 0).toNat)=true then(i:Int)
  else cJ l nx i
def nm(l:List ax):Prop :=l.length≤1000∧∀s∈l,dF s.2.2=true∧s.2.2.length≤1048576
def jt(s:ax):Bool:=gP s.1 s.2.1 s.2.2
def D3(l:List ax)(i:Nat):Bool:=decide ((ar l (i+1)).1=(ar l i).2.1)
def yL(l:List ax):Bool:=(List.range (l.length-1)).all (D3 l)
def rp(l:List ax):Prop :=l.length≤1000∧∀s∈l,js s.2.2
def dm(l:List ax):(Int×Int×List ew)×Int:=
 if l.length=0 then((0,0,[]),1)
 else if l.all jt=false then((0,0,[]),1)
 else if yL l=false then((0,0,[]),7)
 else(((ar l 0).1,(ar l (l.length-1)).2.1,mL l),0)
theorem Bc {P:List UInt8→Bool}:∀ {l:List (List UInt8)},lW l→(∀x∈l,∀y∈l,Op.bytesLess x y=true→P y=true→P x=true)→
  l.take (l.filter P).length=l.filter P∧l.drop (l.filter P).length=l.filter fun x=> !P x
 | [],_,_=>⟨rfl,rfl⟩
 |x::l,h,hP=>by
  have h1:=List.pairwise_cons.1 h
  have ih:=Bc (l:=l) h1.2 fun a ha b hb=>hP a (List.mem_cons_of_mem _ ha) b (List.mem_cons_of_mem _ hb)
  cases hx:P x with
  |true=>
   rw [List.filter_cons,if_pos hx,List.filter_cons,hx]
   simp only [List.length_cons,List.take_succ_cons,List.drop_succ_cons,Bool.not_true]
   exact⟨by rw [ih.1],ih.2⟩
  |false=>
   have hn:∀y∈l,P y=false :=fun y hy=>by
    cases hy':P y with
    |false=>rfl
    |true=>have :=hP x (List.mem_cons_self ..) y (List.mem_cons_of_mem _ hy) (h1.1 y hy) hy';rw [hx] at this;cases this
   have e:(x::l).filter P= []:=by
    rw [List.filter_eq_nil_iff]
    intro y hy
    rcases List.mem_cons.1 hy with rfl|hy
    · rw [hx];decide
    · rw [hn y hy];decide
   have e2:(x::l).filter (fun x=> !P x)=x::l:=by
    rw [List.filter_eq_self]
    intro y hy
    rcases List.mem_cons.1 hy with rfl|hy
    · rw [hx];rfl
    · rw [hn y hy];rfl
   rw [e,e2];exact⟨rfl,rfl⟩
theorem xh {T:List (List UInt8)}(h:lW T)(k:Nat) {x y:List UInt8}(hx:x∈T)(hxy:Op.bytesLess x y=true)(hy:y∈T.take k):x∈T.take k:=by
 have e:=List.take_append_drop k T
 rw [←e,List.mem_append] at hx
 rcases hx with hx|hx
 · exact hx
 · have h2:lW (T.take k++T.drop k):=by rw [e];exact h
   have :=(List.pairwise_append.1 h2).2.2 y hy x hx
   rw [ia hxy] at this;cases this
theorem qb(d:List ew):(dT d).length=d.length:=by simp [dT]
theorem B9(d:List ew)(i:Nat):(dT d).getD i []=ca d i:=by
 simp only [dT,ca,List.getD_eq_getElem?_getD,List.getElem?_map]
 cases d[i]? <;>rfl
theorem Td {a b:List UInt8}(h:BJ a b=false):Op.bytesLess b a=true :=by
 simp only [BJ,Bool.or_eq_false_iff,decide_eq_false_iff_not] at h
 rcases gw a b with h1|h1|h1
 · rw [h1] at h;cases h.1
 · exact absurd h1 h.2
 · exact h1
theorem iw {d:List ew}(h:dF d=true):lW (dT d):=by
 have hs:∀n i,i<n→n<d.length→Op.bytesLess (ca d i) (ca d n)=true :=by
  intro n
  induction n with
  |zero=>intro i hi;omega
  |succ n ih=>
   intro i hi hn
   have h1:=(rm d (n+1)).1 ((vu d).1 h (n+1) hn)
   have h2:Op.bytesLess (ca d n) (ca d (n+1))=true :=by
    rcases h1.1 with h0|h0
    · omega
    · exact Td h0
   by_cases e:i=n
   · subst e;exact h2
   · exact jS _ _ _ (ih i (by omega) (by omega)) h2
 unfold lW
 rw [List.pairwise_iff_getElem]
 intro i j hi hj hij
 have e:∀q (hq:q<(dT d).length),(dT d)[q]=ca d q:=fun q hq=>by
  rw [←B9,List.getD_eq_getElem?_getD,List.getElem?_eq_getElem hq];rfl
 rw [e i hi,e j hj]
 exact hs j i hij (by rw [qb] at hj;exact hj)
theorem zS {l:List ax} {s:ax}(hs:s∈l) {t:List UInt8}(ht:t∈dT s.2.2):t∈uT l:=by
 rw [uT,fJ,Bb,List.mem_flatMap];exact⟨s,hs,ht⟩
theorem uv(l:List ax):lW (uT l):=jT _
theorem Lc {l:List ax} {s:ax}(hs:s∈l)(hd:dF s.2.2=true)(k:Nat):
  (dT s.2.2).take (bY l k s).toNat=(dT s.2.2).filter (fun t=>decide (t∈(uT l).take k))∧(dT s.2.2).drop (bY l k s).toNat=(dT s.2.2).filter fun t=> !decide (t∈(uT l).take k):=by
 have :=Bc (P:=fun t=>decide (t∈(uT l).take k)) (iw hd) fun x hx y hy hxy hPy=>by
  simp only [decide_eq_true_eq] at hPy ⊢
  exact xh (uv l) k (zS hs hx) hxy hPy
 simpa only [bY,Int.toNat_natCast] using this
theorem sw(l:List ax)(k:Nat)(s:ax):0≤bY l k s∧bY l k s≤s.2.2.length:=by
 unfold bY
 have :=List.length_filter_le (fun t=>decide (t∈(uT l).take k)) (dT s.2.2)
 rw [qb] at this;omega
theorem Jb {l:List ax} {s:ax}(hs:s∈l)(hd:dF s.2.2=true) {k:Nat}(h:bY l k s<s.2.2.length):
  ca s.2.2 (bY l k s).toNat∈dT s.2.2∧ca s.2.2 (bY l k s).toNat∈uT l∧ca s.2.2 (bY l k s).toNat∉(uT l).take k∧∀t∈dT s.2.2,t∉(uT l).take k→t=ca s.2.2 (bY l k s).toNat∨Op.bytesLess (ca s.2.2 (bY l k s).toNat) t=true :=by
 have h0:=sw l k s
 have hc:=(Lc hs hd k).2
 have hn:(bY l k s).toNat<(dT s.2.2).length:=by rw [qb];omega
 have NN:(dT s.2.2).drop (bY l k s).toNat=ca s.2.2 (bY l k s).toNat::(dT s.2.2).drop ((bY l k s).toNat+1):=by
  rw [←B9,List.getD_eq_getElem?_getD,List.getElem?_eq_getElem hn]
  exact List.drop_eq_getElem_cons hn
 have hm:ca s.2.2 (bY l k s).toNat∈(dT s.2.2).filter fun t=> !decide (t∈(uT l).take k):=by
  rw [←hc,NN];exact List.mem_cons_self ..
 rw [List.mem_filter] at hm
 simp only [Bool.not_eq_true',decide_eq_false_iff_not] at hm
 refine⟨hm.1,zS hs hm.1,hm.2,fun t ht hk=> ?_⟩
 have ht2:t∈(dT s.2.2).filter fun t=> !decide (t∈(uT l).take k):=by
  rw [List.mem_filter];exact⟨ht,by simp [hk]⟩
 rw [←hc,NN,List.mem_cons] at ht2
 rcases ht2 with h2|h2
 · exact .inl h2
 · right
   have hi:lW ((dT s.2.2).drop (bY l k s).toNat):=(iw hd).sublist (List.drop_sublist _ _)
   rw [NN] at hi
   exact(List.pairwise_cons.1 hi).1 t h2
theorem Te {l:List ax} {s:ax}(hs:s∈l) {k:Nat}(h:∀t∈dT s.2.2,t∈(uT l).take k):bY l k s=s.2.2.length:=by
 unfold bY
 rw [List.filter_eq_self.2 fun t ht=>by simp [h t ht],qb]
theorem ju {T:List (List UInt8)} {k:Nat}(hk:k<T.length)(t:List UInt8):t∈T.take (k+1)↔t∈T.take k∨t=T.getD k []:=lF hk t
theorem Jc {l:List ax} {k:Nat}(hk:k<(uT l).length):(uT l).getD k []∉(uT l).take k:=Ba (ur (uv l)) hk
theorem NO {ts:List (List UInt8)}(h:lW ts) {T:List (List UInt8)} {k:Nat}(hk:k<T.length)(hn:T.getD k []∉T.take k):
  (ts.filter fun t=>decide (t∈T.take (k+1))).length=(ts.filter fun t=>decide (t∈T.take k)).length+(if T.getD k []∈ts then 1 else 0):=by
 induction ts with
 |nil=>simp
 |cons x r ih=>
  have h1:=List.pairwise_cons.1 h
  have hx:T.getD k []=x→T.getD k []∉r:=fun e hr=>by
   rw [e] at hr
   have :=h1.1 x hr
   rw [bU] at this;cases this
  have ih:=ih h1.2
  simp only [List.filter_cons,ju hk,decide_eq_true_eq,List.mem_cons] at ih ⊢
  by_cases e:x=T.getD k []
  · have hr:=hx e.symm
    rw [if_neg hr] at ih
    have hxn:¬x∈T.take k:=by rw [e];exact hn
    rw [if_pos (Or.inr e),if_neg hxn,if_pos (Or.inl e.symm),List.length_cons,ih]
  · have e2:¬T.getD k []=x:=fun h=>e h.symm
    by_cases Tf:x∈T.take k
    · rw [if_pos (Or.inl Tf),if_pos Tf,List.length_cons,List.length_cons,ih]
      by_cases hr:T.getD k []∈r
      · rw [if_pos hr,if_pos (Or.inr hr)]
      · rw [if_neg hr,if_neg (by rintro(h|h);exact e2 h;exact hr h)]
    · rw [if_neg (by rintro(h|h);exact Tf h;exact e h),if_neg Tf,ih]
      by_cases hr:T.getD k []∈r
      · rw [if_pos hr,if_pos (Or.inr hr)]
      · rw [if_neg hr,if_neg (by rintro(h|h);exact e2 h;exact hr h)]
def hit(l:List ax)(k:Nat)(s:ax):Prop :=bY l k s<s.2.2.length∧ca s.2.2 (bY l k s).toNat=(uT l).getD k []
theorem D4 {l:List ax} {s:ax}(hs:s∈l)(hd:dF s.2.2=true) {k:Nat}(hk:k<(uT l).length):hit l k s↔(uT l).getD k []∈dT s.2.2:=by
 constructor
 · rintro⟨h1,h2⟩;rw [←h2];exact(Jb hs hd h1).1
 · intro hm
   have eB:bY l k s<s.2.2.length:=by
    have h0:=sw l k s
    by_cases h:bY l k s<s.2.2.length
    · exact h
    · exfalso
      have hc:=(Lc hs hd k).2
      rw [List.drop_eq_nil_of_le (by rw [qb];omega)] at hc
      have :(uT l).getD k []∈(dT s.2.2).filter fun t=> !decide (t∈(uT l).take k):=by
       rw [List.mem_filter];exact⟨hm,by rw [decide_eq_false (Jc hk)];rfl⟩
      rw [←hc] at this;cases this
   refine⟨eB,?_⟩
   obtain⟨h1,h2,h3,h4⟩:=Jb hs hd eB
   rcases h4 _ hm (Jc hk) with h5|h5
   · exact h5.symm
   · exfalso
     apply h3
     refine(ju hk _).1 (xh (uv l) (k+1) h2 h5 ((ju hk _).2 (.inr rfl))) |>.resolve_right fun e=> ?_
     rw [e,bU] at h5;cases h5
theorem GI {l:List ax} {s:ax}(hs:s∈l)(hd:dF s.2.2=true) {k:Nat}(hk:k<(uT l).length):
  (hit l k s→bY l (k+1) s=bY l k s+1)∧(¬hit l k s→bY l (k+1) s=bY l k s):=by
 have :=NO (iw hd) hk (Jc hk)
 unfold bY
 rw [D4 hs hd hk]
 constructor<;>intro h
 · rw [if_pos h] at this;omega
 · rw [if_neg h] at this;omega
theorem po {t:List UInt8} {d:List ew}(h:t∉dT d):mK t d= []:=by
 have :d.filter (fun e=>decide (e.1=t))= []:=by
  rw [List.filter_eq_nil_iff]
  intro e he
  simp only [decide_eq_true_eq]
  intro e2;exact h (by rw [←e2];exact List.mem_map.2 ⟨e,he,rfl⟩)
 rw [mK,this];rfl
theorem ot:∀ {d:List ew},lW (dT d)→∀ {i:Nat},i<d.length→mK (ca d i) d=iv d i
 | [],_,i,hi=>by simp at hi
 |e::d,h,0,_=>by
  have h1:=List.pairwise_cons.1 h
  have hn:e.1∉dT d:=fun hm=>by have :=h1.1 _ hm;rw [bU] at this;cases this
  have :=po hn
  simp only [mK] at this
  simp [mK,ca,iv,List.filter_cons,this]
 |e::d,h,i+1,hi=>by
  have h1:=List.pairwise_cons.1 h
  have hm:ca d i∈dT d:=by
   rw [←B9,List.getD_eq_getElem?_getD,List.getElem?_eq_getElem (by rw [qb];simpa using hi)]
   exact List.getElem_mem _
  have dH:¬e.1=ca d i:=fun he=>by have h5:=h1.1 _ hm;simp only [he,bU] at h5;cases h5
  have ih:=ot (d:=d) h1.2 (i:=i) (by simpa using hi)
  have e1:ca (e::d) (i+1)=ca d i:=rfl
  have e2:iv (e::d) (i+1)=iv d i:=rfl
  rw [e1,e2,←ih]
  simp only [mK,List.filter_cons,decide_eq_true_eq,if_neg dH]
end Go.S

end
section
namespace Go.S
theorem ib {l:List ax} {i:Nat}(h:i<l.length):ar l i∈l:=bu l i _ h
theorem ic {l:List ax} {k i:Nat}(h:i<l.length):(aA l k).getD i 0=bY l k (ar l i):=by
 simp only [aA,ar,List.getD_eq_getElem?_getD,List.getElem?_map,List.getElem?_eq_getElem h,Option.map_some,Option.getD_some]
theorem fM(l:List ax)(k:Nat):(aA l k).length=l.length:=by simp [aA]
theorem Ca {l:List ax}(k:Nat):∀i,i≤l.length→
  (cJ l (aA l k) i= -1∧∀j,j<i→bY l k (ar l j)=(ar l j).2.2.length)∨
  (∃q:Nat,cJ l (aA l k) i=q∧q<i∧bY l k (ar l q)<(ar l q).2.2.length∧∀j,j<i→bY l k (ar l j)<(ar l j).2.2.length→
    Op.bytesLess (ca (ar l j).2.2 (bY l k (ar l j)).toNat) (ca (ar l q).2.2 (bY l k (ar l q)).toNat)=false)
 |0,_=> .inl ⟨rfl,fun j hj=>by omega⟩
 |i+1,hi=>by
  have ih:=Ca (l:=l) k i (by omega)
  have h0:=sw l k (ar l i)
  simp only [cJ]
  rw [ic (k:=k) (show i<l.length by omega)]
  by_cases he:bY l k (ar l i)=((ar l i).2.2.length:Int)
  · rw [if_pos he]
    rcases ih with⟨h1,h2⟩|⟨q,h1,h2,h3,h4⟩
    · refine .inl ⟨h1,fun j hj=> ?_⟩
      by_cases e:j=i
      · rw [e];exact he
      · exact h2 j (by omega)
    · refine .inr ⟨q,h1,by omega,h3,fun j hj sb=> ?_⟩
      by_cases e:j=i
      · rw [e] at sb;omega
      · exact h4 j (by omega) sb
  · rw [if_neg he]
    rcases ih with⟨h1,h2⟩|⟨q,h1,h2,h3,h4⟩
    · rw [if_pos (Or.inl (by rw [h1];decide))]
      refine .inr ⟨i,rfl,by omega,by omega,fun j hj sb=> ?_⟩
      by_cases e:j=i
      · rw [e];exact bU _
      · have :=h2 j (by omega);omega
    · rw [h1]
      have e1:((q:Int)).toNat=q:=Int.toNat_natCast q
      rw [e1,ic (k:=k) (show q<l.length by omega)]
      cases hb:Op.bytesLess (ca (ar l i).2.2 (bY l k (ar l i)).toNat) (ca (ar l q).2.2 (bY l k (ar l q)).toNat) with
      |true=>
       rw [if_pos (Or.inr rfl)]
       refine .inr ⟨i,rfl,by omega,by omega,fun j hj sb=> ?_⟩
       by_cases e:j=i
       · rw [e];exact bU _
       · have h5:=h4 j (by omega) sb
         cases hc:Op.bytesLess (ca (ar l j).2.2 (bY l k (ar l j)).toNat) (ca (ar l i).2.2 (bY l k (ar l i)).toNat) with
         |false=>rfl
         |true=>rw [jS _ _ _ hc hb] at h5;cases h5
      |false=>
       rw [if_neg (by rintro(h|h);omega;cases h)]
       refine .inr ⟨q,rfl,by omega,h3,fun j hj sb=> ?_⟩
       by_cases e:j=i
       · rw [e];exact hb
       · exact h4 j (by omega) sb
theorem ae6 {l:List ax} {t:List UInt8}(h:t∈uT l):∃j,j<l.length∧t∈dT (ar l j).2.2:=by
 rw [uT,fJ,Bb,List.mem_flatMap] at h
 obtain⟨s,hs,ht⟩:=h
 obtain⟨j,hj,rfl⟩:=List.mem_iff_getElem.1 hs
 refine⟨j,hj,?_⟩
 rw [ar,List.getD_eq_getElem?_getD,List.getElem?_eq_getElem hj];exact ht
theorem Jd {T:List (List UInt8)} {k:Nat}(hk:k<T.length):T.getD k []∈T:=bu T k [] hk
theorem GJ {l:List ax}(hp:nm l) {k:Nat}(hk:k<(uT l).length):
  ∃q:Nat,cJ l (aA l k) l.length=q∧q<l.length∧bY l k (ar l q)<(ar l q).2.2.length∧ca (ar l q).2.2 (bY l k (ar l q)).toNat=(uT l).getD k []:=by
 obtain⟨j,hj,hjt⟩:=ae6 (Jd hk)
 have hsj:=ib hj
 obtain⟨h1,h2⟩:=(D4 hsj (hp.2 _ hsj).1 hk).2 hjt
 rcases Ca (l:=l) k l.length (Nat.le_refl _) with⟨_,h4⟩|⟨q,h3,h4,h5,h6⟩
 · have :=h4 j hj;omega
 · refine⟨q,h3,h4,h5,?_⟩
   have h7:=h6 j hj h1
   rw [h2] at h7
   have hsq:=ib h4
   obtain⟨g1,g2,g3,_⟩:=Jb hsq (hp.2 _ hsq).1 h5
   rcases gw ((uT l).getD k []) (ca (ar l q).2.2 (bY l k (ar l q)).toNat) with h8|h8|h8
   · rw [h7] at h8;cases h8
   · exact h8.symm
   · exfalso
     apply g3
     refine(ju hk _).1 (xh (uv l) (k+1) g2 h8 ((ju hk _).2 (.inr rfl))) |>.resolve_right fun e=> ?_
     rw [e,bU] at h8;cases h8
theorem Tg {l:List ax} {k:Nat}(hk:(uT l).length≤k):cJ l (aA l k) l.length= -1:=by
 rcases Ca (l:=l) k l.length (Nat.le_refl _) with⟨h,_⟩|⟨q,h3,h4,h5,h6⟩
 · exact h
 · have hs:=ib h4
   have :=Te hs (k:=k) fun t ht=>by rw [List.take_of_length_le hk];exact zS hs ht
   omega
theorem Ld {l:List ax}(hp:nm l)(k:Nat):cJ l (aA l k) l.length<0↔(uT l).length≤k:=by
 constructor
 · intro h
   by_cases hk:k<(uT l).length
   · obtain⟨q,h1,_⟩:=GJ hp hk;omega
   · omega
 · intro h;rw [Tg h];decide
def cO(l:List ax)(t:List UInt8)(i:Nat):List Int:=nH (l.take i) t
theorem Vr(l:List ax)(k i:Nat)(h:i≤l.length):(aY l k i).length=l.length:=by
 simp only [aY,List.length_append,List.length_take,List.length_drop,fM];omega
theorem ae7(l:List ax)(k:Nat):aA l k=aY l k 0:=by simp [aY]
theorem Vs {l:List ax} {k:Nat}:aY l k l.length=aA l (k+1):=by
 rw [aY,List.take_of_length_le (by rw [fM];exact Nat.le_refl _),List.drop_eq_nil_of_le (by rw [fM];exact Nat.le_refl _),List.append_nil]
theorem D5 {l:List ax} {k i:Nat}(h:i<l.length):(aY l k i).getD i 0=bY l k (ar l i):=by
 rw [←ic h]
 have hl:((aA l (k+1)).take i).length=i:=by rw [List.length_take,fM];omega
 simp only [aY,List.getD_eq_getElem?_getD]
 rw [List.getElem?_append_right (by omega),hl,List.getElem?_drop]
 simp
theorem Th {l:List ax} {k i:Nat}(h:i<l.length)(he:bY l (k+1) (ar l i)=bY l k (ar l i)):aY l k i=aY l k (i+1):=by
 have e1:(aA l (k+1)).take (i+1)=(aA l (k+1)).take i++ [bY l (k+1) (ar l i)]:=by
  rw [ay _ i 0 (by rw [fM];exact h),ic h]
 have hn:i<(aA l k).length:=by rw [fM];exact h
 have e2:(aA l k).drop i=bY l k (ar l i)::(aA l k).drop (i+1):=by
  rw [List.drop_eq_getElem_cons hn]
  congr 1
  rw [←ic (k:=k) h,List.getD_eq_getElem?_getD,List.getElem?_eq_getElem hn];rfl
 rw [aY,aY,e1,e2,he,List.append_assoc];rfl
theorem Vt {l:List ax} {k i:Nat}(h:i<l.length)(he:bY l (k+1) (ar l i)=bY l k (ar l i)+1):(aY l k i).set i (bY l k (ar l i)+1)=aY l k (i+1):=by
 have hn:i<(aA l k).length:=by rw [fM];exact h
 have e1:(aA l (k+1)).take (i+1)=(aA l (k+1)).take i++ [bY l (k+1) (ar l i)]:=by
  rw [ay _ i 0 (by rw [fM];exact h),ic h]
 have e2:(aA l k).drop i=bY l k (ar l i)::(aA l k).drop (i+1):=by
  rw [List.drop_eq_getElem_cons hn]
  congr 1
  rw [←ic (k:=k) h,List.getD_eq_getElem?_getD,List.getElem?_eq_getElem hn];rfl
 have hl:((aA l (k+1)).take i).length=i:=by rw [List.length_take,fM];omega
 rw [aY,aY,e1,e2,he,List.append_assoc,List.set_append_right _ _ (by omega),hl,Nat.sub_self];rfl
theorem NP(l:List ax)(t:List UInt8):cO l t l.length=nH l t:=by simp [cO]
theorem uw {l:List ax} {t:List UInt8} {i:Nat}(h:i<l.length):cO l t (i+1)=cO l t i++mK t (ar l i).2.2:=by
 have :l.take (i+1)=l.take i++ [ar l i]:=ay l i _ h
 simp only [cO,nH,this,List.flatMap_append,List.flatMap_cons,List.flatMap_nil,List.append_nil]
theorem NQ {l:List ax}(hp:nm l) {k i:Nat}(hk:k<(uT l).length)(hi:i<l.length)(h1:bY l k (ar l i)<(ar l i).2.2.length)(h2:ca (ar l i).2.2 (bY l k (ar l i)).toNat=(uT l).getD k []):
  cO l ((uT l).getD k []) i++iv (ar l i).2.2 (bY l k (ar l i)).toNat=cO l ((uT l).getD k []) (i+1)∧(aY l k i).set i (bY l k (ar l i)+1)=aY l k (i+1):=by
 have hs:=ib hi
 have hd:=(hp.2 _ hs).1
 have h0:=sw l k (ar l i)
 refine⟨?_,Vt hi ((GI hs hd hk).1 ⟨h1,h2⟩)⟩
 rw [uw hi,←ot (iw hd) (i:=(bY l k (ar l i)).toNat) (by omega),h2]
theorem Le {l:List ax}(hp:nm l) {k i:Nat}(hk:k<(uT l).length)(hi:i<l.length)(h:¬(bY l k (ar l i)<(ar l i).2.2.length∧ca (ar l i).2.2 (bY l k (ar l i)).toNat=(uT l).getD k [])):
  cO l ((uT l).getD k []) i=cO l ((uT l).getD k []) (i+1)∧aY l k i=aY l k (i+1):=by
 have hs:=ib hi
 have hd:=(hp.2 _ hs).1
 refine⟨?_,Th hi ((GI hs hd hk).2 h)⟩
 rw [uw hi,po (fun hm=>h ((D4 hs hd hk).2 hm)),List.append_nil]
theorem Lf {l:List ax} {k:Nat}(hk:k<(uT l).length):cv l k++ [((uT l).getD k [],nH l ((uT l).getD k []))]=cv l (k+1):=by
 simp only [cv]
 rw [ay (uT l) k [] hk,List.map_append];rfl
theorem NR {l:List ax} {k:Nat}(hk:(uT l).length≤k):cv l k=mL l:=by
 simp only [cv,mL];rw [List.take_of_length_le hk]
theorem NS(l:List ax)(k:Nat):(cv l k).length≤k:=by simp [cv];omega
theorem Ķ {l:List ax}(hp:nm l):(uT l).length≤1048576000:=by
 have h1:=sr (Bb l)
 have h2:∀m:List ax,(∀s∈m,s.2.2.length≤1048576)→(Bb m).length≤1048576*m.length:=by
  intro m
  induction m with
  |nil=>intro _;simp [Bb]
  |cons s m ih=>
   intro h
   have :=ih fun s hs=>h s (List.mem_cons_of_mem _ hs)
   have h3:=h s (List.mem_cons_self ..)
   simp only [Bb,List.flatMap_cons,List.length_append,qb,List.length_cons] at this ⊢
   omega
 have :=h2 l fun s hs=>(hp.2 s hs).2
 have h3:=hp.1
 unfold uT
 have :1048576*l.length≤1048576000:=by omega
 omega
theorem ux {d:List ew}(h:dF d=true)(t:List UInt8):(mK t d).length≤1000:=by
 by_cases hm:t∈dT d
 · obtain⟨i,hi,e⟩:=List.mem_iff_getElem.1 hm
   have e2:ca d i=t:=by rw [←B9,List.getD_eq_getElem?_getD,List.getElem?_eq_getElem hi];exact e
   have By:i<d.length:=by rw [qb] at hi;exact hi
   rw [←e2,ot (iw h) By]
   exact GG (Vf h By).2
 · rw [po hm];simp
theorem D6 {l:List ax}(hp:nm l)(t:List UInt8):∀i,i≤l.length→(cO l t i).length≤1000*i
 |0,_=>by simp [cO,nH]
 |i+1,hi=>by
  rw [uw (by omega),List.length_append]
  have :=D6 hp t i (by omega)
  have :=ux (hp.2 _ (ib (show i<l.length by omega))).1 t
  omega
end Go.S

end
section
namespace Go.S
abbrev Sp:=Int×Int
def gf(l:List Sp)(i:Nat):Sp:=l.getD i (0,0)
def lg(n:Int):Int:=(Nat.log2 n.toNat:Nat)
def j3(a b:Int):Int:=if a<0∨b<0∨b≤a then -1 else lg (b-a)
def zT(l:List Sp)(i:Nat):Int:=j3 (gf l i).1 (gf l i).2
def sx(l:List Sp):Nat→Int×Bool
 |0=>(0,false)
 |k+1=>if zT l k≤zT l (k+1) then((k:Int),true) else sx l k
def dC(l:List Sp):Int×Bool:=sx l (l.length-1)
def iZ(l:List Sp)(i:Nat):List Sp:=l.take i++ [((gf l i).1,(gf l (i+1)).2)]++l.drop (i+2)
def kA:Nat→List Sp→List Sp
 |0,l=>l
 |n+1,l=>if(dC l).2 then kA n (iZ l (dC l).1.toNat) else l
def ie(l:List Sp):List Sp:=kA l.length l
def cr(l:List ax):List Sp:=l.map fun s=>(s.1,s.2.1)
def lG(a b:Int)(n:Nat):Prop :=0≤a∧a<b∧1≤n∧(n:Int)≤b-a
def kC(l:List Sp)(k:Nat):Prop :=(k+1≤l.length∨k=0)∧dC l=sx l (l.length-1-k)
theorem ak9 {n:Int}(h:n<2):0=lg n:=by
 unfold lg
 rw [Nat.log2_def,if_neg (by omega)];rfl
theorem acT {n:Int}(h:2≤n):1+lg (n/2)=lg n:=by
 unfold lg
 rw [Nat.log2_def n.toNat,if_pos (by omega),show(n/2).toNat=n.toNat/2 by omega]
 omega
theorem acU(n:Int):0≤lg n:=by unfold lg;omega
theorem Vu(n:Int)(h:0≤n):lg n≤n:=by
 unfold lg
 by_cases h0:n.toNat=0
 · rw [h0];simp [Nat.log2];omega
 · have :=Nat.log2_lt (n:=n.toNat) (k:=n.toNat) h0
   have h2:n.toNat<2^n.toNat:=Nat.lt_two_pow_self
   have :=this.2 h2
   omega
theorem O9(l:List Sp):∀k,0≤(sx l k).1∧((sx l k).2=true→(sx l k).1<k)
 |0=>⟨Int.le_refl _,fun h=>by cases h⟩
 |k+1=>by
  have :=O9 l k
  simp only [sx]
  split
  · exact⟨by simp only;omega,fun _=>by simp only;omega⟩
  · exact⟨this.1,fun h=>by have :=this.2 h;omega⟩
theorem D7 {l:List Sp}(h:(dC l).2=true):0≤(dC l).1∧(dC l).1+1<l.length:=by
 have :=O9 l (l.length-1)
 have h2:=this.2 h
 unfold dC at *
 omega
theorem zU {l:List Sp} {i:Nat}(h:i+1<l.length):(iZ l i).length+1=l.length:=by
 simp only [iZ,List.length_append,List.length_take,List.length_drop,List.length_singleton];omega
theorem NT {l:List Sp}(h:(dC l).2=false):ie l=l:=by
 unfold ie
 cases hl:l.length with
 |zero=>rfl
 |succ n=>simp only [kA,h];rfl
theorem Lg {l:List Sp}(h:(dC l).2=true):ie (iZ l (dC l).1.toNat)=ie l:=by
 have hb:=D7 h
 have hj:=zU (l:=l) (i:=(dC l).1.toNat) (by omega)
 unfold ie
 rw [←hj]
 show kA _ _=kA (_+1) l
 simp only [kA,h,if_true]
end Go.S

end
section
namespace Go.S
def aB(docs:List (List UInt8))(l:List Sp):List ax:=l.map fun s=>(s.1,s.2,make docs s.1 s.2)
def eP(l:List ax)(i:Nat):Int:=if i=0 then 0 else(ar l (i-1)).2.1
def jv(docs:List (List UInt8))(l:List ax)(i:Nat):Bool:=
 decide ((ar l i).1=eP l i)&&(fW docs (ar l i).1 (ar l i).2.1&&decide ((ar l i).2.2=make docs (ar l i).1 (ar l i).2.1))
def bc(docs:List (List UInt8))(l:List ax):Bool:=dB docs 0 0&&(decide ((l.length:Int)≤64)&&(List.range l.length).all (jv docs l))
def al(docs:List (List UInt8))(l:List ax):List (List UInt8)×List ax:=if bc docs l then(docs,l) else([],[])
def cm(l:List ax):Int:=eP l l.length
def lH(docs:List (List UInt8))(l:List ax):Int:=cm (al docs l).2
def bt(docs:List (List UInt8))(l:List ax)(doc:List UInt8):(List (List UInt8)×List ax)×Int:=
 if(2000:Int)<doc.length then(al docs l,1)
 else if(1000:Int)≤(al docs l).1.length then(al docs l,3)
 else(((al docs l).1++ [doc],(al docs l).2),0)
def ba(docs:List (List UInt8))(l:List ax):(List (List UInt8)×List ax)×Int:=
 if lH docs l=(al docs l).1.length then(al docs l,5)
 else if(64:Int)≤(al docs l).2.length then(al docs l,3)
 else(((al docs l).1,(al docs l).2++ [(lH docs l,((al docs l).1.length:Int),make (al docs l).1 (lH docs l) (al docs l).1.length)]),0)
def pq(l:List ax)(i m:Nat)(s:ax):List ax:=l.take i++ [s]++l.drop (i+m)
def rq(docs:List (List UInt8))(l:List ax)(i m:Nat):ax:=((ar l i).1,(ar l (i+m-1)).2.1,make docs (ar l i).1 (ar l (i+m-1)).2.1)
def wy(l:List ax)(i m:Int):Bool:=decide (m<2) || (decide (i<0) || (decide ((l.length:Int)<m) || decide ((l.length:Int)-m<i)))
def cw(docs:List (List UInt8))(l:List ax)(i m:Int):(List (List UInt8)×List ax)×Int:=
 if wy (al docs l).2 i m then(al docs l,1)
 else(((al docs l).1,pq (al docs l).2 i.toNat m.toNat (rq (al docs l).1 (al docs l).2 i.toNat m.toNat)),0)
def di(docs:List (List UInt8))(l:List ax):List (List UInt8)×List ax:=((al docs l).1,aB (al docs l).1 (ie (cr (al docs l).2)))
def Vv(s:ax):Sg:=rOf s.1 s.2.1 s.2.2
def qc(docs:List (List UInt8))(l:List ax):List Sg:=(al docs l).2.map Vv
def uy(docs:List (List UInt8))(l:List ax)(k:Nat):Prop :=dB docs 0 0=true∧l.length≤64∧(∀i,i<k→jv docs l i=true)∧k≤l.length
def dL(docs:List (List UInt8)):Int→List Sp→Bool
 |_,[]=>true
 |a,s::r=>decide (s.1=a)&&(fW docs s.1 s.2&&dL docs s.2 r)
def db:Int→List Sp→Int
 |a,[]=>a
 |_,s::r=>db s.2 r
theorem ml(docs:List (List UInt8)):∀(a:Int) (l m:List Sp),dL docs a (l++m)=(dL docs a l&&dL docs (db a l) m)
 |a,[],m=>by simp [dL,db]
 |a,s::r,m=>by simp only [List.cons_append,dL,db];rw [ml docs s.2 r m,Bool.and_assoc,Bool.and_assoc]
theorem jx:∀(a:Int) (l m:List Sp),db a (l++m)=db (db a l) m
 |_,[],_=>rfl
 |_,s::r,m=>by simp only [List.cons_append,db];exact jx s.2 r m
theorem mn {docs:List (List UInt8)} {a b:Int}(h:fW docs a b=true):a<b∧0≤a∧b≤docs.length∧docs.length≤1000∧∀d∈docs,d.length≤2000:=by
 simp only [fW,dB,Bool.and_eq_true,List.all_eq_true,decide_eq_true_eq] at h
 obtain⟨⟨h1,h2,h3,h4,h5⟩,h6⟩:=h
 exact⟨h6,h3,h5,by omega,fun d hd=>by have :=h1 d hd;omega⟩
theorem ru {docs:List (List UInt8)} {a b:Int}(h:dB docs 0 0=true)(h1:0≤a)(h2:a<b)(h3:b≤docs.length):fW docs a b=true :=by
 simp only [fW,dB,Bool.and_eq_true,List.all_eq_true,decide_eq_true_eq] at h ⊢
 exact⟨⟨h.1,h.2.1,h1,by omega,h3⟩,h2⟩
theorem Vw {docs:List (List UInt8)} {a b:Int}(h:fW docs a b=true):dB docs 0 0=true :=by
 simp only [fW,dB,Bool.and_eq_true,List.all_eq_true,decide_eq_true_eq] at h ⊢
 exact⟨h.1.1,h.1.2.1,Int.le_refl _,Int.le_refl _,by omega⟩
theorem yM {docs:List (List UInt8)}:∀ {l:List Sp} {a:Int},dL docs a l=true→a≤db a l∧(l≠ []→fW docs a (db a l)=true)∧(db a l≤docs.length∨l= [])
 | [],a,_=>⟨Int.le_refl _,fun h=>absurd rfl h, .inr rfl⟩
 |s::r,a,h=>by
  simp only [dL,Bool.and_eq_true,decide_eq_true_eq] at h
  obtain⟨h1,h2,h3⟩:=h
  have ih:=yM h3
  have h4:=mn h2
  have h5:db s.2 r≤docs.length:=by
   rcases ih.2.2 with h|h
   · exact h
   · rw [h];exact h4.2.2.1
  simp only [db]
  exact⟨by omega,fun _=>ru (Vw h2) (by omega) (by omega) h5, .inl h5⟩
theorem ou {docs:List (List UInt8)}:∀ {l:List Sp} {a:Int},dL docs a l=true→∀s∈l,fW docs s.1 s.2=true
 | [],_,_,s,hs=>by cases hs
 |t::r,a,h,s,hs=>by
  simp only [dL,Bool.and_eq_true,decide_eq_true_eq] at h
  rcases List.mem_cons.1 hs with rfl|hs
  · exact h.2.1
  · exact ou h.2.2 s hs
theorem D8:∀(l:List ax),db 0 (cr l)=cm l:=by
 intro l
 unfold cm eP
 by_cases h:l.length=0
 · rw [if_pos h]
   have :l= []:=List.eq_nil_of_length_eq_zero h
   subst this;rfl
 · rw [if_neg h]
   obtain⟨m,s,rfl⟩:∃m s,l=m++ [s]:=⟨l.dropLast,l.getLast (by intro e;subst e;exact h rfl),(List.dropLast_concat_getLast _).symm⟩
   have e:ar (m++ [s]) ((m++ [s]).length-1)=s:=by
    simp only [ar,List.length_append,List.length_singleton,Nat.add_sub_cancel,List.getD_eq_getElem?_getD]
    rw [List.getElem?_append_right (Nat.le_refl _),Nat.sub_self];rfl
   rw [e]
   simp only [cr,List.map_append,List.map_cons,List.map_nil]
   rw [jx];rfl
theorem iM(docs:List (List UInt8))(l:List Sp):cr (aB docs l)=l:=by
 simp only [cr,aB,List.map_map]
 have :((fun(s:ax)=>(s.1,s.2.1))∘fun(s:Sp)=>((s.1,s.2,make docs s.1 s.2):ax))=id:=by funext s;rfl
 rw [this,List.map_id]
theorem qd(docs:List (List UInt8))(l m:List Sp):aB docs (l++m)=aB docs l++aB docs m:=by simp [aB]
theorem D9(l m:List ax):cr (l++m)=cr l++cr m:=by simp [cr]
theorem sy(l:List ax):(cr l).length=l.length:=by simp [cr]
theorem dG(docs:List (List UInt8))(l:List Sp):(aB docs l).length=l.length:=by simp [aB]
theorem xi {l m:List ax} {i:Nat}(h:i<l.length):ar (l++m) i=ar l i:=by
 simp only [ar,List.getD_eq_getElem?_getD];rw [List.getElem?_append_left h]
theorem NU(l:List ax)(s:ax):ar (l++ [s]) l.length=s:=by
 simp only [ar,List.getD_eq_getElem?_getD];rw [List.getElem?_append_right (Nat.le_refl _),Nat.sub_self];rfl
theorem Lh {docs:List (List UInt8)}:∀(n:Nat) (l:List ax),l.length=n→((∀i,i<l.length→jv docs l i=true)↔dL docs 0 (cr l)=true∧l=aB docs (cr l))
 |0,l,h=>by
  have :l= []:=List.eq_nil_of_length_eq_zero h
  subst this
  exact⟨fun _=>⟨rfl,rfl⟩,fun _ i hi=>by simp at hi⟩
 |n+1,l,h=>by
  obtain⟨m,s,rfl⟩:∃m s,l=m++ [s]:=⟨l.dropLast,l.getLast (by intro e;subst e;simp at h),(List.dropLast_concat_getLast _).symm⟩
  have hm:m.length=n:=by simpa using h
  have ih:=Lh (docs:=docs) n m hm
  have e1:∀i,i<m.length→jv docs (m++ [s]) i=jv docs m i:=fun i hi=>by
   have h2:eP (m++ [s]) i=eP m i:=by
    unfold eP
    by_cases h0:i=0
    · rw [if_pos h0,if_pos h0]
    · rw [if_neg h0,if_neg h0,xi (by omega)]
   unfold jv
   rw [xi hi,h2]
  have e2:eP (m++ [s]) m.length=cm m:=by
   unfold cm eP
   by_cases h0:m.length=0
   · rw [if_pos h0,if_pos h0]
   · rw [if_neg h0,if_neg h0,xi (by omega)]
  have e3:jv docs (m++ [s]) m.length=true↔s.1=cm m∧fW docs s.1 s.2.1=true∧s.2.2=make docs s.1 s.2.1:=by
   unfold jv
   rw [e2,NU]
   simp only [Bool.and_eq_true,decide_eq_true_eq]
  have e4:dL docs 0 (cr (m++ [s]))=true↔dL docs 0 (cr m)=true∧s.1=cm m∧fW docs s.1 s.2.1=true :=by
   rw [D9,ml,D8,Bool.and_eq_true]
   simp only [cr,List.map_cons,List.map_nil,dL,Bool.and_true,Bool.and_eq_true,decide_eq_true_eq]
  have e5:m++ [s]=aB docs (cr (m++ [s]))↔m=aB docs (cr m)∧s.2.2=make docs s.1 s.2.1:=by
   rw [D9,qd]
   constructor
   · intro h
     have h5:=List.append_inj h (by rw [dG,sy])
     refine⟨h5.1,?_⟩
     have h6:=h5.2
     simp only [aB,cr,List.map_cons,List.map_nil,List.cons.injEq,and_true] at h6
     exact congrArg (fun(q:ax)=>q.2.2) h6
   · rintro⟨h5,h6⟩
     rw [←h5]
     congr 1
     simp only [aB,cr,List.map_cons,List.map_nil,List.cons.injEq,and_true]
     rw [←h6]
  rw [e4,e5]
  constructor
  · intro jk
    have h7:=ih.1 fun i hi=>by rw [←e1 i hi];exact jk i (by rw [List.length_append];omega)
    have h8:=e3.1 (jk m.length (by simp))
    exact⟨⟨h7.1,h8.1,h8.2.1⟩,h7.2,h8.2.2⟩
  · rintro⟨⟨h7,h8,h9⟩,dz,eI⟩ i hi
    by_cases By:i<m.length
    · rw [e1 i By];exact ih.2 ⟨h7,dz⟩ i By
    · have :i=m.length:=by simp at hi;omega
      subst this
      exact e3.2 ⟨h8,h9,eI⟩
theorem Cb {docs:List (List UInt8)} {l:List ax}:bc docs l=true↔dB docs 0 0=true∧l.length≤64∧dL docs 0 (cr l)=true∧l=aB docs (cr l):=by
 unfold bc
 rw [Bool.and_eq_true,Bool.and_eq_true,decide_eq_true_eq,List.all_eq_true,←Lh (docs:=docs) l.length l rfl]
 simp only [List.mem_range]
 constructor
 · rintro⟨h1,h2,h3⟩;exact⟨h1,by omega,h3⟩
 · rintro⟨h1,h2,h3⟩;exact⟨h1,by omega,h3⟩
theorem Pa:bc [] []=true :=by decide
theorem ix(docs:List (List UInt8))(l:List ax):bc (al docs l).1 (al docs l).2=true :=by
 unfold al
 by_cases h:bc docs l=true
 · rw [if_pos h];exact h
 · rw [if_neg h];exact Pa
theorem gF {docs:List (List UInt8)} {l:List ax}(h:bc docs l=true):al docs l=(docs,l):=by unfold al;rw [if_pos h]
theorem ae8 {docs:List (List UInt8)} {l:List Sp}(h1:dB docs 0 0=true)(h2:l.length≤64)(h3:dL docs 0 l=true):bc docs (aB docs l)=true :=
 Cb.2 ⟨h1,by rw [dG];exact h2,by rw [iM];exact h3,by rw [iM]⟩
end Go.S

end
section
namespace Go.S
theorem zV:∀(l acc:List Int),2*(la acc l).length≤l.length+1+(if acc.isEmpty then 0 else 1)
 | [],acc=>by cases acc<;>simp [la]
 |c::l,acc=>by
  simp only [la,List.length_cons]
  by_cases hc:iG c=true
  · rw [if_pos hc]
    have :=zV l (acc++ [c])
    have e:(acc++ [c]).isEmpty=false :=by cases acc<;>rfl
    rw [e] at this
    simp only [Bool.false_eq_true,if_false] at this
    cases acc.isEmpty<;>simp<;>omega
  · rw [if_neg hc]
    have :=zV l []
    simp only [List.isEmpty_nil,if_true] at this
    cases acc.isEmpty with
    |true=>simp only [if_true];omega
    |false=>simp only [Bool.false_eq_true,if_false,List.length_cons];omega
theorem Li(b:List UInt8):2*(bJ b).length≤b.length+1:=by
 have h:=zV (decode b) []
 simp only [List.isEmpty_nil,if_true] at h
 have h2:=uf b
 simp only [bJ,List.length_map];omega
theorem GK {docs:List (List UInt8)}(h:∀d∈docs,d.length≤2000)(a:Int):∀k,(nG docs a k).length≤1000*k
 |0=>by simp [nG]
 |k+1=>by
  rw [←A8,List.length_append]
  have :=GK h a k
  have h2:=sr (bJ (docs.getD (Int.toNat (a+(k:Int))) []))
  have h3:=Li (docs.getD (Int.toNat (a+(k:Int))) [])
  have h4:(docs.getD (Int.toNat (a+(k:Int))) []).length≤2000:=by
   by_cases e:Int.toNat (a+(k:Int))<docs.length
   · exact h _ (bu docs _ _ e)
   · rw [List.getD_eq_getElem?_getD,List.getElem?_eq_none (by omega)];exact Nat.zero_le _
  omega
theorem Lj {docs:List (List UInt8)} {a b:Int}(h:fW docs a b=true):js (make docs a b):=by
 have hg:=mn h
 refine NL (pn h) ?_
 have h1:=GK hg.2.2.2.2 a (b-a).toNat
 have h2:=sr (nG docs a (b-a).toNat)
 unfold cD;omega
theorem NV {docs:List (List UInt8)} {t:List UInt8} {a b c:Int}(h:a≤b)(h2:b≤c):cB docs a t (b-a).toNat++cB docs b t (c-b).toNat=cB docs a t (c-a).toNat:=by
 have e:List.range (c-a).toNat=List.range (b-a).toNat++(List.range (c-b).toNat).map ((b-a).toNat+ ·):=by
  rw [←List.range_add];congr 1;omega
 simp only [cB]
 rw [e,List.filter_append,List.map_append,List.filter_map,List.map_map]
 congr 1
 have hq:((fun(i:Nat)=>uq (docs.getD (a+(i:Int)).toNat []) t)∘fun x=>(b-a).toNat+x)=fun(i:Nat)=>uq (docs.getD (b+(i:Int)).toNat []) t:=by
  funext i
  simp only [Function.comp]
  rw [show(a+(((b-a).toNat+i:Nat):Int))=b+(i:Int) by omega]
 rw [hq]
 refine List.map_congr_left fun i _=> ?_
 simp only [Function.comp];omega
theorem Lk(docs:List (List UInt8))(a b:Int):dT (make docs a b)=cD docs a b:=by
 simp only [dT,make,List.map_map]
 have :((fun(e:ew)=>e.1)∘fun t=>((t,cB docs a t (b-a).toNat):ew))=id:=by funext t;rfl
 rw [this,List.map_id]
theorem yN {docs:List (List UInt8)} {a b:Int}(hp:kz docs a b)(t:List UInt8):mK t (make docs a b)=cB docs a t (b-a).toNat:=by
 by_cases hm:t∈cD docs a b
 · obtain⟨i,hi,e⟩:=List.mem_iff_getElem.1 hm
   have e2:(cD docs a b).getD i []=t:=by rw [List.getD_eq_getElem?_getD,List.getElem?_eq_getElem hi];exact e
   have e3:ca (make docs a b) i=t:=by rw [I9 hi,e2]
   rw [←e3,ot (iw (uu hp)) (by rw [vw];exact hi),Ja hi,e2,e3]
 · rw [po (by rw [Lk];exact hm)]
   by_cases he:cB docs a t (b-a).toNat= []
   · exact he.symm
   · exact absurd (nk.2 he) hm
theorem uz {docs:List (List UInt8)} {t:List UInt8}:∀ {m:List Sp} {a:Int},dL docs a m=true→nH (aB docs m) t=cB docs a t (db a m-a).toNat
 | [],a,_=>by simp [nH,aB,db,cB]
 |s::r,a,h=>by
  simp only [dL,Bool.and_eq_true,decide_eq_true_eq] at h
  obtain⟨h1,h2,h3⟩:=h
  have ih:=uz (t:=t) h3
  have h4:=mn h2
  have h5:=yM h3
  simp only [nH,aB,List.map_cons,List.flatMap_cons,db] at ih ⊢
  rw [ih,yN (pn h2),←h1]
  exact NV (by omega) h5.1
theorem ķ {l:List ax} {t:List UInt8}:t∈uT l↔∃s∈l,t∈dT s.2.2:=by
 rw [uT,fJ,Bb,List.mem_flatMap]
theorem NW {docs:List (List UInt8)} {m:List Sp} {a:Int}(h:dL docs a m=true)(hm:m≠ []):mL (aB docs m)=make docs a (db a m):=by
 have hK:uT (aB docs m)=cD docs a (db a m):=by
  refine so _ _ (uv _) (jT _) fun t=> ?_
  rw [nk,←uz h,ķ]
  constructor
  · rintro⟨s,hs,ht⟩ he
    simp only [nH,List.flatMap_eq_nil_iff] at he
    have h1:=he s hs
    simp only [aB,List.mem_map] at hs
    obtain⟨p,hp,rfl⟩:=hs
    simp only at h1 ht
    rw [Lk] at ht
    rw [yN (pn (ou h p hp))] at h1
    exact nk.1 ht h1
  · intro dH
    obtain⟨x,hx⟩:=List.exists_mem_of_ne_nil _ dH
    simp only [nH,List.mem_flatMap] at hx
    obtain⟨s,hs,Vx⟩:=hx
    refine⟨s,hs,?_⟩
    by_cases ht:t∈dT s.2.2
    · exact ht
    · rw [po ht] at Vx;cases Vx
 unfold mL make
 rw [hK]
 refine List.map_congr_left fun t _=> ?_
 rw [uz h]
theorem xj {docs:List (List UInt8)} {m:List Sp} {a:Int}(h:dL docs a m=true)(hm:m≠ []):(gf m 0).1=a:=by
 cases m with
 |nil=>exact absurd rfl hm
 |cons s r=>
  simp only [dL,Bool.and_eq_true,decide_eq_true_eq] at h
  exact h.1
theorem Ea:∀(m:List Sp) (a:Int),m≠ []→db a m=(gf m (m.length-1)).2
 | [],_,h=>absurd rfl h
 | [s],a,_=>rfl
 |s::t::r,a,_=>by
  have :=Ea (t::r) s.2 (by simp)
  simp only [db,List.length_cons,gf] at this ⊢
  rw [this];rfl
theorem qe(docs:List (List UInt8))(m:List Sp)(i:Nat)(h:i<m.length):ar (aB docs m) i=((gf m i).1,(gf m i).2,make docs (gf m i).1 (gf m i).2):=by
 simp only [ar,aB,gf,List.getD_eq_getElem?_getD,List.getElem?_map,List.getElem?_eq_getElem h,Option.map_some,Option.getD_some]
theorem Eb {docs:List (List UInt8)}:∀ {m:List Sp} {a:Int},dL docs a m=true→∀i,i+1<m.length→(gf m (i+1)).1=(gf m i).2
 | [],_,_,i,hi=>by simp at hi
 |s::r,a,h,0,hi=>by
  simp only [dL,Bool.and_eq_true,decide_eq_true_eq] at h
  have :r≠ []:=by intro e;subst e;simp at hi
  exact xj h.2.2 this
 |s::r,a,h,i+1,hi=>by
  simp only [dL,Bool.and_eq_true,decide_eq_true_eq] at h
  exact Eb h.2.2 i (by simpa using hi)
theorem Vy {docs:List (List UInt8)} {m:List Sp} {a:Int}(h:dL docs a m=true)(hl:m.length≤1000):rp (aB docs m):=by
 refine⟨by rw [dG];exact hl,fun s hs=> ?_⟩
 simp only [aB,List.mem_map] at hs
 obtain⟨p,hp,rfl⟩:=hs
 exact Lj (ou h p hp)
theorem Bd {docs:List (List UInt8)} {m:List Sp} {a:Int}(h:dL docs a m=true):∀s∈aB docs m,jt s=true :=by
 intro s hs
 simp only [aB,List.mem_map] at hs
 obtain⟨p,hp,rfl⟩:=hs
 have h1:=ou h p hp
 exact Vq (pn h1) (mn h1).1
theorem Vz {docs:List (List UInt8)} {m:List Sp} {a:Int}(h:dL docs a m=true)(hm:m≠ []):dm (aB docs m)=((a,db a m,make docs a (db a m)),0):=by
 have hl:0<m.length:=List.length_pos_iff.2 hm
 unfold dm
 rw [dG,if_neg (by omega)]
 have h1:(aB docs m).all jt=true :=List.all_eq_true.2 (Bd h)
 rw [h1,if_neg (by decide)]
 have h2:yL (aB docs m)=true :=by
  unfold yL
  rw [List.all_eq_true]
  intro i hi
  rw [List.mem_range,dG] at hi
  simp only [D3,decide_eq_true_eq]
  rw [qe _ _ _ (by omega),qe _ _ _ (by omega)]
  exact Eb h i (by omega)
 rw [h2,if_neg (by decide),qe _ _ _ hl,qe _ _ _ (by omega),xj h hm,←Ea m a hm,NW h hm]
theorem yO {docs:List (List UInt8)} {S:List Sp} {i m:Nat}(h:dL docs 0 S=true)(hm:0<m)(hi:i+m≤S.length):
  dL docs (gf S i).1 ((S.drop i).take m)=true∧db (gf S i).1 ((S.drop i).take m)=(gf S (i+m-1)).2∧(S.drop i).take m≠ []∧
  dL docs 0 (S.take i++ [((gf S i).1,(gf S (i+m-1)).2)]++S.drop (i+m))=true∧db 0 (S.take i++ [((gf S i).1,(gf S (i+m-1)).2)]++S.drop (i+m))=db 0 S:=by
 have e:S=S.take i++((S.drop i).take m++S.drop (i+m)):=by
  rw [←List.drop_drop,List.take_append_drop,List.take_append_drop]
 have hl:((S.drop i).take m).length=m:=by rw [List.length_take,List.length_drop];omega
 have dH:(S.drop i).take m≠ []:=by intro e;rw [e] at hl;simp at hl;omega
 have h1:=h
 rw [e,ml,ml,Bool.and_eq_true,Bool.and_eq_true] at h1
 obtain⟨h2,h3,h4⟩:=h1
 have ef:(gf ((S.drop i).take m) 0)=gf S i:=by
  simp only [gf,List.getD_eq_getElem?_getD]
  rw [List.getElem?_take_of_lt hm,List.getElem?_drop];rfl
 have el:(gf ((S.drop i).take m) (m-1))=gf S (i+m-1):=by
  simp only [gf,List.getD_eq_getElem?_getD]
  rw [List.getElem?_take_of_lt (by omega),List.getElem?_drop,show i+(m-1)=i+m-1 by omega]
 have h5:=xj h3 dH
 rw [ef] at h5
 have h6:=Ea _ (db 0 (S.take i)) dH
 rw [hl,el] at h6
 rw [←h5] at h3 h4 h6
 have h7:=(yM h3).2.1 dH
 rw [h6] at h7 h4
 refine⟨h3,h6,dH,?_,?_⟩
 · rw [ml,ml,h2]
   simp only [dL,jx,db,h4,←h5,h7,Bool.and_true,decide_true]
 · conv=>rhs;rw [e,jx,jx]
   rw [jx,jx]
   simp only [db]
   rw [←h5,h6]
theorem sA(docs:List (List UInt8))(l:List Sp)(i:Nat):(aB docs l).take i=aB docs (l.take i):=by simp [aB,List.map_take]
theorem sB(docs:List (List UInt8))(l:List Sp)(i:Nat):(aB docs l).drop i=aB docs (l.drop i):=by simp [aB,List.map_drop]
theorem Ec(docs:List (List UInt8)) {S:List Sp} {i m:Nat}(hm:0<m)(hi:i+m≤S.length):
  pq (aB docs S) i m (rq docs (aB docs S) i m)=aB docs (S.take i++ [((gf S i).1,(gf S (i+m-1)).2)]++S.drop (i+m)):=by
 unfold pq rq
 rw [sA,sB,qe _ _ _ (by omega),qe _ _ _ (by omega),qd,qd];rfl
theorem VA {docs:List (List UInt8)} {S:List Sp} {i m:Nat}(h:dL docs 0 S=true)(hm:0<m)(hi:i+m≤S.length):
  dm (((aB docs S).drop i).take m)=(rq docs (aB docs S) i m,0):=by
 have hc:=yO h hm hi
 rw [sB,sA,Vz hc.1 hc.2.2.1,hc.2.1]
 unfold rq
 rw [qe _ _ _ (by omega),qe _ _ _ (by omega)]
theorem VB {docs:List (List UInt8)} {S:List Sp} {i m:Nat}(h:dL docs 0 S=true)(hm:0<m)(hi:i+m≤S.length)(hl:S.length≤1000):
  rp (((aB docs S).drop i).take m):=by
 have hc:=yO h hm hi
 rw [sB,sA]
 exact Vy hc.1 (by rw [List.length_take,List.length_drop];omega)
theorem Ti {docs:List (List UInt8)} {S:List Sp}(h:dL docs 0 S=true) {i:Nat}(hi:i+1<S.length):dL docs 0 (iZ S i)=true∧db 0 (iZ S i)=db 0 S:=by
 have hc:=yO (m:=2) h (by omega) (by omega :i+2≤S.length)
 exact⟨hc.2.2.2.1,hc.2.2.2.2⟩
theorem Be {docs:List (List UInt8)}:∀(n:Nat) {S:List Sp},dL docs 0 S=true→dL docs 0 (kA n S)=true∧db 0 (kA n S)=db 0 S∧(kA n S).length≤S.length
 |0,S,h=>⟨h,rfl,Nat.le_refl _⟩
 |n+1,S,h=>by
  simp only [kA]
  by_cases hb:(dC S).2=true
  · rw [if_pos hb]
    have h1:=D7 hb
    have h2:=Ti h (i:=(dC S).1.toNat) (by omega)
    have h3:=Be n h2.1
    have h4:=zU (l:=S) (i:=(dC S).1.toNat) (by omega)
    exact⟨h3.1,by rw [h3.2.1,h2.2],by omega⟩
  · rw [if_neg hb];exact⟨h,rfl,Nat.le_refl _⟩
end Go.S

end
section
namespace Go.S
abbrev eV:=List (List UInt8)×List ax
abbrev bm:=Int×Int×Int×List UInt8
def j4(docs:List (List UInt8))(l:List ax)(a b c:Int)(d:List UInt8):eV×Int:=
 if a=0 then bt docs l d else if a=1 then ba docs l else if a=2 then cw docs l b c else(di docs l,0)
def np(l:List bm)(i:Nat):bm:=l.getD i (0,0,0,[])
def jU(x:eV)(l:List bm):Nat→eV
 |0=>x
 |k+1=>if(2500:Int)<(np l k).2.2.2.length then jU x l k else(j4 (jU x l k).1 (jU x l k).2 (np l k).1 (np l k).2.1 (np l k).2.2.1 (np l k).2.2.2).1
def cL(l:List bm):eV:=jU ([],[]) l (min l.length 40)
def qf(l:List bm):Nat→Nat
 |0=>0
 |k+1=>if(np l k).1=1 then qf l k+1 else qf l k
structure RI (docs:List (List UInt8)) (l:List ax) (S:List Sp):Prop where
 fair:dB docs 0 0=true
 le:S.length≤64
 row:dL docs 0 S=true
 eq:l=aB docs S
theorem RI.right {docs:List (List UInt8)} {l:List ax} {S:List Sp}(h:RI docs l S):bc docs l=true :=by
 rw [h.eq];exact ae8 h.fair h.le h.row
theorem RI.of {docs:List (List UInt8)} {l:List ax}(h:bc docs l=true):RI docs l (cr l):=by
 have :=Cb.1 h
 exact⟨this.1,by rw [sy];exact this.2.1,this.2.2.1,this.2.2.2⟩
theorem kD(docs:List (List UInt8))(l:List ax):RI (al docs l).1 (al docs l).2 (cr (al docs l).2):=RI.of (ix docs l)
theorem RI.NX {docs:List (List UInt8)} {l:List ax} {S:List Sp}(h:RI docs l S):cm l=db 0 S:=by
 rw [←D8,h.eq,iM]
theorem RI.bd {docs:List (List UInt8)} {l:List ax} {S:List Sp}(h:RI docs l S):0≤cm l∧cm l≤docs.length∧docs.length≤1000∧l.length=S.length:=by
 have h1:=yM h.row
 rw [h.NX]
 have h2:docs.length≤1000:=by
  have :=h.fair
  simp only [dB,Bool.and_eq_true,decide_eq_true_eq] at this
  omega
 refine⟨h1.1,?_,h2,by rw [h.eq,dG]⟩
 rcases h1.2.2 with h|h
 · exact h
 · rw [h];simp [db]
theorem NY {docs:List (List UInt8)} {a b:Int}(d:List UInt8)(h0:0≤a)(hb:b≤docs.length):make (docs++ [d]) a b=make docs a b:=by
 have e:∀i:Nat,i<(b-a).toNat→(docs++ [d]).getD (a+(i:Int)).toNat []=docs.getD (a+(i:Int)).toNat []:=fun i hi=>by
  simp only [List.getD_eq_getElem?_getD]
  rw [List.getElem?_append_left (by omega)]
 have e1:∀t,cB (docs++ [d]) a t (b-a).toNat=cB docs a t (b-a).toNat:=fun t=>by
  simp only [cB]
  congr 1
  refine List.filter_congr fun i hi=> ?_
  rw [e i (List.mem_range.1 hi)]
 have e2:nG (docs++ [d]) a (b-a).toNat=nG docs a (b-a).toNat:=by
  unfold nG
  refine p6 fun i hi=> ?_
  rw [e i (List.mem_range.1 hi)]
 unfold make cD
 rw [e2]
 exact List.map_congr_left fun t _=>by rw [e1]
theorem Ll {docs:List (List UInt8)} {d:List UInt8}(h:dB docs 0 0=true)(hd:(d.length:Int)≤2000)(hl:(docs.length:Int)<1000):dB (docs++ [d]) 0 0=true :=by
 simp only [dB,Bool.and_eq_true,List.all_eq_true,decide_eq_true_eq,List.length_append,List.length_singleton] at h ⊢
 refine⟨fun b hb=> ?_,by omega,Int.le_refl _,Int.le_refl _,by omega⟩
 rcases List.mem_append.1 hb with hb|hb
 · exact h.1 b hb
 · rw [List.mem_singleton.1 hb];exact hd
theorem NZ {docs:List (List UInt8)} {d:List UInt8}(hf:dB (docs++ [d]) 0 0=true) {S:List Sp} {a:Int}(h:dL docs a S=true):dL (docs++ [d]) a S=true∧aB (docs++ [d]) S=aB docs S:=by
 induction S generalizing a with
 |nil=>exact⟨rfl,rfl⟩
 |cons s r ih=>
  simp only [dL,Bool.and_eq_true,decide_eq_true_eq] at h
  have ih:=ih h.2.2
  have h4:=mn h.2.1
  have h5:fW (docs++ [d]) s.1 s.2=true :=ru hf h4.2.1 h4.1 (by rw [List.length_append];simp only [List.length_singleton];omega)
  refine⟨by rw [dL,h5,ih.1,decide_eq_true h.1];rfl,?_⟩
  have h6:=ih.2
  simp only [aB] at h6
  simp only [aB,List.map_cons,h6,NY d h4.2.1 h4.2.2.1]
theorem RI.snoc {docs:List (List UInt8)} {l:List ax} {S:List Sp}(h:RI docs l S) {d:List UInt8}(hd:¬(2000:Int)<d.length)(hl:¬(1000:Int)≤docs.length):RI (docs++ [d]) l S:=by
 have hf:=Ll h.fair (d:=d) (by omega) (by omega)
 have hr:=NZ (d:=d) hf h.row
 exact⟨hf,h.le,hr.1,by rw [hr.2];exact h.eq⟩
theorem RI.flush {docs:List (List UInt8)} {l:List ax} {S:List Sp}(h:RI docs l S)(h1:¬cm l=docs.length)(h2:¬(64:Int)≤l.length):
  RI docs (l++ [(cm l,(docs.length:Int),make docs (cm l) docs.length)]) (S++ [(cm l,(docs.length:Int))])∧fW docs (cm l) docs.length=true :=by
 have hb:=h.bd
 have hf:=ru h.fair (a:=cm l) (b:=docs.length) hb.1 (by omega) (by omega)
 refine⟨⟨h.fair,by rw [List.length_append,List.length_singleton];omega,?_,?_⟩,hf⟩
 · rw [ml,h.row,←h.NX]
   simp only [dL,hf,decide_true,Bool.and_true]
 · rw [qd,←h.eq];rfl
theorem Ed {l:List ax} {i m:Int}(h:wy l i m=false):2≤m∧0≤i∧i+m≤l.length∧i.toNat+m.toNat≤l.length∧0<m.toNat:=by
 simp only [wy,Bool.or_eq_false_iff,decide_eq_false_iff_not] at h
 omega
theorem RI.cut {docs:List (List UInt8)} {l:List ax} {S:List Sp}(h:RI docs l S) {i m:Nat}(hm:0<m)(hi:i+m≤l.length):
  RI docs (pq l i m (rq docs l i m)) (S.take i++ [((gf S i).1,(gf S (i+m-1)).2)]++S.drop (i+m))∧dm ((l.drop i).take m)=(rq docs l i m,0)∧rp ((l.drop i).take m)∧(pq l i m (rq docs l i m)).length+m=l.length+1∧cm (pq l i m (rq docs l i m))=cm l:=by
 have hb:=h.bd
 have hc:=yO h.row hm (by omega :i+m≤S.length)
 have hl:(S.take i++ [((gf S i).1,(gf S (i+m-1)).2)]++S.drop (i+m)).length+m=S.length+1:=by
  simp only [List.length_append,List.length_take,List.length_drop,List.length_singleton];omega
 have hle:=h.le
 have e:=Ec docs hm (by omega :i+m≤S.length)
 have R:RI docs (pq l i m (rq docs l i m)) (S.take i++ [((gf S i).1,(gf S (i+m-1)).2)]++S.drop (i+m)):=by
  rw [h.eq,e];exact⟨h.fair,by omega,hc.2.2.2.1,rfl⟩
 refine⟨R,?_,?_,?_,?_⟩
 · rw [h.eq];exact VA h.row hm (by omega)
 · rw [h.eq];exact VB h.row hm (by omega) (by omega)
 · have :=R.bd.2.2.2;omega
 · rw [R.NX,h.NX,hc.2.2.2.2]
theorem RI.ala {docs:List (List UInt8)} {S:List Sp}(h:RI docs (aB docs S) S) {i:Nat}(hi:i+2≤S.length):
  RI docs (aB docs (iZ S i)) (iZ S i)∧pq (aB docs S) i 2 (rq docs (aB docs S) i 2)=aB docs (iZ S i)∧dm (((aB docs S).drop i).take 2)=(rq docs (aB docs S) i 2,0)∧rp (((aB docs S).drop i).take 2):=by
 have hc:=h.cut (i:=i) (m:=2) (by omega) (by rw [dG];omega)
 have e:=Ec docs (S:=S) (i:=i) (m:=2) (by omega) (by omega)
 have e2:iZ S i=S.take i++ [((gf S i).1,(gf S (i+2-1)).2)]++S.drop (i+2):=rfl
 refine⟨?_,by rw [e,e2],hc.2.1,hc.2.2.1⟩
 have :=hc.1
 rw [e,←e2] at this
 exact this
theorem RI.settle {docs:List (List UInt8)} {l:List ax} {S:List Sp}(h:RI docs l S):RI docs (aB docs (ie S)) (ie S)∧db 0 (ie S)=db 0 S∧(ie S).length≤S.length:=by
 have hs:=Be S.length h.row
 have hle:=h.le
 exact⟨⟨h.fair,by unfold ie;omega,hs.1,rfl⟩,hs.2.1,hs.2.2⟩
theorem append_right(docs:List (List UInt8))(l:List ax)(d:List UInt8):bc (bt docs l d).1.1 (bt docs l d).1.2=true :=by
 unfold bt
 by_cases h1:(2000:Int)<d.length
 · rw [if_pos h1];exact ix docs l
 · rw [if_neg h1]
   by_cases h2:(1000:Int)≤(al docs l).1.length
   · rw [if_pos h2];exact ix docs l
   · rw [if_neg h2];exact((kD docs l).snoc h1 h2).right
theorem n4(docs:List (List UInt8))(l:List ax):bc (ba docs l).1.1 (ba docs l).1.2=true :=by
 unfold ba
 by_cases h1:lH docs l=(al docs l).1.length
 · rw [if_pos h1];exact ix docs l
 · rw [if_neg h1]
   by_cases h2:(64:Int)≤(al docs l).2.length
   · rw [if_pos h2];exact ix docs l
   · rw [if_neg h2];exact((kD docs l).flush h1 h2).1.right
theorem merge_right(docs:List (List UInt8))(l:List ax)(i m:Int):bc (cw docs l i m).1.1 (cw docs l i m).1.2=true :=by
 unfold cw
 by_cases h1:wy (al docs l).2 i m=true
 · rw [if_pos h1];exact ix docs l
 · rw [if_neg h1]
   have hb:=Ed (by simpa using h1)
   exact((kD docs l).cut hb.2.2.2.2 hb.2.2.2.1).1.right
theorem qF(docs:List (List UInt8))(l:List ax):bc (di docs l).1 (di docs l).2=true :=(kD docs l).settle.1.right
theorem N0(docs:List (List UInt8))(l:List ax)(a b c:Int)(d:List UInt8):bc (j4 docs l a b c d).1.1 (j4 docs l a b c d).1.2=true :=by
 unfold j4
 split
 · exact append_right docs l d
 · split
   · exact n4 docs l
   · split
     · exact merge_right docs l b c
     · exact qF docs l
theorem Bf {x:eV}(h:bc x.1 x.2=true)(l:List bm):∀k,bc (jU x l k).1 (jU x l k).2=true
 |0=>h
 |k+1=>by
  simp only [jU]
  split
  · exact Bf h l k
  · exact N0 _ _ _ _ _ _
theorem Je(l:List bm)(k:Nat):bc (jU ([],[]) l k).1 (jU ([],[]) l k).2=true :=Bf Pa l k
theorem Lm {docs:List (List UInt8)} {l:List ax}(h:bc docs l=true)(a b c:Int)(d:List UInt8):(j4 docs l a b c d).1.2.length≤l.length+(if a=1 then 1 else 0):=by
 have hg:=gF h
 unfold j4
 by_cases h0:a=0
 · rw [if_pos h0]
   unfold bt;rw [hg]
   split
   · simp only;omega
   · split<;>simp only<;>omega
 · rw [if_neg h0]
   by_cases h1:a=1
   · rw [if_pos h1,if_pos h1]
     unfold ba;rw [hg]
     split
     · simp only;omega
     · split
       · simp only;omega
       · simp only [List.length_append,List.length_singleton];omega
   · rw [if_neg h1,if_neg h1]
     by_cases h2:a=2
     · rw [if_pos h2]
       unfold cw;rw [hg]
       by_cases hb:wy l b c=true
       · rw [if_pos hb];simp
       · rw [if_neg hb]
         have hb:=Ed (by simpa using hb)
         have :=((RI.of h).cut hb.2.2.2.2 hb.2.2.2.1).2.2.2.1
         simp only;omega
     · rw [if_neg h2]
       simp only [di,hg,dG]
       have :=(RI.of h).settle.2.2
       rw [sy] at this;omega
theorem GL(l:List bm):∀k,(jU ([],[]) l k).2.length≤qf l k
 |0=>Nat.le_refl _
 |k+1=>by
  have ih:=GL l k
  have h:=Lm (Je l k) (np l k).1 (np l k).2.1 (np l k).2.2.1 (np l k).2.2.2
  have e:qf l (k+1)=qf l k+(if(np l k).1=1 then 1 else 0):=by
   rw [qf];by_cases h1:(np l k).1=1
   · rw [if_pos h1,if_pos h1]
   · rw [if_neg h1,if_neg h1];rfl
  rw [e,jU]
  by_cases h2:(2500:Int)<(np l k).2.2.2.length
  · rw [if_pos h2];omega
  · rw [if_neg h2];exact Nat.le_trans h (Nat.add_le_add_right ih _)
theorem Ee(l:List bm):∀k,qf l k≤k
 |0=>Nat.le_refl _
 |k+1=>by have :=Ee l k;simp only [qf];split<;>omega
theorem keeps {docs:List (List UInt8)} {l:List ax}(h:bc docs l=true) {a:Int}(b c:Int)(d:List UInt8)(h0:a≠0):
  (j4 docs l a b c d).1.1=docs∧(a=1→cm l≤cm (j4 docs l a b c d).1.2∧((64:Int)≤l.length∨cm (j4 docs l a b c d).1.2=docs.length))∧
  (a≠1→cm (j4 docs l a b c d).1.2=cm l∧(j4 docs l a b c d).1.2.length≤l.length):=by
 have hg:=gF h
 have R:=RI.of h
 have Bt:=R.bd
 unfold j4
 rw [if_neg h0]
 by_cases h1:a=1
 · rw [if_pos h1]
   unfold ba lH;rw [hg]
   by_cases e1:cm l=(docs.length:Int)
   · rw [if_pos e1];exact⟨rfl,fun _=>⟨Int.le_refl _, .inr e1⟩,fun h=>absurd h1 h⟩
   · rw [if_neg e1]
     by_cases e2:(64:Int)≤l.length
     · rw [if_pos e2];exact⟨rfl,fun _=>⟨Int.le_refl _, .inl e2⟩,fun h=>absurd h1 h⟩
     · rw [if_neg e2]
       have :=(R.flush e1 e2).1.NX
       have h3:cm (l++ [(cm l,(docs.length:Int),make docs (cm l) docs.length)])=docs.length:=by
        rw [this,jx];rfl
       refine⟨rfl,fun _=>⟨?_, .inr ?_⟩,fun h=>absurd h1 h⟩
       · show cm l≤cm (l++_)
         rw [h3];omega
       · exact h3
 · rw [if_neg h1]
   by_cases h2:a=2
   · rw [if_pos h2]
     unfold cw;rw [hg]
     by_cases hb:wy l b c=true
     · rw [if_pos hb];exact⟨rfl,fun h=>absurd h h1,fun _=>⟨rfl,Nat.le_refl _⟩⟩
     · rw [if_neg hb]
       have hb:=Ed (by simpa using hb)
       have hc:=R.cut hb.2.2.2.2 hb.2.2.2.1
       refine⟨rfl,fun h=>absurd h h1,fun _=>⟨hc.2.2.2.2,?_⟩⟩
       simp only;omega
   · rw [if_neg h2]
     have hs:=R.settle
     refine⟨by simp only [di,hg],fun h=>absurd h h1,fun _=> ?_⟩
     simp only [di,hg]
     refine⟨by rw [hs.1.NX,hs.2.1,R.NX],?_⟩
     rw [dG];have :=hs.2.2;rw [sy] at this;exact this
end Go.S

end
section
namespace Go.S
def oa(l:List ax)(k:Nat):Prop :=k≤l.length∧l.length≠0∧rp l∧∀i,i<k→jt (ar l i)=true
def qG(l:List ax)(k:Nat):Prop :=k+1≤l.length∧rp l∧l.all jt=true∧∀i,i<k→D3 l i=true
def uL(l:List ax):Nat:=(uT l).length
def lb(l:List ax)(k:Nat):List UInt8:=(uT l).getD k []
def gL(docs:List (List UInt8))(l:List ax):Nat:=(al docs l).2.length
def pL(l:List bm):Nat:=(cL l).2.length
def pD(l:List bm):Nat:=(cL l).1.length
def nq(l:List ax)(i:Nat):Nat:=(ar l i).2.2.length
def nr {α:Type}(l:List α)(k:Nat):Prop :=k≤l.length
def gx(l:List ax)(k:Nat):List (Int×Int):=cr (l.take k)
def zW(a b:List Int):Bool:=decide (a=b)
def yP(a b:List Int)(k:Nat):Prop :=a.length=b.length∧a.take k=b.take k∧k≤a.length
def uA(x1:List UInt8)(x2:List Int)(y1:List UInt8)(y2:List Int):Bool:=decide (x1=y1)&&decide (x2=y2)
def Ef(docs:List (List UInt8))(l:List ax)(k:Nat):Prop :=docs.length≤1000∧l.length≤64∧uo docs k
def mM(docs:List (List UInt8))(l:List ax):Prop :=docs.length≤1000000∧l.length≤1000000∧(∀b∈docs,small b)∧∀s∈l,small s.2.2∧∀e∈s.2.2,small e.2
def cV {α:Type}(z:α)(l:List α)(k:Nat):List α:=l.take k++List.replicate (l.length-k) z
def qg(x:List ax)(r:List ax)(i j:Nat):Prop :=i<x.length∧j≤(ar x i).2.2.length∧r.length=x.length∧∀d,r.set i ((ar r i).1,(ar r i).2.1,d)=(cV (0,0,[]) x i).set i ((ar x i).1,(ar x i).2.1,d)
def rv(l:List ax)(i m:Int):Prop :=l.length≤1000000∧0≤i∧0≤m∧i+m≤l.length
def mN(docs:List (List UInt8))(l:List ax)(L:List Sp):Prop :=RI (al docs l).1 (aB (al docs l).1 L) L∧ie L=ie (cr (al docs l).2)
def VC(docs:List (List UInt8))(l:List Sp):Prop :=l.length≤1000000∧∀s∈l,kz docs s.1 s.2
def iQ(a1:List (List UInt8))(a2:List ax)(b1:List (List UInt8))(b2:List ax):Bool:=decide (a1=b1)&&decide (a2=b2)
def nu(a1:List (List UInt8))(a2:List ax)(b1:List (List UInt8))(b2:List ax)(k:Nat):Prop :=a1=b1∧a2.length=b2.length∧a2.take k=b2.take k∧k≤a2.length
end Go.S
namespace Go.S
theorem VD {a b:Int}(h:a<0∨b<0∨b≤a): -1=j3 a b:=by unfold j3;rw [if_pos h]
theorem Ln {n:Int}(h:0≤n):lg ((n.toNat:Nat):Int)=lg n:=by rw [Int.toNat_of_nonneg h]
theorem ĸ {a b:Int}(h:¬a<0∧¬b<0∧¬b≤a):lG a b (b-a).toNat:=⟨by omega,by omega,by omega,by omega⟩
theorem Ĺ {n:Int}(h:1<n):1≤lg n:=by have :=acT (n:=n) (by omega);have :=acU (n/2);omega
theorem VE {a b:Int} {n:Nat}(h:lG a b n):1≤n∧(n:Int)≤b-a:=⟨h.2.2.1,h.2.2.2⟩
theorem VF {t:Int} {n:Nat}(h:1<(n:Int)):t-lg n+1=t-lg (((n:Int)/2).toNat:Nat):=by
 rw [Ln (by omega),←acT (n:=(n:Int)) (by omega)];omega
theorem N1 {a b:Int} {n:Nat}(h:lG a b n)(h1:1<(n:Int)):lG a b ((n:Int)/2).toNat:=by
 obtain⟨h2,h3,h4,h5⟩:=h
 exact⟨h2,h3,by omega,by omega⟩
theorem Tj {a b:Int} {n:Nat}(h:¬a<0∧¬b<0∧¬b≤a)(hi:lG a b n)(h1:¬1<(n:Int)):lg (b-a)-lg n=j3 a b:=by
 unfold j3
 rw [if_neg (by omega),←ak9 (n:=(n:Int)) (by omega)];omega
end Go.S
namespace Go.S
theorem VG(l:List ax)(k i:Nat):0≤(aA l k).getD i 0:=by
 by_cases h:i<l.length
 · rw [ic h];exact(sw l k _).1
 · rw [List.getD_eq_getElem?_getD,List.getElem?_eq_none (by rw [fM];omega)];exact Int.le_refl _
theorem alb {l:List ax} {k i:Nat}(h:(i:Int)<l.length)(hn:¬(aA l k).getD i 0=((ar l i).2.2.length:Int)):(aA l k).getD i 0<((ar l i).2.2.length:Int):=by
 have h':i<l.length:=by omega
 rw [ic h'] at hn ⊢
 have :=sw l k (ar l i);omega
theorem fA {l:List ax} {k i:Nat}(hi:i≤l.length)(h:¬cJ l (aA l k) i<0):
  cJ l (aA l k) i<l.length∧cJ l (aA l k) i<(aA l k).length∧(cJ l (aA l k) i).toNat<(aA l k).length∧(aA l k).getD (cJ l (aA l k) i).toNat 0<((ar l (cJ l (aA l k) i).toNat).2.2.length:Int):=by
 rw [fM]
 rcases Ca (l:=l) k i hi with⟨h1,_⟩|⟨q,h1,h2,h3,_⟩
 · rw [h1] at h;exact absurd (by decide) h
 · rw [h1,Int.toNat_natCast,ic (by omega)]
   exact⟨by omega,by omega,by omega,h3⟩
theorem VH {l:List ax} {nx:List Int} {i:Nat}(h:nx.getD i 0=((ar l i).2.2.length:Int)):cJ l nx i=cJ l nx (i+1):=by simp only [cJ];rw [if_pos h]
theorem VI {l:List ax} {nx:List Int} {i:Nat}(h:¬nx.getD i 0=((ar l i).2.2.length:Int)):
  (bif bif decide (cJ l nx i<0) then true else Op.bytesLess (ca (ar l i).2.2 (nx.getD i 0).toNat) (ca (ar l (cJ l nx i).toNat).2.2 (nx.getD (cJ l nx i).toNat 0).toNat) then(i:Int) else cJ l nx i)=cJ l nx (i+1):=by
 simp only [cJ]
 rw [if_neg h]
 by_cases h1:cJ l nx i<0
 · rw [decide_eq_true h1,if_pos (Or.inl h1)];rfl
 · rw [decide_eq_false h1]
   cases h2:Op.bytesLess (ca (ar l i).2.2 (nx.getD i 0).toNat) (ca (ar l (cJ l nx i).toNat).2.2 (nx.getD (cJ l nx i).toNat 0).toNat) with
   |true=>rw [if_pos (Or.inr rfl)];rfl
   |false=>rw [if_neg (by rintro(q|q);exact h1 q;cases q)];rfl
theorem ae9 {l:List ax}(hp:nm l) {k i:Nat}(hi:i≤l.length)(By:¬(i:Int)<l.length)(h:cJ l (aA l k) i<0):cv l k=mL l:=by
 have :i=l.length:=by omega
 subst this
 exact NR ((Ld hp k).1 h)
theorem Pb {l:List ax}(hp:nm l) {k i:Nat}(hi:i≤l.length)(By:¬(i:Int)<l.length)(h:¬cJ l (aA l k) i<0):
  k<uL l∧ca (ar l (cJ l (aA l k) i).toNat).2.2 ((aA l k).getD (cJ l (aA l k) i).toNat 0).toNat=lb l k:=by
 have :i=l.length:=by omega
 subst this
 have hk:k<(uT l).length:=by
  exact Nat.lt_of_not_le fun h'=>h ((Ld hp k).2 h')
 obtain⟨q,h1,h2,h3,h4⟩:=GJ hp hk
 refine⟨hk,?_⟩
 rw [h1,Int.toNat_natCast,ic h2];exact h4
theorem Jf {l:List ax} {a b:Nat}(h:cv l a=cv l b)(ha:a≤uL l)(hb:b≤uL l):a=b:=by
 have :=congrArg List.length h
 simp only [cv,List.length_map,List.length_take] at this
 unfold uL at ha hb
 omega
theorem VJ {l:List ax} {k i:Nat}(h:(i:Int)<l.length):0≤(aY l k i).getD i 0∧(aY l k i).getD i 0≤((ar l i).2.2.length:Int):=by
 rw [D5 (by omega)];exact sw l k _
theorem qH {l:List ax} {k i:Nat}(h:(i:Int)<l.length):(i:Int)<(aY l k i).length∧i<(aY l k i).length:=by
 rw [Vr l k i (by omega)];omega
theorem VK {l:List ax}(hp:nm l) {k i:Nat}(hk:k<uL l)(h:(i:Int)<l.length)(h1:(aY l k i).getD i 0<((ar l i).2.2.length:Int))(h2:ca (ar l i).2.2 ((aY l k i).getD i 0).toNat=lb l k):
  (aY l k i).set i ((aY l k i).getD i 0+1)=aY l k (i+1)∧cO l (lb l k) i++iv (ar l i).2.2 ((aY l k i).getD i 0).toNat=cO l (lb l k) (i+1):=by
 have h':i<l.length:=by omega
 rw [D5 h'] at h1 h2 ⊢
 have :=NQ hp hk h' h1 h2
 exact⟨this.2,this.1⟩
theorem Pc {l:List ax}(hp:nm l) {k i:Nat}(hk:k<uL l)(h:(i:Int)<l.length)(hn:¬((aY l k i).getD i 0<((ar l i).2.2.length:Int)∧ca (ar l i).2.2 ((aY l k i).getD i 0).toNat=lb l k)):
  aY l k i=aY l k (i+1)∧cO l (lb l k) i=cO l (lb l k) (i+1):=by
 have h':i<l.length:=by omega
 rw [D5 h'] at hn
 have :=Le hp hk h' hn
 exact⟨this.2,this.1⟩
theorem ĺ {l:List ax}(hp:nm l) {k i:Nat}(h:(i:Int)<l.length):(cO l (lb l k) i).length≤1000000∧(iv (ar l i).2.2 ((aY l k i).getD i 0).toNat).length≤1000:=by
 have h1:=D6 hp (lb l k) i (by omega)
 have h2:=hp.1
 refine⟨by omega,?_⟩
 have hd:=(hp.2 _ (ib (show i<l.length by omega))).1
 generalize (aY l k i).getD i 0=z
 by_cases hz:z.toNat<(ar l i).2.2.length
 · rw [←ot (iw hd) hz];exact ux hd _
 · simp only [iv,List.getD_eq_getElem?_getD];rw [List.getElem?_eq_none (by omega)];simp
theorem VL {l:List ax} {k i:Nat}(hi:i≤l.length)(By:¬(i:Int)<l.length)(hk:k<uL l):cv l k++ [(lb l k,cO l (lb l k) i)]=cv l (k+1)∧aY l k i=aA l (k+1):=by
 have :i=l.length:=by omega
 subst this
 refine⟨?_,Vs⟩
 rw [NP];exact Lf hk
theorem alc {l:List ax}(hp:nm l) {k:Nat}(hk:k≤uL l):(cv l k).length≤1048576000:=by
 have h1:=NS l k
 have h2:=Ķ hp
 unfold uL at hk;omega
end Go.S
namespace Go.S
theorem Ļ(l:List ax):List.replicate (Int.toNat ((l.length:Nat):Int)) (0:Int)=l.map (bY l 0):=by
 rw [Int.toNat_natCast]
 have :l.map (bY l 0)=l.map (fun _=>(0:Int)):=List.map_congr_left fun s _=>by simp [bY]
 rw [this,List.map_const']
end Go.S
namespace Go.S
theorem acV {l:List ax}(hp:nm l) {k i:Nat}(h:(i:Int)<l.length): -9223372036854775808≤(aY l k i).getD i 0+1∧(aY l k i).getD i 0+1≤9223372036854775807:=by
 have h1:=VJ (k:=k) h
 have h2:=(hp.2 _ (ib (show i<l.length by omega))).2
 omega
end Go.S
namespace Go.S
theorem VM {l:List ax}(h:(l.length:Int)=0):dm l=((0,0,[]),1):=by unfold dm;rw [if_pos (by omega)]
theorem VN {l:List ax} {k:Nat}(h:(k:Int)<l.length)(h2:jt (ar l k)=false):dm l=((0,0,[]),1):=by
 unfold dm
 rw [if_neg (by omega),if_pos]
 rw [←Bool.not_eq_true,List.all_eq_true]
 intro hc
 have :=hc _ (ib (show k<l.length by omega))
 rw [h2] at this;cases this
theorem ļ {l:List ax}(hp:rp l)(h:¬(l.length:Int)=0):oa l 0:=⟨Nat.zero_le _,by omega,hp,fun i hi=>by omega⟩
theorem Ľ {l:List ax} {k:Nat}(h:oa l k)(h1:(k:Int)<l.length)(h2:jt (ar l k)=true):oa l (k+1):=
 ⟨by omega,h.2.1,h.2.2.1,fun i hi=>by
   by_cases e:i=k
   · subst e;exact h2
   · exact h.2.2.2 i (by omega)⟩
theorem afa {l:List ax} {k:Nat}(h:oa l k)(h1:¬(k:Int)<l.length):l.all jt=true :=by
 rw [List.all_eq_true]
 intro s hs
 obtain⟨j,hj,rfl⟩:=List.mem_iff_getElem.1 hs
 have :=h.2.2.2 j (by have :=h.1;omega)
 rwa [ar,List.getD_eq_getElem?_getD,List.getElem?_eq_getElem hj] at this
theorem ľ {l:List ax} {k:Nat}(h:oa l k)(h1:¬(k:Int)<l.length):qG l 0:=⟨by have :=h.2.1;omega,h.2.2.1,afa h h1,fun i hi=>by omega⟩
theorem Ŀ {l:List ax} {k:Nat}(h:qG l k)(h1:(k:Int)+1<l.length)(h2:(ar l ((k:Int)+1).toNat).1=(ar l ((k:Int)+1-1).toNat).2.1):qG l (k+1):=
 ⟨by omega,h.2.1,h.2.2.1,fun i hi=>by
   by_cases e:i=k
   · subst e
     rw [show((i:Int)+1).toNat=i+1 by omega,show((i:Int)+1-1).toNat=i by omega] at h2
     simp only [D3,decide_eq_true_eq];exact h2
   · exact h.2.2.2 i (by omega)⟩
theorem VO {l:List ax} {k:Nat}(h:qG l k)(h1:(k:Int)+1<l.length)(h2:¬(ar l ((k:Int)+1).toNat).1=(ar l ((k:Int)+1-1).toNat).2.1):dm l=((0,0,[]),7):=by
 unfold dm
 rw [show((k:Int)+1).toNat=k+1 by omega,show((k:Int)+1-1).toNat=k by omega] at h2
 rw [if_neg (by omega),if_neg (by rw [h.2.2.1];simp),if_pos]
 rw [←Bool.not_eq_true,yL,List.all_eq_true]
 intro hc
 have :=hc k (List.mem_range.2 (by omega))
 simp only [D3,decide_eq_true_eq] at this
 exact h2 this
theorem N2 {l:List ax} {k:Nat}(h:qG l k)(h1:¬(k:Int)+1<l.length):dm l=(((ar l 0).1,(ar l ((l.length:Int)-1).toNat).2.1,mL l),0):=by
 have h0:=h.1
 unfold dm
 rw [if_neg (by omega),if_neg (by rw [h.2.2.1];simp),if_neg,show((l.length:Int)-1).toNat=l.length-1 by omega]
 rw [Bool.not_eq_false,yL,List.all_eq_true]
 intro i hi
 exact h.2.2.2 i (by have :=List.mem_range.1 hi;omega)
theorem Lo {s:ax}(h:jt s=true):dF s.2.2=true :=by
 simp only [jt,gP,Bool.and_eq_true] at h;exact h.1.2
theorem afb {l:List ax} {k:Nat}(h:qG l k):nm l:=by
 refine⟨h.2.1.1,fun s hs=>⟨Lo (List.all_eq_true.1 h.2.2.1 s hs),?_⟩⟩
 exact(h.2.1.2 s hs).1
theorem n_0(l:List Sp):kC l 0:=⟨.inr rfl,by simp [dC]⟩
theorem acW {l:List Sp} {k:Nat}(h:kC l k)(h1:0≤((len l:Nat):Int)-2-k):(((len l:Nat):Int)-2-k).toNat=l.length-2-k∧(((len l:Nat):Int)-2-k+1).toNat=l.length-2-k+1∧k+2≤l.length:=by
 simp only [len] at *;omega
theorem VP {l:List Sp} {k:Nat}(h:kC l k)(h1:0≤((len l:Nat):Int)-2-k)
  (h2:j3 (gf l (((len l:Nat):Int)-2-k).toNat).1 (gf l (((len l:Nat):Int)-2-k).toNat).2≤j3 (gf l (((len l:Nat):Int)-2-k+1).toNat).1 (gf l (((len l:Nat):Int)-2-k+1).toNat).2):
  dC l=(((len l:Nat):Int)-2-k,true):=by
 obtain⟨e1,e2,e3⟩:=acW h h1
 rw [e1,e2] at h2
 rw [h.2,show l.length-1-k=(l.length-2-k)+1 by omega]
 simp only [sx]
 rw [if_pos (show zT l (l.length-2-k)≤zT l (l.length-2-k+1) from h2)]
 simp only [len] at *
 congr 1;omega
theorem ald {l:List Sp} {k:Nat}(h:kC l k)(h1:0≤((len l:Nat):Int)-2-k)
  (h2:¬j3 (gf l (((len l:Nat):Int)-2-k).toNat).1 (gf l (((len l:Nat):Int)-2-k).toNat).2≤j3 (gf l (((len l:Nat):Int)-2-k+1).toNat).1 (gf l (((len l:Nat):Int)-2-k+1).toNat).2):
  kC l (k+1):=by
 obtain⟨e1,e2,e3⟩:=acW h h1
 rw [e1,e2] at h2
 refine⟨.inl (by omega),?_⟩
 rw [h.2,show l.length-1-k=(l.length-2-k)+1 by omega]
 simp only [sx]
 rw [if_neg (show ¬zT l (l.length-2-k)≤zT l (l.length-2-k+1) from h2),show l.length-1-(k+1)=l.length-2-k by omega]
theorem VQ {l:List Sp} {k:Nat}(h:kC l k)(h1:¬0≤((len l:Nat):Int)-2-k):dC l=(0,false):=by
 have h3:=h.1
 simp only [len] at h1
 rw [h.2,show l.length-1-k=0 by omega];rfl
theorem Lp {l:List ax} {k:Nat}(h:(k:Int)<l.length):gx l k++ [((ar l k).1,(ar l k).2.1)]=gx l (k+1):=by
 simp only [gx,cr]
 rw [ay l k (0,0,[]) (by omega),List.map_append];rfl
theorem N3 {l:List ax} {k:Nat}(h:¬(k:Int)<l.length):gx l k=cr l:=by
 simp only [gx];rw [List.take_of_length_le (by omega)]
theorem Jg(l:List ax)(k:Nat):(gx l k).length≤l.length:=by simp [gx,cr];omega
end Go.S

end
section
namespace Go.S
theorem N4 {α:Type} {a b:List α}(h:(a.length:Int)=b.length):a.length=b.length∧a.take 0=b.take 0∧0≤a.length:=⟨by omega,by simp,Nat.zero_le _⟩
theorem zX {α:Type} {a b:List α}(z:α) {k:Nat}(h:a.length=b.length∧a.take k=b.take k∧k≤a.length)(hk:(k:Int)<a.length)(he:a.getD k z=b.getD k z):a.length=b.length∧a.take (k+1)=b.take (k+1)∧k+1≤a.length:=by
 refine⟨h.1,?_,by omega⟩
 rw [ay a k z (by omega),ay b k z (by have :=h.1;omega),h.2.1,he]
theorem Eg {α:Type} {a b:List α} {k:Nat}(h:a.length=b.length∧a.take k=b.take k∧k≤a.length)(hk:¬(k:Int)<a.length):a=b:=by
 have h1:=h.2.1
 rw [List.take_of_length_le (by omega),List.take_of_length_le (by have :=h.1;omega)] at h1;exact h1
theorem Eh {α:Type} {a b:List α}(h:¬(a.length:Int)=b.length):¬a=b:=fun e=>h (by rw [e])
theorem Lq {α:Type} {a b:List α}(z:α) {k:Nat}(h:¬a.getD k z=b.getD k z):¬a=b:=fun e=>h (by rw [e])
theorem ale {docs:List (List UInt8)} {l:List ax}(h:1000<(docs.length:Int)∨64<(l.length:Int)):false=bc docs l:=by
 symm
 rw [←Bool.not_eq_true]
 intro hc
 obtain⟨h1,h2,_⟩:=Cb.1 hc
 simp only [dB,Bool.and_eq_true,decide_eq_true_eq] at h1
 omega
theorem alf {docs:List (List UInt8)} {l:List ax} {k:Nat}(hk:(k:Int)<docs.length)(h:2000<((docs.getD k []).length:Int)):false=bc docs l:=by
 symm
 rw [←Bool.not_eq_true]
 intro hc
 obtain⟨h1,_⟩:=Cb.1 hc
 rw [←S6 hk h] at h1;cases h1
theorem VR {docs:List (List UInt8)} {l:List ax} {k:Nat}(h:Ef docs l k)(hk:¬(k:Int)<docs.length):uy docs l 0:=by
 refine⟨?_,h.2.1,fun i hi=>by omega,Nat.zero_le _⟩
 have h1:=h.1
 simp only [dB,Bool.and_eq_true,decide_eq_true_eq]
 exact⟨S7 h.2.2 hk,by omega,by omega,by omega,by omega⟩
theorem Pd {docs:List (List UInt8)} {l:List ax} {k:Nat}(hk:(k:Int)<l.length)(h:jv docs l k=false):false=bc docs l:=by
 symm
 rw [←Bool.not_eq_true]
 intro hc
 simp only [bc,Bool.and_eq_true,List.all_eq_true,List.mem_range] at hc
 have :=hc.2.2 k (by omega)
 rw [h] at this;cases this
theorem VS {docs:List (List UInt8)} {l:List ax} {k:Nat}(h:uy docs l k)(hk:(k:Int)<l.length)(h1:jv docs l k=true):uy docs l (k+1):=
 ⟨h.1,h.2.1,fun i hi=>by
   by_cases e:i=k
   · subst e;exact h1
   · exact h.2.2.1 i (by omega),by omega⟩
theorem ŀ {docs:List (List UInt8)} {l:List ax} {k:Nat}(h:uy docs l k)(hk:¬(k:Int)<l.length):true=bc docs l:=by
 symm
 have h2:=h.2.1
 simp only [bc,Bool.and_eq_true,List.all_eq_true,List.mem_range,decide_eq_true_eq]
 exact⟨h.1,by omega,fun i hi=>h.2.2.1 i (by omega)⟩
theorem alg {docs:List (List UInt8)} {l:List ax} {k:Nat}(h:¬(ar l k).1=eP l k∨(ar l k).2.1≤eP l k∨(docs.length:Int)<(ar l k).2.1):jv docs l k=false :=by
 rw [←Bool.not_eq_true]
 intro hc
 simp only [jv,Bool.and_eq_true,decide_eq_true_eq] at hc
 obtain⟨h1,h2,_⟩:=hc
 have :=mn h2
 rcases h with h|h|h
 · exact h h1
 · omega
 · omega
theorem acX {docs:List (List UInt8)} {l:List ax} {k:Nat}(hk:uy docs l k)(h:(ar l k).1=eP l k∧¬(ar l k).2.1≤eP l k∧¬(docs.length:Int)<(ar l k).2.1):
  fW docs (ar l k).1 (ar l k).2.1=true :=by
 refine ru hk.1 ?_ (by omega) (by omega)
 rw [h.1]
 have :∀i,i≤k→0≤eP l i:=by
  intro i hi
  unfold eP
  split
  · exact Int.le_refl _
  · have :=hk.2.2.1 (i-1) (by omega)
    simp only [jv,Bool.and_eq_true,decide_eq_true_eq] at this
    have :=mn this.2.1
    omega
 exact this k (Nat.le_refl _)
theorem alh {docs:List (List UInt8)} {l:List ax} {k:Nat}(hk:uy docs l k)(h:(ar l k).1=eP l k∧¬(ar l k).2.1≤eP l k∧¬(docs.length:Int)<(ar l k).2.1)
  (h2:¬(cu docs (ar l k).1 (ar l k).2.1).2=0∨fi (cu docs (ar l k).1 (ar l k).2.1).1.2.2 (ar l k).2.2=false):jv docs l k=false :=by
 have hf:=acX hk h
 have hb:cu docs (ar l k).1 (ar l k).2.1=(((ar l k).1,(ar l k).2.1,make docs (ar l k).1 (ar l k).2.1),0):=by unfold cu;rw [hf];rfl
 rw [hb] at h2
 rcases h2 with h2|h2
 · exact absurd rfl h2
 · simp only [fi,decide_eq_false_iff_not] at h2
   rw [←Bool.not_eq_true]
   intro hc
   simp only [jv,Bool.and_eq_true,decide_eq_true_eq] at hc
   exact h2 hc.2.2.symm
theorem ali {docs:List (List UInt8)} {l:List ax} {k:Nat}(hk:uy docs l k)(h:(ar l k).1=eP l k∧¬(ar l k).2.1≤eP l k∧¬(docs.length:Int)<(ar l k).2.1)
  (h2:(cu docs (ar l k).1 (ar l k).2.1).2=0∧fi (cu docs (ar l k).1 (ar l k).2.1).1.2.2 (ar l k).2.2=true):jv docs l k=true :=by
 have hf:=acX hk h
 have hb:cu docs (ar l k).1 (ar l k).2.1=(((ar l k).1,(ar l k).2.1,make docs (ar l k).1 (ar l k).2.1),0):=by unfold cu;rw [hf];rfl
 rw [hb] at h2
 simp only [fi,decide_eq_true_eq] at h2
 simp only [jv,Bool.and_eq_true,decide_eq_true_eq]
 exact⟨h.1,hf,h2.2.symm⟩
theorem Tk(l:List ax)(k:Nat):(ar l k).2.1=eP l (k+1):=by simp [eP]
theorem Lr {docs:List (List UInt8)} {l:List ax}(h:bc docs l=false):al docs l=([],[]):=by unfold al;rw [h];rfl
theorem afc {l:List ax}(h:(l.length:Int)=0):0=cm l:=by unfold cm eP;rw [if_pos (by omega)]
theorem afd {l:List ax}(h:¬(l.length:Int)=0):(ar l ((l.length:Int)-1).toNat).2.1=cm l:=by
 unfold cm eP;rw [if_neg (by omega),show((l.length:Int)-1).toNat=l.length-1 by omega]
theorem Pe {α:Type}(z:α)(l:List α):List.replicate (Int.toNat ((l.length:Nat):Int)) z=cV z l 0:=by simp [cV]
theorem vz {α:Type}(z:α) {l:List α} {k:Nat}(h:(k:Int)<l.length):(k:Int)<(cV z l k).length∧k<(cV z l k).length:=by
 simp only [cV,List.length_append,List.length_take,List.length_replicate];omega
theorem N5 {α:Type}(z:α) {l:List α} {k:Nat}(h:k≤l.length):(cV z l k).length=l.length:=by
 simp only [cV,List.length_append,List.length_take,List.length_replicate];omega
theorem Ls {α:Type}(z:α) {l:List α} {k:Nat}(h:(k:Int)<l.length):(cV z l k).set k (l.getD k z)=cV z l (k+1):=by
 have hk:k<l.length:=by omega
 have e:l.length-k=(l.length-(k+1))+1:=by omega
 simp only [cV]
 rw [ay l k z hk,e,List.replicate_succ,List.set_append_right _ _ (by rw [List.length_take];omega),List.length_take,show k-min k l.length=0 by omega,List.append_assoc]
 rfl
theorem GM {α:Type}(z:α) {l:List α} {k:Nat}(h:¬(k:Int)<l.length):cV z l k=l:=by
 simp only [cV]
 rw [List.take_of_length_le (by omega),show l.length-k=0 by omega];simp
theorem afe {x:List ax} {k:Nat}(h:(k:Int)<x.length):qg x ((cV (0,0,[]) x k).set k ((ar x k).1,(ar x k).2.1,[])) k 0:=by
 have hl:=N5 ((0,0,[]):ax) (l:=x) (k:=k) (by omega)
 refine⟨by omega,Nat.zero_le _,by rw [List.length_set,hl],fun d=> ?_⟩
 have e:ar ((cV (0,0,[]) x k).set k ((ar x k).1,(ar x k).2.1,[])) k=((ar x k).1,(ar x k).2.1,[]):=by
  rw [ar,List.getD_eq_getElem?_getD,List.getElem?_set_self (by rw [hl];omega)];rfl
 rw [e,List.set_set]
theorem VT {x r:List ax} {i j:Nat}(h:qg x r i j):r.set i ((ar r i).1,(ar r i).2.1,(ar x i).2.2)=cV (0,0,[]) x (i+1):=by
 rw [h.2.2.2]
 exact Ls ((0,0,[]):ax) (l:=x) (k:=i) (by have :=h.1;omega)
theorem Lt {docs:List (List UInt8)} {l:List ax}(h:mM docs l)(k:Nat):small (docs.getD k []):=by
 by_cases hk:k<docs.length
 · exact h.2.2.1 _ (bu docs k [] hk)
 · rw [List.getD_eq_getElem?_getD,List.getElem?_eq_none (by omega)];simp [small]
theorem xk {docs:List (List UInt8)} {l:List ax}(h:mM docs l)(k:Nat):small (ar l k).2.2∧∀j,small ((ar l k).2.2.getD j ([],[])).2:=by
 by_cases hk:k<l.length
 · have h1:=h.2.2.2 _ (ib hk)
   refine⟨h1.1,fun j=> ?_⟩
   by_cases hj:j<(ar l k).2.2.length
   · exact h1.2 _ (bu _ j _ hj)
   · rw [List.getD_eq_getElem?_getD,List.getElem?_eq_none (by omega)];simp [small]
 · have :ar l k=(0,0,[]):=by rw [ar,List.getD_eq_getElem?_getD,List.getElem?_eq_none (by omega)];rfl
   rw [this]
   exact⟨by simp [small],fun j=>by simp [small]⟩
theorem u3 {α:Type}(z:α)(l:List α)(j:Nat):l.set j (l.getD j z)=l:=by
 apply List.ext_getElem?
 intro i
 by_cases e:j=i
 · subst e
   by_cases hj:j<l.length
   · rw [List.getElem?_set_self hj,List.getD_eq_getElem?_getD,List.getElem?_eq_getElem hj];rfl
   · rw [List.set_eq_of_length_le (by omega)]
 · rw [List.getElem?_set_ne e]
end Go.S
namespace Go.S
theorem Ł {a b:ew}(h:uA a.1 a.2 b.1 b.2=true):a=b:=by
 simp only [uA,Bool.and_eq_true,decide_eq_true_eq] at h
 exact Prod.ext h.1 h.2
theorem ł {a b:ew}(h:uA a.1 a.2 b.1 b.2=false):¬a=b:=by
 rintro rfl
 simp [uA] at h
theorem Tl {α:Type} {l:List α} {k:Nat}(h:small l)(hk:(k:Int)<l.length):(k:Int)+1≤9223372036854775807:=by unfold small at h;omega
theorem Tm {x r:List ax} {i j:Nat}(h:qg x r i j)(hj:(j:Int)<((ar x i).2.2.length:Int)):qg x r i (j+1):=⟨h.1,by omega,h.2.2⟩
theorem Tn {x:List ax} {i j:Nat}(hj:(j:Int)<((ar x i).2.2.length:Int)):ai (nq x i) (j+1)<ai (nq x i) j:=by
 simp only [ai,nq];omega
end Go.S
namespace Go.S
theorem To {d:List ew}(h:dF d=true):∀e∈d,e.2.length≤1000:=by
 intro e he
 obtain⟨j,hj,rfl⟩:=List.mem_iff_getElem.1 he
 have h1:=ot (iw h) hj
 have h2:=ux h (ca d j)
 rw [h1] at h2
 rwa [iv,List.getD_eq_getElem?_getD,List.getElem?_eq_getElem hj] at h2
theorem RI.seg {docs:List (List UInt8)} {l:List ax} {S:List Sp}(h:RI docs l S):∀s∈l,jt s=true∧js s.2.2∧s=(s.1,s.2.1,make docs s.1 s.2.1)∧fW docs s.1 s.2.1=true :=by
 intro s hs
 rw [h.eq] at hs
 have h1:=Bd h.row s hs
 simp only [aB,List.mem_map] at hs
 obtain⟨p,hp,rfl⟩:=hs
 have hf:=ou h.row p hp
 exact⟨h1,Lj hf,rfl,hf⟩
theorem RI.small {docs:List (List UInt8)} {l:List ax} {S:List Sp}(h:RI docs l S):mM docs l:=by
 have hb:=h.bd
 have hle:=h.le
 refine⟨by omega,by omega,fun b hb=> ?_,fun s hs=> ?_⟩
 · have :=h.fair
   simp only [dB,Bool.and_eq_true,List.all_eq_true,decide_eq_true_eq] at this
   have :=this.1 b hb
   unfold Go.S.small;omega
 · obtain⟨h1,h2,_⟩:=h.seg s hs
   refine⟨by have :=h2.1;unfold Go.S.small;omega,fun e he=> ?_⟩
   have :=To (Lo h1) e he
   unfold Go.S.small;omega
theorem qh(docs:List (List UInt8))(l:List ax):mM (al docs l).1 (al docs l).2:=(kD docs l).small
theorem pr(docs:List (List UInt8))(l:List ax):(al docs l).1.length≤1000∧(al docs l).2.length≤64∧0≤cm (al docs l).2∧cm (al docs l).2≤(al docs l).1.length:=by
 have h:=kD docs l
 have hb:=h.bd
 have hle:=h.le
 exact⟨hb.2.2.1,by omega,hb.1,hb.2.1⟩
theorem acY {docs:List (List UInt8)} {l:List ax} {d:List UInt8}(h:(2000:Int)<d.length):bt docs l d=(al docs l,1):=by unfold bt;rw [if_pos h]
theorem acZ {docs:List (List UInt8)} {l:List ax} {d:List UInt8}(h:¬(2000:Int)<d.length)(h1:(1000:Int)≤(al docs l).1.length):bt docs l d=(al docs l,3):=by unfold bt;rw [if_neg h,if_pos h1]
theorem VU {docs:List (List UInt8)} {l:List ax} {d:List UInt8}(h:¬(2000:Int)<d.length)(h1:¬(1000:Int)≤(al docs l).1.length):bt docs l d=(((al docs l).1++ [d],(al docs l).2),0):=by unfold bt;rw [if_neg h,if_neg h1]
theorem ac0 {docs:List (List UInt8)} {l:List ax}(h:cm (al docs l).2=((al docs l).1.length:Int)):ba docs l=(al docs l,5):=by unfold ba lH;rw [if_pos h]
theorem ac1 {docs:List (List UInt8)} {l:List ax}(h:¬cm (al docs l).2=((al docs l).1.length:Int))(h1:(64:Int)≤(al docs l).2.length):ba docs l=(al docs l,3):=by unfold ba lH;rw [if_neg h,if_pos h1]
theorem ac2 {docs:List (List UInt8)} {l:List ax}(h:¬cm (al docs l).2=((al docs l).1.length:Int)):
  cu (al docs l).1 (cm (al docs l).2) ((al docs l).1.length:Nat)=((cm (al docs l).2,((al docs l).1.length:Int),make (al docs l).1 (cm (al docs l).2) ((al docs l).1.length:Nat)),0):=by
 have hb:=pr docs l
 have hf:=ru (kD docs l).fair hb.2.2.1 (by omega :cm (al docs l).2<((al docs l).1.length:Int)) (Int.le_refl _)
 unfold cu;rw [hf];rfl
theorem ac3 {docs:List (List UInt8)} {l:List ax}(h:¬cm (al docs l).2=((al docs l).1.length:Int))(h1:¬(64:Int)≤(al docs l).2.length):
  ba docs l=(((al docs l).1,(al docs l).2++ [(cu (al docs l).1 (cm (al docs l).2) ((al docs l).1.length:Nat)).1]),0):=by
 rw [ac2 h]
 unfold ba lH;rw [if_neg h,if_neg h1]
theorem ac4 {l:List ax} {i m:Int}(h:¬m<2∧¬i<0∧¬(l.length:Int)<m∧¬(l.length:Int)-m<i):wy l i m=false∧(i+m).toNat-i.toNat=m.toNat∧i.toNat+m.toNat≤l.length∧0<m.toNat:=by
 refine⟨?_,by omega,by omega,by omega⟩
 simp only [wy,Bool.or_eq_false_iff,decide_eq_false_iff_not]
 exact⟨h.1,h.2.1,h.2.2.1,h.2.2.2⟩
theorem ac5 {docs:List (List UInt8)} {l:List ax} {i m:Int}(h:m<2∨i<0∨((al docs l).2.length:Int)<m∨((al docs l).2.length:Int)-m<i):cw docs l i m=(al docs l,1):=by
 have :wy (al docs l).2 i m=true :=by
  simp only [wy,Bool.or_eq_true,decide_eq_true_eq]
  rcases h with h|h|h|h
  · exact .inl h
  · exact .inr (.inl h)
  · exact .inr (.inr (.inl h))
  · exact .inr (.inr (.inr h))
 unfold cw;rw [if_pos this]
theorem Pf {docs:List (List UInt8)} {l:List ax} {i m:Int}(h:¬m<2∧¬i<0∧¬((al docs l).2.length:Int)<m∧¬((al docs l).2.length:Int)-m<i):
  rp (((al docs l).2.take (i+m).toNat).drop i.toNat)∧dm (((al docs l).2.take (i+m).toNat).drop i.toNat)=(rq (al docs l).1 (al docs l).2 i.toNat m.toNat,0)∧rv (al docs l).2 i m:=by
 obtain⟨h1,h2,h3,h4⟩:=ac4 h
 have hc:=(kD docs l).cut h4 h3
 have hb:=pr docs l
 rw [List.drop_take,h2]
 exact⟨hc.2.2.1,hc.2.1,by omega,by omega,by omega,by omega⟩
theorem ac6 {docs:List (List UInt8)} {l:List ax} {i m:Int}(h:¬m<2∧¬i<0∧¬((al docs l).2.length:Int)<m∧¬((al docs l).2.length:Int)-m<i):
  cw docs l i m=(((al docs l).1,pq (al docs l).2 i.toNat m.toNat (dm (((al docs l).2.take (i+m).toNat).drop i.toNat)).1),0):=by
 rw [(Pf h).2.1]
 unfold cw;rw [if_neg (by rw [(ac4 h).1];simp)]
theorem alj(docs:List (List UInt8))(l:List ax):mN docs l (cr (al docs l).2):=by
 have h:=kD docs l
 refine⟨?_,rfl⟩
 rw [←h.eq];exact h
theorem alk {docs:List (List UInt8)} {l:List ax} {L:List Sp}(h:mN docs l L):small (aB (al docs l).1 L):=by
 have :=h.1.le
 unfold small;rw [dG];omega
theorem Ń {docs:List (List UInt8)} {l:List ax} {L:List Sp}(h:mN docs l L)(h1:(dC (cr (aB (al docs l).1 L))).2=false):aB (al docs l).1 L=(di docs l).2:=by
 rw [iM] at h1
 unfold di
 rw [←h.2,NT h1]
theorem ac7 {docs:List (List UInt8)} {l:List ax} {L:List Sp}(h:mN docs l L)(h1:(dC (cr (aB (al docs l).1 L))).2=true):
  0≤(dC (cr (aB (al docs l).1 L))).1∧(dC (cr (aB (al docs l).1 L))).1+2≤((aB (al docs l).1 L).length:Int)∧(aB (al docs l).1 L).length≤64:=by
 have :=h.1.le
 rw [dG,iM] at *
 have :=D7 h1
 omega
theorem Ei {docs:List (List UInt8)} {l:List ax} {L:List Sp}(h:mN docs l L)(h1:(dC (cr (aB (al docs l).1 L))).2=true) {n:Int}(hn:(dC (cr (aB (al docs l).1 L))).1=n):
  rp (((aB (al docs l).1 L).drop n.toNat).take ((n+2).toNat-n.toNat))∧(dm (((aB (al docs l).1 L).drop n.toNat).take ((n+2).toNat-n.toNat))).2=0∧rv (aB (al docs l).1 L) n 2∧
  pq (aB (al docs l).1 L) n.toNat 2 (dm (((aB (al docs l).1 L).drop n.toNat).take ((n+2).toNat-n.toNat))).1=aB (al docs l).1 (iZ L n.toNat)∧mN docs l (iZ L n.toNat)∧(iZ L n.toNat).length<L.length:=by
 have hb:=ac7 h h1
 rw [hn] at hb
 rw [dG] at hb
 have MV:=hn
 rw [iM] at h1 MV
 have hf:=h.1.ala (i:=n.toNat) (by omega)
 rw [show(n+2).toNat-n.toNat=2 by omega]
 have hl:=zU (l:=L) (i:=n.toNat) (by omega)
 refine⟨hf.2.2.2,by rw [hf.2.2.1],⟨by rw [dG];omega,hb.1,by omega,by rw [dG];omega⟩,by rw [hf.2.2.1];exact hf.2.1,⟨hf.1,?_⟩,by omega⟩
 rw [←h.2,←MV]
 exact Lg h1
end Go.S
namespace Go.S
theorem RI.with {docs:List (List UInt8)} {l:List ax} {L:List Sp}(h:RI docs l L):VC docs L:=by
 have :=h.le
 exact⟨by omega,fun s hs=>pn (ou h.row s hs)⟩
theorem aff {a1:List (List UInt8)} {a2:List ax} {b1:List (List UInt8)} {b2:List ax}(h:kR a1 b1=false∨¬(a2.length:Int)=b2.length):false=iQ a1 a2 b1 b2:=by
 symm
 unfold iQ
 rcases h with h|h
 · unfold kR at h;rw [h];rfl
 · rw [decide_eq_false (Eh h),Bool.and_false]
theorem alm {a1:List (List UInt8)} {a2:List ax} {b1:List (List UInt8)} {b2:List ax}(h:kR a1 b1=true∧(a2.length:Int)=b2.length):nu a1 a2 b1 b2 0:=⟨of_decide_eq_true h.1,N4 h.2⟩
theorem ń {a1:List (List UInt8)} {a2:List ax} {b1:List (List UInt8)} {b2:List ax} {k:Nat}(h:sv (ar a2 k).1 (ar a2 k).2.1 (ar a2 k).2.2 (ar b2 k).1 (ar b2 k).2.1 (ar b2 k).2.2=false):false=iQ a1 a2 b1 b2:=by
 symm
 have :¬a2=b2:=by rintro rfl;rw [La] at h;cases h
 unfold iQ
 rw [decide_eq_false this,Bool.and_false]
theorem VV {a1:List (List UInt8)} {a2:List ax} {b1:List (List UInt8)} {b2:List ax} {k:Nat}(h:nu a1 a2 b1 b2 k)(hk:(k:Int)<a2.length)(h1:sv (ar a2 k).1 (ar a2 k).2.1 (ar a2 k).2.2 (ar b2 k).1 (ar b2 k).2.1 (ar b2 k).2.2=true):nu a1 a2 b1 b2 (k+1):=by
 simp only [sv,Bool.and_eq_true,decide_eq_true_eq] at h1
 exact⟨h.1,zX (0,0,[]) h.2 hk (Prod.ext h1.1 (Prod.ext h1.2.1 h1.2.2))⟩
theorem Ņ {a1:List (List UInt8)} {a2:List ax} {b1:List (List UInt8)} {b2:List ax} {k:Nat}(h:nu a1 a2 b1 b2 k)(hk:¬(k:Int)<a2.length):true=iQ a1 a2 b1 b2:=by
 unfold iQ
 rw [decide_eq_true h.1,decide_eq_true (Eg h.2 hk)];rfl
end Go.S
namespace Go.S
end Go.S

end
section
namespace Go.S
theorem Lu(a:List (List UInt8))(b:List ax):iQ a b a b=true :=by simp [iQ]
theorem ņ(l:List bm):bc (cL l).1 (cL l).2=true :=Je l _
theorem Lv {docs:List (List UInt8)} {l:List ax}(h:bc docs l=true):lH docs l=cm l:=by unfold lH;rw [gF h]
end Go.S
namespace Go.S
end Go.S
namespace Go.S
end Go.S

end
section
namespace Go.S
abbrev Hd:=Int×List UInt8×List Sg
def lI(n:Int)(g:List UInt8)(l:List Sg):Bool:=decide (0≤n)&&(decide (n≤1000)&&(decide ((g.length:Int)=32)&&O8 l n))
def uB(docs:List (List UInt8))(l:List ax):Bool:=bc docs l&&decide (lH docs l=(docs.length:Int))
def VW(docs:List (List UInt8))(l:List ax):Hd×Int:=if uB docs l then(((docs.length:Int),root (leaves docs),qc docs l),0) else((0,[],[]),7)
def Lw(s:Sg):List UInt8:=num s.2.1++num s.2.2.1++s.2.2.2
def ja(l:List Sg):List UInt8:=l.flatMap Lw
def hB(n:Int)(g:List UInt8)(l:List Sg):List UInt8:=num n++g++num l.length++ja l
def hW(n:Int)(g:List UInt8)(l:List Sg):List UInt8×Int:=if lI n g l then(hB n g l,0) else([],1)
def N6(b:List UInt8)(f:Int):Sg×Int×Int:=
 if(first b).2.2≠0 then((0,0,0,[]),0,(first b).2.2)
 else if(first (b.drop (first b).2.1.toNat)).2.2≠0 then((0,0,0,[]),0,(first (b.drop (first b).2.1.toNat)).2.2)
 else if(b.length:Int)<(first b).2.1+(first (b.drop (first b).2.1.toNat)).2.1+32 then((0,0,0,[]),0,4)
 else((f,(first b).1,(first (b.drop (first b).2.1.toNat)).1,(b.drop ((first b).2.1+(first (b.drop (first b).2.1.toNat)).2.1).toNat).take 32),(first b).2.1+(first (b.drop (first b).2.1.toNat)).2.1+32,0)
abbrev Hs:=List Sg×Int×Int×Int
def qI(b:List UInt8)(p:Int):Nat→Hs
 |0=>([],0,p,0)
 |k+1=>if(qI b p k).2.2.2≠0 then qI b p k
  else if(N6 (b.drop (qI b p k).2.2.1.toNat) (qI b p k).2.1).2.2≠0 then((qI b p k).1,(qI b p k).2.1,(qI b p k).2.2.1,(N6 (b.drop (qI b p k).2.2.1.toNat) (qI b p k).2.1).2.2)
  else((qI b p k).1++ [(N6 (b.drop (qI b p k).2.2.1.toNat) (qI b p k).2.1).1],(N6 (b.drop (qI b p k).2.2.1.toNat) (qI b p k).2.1).1.2.1,(qI b p k).2.2.1+(N6 (b.drop (qI b p k).2.2.1.toNat) (qI b p k).2.1).2.1,0)
def VX(b:List UInt8)(n:Int)(g:List UInt8)(s:Hs):Hd×Int:=
 if s.2.2.2≠0 then((0,[],[]),s.2.2.2)
 else if s.2.2.1<b.length∨lI n g s.1=false then((0,[],[]),2)
 else((n,g,s.1),0)
def hR(b:List UInt8):Hd×Int:=
 if(first b).2.2≠0 then((0,[],[]),(first b).2.2)
 else if(b.length:Int)<(first b).2.1+32 then((0,[],[]),4)
 else if(first (b.drop ((first b).2.1+32).toNat)).2.2≠0 then((0,[],[]),(first (b.drop ((first b).2.1+32).toNat)).2.2)
 else if 64<(first (b.drop ((first b).2.1+32).toNat)).1 then((0,[],[]),2)
 else VX b (first b).1 ((b.drop (first b).2.1.toNat).take 32) (qI b ((first b).2.1+32+(first (b.drop ((first b).2.1+32).toNat)).2.1) (first (b.drop ((first b).2.1+32).toNat)).1.toNat)
def N7(a1:Int)(a2:List UInt8)(a3:List Sg)(b1:Int)(b2:List UInt8)(b3:List Sg):Bool:=decide (a1=b1)&&(decide (a2=b2)&&decide (a3=b3))
theorem GN:∀(f v:Nat),v<128^f→1≤f→∃(m:List UInt8) (x:UInt8),lV f v=m++ [x]∧(∀y∈m,128≤y.toNat)∧x.toNat<128∧cI (m++ [x])=v∧(1≤m.length→x.toNat≠0)
 |0,v,_,h=>by omega
 |f+1,v,h,_=>by
  by_cases hv:v<128
  · have e:(UInt8.ofNat v).toNat=v:=by simp [UInt8.toNat_ofNat'];omega
    refine⟨[],UInt8.ofNat v,by simp only [lV];rw [if_pos hv];rfl,by simp,by rw [e];exact hv,?_,by simp⟩
    simp only [List.nil_append,cI,e];omega
  · have hf:f≠0:=by rintro rfl;simp at h;omega
    obtain⟨m,x,h1,h2,h3,h4,h5⟩:=GN f (v/128) (by rw [Nat.pow_succ] at h;omega) (by omega)
    have e:(UInt8.ofNat (v%128+128)).toNat=v%128+128:=by simp [UInt8.toNat_ofNat'];omega
    refine⟨UInt8.ofNat (v%128+128)::m,x,?_,?_,h3,?_,fun _=> ?_⟩
    · simp only [lV];rw [if_neg hv,h1];rfl
    · intro y hy
      rcases List.mem_cons.1 hy with rfl|hy
      · rw [e];omega
      · exact h2 y hy
    · simp only [List.cons_append,cI,e,h4];omega
    · by_cases hm:1≤m.length
      · exact h5 hm
      · have :m= []:=List.eq_nil_of_length_eq_zero (by omega)
        subst this
        simp only [List.nil_append,cI] at h4
        omega
theorem ov {v:Int}(h:0≤v)(h1:v≤4611686018427387904)(r:List UInt8):first (num v++r)=(v,((num v).length:Int),0):=by
 obtain⟨m,x,e,h2,h3,h4,h5⟩:=GN 9 v.toNat (by omega) (by omega)
 have hl:m.length+1≤9:=by have :=zH 9 v.toNat;rw [e] at this;simpa using this
 have e':num v=m++ [x]:=e
 have g1:(m++ [x]++r).take m.length=m:=by rw [List.append_assoc,List.take_append_of_le_length (Nat.le_refl _),List.take_length]
 have g2:(m++ [x]++r).getD m.length 0=x:=by
  rw [List.append_assoc,List.getD_eq_getElem?_getD,List.getElem?_append_right (Nat.le_refl _),Nat.sub_self];rfl
 have g3:(m++ [x]++r).take (m.length+1)=m++ [x]:=by rw [show m.length+1=(m++ [x]).length by simp,List.take_left]
 have :=Gw (m++ [x]++r) m.length (by rw [g1];exact h2) (by simp) (by omega) (by rw [g2];exact h3)
 rw [g2,g3,h4] at this
 rw [e',this,if_neg]
 · simp;omega
 · rintro(⟨q1,q2⟩|q)
   · exact h5 q1 q2
   · omega
theorem Bg {b:List UInt8}(h:(first b).2.2=0):b=num (first b).1++b.drop (first b).2.1.toNat∧(first b).2.1=((num (first b).1).length:Int):=by
 obtain⟨q1,q2⟩:=NM h
 have h0:=vo b
 refine⟨by rw [q1];exact(List.take_append_drop _ _).symm,?_⟩
 rw [q1,List.length_take];omega
theorem Tp {a b:Int} {c:Int} {d:List UInt8}(h:zR a b c d=true):0≤a∧a<b∧b≤1000∧1≤c∧c≤1099511627776∧d.length=32:=by
 simp only [zR,iI,Bool.and_eq_true,decide_eq_true_eq] at h
 omega
theorem Tq {l:List Sg} {n:Int}(h:O8 l n=true):l.length≤64∧(∀i,i<l.length→zR (sg l i).1 (sg l i).2.1 (sg l i).2.2.1 (sg l i).2.2.2=true)∧(0<l.length→(sg l 0).1=0)∧(∀i,i+1<l.length→(sg l (i+1)).1=(sg l i).2.1):=by
 unfold O8 at h
 split at h
 · exact⟨by omega,fun i hi=>by omega,fun h=>by omega,fun i hi=>by omega⟩
 · simp only [Bool.and_eq_true,decide_eq_true_eq,List.all_eq_true,List.mem_range] at h
   obtain⟨h1,h2,h3,h4⟩:=h
   refine⟨by omega,fun i hi=> ?_,fun _=>h3,fun i hi=> ?_⟩
   · have :=h1 i hi
     simp only [O7,Bool.and_eq_true] at this
     exact this.1
   · have :=h1 (i+1) hi
     simp only [O7,Bool.and_eq_true,Bool.not_eq_true',Bool.and_eq_false_iff,decide_eq_false_iff_not,Bool.not_eq_false',decide_eq_true_eq] at this
     rcases this.2 with h5|h5
     · omega
     · simpa using h5
theorem Lx {n:Int} {g:List UInt8} {l:List Sg}:lI n g l=true↔0≤n∧n≤1000∧g.length=32∧O8 l n=true :=by
 simp only [lI,Bool.and_eq_true,decide_eq_true_eq]
 constructor
 · rintro⟨h1,h2,h3,h4⟩;exact⟨h1,h2,by omega,h4⟩
 · rintro⟨h1,h2,h3,h4⟩;exact⟨h1,h2,by omega,h4⟩
theorem Ň {s:Sg}(h:zR s.1 s.2.1 s.2.2.1 s.2.2.2=true)(r:List UInt8):N6 (Lw s++r) s.1=(s,((Lw s).length:Int),0):=by
 have hg:=Tp h
 have e1:Lw s++r=num s.2.1++(num s.2.2.1++(s.2.2.2++r)):=by simp [Lw]
 have f1:=ov (v:=s.2.1) (by omega) (by omega) (num s.2.2.1++(s.2.2.2++r))
 have f2:=ov (v:=s.2.2.1) (by omega) (by omega) (s.2.2.2++r)
 have d1:(num s.2.1++(num s.2.2.1++(s.2.2.2++r))).drop (((num s.2.1).length:Int)).toNat=num s.2.2.1++(s.2.2.2++r):=by rw [Int.toNat_natCast,List.drop_left]
 have d2:(num s.2.1++(num s.2.2.1++(s.2.2.2++r))).drop (((num s.2.1).length:Int)+((num s.2.2.1).length:Int)).toNat=s.2.2.2++r:=by
  rw [show(((num s.2.1).length:Int)+((num s.2.2.1).length:Int)).toNat=(num s.2.1).length+(num s.2.2.1).length by omega,←List.drop_drop,List.drop_left,List.drop_left]
 unfold N6
 rw [e1,f1]
 simp only [d1,f2,d2]
 rw [if_neg (by simp),if_neg (by simp),if_neg (by simp only [List.length_append];omega),List.take_left' hg.2.2.2.2.2]
 congr 2
 simp only [Lw,List.length_append];omega
theorem Pg {l:List Sg}(hg:∀i,i<l.length→zR (sg l i).1 (sg l i).2.1 (sg l i).2.2.1 (sg l i).2.2.2=true)(h0:0<l.length→(sg l 0).1=0)(hc:∀i,i+1<l.length→(sg l (i+1)).1=(sg l i).2.1)(a r:List UInt8):
  ∀k,k≤l.length→qI (a++(ja l++r)) (a.length:Int) k=(l.take k,(if k=0 then 0 else(sg l (k-1)).2.1),((a.length+(ja (l.take k)).length:Nat):Int),0)
 |0,_=>by simp [qI,ja]
 |k+1,hk=>by
  have ih:=Pg hg h0 hc a r k (by omega)
  have Ej:k<l.length:=by omega
  have et:l.take (k+1)=l.take k++ [sg l k]:=ay l k _ Ej
  have ed:l=l.take k++(sg l k::l.drop (k+1)):=by
   have :l.drop k=sg l k::l.drop (k+1):=by
    rw [List.drop_eq_getElem_cons Ej];congr 1
    rw [sg,List.getD_eq_getElem?_getD,List.getElem?_eq_getElem Ej];rfl
   rw [←this];exact(List.take_append_drop k l).symm
  have es:ja l=ja (l.take k)++(Lw (sg l k)++ja (l.drop (k+1))):=by
   have :ja l=ja (l.take k++(sg l k::l.drop (k+1))):=by rw [←ed]
   rw [this];simp only [ja,List.flatMap_append,List.flatMap_cons]
  have hdr:(a++(ja l++r)).drop ((a.length+(ja (l.take k)).length:Nat):Int).toNat=Lw (sg l k)++(ja (l.drop (k+1))++r):=by
   rw [Int.toNat_natCast,es,←List.drop_drop,List.drop_left,List.append_assoc,List.drop_left,List.append_assoc]
  have hf:(if k=0 then(0:Int) else(sg l (k-1)).2.1)=(sg l k).1:=by
   by_cases hk0:k=0
   · subst hk0;rw [if_pos rfl,h0 (by omega)]
   · rw [if_neg hk0]
     have :=hc (k-1) (by omega)
     rw [show k-1+1=k by omega] at this
     exact this.symm
  have hs:=Ň (hg k Ej) (ja (l.drop (k+1))++r)
  simp only [qI,ih,hdr,hf,hs]
  rw [if_neg (by simp),if_neg (by simp),if_neg (by omega),et]
  simp only [Nat.add_sub_cancel,ja,List.flatMap_append,List.flatMap_cons,List.flatMap_nil,List.append_nil,List.length_append]
  congr 3
  omega
theorem Ek {n:Int} {g:List UInt8} {l:List Sg}(h:lI n g l=true):hR (hB n g l)=((n,g,l),0):=by
 obtain⟨h1,h2,h3,h4⟩:=Lx.1 h
 obtain⟨r1,r2,r3,r4⟩:=Tq h4
 have e:hB n g l=num n++(g++(num l.length++ja l)):=by simp [hB]
 have f1:=ov h1 (by omega) (g++(num l.length++ja l))
 have f2:=ov (v:=(l.length:Int)) (by omega) (by omega) (ja l)
 have d1:(num n++(g++(num l.length++ja l))).drop (((num n).length:Int)).toNat=g++(num l.length++ja l):=by rw [Int.toNat_natCast,List.drop_left]
 have d2:(num n++(g++(num l.length++ja l))).drop (((num n).length:Int)+32).toNat=num l.length++ja l:=by
  rw [show(((num n).length:Int)+32).toNat=(num n).length+g.length by omega,←List.drop_drop,List.drop_left,List.drop_left]
 have ka:=Pg r2 r3 r4 (num n++(g++num l.length)) [] l.length (Nat.le_refl _)
 have ea:num n++(g++num l.length)++(ja l++ [])=num n++(g++(num l.length++ja l)):=by simp
 have el:(((num n++(g++num (l.length:Int))).length:Nat):Int)=((num n).length:Int)+32+((num (l.length:Int)).length:Int):=by simp only [List.length_append];omega
 rw [ea,el,List.take_length] at ka
 unfold hR
 rw [e,f1]
 simp only [d1,d2,f2]
 rw [if_neg (by simp),if_neg (by simp only [List.length_append];omega),if_neg (by simp),if_neg (by omega),List.take_left' h3,Int.toNat_natCast,ka]
 unfold VX
 simp only
 rw [if_neg (by simp),if_neg]
 rw [h]
 rintro(q|q)
 · simp only [List.length_append] at q;omega
 · cases q
theorem N8 {a1:Int} {a2:List UInt8} {a3:List Sg} {b1:Int} {b2:List UInt8} {b3:List Sg}:N7 a1 a2 a3 b1 b2 b3=decide ((a1,a2,a3)=(b1,b2,b3)):=by
 simp only [N7,Prod.mk.injEq,Bool.decide_and]
theorem Ly {a b:Hd}(ha:lI a.1 a.2.1 a.2.2=true)(hb:lI b.1 b.2.1 b.2.2=true):(hB a.1 a.2.1 a.2.2=hB b.1 b.2.1 b.2.2)↔a=b:=by
 constructor
 · intro h
   have h1:=Ek ha
   rw [h,Ek hb] at h1
   have :=congrArg Prod.fst h1
   exact this.symm
 · rintro rfl;rfl
end Go.S

end
section
namespace Go.S
theorem mO(b:List UInt8)(a e:Int):(af b a e).1.1=b∧(AW b a e).1.1=b:=by
 constructor
 · unfold af;split
   · rfl
   · split<;>rfl
 · unfold AW;split
   · rfl
   · split<;>rfl
theorem Lz {b:List UInt8} {a e:Int}(h:e≠0):cU b a e=e:=by unfold cU;rw [if_neg (fun q=>h q.1)]
theorem yQ {b:List UInt8} {a:Int}(h:0≤a)(h1:a≤b.length):cU b a 0=0:=by
 unfold cU
 rw [if_neg]
 rintro⟨_,q⟩
 simp only [inside,Bool.and_eq_false_iff,decide_eq_false_iff_not] at q
 omega
theorem VY {b:List UInt8} {a e:Int}(h:e≠0):af b a e=((b,a,e),0):=by
 unfold af;rw [Lz h,if_pos h]
theorem VZ {b:List UInt8} {a:Int}(h:0≤a)(h1:a≤b.length)(h2:(first (b.drop a.toNat)).2.2=0):af b a 0=((b,a+(first (b.drop a.toNat)).2.1,0),(first (b.drop a.toNat)).1):=by
 have e:(aJ b a).2.2=0:=h2
 unfold af
 rw [yQ h h1,if_neg (fun q=>q rfl),if_neg (fun q=>q e)]
 simp only [aJ,AU,h2,if_true]
theorem afh {b:List UInt8} {a:Int}(h:0≤a)(h1:a≤b.length)(h2:(first (b.drop a.toNat)).2.2≠0):af b a 0=((b,a,(first (b.drop a.toNat)).2.2),0):=by
 have e:(aJ b a).2.2≠0:=h2
 unfold af
 rw [yQ h h1,if_neg (fun q=>q rfl),if_pos e];rfl
end Go.S

end
section
namespace Go.S
end Go.S

end
section
namespace Go.S
theorem V0 {docs:List (List UInt8)} {l:List ax}(h:bc docs l=true∧lH docs l=(docs.length:Int)):VW docs l=(((docs.length:Int),root (leaves docs),qc docs l),0):=by
 have :uB docs l=true :=by unfold uB;rw [h.1,decide_eq_true h.2];rfl
 unfold VW;rw [if_pos this]
theorem afi {n:Int} {g:List UInt8} {l:List Sg}(h:lI n g l=false):hW n g l=([],1):=by unfold hW;rw [h];rfl
theorem ň {n:Int} {g:List UInt8} {l:List Sg}(h:lI n g l=true):hW n g l=(hB n g l,0):=by unfold hW;rw [h];rfl
end Go.S

end
section
namespace Go.S
theorem El {docs:List (List UInt8)} {l:List ax}:uB docs l=true↔bc docs l=true∧lH docs l=(docs.length:Int):=by
 simp only [uB,Bool.and_eq_true,decide_eq_true_eq]
theorem GO {docs:List (List UInt8)} {l:List ax}(h:uB docs l=true):VW docs l=(((docs.length:Int),root (leaves docs),qc docs l),0):=V0 (El.1 h)
theorem ac8 {n:Int} {g:List UInt8} {l:List Sg}(h:(hW n g l).2=0):lI n g l=true∧hW n g l=(hB n g l,0):=by
 cases hr:lI n g l with
 |true=>exact⟨rfl,ň hr⟩
 |false=>rw [afi hr] at h;cases h
theorem apart {a b:Hd}(ha:(hW a.1 a.2.1 a.2.2).2=0)(hb:(hW b.1 b.2.1 b.2.2).2=0):(bif decide ((hW a.1 a.2.1 a.2.2).1=(hW b.1 b.2.1 b.2.2).1)==N7 a.1 a.2.1 a.2.2 b.1 b.2.1 b.2.2 then true else false)=true :=by
 obtain⟨h1,h2⟩:=ac8 ha
 obtain⟨h3,h4⟩:=ac8 hb
 rw [h2,h4,N8]
 have :=Ly h1 h3
 have e:decide (hB a.1 a.2.1 a.2.2=hB b.1 b.2.1 b.2.2)=decide ((a.1,a.2.1,a.2.2)=(b.1,b.2.1,b.2.2)):=by
  by_cases h:a=b
  · rw [decide_eq_true (this.2 h),decide_eq_true (show(a.1,a.2.1,a.2.2)=(b.1,b.2.1,b.2.2) from h)]
  · rw [decide_eq_false (fun q=>h (this.1 q)),decide_eq_false (show ¬(a.1,a.2.1,a.2.2)=(b.1,b.2.1,b.2.2) from h)]
 rw [show(hB a.1 a.2.1 a.2.2,(0:Int)).1=hB a.1 a.2.1 a.2.2 from rfl,show(hB b.1 b.2.1 b.2.2,(0:Int)).1=hB b.1 b.2.1 b.2.2 from rfl,e]
 cases decide ((a.1,a.2.1,a.2.2)=(b.1,b.2.1,b.2.2))<;>rfl
theorem V1(l:List bm):(cL l).2.length≤40:=by
 have h1:=GL l (min l.length 40)
 have h2:=Ee l (min l.length 40)
 unfold cL;omega
theorem Tr {docs:List (List UInt8)} {l:List ax}(h:bc docs l=true)(a b c:Int)(d:List UInt8):(j4 docs l a b c d).1.1.length≤docs.length+1:=by
 by_cases h0:a=0
 · have hg:=gF h
   unfold j4;rw [if_pos h0]
   unfold bt;rw [hg]
   split
   · simp only;omega
   · split
     · simp only;omega
     · simp
 · rw [(keeps h b c d h0).1];omega
theorem Em(l:List bm):∀k,(jU ([],[]) l k).1.length≤k
 |0=>Nat.le_refl _
 |k+1=>by
  have ih:=Em l k
  rw [jU]
  split
  · omega
  · have :=Tr (Je l k) (np l k).1 (np l k).2.1 (np l k).2.2.1 (np l k).2.2.2
    omega
theorem V2(l:List bm):(cL l).1.length≤40:=by have :=Em l (min l.length 40);unfold cL;omega
theorem N9(docs:List (List UInt8))(l:List ax):ba docs l=j4 docs l 1 0 0 []:=by unfold j4;rw [if_neg (by decide),if_pos rfl]
theorem LA {docs:List (List UInt8)} {l:List ax}(h:bc docs l=true)(hl:l.length<64):
  (ba docs l).1.1=docs∧bc docs (ba docs l).1.2=true∧cm (ba docs l).1.2=docs.length∧(ba docs l).1.2.length≤l.length+1∧uB docs (ba docs l).1.2=true :=by
 have hk:=keeps h (a:=1) 0 0 [] (by decide)
 have hr:=n4 docs l
 have hn:=Lm h 1 0 0 []
 rw [←N9] at hk hn
 rw [hk.1] at hr
 have hc:cm (ba docs l).1.2=docs.length:=by
  rcases(hk.2.1 rfl).2 with h1|h1
  · omega
  · exact h1
 exact⟨hk.1,hr,hc,hn,El.2 ⟨hr,by rw [Lv hr];exact hc⟩⟩
theorem pf(l:List bm):(ba (cL l).1 (cL l).2).1.1=(cL l).1∧bc (cL l).1 (ba (cL l).1 (cL l).2).1.2=true∧cm (ba (cL l).1 (cL l).2).1.2=(cL l).1.length∧(ba (cL l).1 (cL l).2).1.2.length≤41∧uB (cL l).1 (ba (cL l).1 (cL l).2).1.2=true :=by
 have h1:=V1 l
 have h:=LA (ņ l) (by omega)
 exact⟨h.1,h.2.1,h.2.2.1,by omega,h.2.2.2.2⟩
theorem afj {docs:List (List UInt8)} {l:List ax} {d:List UInt8}(h:bc docs l=true)(h1:¬(2000:Int)<d.length)(h2:docs.length<1000):bt docs l d=((docs++ [d],l),0):=by
 have hg:=gF h
 rw [VU h1 (by rw [hg];simp only;omega),hg]
theorem grow(l:List bm) {d:List UInt8}(hd:¬(2000:Int)<d.length) {x:List ax}(hx:(ba (cL l).1 (cL l).2).1.2=x):
  VW (cL l).1 x=((((cL l).1.length:Int),root (leaves (cL l).1),qc (cL l).1 x),0)∧bt (cL l).1 x d=(((cL l).1++ [d],x),0)∧
  ∃s r,ba ((cL l).1++ [d]) x=(((cL l).1++ [d],x++ [s]),0)∧VW ((cL l).1++ [d]) (x++ [s])=((((cL l).1.length:Int)+1,r,qc (cL l).1 x++ [Vv s]),0):=by
 have MD:=V2 l
 obtain⟨p1,p2,p3,p4,p5⟩:=pf l
 rw [hx] at p2 p3 p4 p5
 have ha:=afj p2 hd (by omega)
 have hr:=append_right (cL l).1 x d
 rw [ha] at hr
 have hl:((cL l).1++ [d]).length=(cL l).1.length+1:=by simp
 have hg:=gF hr
 have hf:ba ((cL l).1++ [d]) x=(((cL l).1++ [d],x++ [(cm x,(((cL l).1++ [d]).length:Int),make ((cL l).1++ [d]) (cm x) ((cL l).1++ [d]).length)]),0):=by
  unfold ba lH
  rw [hg,if_neg (show ¬cm x=(((cL l).1++ [d]).length:Int) by rw [p3,hl];omega),if_neg (show ¬(64:Int)≤(x.length:Int) by omega)]
 refine⟨GO p5,ha,_,root (leaves ((cL l).1++ [d])),hf,?_⟩
 have zx:=LA (docs:=(cL l).1++ [d]) (l:=x) hr (by omega)
 rw [hf] at zx
 rw [GO zx.2.2.2.2]
 have e1:qc ((cL l).1++ [d]) (x++ [(cm x,(((cL l).1++ [d]).length:Int),make ((cL l).1++ [d]) (cm x) ((cL l).1++ [d]).length)])=qc (cL l).1 x++ [Vv (cm x,(((cL l).1++ [d]).length:Int),make ((cL l).1++ [d]) (cm x) ((cL l).1++ [d]).length)]:=by
  unfold qc
  rw [gF zx.2.1,gF p2];simp
 rw [e1,hl]
 congr 2
end Go.S

end
section
namespace Go.S
abbrev Bs:=List (List UInt8)
abbrev Ws:=List (Int×List UInt8)
def aI(bl:Bs)(wt:Ws):Bool:=decide (bl.length≤4096)&&decide (wt.length≤1000)&&bl.all (fun b=>b.length==64)&&wt.all (fun x=>decide (0≤x.1)&&decide (x.1<bl.length)&&x.2.length==64)
def vB(bl:Bs)(wt:Ws):Bs:=if aI bl wt then bl else []
def vW(bl:Bs)(wt:Ws):Ws:=if aI bl wt then wt else []
def copied(b:List UInt8):List UInt8:=b.take 64++List.replicate (64-b.length) 0
def pt(n:Int):List UInt8:=List.replicate (n.toNat*64) 0
def ry(n:Int):Prop :=0≤n∧n≤4096
def pv(bl:Bs):Prop :=bl.length≤4096∧∀b∈bl,b.length=64
def flat(bl:Bs):List UInt8:=bl.flatten
def uD(c:Bs)(x:Int×List UInt8):Bs:=c.set x.1.toNat x.2
def nv(wt:Ws)(bl:Bs):Bs:=wt.foldl uD bl
def kept(keep:List Int)(i:Nat):Nat:=match keep[i]? with
 |some k=>(min (max k 0) 64).toNat
 |none=>0
def sC(keep:List Int)(c:Bs)(x:Nat×Int×List UInt8):Bs:=c.set x.2.1.toNat (x.2.2.take (kept keep x.1)++(c.getD x.2.1.toNat []).drop (kept keep x.1))
def qJ(keep:List Int)(wt:Ws)(bl:Bs):Bs:=((List.range wt.length).zip wt).foldl (sC keep) bl
def cont(wt:Ws)(i:Int)(c:List UInt8):List UInt8:=wt.foldl (fun c x=>if x.1=i then x.2 else c) c
def LB(bl:Bs)(n:Nat):Prop :=n≤bl.length∧∀b∈bl.take n,b.length=64
def LC(bl:Bs)(wt:Ws)(n:Nat):Prop :=n≤wt.length∧∀x∈wt.take n,0≤x.1∧x.1<bl.length∧x.2.length=64
def uE(a b:Nat):Prop :=a≤b
def fN(bl:Bs)(n:Nat):List UInt8:=(bl.take n).flatten++List.replicate ((bl.length-n)*64) 0
def lJ(bl:Bs)(wt:Ws)(n:Nat):List UInt8:=(nv (wt.take n) bl).flatten
def jy(keep:List Int)(bl:Bs)(wt:Ws)(n:Nat):List UInt8:=(qJ keep (wt.take n) bl).flatten
def kE(wt:Ws)(n:Nat):Ws:=(wt.take n).map fun x=>(x.1,copied x.2)
def qi(wt:Ws)(i:Int)(c:List UInt8)(n:Nat):List UInt8:=cont (wt.take n) i c
def bO(bl:Bs)(i:Int):List UInt8:=bl.getD i.toNat []
def kF(bl:Bs)(wt:Ws)(i:Int)(b:List UInt8):Int:=if i<0∨(vB bl wt).length≤i∨b.length≠64 then 1 else if 1000≤(vW bl wt).length then 3 else 0
def wB(bl:Bs)(wt:Ws):Bs:=vB bl wt
def wW(bl:Bs)(wt:Ws)(i:Int)(b:List UInt8):Ws:=if kF bl wt i b=0 then vW bl wt++ [(i,b)] else vW bl wt
def fZ(bl:Bs)(wt:Ws)(i:Int):Int:=if i<0∨(vB bl wt).length≤i then 1 else 0
def dM(bl:Bs)(wt:Ws)(i:Int):List UInt8:=if fZ bl wt i=0 then cont (vW bl wt) i (bO (vB bl wt) i) else []
def sync(bl:Bs)(wt:Ws):Bs:=nv (vW bl wt) (vB bl wt)
def jz(bl:Bs)(wt:Ws)(keep:List Int):Bs:=qJ keep (vW bl wt) (vB bl wt)
def yR(n:Int):Int:=if n<0∨4096<n then 1 else 0
def pw(n:Int):Bs:=if n<0∨4096<n then [] else List.replicate n.toNat (List.replicate 64 0)
theorem kS {b c:Bool}(h:(bif b then true else c)=false):b=false∧c=false :=by cases b<;>simp_all
theorem mo {b c:Bool}(h:(bif b then true else c)=true):b=true∨c=true :=by cases b<;>simp_all
theorem cx {bl:Bs} {wt:Ws}:aI bl wt=true↔bl.length≤4096∧wt.length≤1000∧(∀b∈bl,b.length=64)∧(∀x∈wt,0≤x.1∧x.1<bl.length∧x.2.length=64):=by
 simp [aI,and_assoc]
theorem sD {bl:Bs} {wt:Ws}(h:¬(bl.length≤4096∧wt.length≤1000∧(∀b∈bl,b.length=64)∧(∀x∈wt,0≤x.1∧x.1<bl.length∧x.2.length=64))):false=aI bl wt:=by
 cases hr:aI bl wt with
 |false=>rfl
 |true=>exact absurd (cx.1 hr) h
theorem vA(bl:Bs)(wt:Ws):aI (vB bl wt) (vW bl wt)=true :=by
 unfold vB vW;cases h:aI bl wt<;>simp [h];rfl
theorem lK(bl:Bs)(wt:Ws):(vB bl wt).length≤4096:=(cx.1 (vA bl wt)).1
theorem Cc(bl:Bs)(wt:Ws):(vW bl wt).length≤1000:=(cx.1 (vA bl wt)).2.1
theorem kJ(bl:Bs)(wt:Ws):∀b∈vB bl wt,b.length=64:=(cx.1 (vA bl wt)).2.2.1
theorem lL(bl:Bs)(wt:Ws):∀x∈vW bl wt,0≤x.1∧x.1<(vB bl wt).length∧x.2.length=64:=(cx.1 (vA bl wt)).2.2.2
theorem xl {b:List UInt8}(h:b.length=64):copied b=b:=by
 simp [copied,h,List.take_of_length_le]
theorem gi:∀(l:Bs),(∀b∈l,b.length=64)→l.flatten.length=l.length*64
 | [],_=>rfl
 |b::l,h=>by
  have h1:=h b (List.mem_cons_self ..)
  have h2:=gi l fun c hc=>h c (List.mem_cons_of_mem _ hc)
  simp [h1,h2];omega
theorem wz:∀(l:Bs) (n:Nat),(∀b∈l,b.length=64)→(l.flatten).take (n*64)=(l.take n).flatten
 | [],_,_=>by simp
 |b::l,0,_=>by simp
 |b::l,n+1,h=>by
  have h1:=h b (List.mem_cons_self ..)
  have h2:=wz l n fun c hc=>h c (List.mem_cons_of_mem _ hc)
  simp only [List.flatten_cons,List.take_succ_cons,List.take_append,h1]
  rw [show(n+1)*64-64=n*64 by omega,h2,List.take_of_length_le (by omega)]
theorem mP:∀(l:Bs) (n:Nat),(∀b∈l,b.length=64)→(l.flatten).drop (n*64)=(l.drop n).flatten
 | [],_,_=>by simp
 |b::l,0,_=>by simp
 |b::l,n+1,h=>by
  have h1:=h b (List.mem_cons_self ..)
  have h2:=mP l n fun c hc=>h c (List.mem_cons_of_mem _ hc)
  simp only [List.flatten_cons,List.drop_succ_cons,List.drop_append,h1]
  rw [show(n+1)*64-64=n*64 by omega,h2,List.drop_of_length_le (by omega),List.nil_append]
theorem mQ(l:Bs)(h:∀b∈l,b.length=64):Vg.gN 64 l.length l.flatten=l:=by
 refine List.ext_getElem (by simp [Vg.gN]) fun i h1 h2=> ?_
 simp only [Vg.gN,List.getElem_map,List.getElem_range]
 rw [mP l i h,List.drop_eq_getElem_cons h2,List.flatten_cons,List.take_append,h _ (List.getElem_mem h2)]
 simp [h _ (List.getElem_mem h2),List.take_of_length_le]
theorem LD(n:Nat):Vg.gN 64 n (List.replicate (n*64) (0:UInt8))=List.replicate n (List.replicate 64 0):=by
 have :=mQ (List.replicate n (List.replicate 64 0)) (by intro b hb;rw [(List.mem_replicate.1 hb).2,List.length_replicate])
 rwa [List.length_replicate,List.flatten_replicate_replicate] at this
theorem ob(l:Bs)(i:Nat)(p:List UInt8)(h:∀b∈l,b.length=64)(hi:i<l.length)(hp:p.length≤64):
  l.flatten.take (i*64)++p++l.flatten.drop (i*64+p.length)=(l.set i (p++(l.getD i []).drop p.length)).flatten:=by
 have oc:=h _ (List.getElem_mem hi)
 rw [wz l i h,←List.drop_drop,mP l i h,List.drop_eq_getElem_cons hi,List.flatten_cons,List.drop_append,oc,show p.length-64=0 by omega,List.drop_zero,
  List.set_eq_take_append_cons_drop,if_pos hi,List.getD,List.getElem?_eq_getElem hi,Option.getD_some,List.flatten_append,List.flatten_cons]
 simp only [List.append_assoc]
theorem zY:∀(wt:Ws) {bl:Bs},(∀x∈wt,0≤x.1∧x.1<bl.length∧x.2.length=64)→∀(i:Int) (c:List UInt8),c.length=64→(cont wt i c).length=64
 | [],_,_,i,c,hc=>hc
 |x::wt,bl,h,i,c,hc=>by
  have :=zY wt (bl:=bl) (fun y hy=>h y (List.mem_cons_of_mem _ hy)) i (if x.1=i then x.2 else c) (by split;exact(h x (List.mem_cons_self ..)).2.2;exact hc)
  simpa only [cont,List.foldl_cons] using this
theorem vC:∀(wt:Ws) (bl:Bs),(nv wt bl).length=bl.length
 | [],_=>rfl
 |x::wt,bl=>by
  have :=vC wt (uD bl x)
  simpa only [nv,List.foldl_cons,uD,List.length_set] using this
theorem vD:∀(wt:Ws),(∀x∈wt,x.2.length=64)→∀(bl:Bs),(∀b∈bl,b.length=64)→∀b∈nv wt bl,b.length=64
 | [],_,_,h=>h
 |x::wt,hw,bl,h=>by
  have :=vD wt (fun y hy=>hw y (List.mem_cons_of_mem _ hy)) (uD bl x) (fun b hb=>by
   rcases mem_set hb with rfl|hb
   · exact hw x (List.mem_cons_self ..)
   · exact h b hb)
  simpa only [nv,List.foldl_cons] using this
theorem uF(keep:List Int)(i:Nat):kept keep i≤64:=by
 unfold kept;split<;>omega
theorem BK(wt:Ws)(n:Nat)(h:n<wt.length):(List.range (wt.take (n+1)).length).zip (wt.take (n+1))=(List.range (wt.take n).length).zip (wt.take n)++ [(n,wt.getD n (0,[]))]:=by
 rw [ay wt n (0,[]) h,List.length_append,List.length_take,Nat.min_eq_left (by omega),List.length_singleton,List.range_succ,List.zip_append (by simp;omega)]
 rfl
theorem LF(keep:List Int)(wt:Ws)(bl:Bs)(n:Nat)(h:n<wt.length):qJ keep (wt.take (n+1)) bl=sC keep (qJ keep (wt.take n) bl) (n,wt.getD n (0,[])):=by
 simp only [qJ,BK wt n h,List.foldl_append,List.foldl_cons,List.foldl_nil]
theorem sE(keep:List Int)(c:Bs)(x:Nat×Int×List UInt8):(sC keep c x).length=c.length:=by simp [sC]
theorem xm(keep:List Int)(wt:Ws)(bl:Bs):(qJ keep wt bl).length=bl.length:=
 zF (P:=fun c:Bs=>c.length=bl.length) _ _ rfl fun a x _ h=>by rw [sE];exact h
theorem xn(keep:List Int) {n:Nat}(wt:Ws)(hw:∀x∈wt,0≤x.1∧x.1<(n:Int)∧x.2.length=64)(bl:Bs)(h:∀b∈bl,b.length=64):∀b∈qJ keep wt bl,b.length=64:=by
 refine zF (P:=fun c:Bs=>∀b∈c,b.length=64) _ _ h fun c x hx hc b hb=> ?_
 by_cases hi:x.2.1.toNat<c.length
 · rcases mem_set hb with rfl|hb
   · have h1:=(hw x.2 (List.of_mem_zip hx).2).2.2
     have h2:=uF keep x.1
     have :=hc _ (bu c x.2.1.toNat [] hi)
     simp only [List.length_append,List.length_take,List.length_drop]
     omega
   · exact hc b hb
 · simp only [sC,List.set_eq_of_length_le (Nat.not_lt.1 hi)] at hb
   exact hc b hb
end Go.S
namespace Go.S
def same(a1:Bs)(a2:Ws)(b1:Bs)(b2:Ws):Bool:=decide (a1=b1)&&decide (a2=b2)
def rz(n:Nat):Bs:=List.replicate n (List.replicate 64 0)
end Go.S
namespace Go.S
theorem j5 {bl:Bs} {wt:Ws}(h:aI bl wt=true):vB bl wt=bl:=by simp [vB,h]
theorem qK {bl:Bs} {wt:Ws}(h:aI bl wt=true):vW bl wt=wt:=by simp [vW,h]
theorem py {bl:Bs}(h1:bl.length≤4096)(h2:∀b∈bl,b.length=64):aI bl []=true :=cx.2 ⟨h1,by simp,h2,by simp⟩
theorem zZ(bl:Bs)(wt:Ws):(sync bl wt).length=(vB bl wt).length:=vC _ _
theorem En(bl:Bs)(wt:Ws)(keep:List Int):(jz bl wt keep).length=(vB bl wt).length:=xm _ _ _
theorem Bh(bl:Bs)(wt:Ws):aI (sync bl wt) []=true :=
 py (by rw [zZ];exact lK bl wt) (vD _ (fun x hx=>(lL bl wt x hx).2.2) _ (kJ bl wt))
theorem yS(bl:Bs)(wt:Ws)(keep:List Int):aI (jz bl wt keep) []=true :=
 py (by rw [En];exact lK bl wt) (xn keep _ (fun x hx=>lL bl wt x hx) _ (kJ bl wt))
theorem mq {bl:Bs}(h:aI bl []=true)(keep:List Int):jz bl [] keep=bl:=by simp [jz,j5 h,qK h,qJ]
theorem z6 {bl:Bs}(h:aI bl []=true)(i:Int):fZ bl [] i=if i<0∨bl.length≤i then 1 else 0:=by simp only [fZ,j5 h]
theorem z7 {bl:Bs}(h:aI bl []=true)(i:Int):dM bl [] i=if i<0∨bl.length≤i then [] else bO bl i:=by
 simp only [dM,z6 h,j5 h,qK h,cont,List.foldl_nil]
 split<;>simp
theorem pz(bl:Bs)(j i:Int)(b:List UInt8)(hj:0≤j∧j<bl.length)(hi:0≤i∧i<bl.length):bO (bl.set j.toNat b) i=if j=i then b else bO bl i:=by
 simp only [bO,List.getD,List.getElem?_set]
 by_cases h:j=i
 · subst h;simp [show j.toNat<bl.length by omega]
 · have :j.toNat≠i.toNat:=by omega
   simp [h,this]
theorem yT {bl:Bs} {wt:Ws}(h:aI bl wt=true)(j:Int)(b:List UInt8):aI bl (wW bl wt j b)=true :=by
 simp only [wW,qK h]
 by_cases he:kF bl wt j b=0
 · rw [if_pos he]
   simp only [kF,j5 h,qK h] at he
   split at he
   · cases he
   · split at he
     · cases he
     · have hr:=cx.1 h
       refine cx.2 ⟨hr.1,by simp;omega,hr.2.2.1,fun x hx=> ?_⟩
       rcases List.mem_append.1 hx with hx|hx
       · exact hr.2.2.2 x hx
       · simp only [List.mem_singleton] at hx;subst hx
         simp only;omega
 · rw [if_neg he];exact h
end Go.S

end
section
namespace Go.S
def c9(docs:List (List UInt8))(l:List ax)(a b c:Int)(d:List UInt8):eV×Int:=
 if a=0 then bt docs l d else if a=1 then ba docs l else if a=2 then cw docs l b c else if a=3 then(di docs l,0) else(al docs l,1)
def cy(x:eV)(e:bm):eV×Int:=c9 x.1 x.2 e.1 e.2.1 e.2.2.1 e.2.2.2
def jA(a b c:Int)(d:List UInt8):Bool:=if a=0 then decide ((d.length:Int)≤2000) else if a=2 then !iF b&& !iF c else decide (a=1) || decide (a=3)
def kB(a b c:Int)(d:List UInt8):List UInt8:=num a++(if a=0 then text d else if a=2 then num b++num c else [])
def bR(e:bm):List UInt8:=kB e.1 e.2.1 e.2.2.1 e.2.2.2
def aU(a b c:Int)(d:List UInt8):List UInt8×Int:=if jA a b c d then(kB a b c d,0) else([],1)
def ez(e:bm):Bool:=jA e.1 e.2.1 e.2.2.1 e.2.2.2
def cn(b:List UInt8)(a e:Int):(Int×Int)×bm:=
 if(af b a e).2=0 then
  (((bj b (af b a e).1.2.1 (af b a e).1.2.2 2000).1.2.1,(bj b (af b a e).1.2.1 (af b a e).1.2.2 2000).1.2.2),(0,0,0,(bj b (af b a e).1.2.1 (af b a e).1.2.2 2000).2))
 else if(af b a e).2=2 then
  (((af b (af b (af b a e).1.2.1 (af b a e).1.2.2).1.2.1 (af b (af b a e).1.2.1 (af b a e).1.2.2).1.2.2).1.2.1,
    (af b (af b (af b a e).1.2.1 (af b a e).1.2.2).1.2.1 (af b (af b a e).1.2.1 (af b a e).1.2.2).1.2.2).1.2.2),
   (2,(af b (af b a e).1.2.1 (af b a e).1.2.2).2,(af b (af b (af b a e).1.2.1 (af b a e).1.2.2).1.2.1 (af b (af b a e).1.2.1 (af b a e).1.2.2).1.2.2).2,[]))
 else(((af b a e).1.2.1,(af b a e).1.2.2),((af b a e).2,0,0,[]))
def xo(b:List UInt8):Nat→Int→eV→eV×Int
 |0,_,x=>(x,0)
 |f+1,a,x=>if a<b.length then
   (if(cn b a 0).1.2≠0 then(([],[]),2)
   else if(cy x (cn b a 0).2).2≠0 then(([],[]),2)
   else xo b f (cn b a 0).1.1 (cy x (cn b a 0).2).1)
  else(x,0)
def xp(b:List UInt8):eV×Int:=xo b b.length 0 ([],[])
def sP:eV→List bm→Option eV
 |x,[]=>some x
 |x,e::r=>if ez e=true∧(cy x e).2=0 then sP (cy x e).1 r else none
theorem Eo:∀(l:List bm) (x:eV) (e:bm),sP x (l++ [e])=match sP x l with
  |some y=>if ez e=true∧(cy y e).2=0 then some (cy y e).1 else none
  |none=>none
 | [],x,e=>rfl
 |f::r,x,e=>by
  simp only [List.cons_append,sP]
  split
  · exact Eo r _ e
  · rfl
theorem uG {P R:List UInt8} {v:Int}(h:0≤v)(h1:v≤4611686018427387904):af (P++(num v++R)) P.length 0=((P++(num v++R),(P.length:Int)+(num v).length,0),v):=by
 have e:(P++(num v++R)).drop ((P.length:Nat):Int).toNat=num v++R:=by rw [Int.toNat_natCast,List.drop_left]
 have hf:=ov h h1 R
 have :=VZ (b:=P++(num v++R)) (a:=P.length) (Int.natCast_nonneg _) (by simp only [List.length_append];omega) (by rw [e,hf])
 rw [e,hf] at this
 exact this
theorem V3 {P R d:List UInt8}(h:(d.length:Int)≤2000):bj (P++(text d++R)) P.length 0 2000=((P++(text d++R),(P.length:Int)+(text d).length,0),d):=by
 have e0:P++(text d++R)=P++(num d.length++(d++R)):=by simp [text]
 have e:(P++(num d.length++(d++R))).drop ((P.length:Nat):Int).toNat=num d.length++(d++R):=by rw [Int.toNat_natCast,List.drop_left]
 have hf:=ov (v:=(d.length:Int)) (by omega) (by omega) (d++R)
 have hg:aJ (P++(num d.length++(d++R))) P.length=((d.length:Int),(P.length:Int)+(num d.length).length,0):=by
  unfold aJ AU;rw [e,hf];simp
 have hs:=yQ (b:=P++(num d.length++(d++R))) (a:=P.length) (Int.natCast_nonneg _) (by simp only [List.length_append];omega)
 have ht:bV (P++(num d.length++(d++R))) P.length 2000=(d,(P.length:Int)+(num d.length).length+d.length,0):=by
  unfold bV
  rw [hg,if_neg (by simp),if_neg (by simp only;omega),if_neg (by simp only [List.length_append];omega)]
  have e1:((P.length:Int)+(num d.length).length+d.length).toNat=(P++(num d.length++d)).length:=by simp only [List.length_append];omega
  have e2:((P.length:Int)+(num d.length).length).toNat=(P++num d.length).length:=by simp only [List.length_append];omega
  simp only [e1,e2]
  have e3:P++(num d.length++(d++R))=(P++(num d.length++d))++R:=by simp
  rw [e3,List.take_left,←List.append_assoc,List.drop_left]
 rw [e0]
 unfold bj
 rw [hs,if_neg (fun q=>q rfl),ht,if_neg (fun q=>q rfl)]
 simp only [text,List.length_append]
 congr 3
 omega
def V4(e:bm):bm:=if e.1=0 then(0,0,0,e.2.2.2) else if e.1=2 then(2,e.2.1,e.2.2.1,[]) else(e.1,0,0,[])
theorem ŉ(x:eV)(e:bm):cy x (V4 e)=cy x e:=by
 unfold V4
 split
 · rename_i h;simp only [cy,c9,h,if_true]
 · split
   · rename_i h;simp only [cy,c9,h];rfl
   · rename_i h1 h2
     simp only [cy,c9,if_neg h1,if_neg h2]
theorem afk {e:bm}(h:ez e=true)(P R:List UInt8):cn (P++(bR e++R)) P.length 0=(((P.length:Int)+(bR e).length,0),V4 e):=by
 obtain⟨a,b,c,d⟩:=e
 simp only [ez,jA] at h
 simp only [bR,kB,V4]
 by_cases h0:a=0
 · subst h0
   simp only [if_true] at h ⊢
   have e1:P++(num 0++text d++R)=P++(num 0++(text d++R)):=by simp
   have r1:=uG (P:=P) (R:=text d++R) (v:=0) (by omega) (by omega)
   have e2:P++(num 0++(text d++R))=(P++num 0)++(text d++R):=by simp
   have r2:=V3 (P:=P++num 0) (R:=R) (of_decide_eq_true h)
   rw [←e2] at r2
   have e3:((P++num 0).length:Int)=(P.length:Int)+(num 0).length:=by simp
   rw [e3] at r2
   unfold cn
   rw [e1]
   simp only [r1,r2,if_true,List.length_append]
   congr 2
   omega
 · by_cases h2:a=2
   · subst h2
     simp only [if_neg h0,if_true,Bool.and_eq_true,Bool.not_eq_true',iF,Bool.or_eq_false_iff,decide_eq_false_iff_not] at h ⊢
     have e1:P++(num 2++(num b++num c)++R)=P++(num 2++(num b++(num c++R))):=by simp
     have r1:=uG (P:=P) (R:=num b++(num c++R)) (v:=2) (by omega) (by omega)
     have e2:P++(num 2++(num b++(num c++R)))=(P++num 2)++(num b++(num c++R)):=by simp
     have r2:=uG (P:=P++num 2) (R:=num c++R) (v:=b) (by omega) (by omega)
     rw [←e2] at r2
     have e3:P++(num 2++(num b++(num c++R)))=(P++num 2++num b)++(num c++R):=by simp
     have r3:=uG (P:=P++num 2++num b) (R:=R) (v:=c) (by omega) (by omega)
     rw [←e3] at r3
     have l1:((P++num 2).length:Int)=(P.length:Int)+(num 2).length:=by simp
     have l2:((P++num 2++num b).length:Int)=(P.length:Int)+(num 2).length+(num b).length:=by rw [List.length_append,List.length_append];omega
     rw [l1] at r2
     rw [l2] at r3
     unfold cn
     rw [e1]
     simp only [r1,r2,r3]
     rw [if_neg (by decide)]
     simp only [List.length_append]
     rw [if_pos trivial]
     congr 2
     omega
   · simp only [if_neg h0,if_neg h2,Bool.or_eq_true,decide_eq_true_eq,List.append_nil] at h ⊢
     have r1:=uG (P:=P) (R:=R) (v:=a) (by omega) (by omega)
     unfold cn
     simp only [r1,if_neg h0,if_neg h2]
theorem Ph(e:bm):1≤(bR e).length:=by
 have :=yD e.1
 simp only [bR,kB,List.length_append];omega
theorem V5:∀(es:List bm) (P:List UInt8) (x y:eV) (f:Nat),sP x es=some y→es.length≤f→xo (P++es.flatMap bR) f P.length x=(y,0)
 | [],P,x,y,f,h,hf=>by
   simp only [sP,Option.some.injEq] at h
   subst h
   cases f with
   |zero=>rfl
   |succ f=>simp only [xo,List.flatMap_nil,List.append_nil];rw [if_neg (by omega)]
 |e::es,P,x,y,f,h,hf=>by
  simp only [sP] at h
  split at h
  · rename_i hc
    cases f with
    |zero=>simp at hf
    |succ f=>
     have hp:=Ph e
     have he:cn (P++(e::es).flatMap bR) P.length 0=(((P.length:Int)+(bR e).length,0),V4 e):=by rw [List.flatMap_cons];exact afk hc.1 P _
     have hN:=ŉ x e
     simp only [xo]
     rw [if_pos (by simp only [List.length_append,List.flatMap_cons];omega),he]
     simp only [hN]
     rw [if_neg (fun q=>q rfl),if_neg (fun q=>q hc.2)]
     have :=V5 es (P++bR e) (cy x e).1 y f h (by simpa using hf)
     rw [List.append_assoc,←List.flatMap_cons] at this
     have el:((P++bR e).length:Int)=(P.length:Int)+(bR e).length:=by simp
     rw [el] at this
     exact this
  · cases h
theorem Ts(es:List bm):es.length≤(es.flatMap bR).length:=by
 induction es with
 |nil=>exact Nat.le_refl _
 |cons e es ih=>have :=Ph e;simp only [List.length_cons,List.flatMap_cons,List.length_append];omega
theorem Ŋ {es:List bm} {y:eV}(h:sP ([],[]) es=some y):xp (es.flatMap bR)=(y,0):=by
 have :=V5 es [] ([],[]) y (es.flatMap bR).length h (Ts es)
 simpa [xp] using this
theorem Bi:∀(es:List bm) (x y:eV),bc x.1 x.2=true→sP x es=some y→bc y.1 y.2=true
 | [],x,y,hx,h=>by simp only [sP,Option.some.injEq] at h;rw [←h];exact hx
 |e::es,x,y,hx,h=>by
  simp only [sP] at h
  split at h
  · refine Bi es _ y ?_ h
    simp only [cy,c9]
    split
    · exact append_right _ _ _
    · split
      · exact n4 _ _
      · split
        · exact merge_right _ _ _ _
        · split
          · exact qF _ _
          · exact ix _ _
  · cases h
def uH(b:List UInt8):Nat:=(b.take 8).foldl (fun v x=>v*256+x.toNat) 0
def rA(n:Int)(i:Nat):UInt8:=UInt8.ofNat (n.toNat/256^(7-i)%256)
def kZ(n:Int):List UInt8:=(List.range 8).map (rA n)
def yU(s u:Int):List UInt8:=kZ s++kZ u++List.replicate 16 0
def dN(s u:Int):List UInt8:=yU s u++yU s u
def eS(b:List UInt8):Int×Bool:=if 4611686018427387904<uH b then(0,false) else((uH b:Int),true)
def cE(b:List UInt8)(m:Int):(Int×Int)×Bool:=
 if(b.length:Int)=64∧(eS b).2=true∧(eS (b.drop 8)).2=true∧(eS (b.drop 8)).1≤m∧b=dN (eS b).1 (eS (b.drop 8)).1 then(((eS b).1,(eS (b.drop 8)).1),true) else((0,0),false)
theorem k6(n:Int):(kZ n).length=8:=by simp [kZ]
theorem Ep(s u:Int):(yU s u).length=32:=by simp [yU,k6]
theorem Er(s u:Int):(dN s u).length=64:=by simp [dN,Ep]
theorem GP {n:Int}(h:0≤n)(h1:n≤4611686018427387904)(r:List UInt8):(uH (kZ n++r):Int)=n:=by
 unfold uH
 rw [List.take_append_of_le_length (by rw [k6];exact Nat.le_refl _),List.take_of_length_le (by rw [k6];exact Nat.le_refl _)]
 have e:kZ n= [rA n 0,rA n 1,rA n 2,rA n 3,rA n 4,rA n 5,rA n 6,rA n 7]:=rfl
 have hb:∀i,(rA n i).toNat=n.toNat/256^(7-i)%256:=fun i=>by
  simp only [rA,UInt8.toNat_ofNat']
  exact Nat.mod_eq_of_lt (Nat.mod_lt _ (by decide))
 rw [e]
 simp only [List.foldl_cons,List.foldl_nil,hb]
 simp only [show 7-0=7 from rfl,show 7-1=6 from rfl,show 7-2=5 from rfl,show 7-3=4 from rfl,show 7-4=3 from rfl,show 7-5=2 from rfl,show 7-6=1 from rfl,show 7-7=0 from rfl]
 omega
theorem GQ {s u m:Int}(h:0≤s)(h1:s≤4611686018427387904)(h2:0≤u)(h3:u≤4611686018427387904)(h4:u≤m):cE (dN s u) m=((s,u),true):=by
 have e1:dN s u=kZ s++(kZ u++(List.replicate 16 0++yU s u)):=by simp [dN,yU]
 have e2:(dN s u).drop 8=kZ u++(List.replicate 16 0++yU s u):=by rw [e1,List.drop_left' (k6 s)]
 have v1:=GP h h1 (kZ u++(List.replicate 16 0++yU s u))
 have v2:=GP h2 h3 (List.replicate 16 0++yU s u)
 have n1:eS (dN s u)=(s,true):=by
  unfold eS;rw [e1,if_neg (by omega),v1]
 have n2:eS ((dN s u).drop 8)=(u,true):=by
  unfold eS;rw [e2,if_neg (by omega),v2]
 unfold cE
 rw [n1,n2,if_pos ⟨by rw [Er];rfl,rfl,rfl,h4,rfl⟩]
theorem Oa {b:List UInt8} {m:Int}(h:b.getD 0 0=255)(hl:8≤b.length):(cE b m).2=false :=by
 have :¬(eS b).2=true :=by
  unfold eS
  rw [if_pos]
  · simp
  · match b,hl with
    |b0::b1::b2::b3::b4::b5::b6::b7::r,_=>
     have :b0=255:=h
     subst this
     simp only [uH,List.take_succ_cons,List.take_zero,List.foldl_cons,List.foldl_nil]
     have :(255:UInt8).toNat=255:=rfl
     omega
 unfold cE
 rw [if_neg (fun q=>this q.2.1)]
theorem Ob {b:List UInt8} {m:Int}(h:b.getD 63 0=255):(cE b m).2=false :=by
 unfold cE
 rw [if_neg]
 rintro⟨_,_,_,_,q⟩
 rw [q] at h
 have :∀s u,(dN s u).getD 63 0=0:=fun s u=>by
  have e1:dN s u=(yU s u++kZ s++kZ u++List.replicate 15 0)++ [0]:=by simp [dN,yU,List.replicate_succ']
  have hl:(yU s u++kZ s++kZ u++List.replicate 15 (0:UInt8)).length=63:=by simp [Ep,k6]
  rw [e1,List.getD_eq_getElem?_getD,List.getElem?_append_right (by omega),hl];rfl
 rw [this] at h
 exact absurd h (by decide)
end Go.S

end
