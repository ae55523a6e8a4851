import Derived.Test.YtfbolhlbmbfhbaaGreatDoorPartB
set_option linter.all false
namespace Go.Vg
open Go
variable [HP]
def St.Gh(G:Nat->Option GD)(n:Nat)(b:M AV)(H:M AB):St:=
 {St.init G n b with h:=λk=>bif Nat.ble 50000 k&&Nat.blt k 60000 then H[k-50000]? else none}
def Ah:AB->Bool
 |.row _ _ _ true=>false
 |.fvar _ _=>false
 |_=>true
def kindOk:AB->Bool
 |.row _ _ _ false=>true
 |.cells _|.arr _ _|.bm _ _ _ _|.iE _ _ _ _ _|.eG _ _ _ _=>true
 |_=>false
def aoq:Option AB->Bool
 |some b=>kindOk b
 |none=>true
def Ō(r:pb)(k:Nat):Bool:=rJ k&&(match r.heap[k-50000]? with
 |some (some _)=>true
 |_=>false)
def lB(r:pb)(k:Nat):Bool:= !(Ō r k)
def vO(s:St)(k n e:Nat)(r:M Ty)(l:M (Row r)):St:=
 {s with
  t:=λi=>eT 70000 (s.t i)
  h:=λj=>bif Nat.beq j 70000 then some (.row e r (l.take n) false) else bif Nat.beq j k then none else match s.h j with
   |some b=>some (mM 70000 b)
   |none=>none}
def vP(s:St)(x:AV):St×AV:=match x with
 |.pre k n=>match s.h k with
   |some (.row e row l false)=>(vO s k n e row l,.own 70000)
   |_=>(s,x)
 |_=>(s,x)
mutual
def Ai(h:aP)(s:M (Nat×Option Nat))(bad:Nat->Bool):AV->AV->M Prop×M Nat
 |.sl r l,.own k=>F5 h r l k
 |.agg xs,.agg Y|.bk xs,.bk Y=>pa h s bad xs Y
 |.own i,y=>(OL s bad y (.own i),[])
 |x,y=>(OL s bad (jA h y).1 x,(jA h y).2)
def pa(h:aP)(s:M (Nat×Option Nat))(bad:Nat->Bool):M AV->M AV->M Prop×M Nat
 |[],[]=>([],[])
 |x::xs,y::Y=>((Ai h s bad x y).1++(pa h s bad xs Y).1,(Ai h s bad x y).2++(pa h s bad xs Y).2)
 |_,_=>([False],[])
end
def xl(h:aP)(s:M (Nat×Option Nat))(B:Nat->Bool):Option AB->AB->M Prop×M Nat
 |some (.cells xs),.cells y=>pa h s B y xs
 |o,b=>(SA s B o b,[])
def nU(h:aP)(s:M (Nat×Option Nat))(B:Nat->Bool):Nat->M (Option AB)->M Prop×M Nat
 |_,[]=>([],[])
 |i,some b::bs=>((xl h s B (h (50000+i)) b).1++(nU h s B (i+1) bs).1,(xl h s B (h (50000+i)) b).2++(nU h s B (i+1) bs).2)
 |i,none::bs=>nU h s B (i+1) bs
def Bm(h:aP)(s:M (Nat×Option Nat))(B:Nat->Bool)(K:Nat)(b:AB):M Prop×M Nat:=match cz s K with
 |some (some k)=>xl h s B (h k) b
 |some none=>match b with
  |.row _ _ l false=>([[]=l],[])
  |_=>([False],[])
 |none=>([False],[])
def vQ(h:aP)(s:M (Nat×Option Nat))(B:Nat->Bool):Nat->M AB->M Prop×M Nat
 |_,[]=>([],[])
 |j,b::bs=>((Bm h s B (60000+j) b).1++(vQ h s B (j+1) bs).1,(Bm h s B (60000+j) b).2++(vQ h s B (j+1) bs).2)
def Iu(h:aP):Nat->M (Option AB)->M (Nat×Option Nat)
 |_,[]=>[]
 |i,some (.cells y)::bs=>(match h (50000+i) with
  |some (.cells xs)=>vC y xs
  |_=>[])++Iu h (i+1) bs
 |i,some (.eG _ (some j) _ _)::bs=>(match h (50000+i) with
  |some (.eG _ (some k) _ _)=>[(j,some k)]
  |_=>[])++Iu h (i+1) bs
 |i,_::bs=>Iu h (i+1) bs
def V4(h:aP)(s:M (Nat×Option Nat)):Nat->M AB->M (Nat×Option Nat)
 |_,[]=>[]
 |j,.cells y::bs=>(match cz s (60000+j) with
  |some (some k)=>match h k with
   |some (.cells xs)=>vC y xs
   |_=>[]
  |_=>[])++V4 h s (j+1) bs
 |j,_::bs=>V4 h s (j+1) bs
def Iv(a:M (Nat×Option Nat)):M (Nat×Option Nat)->M (Nat×Option Nat)
 |[]=>a
 |(k,x)::r=>bif Nat.ble 60000 k&&(match cz a k with|none=>true|some _=>false) then Iv ((k,x)::a) r else Iv a r
def aF9(h:aP)(x:AV)(r:pb):M (Nat×Option Nat):=Iv [] (Nu r.res x++Iu h 0 r.heap)
def aEm(h:aP)(r:pb)(s:M (Nat×Option Nat)):M (Nat×Option Nat):=Iv s (V4 h s 0 r.new)
def aMM(h:aP)(x:AV)(r:pb):M (Nat×Option Nat):=aEm h r (aEm h r (aF9 h x r))
def Pm(h:aP)(s:M (Nat×Option Nat))(x:AV)(r:pb):M Nat:=(Ai h s (lB r) r.res x).2++((nU h s (lB r) 0 r.heap).2++(vQ h s (lB r) 0 r.new).2)
def V5(h:aP)(x:AV)(r:pb)(s:M (Nat×Option Nat)):Prop:=
 bif kW (eU s)&&(((eU s).all (lB r))&&((s.all λy=>Nat.ble 60000 y.1)&&(((Pm h s x r).all λk=>!aw (eU s) k&&lB r k)&&(r.new.all kindOk&&r.heap.all aoq)))) then
  LA ((Ai h s (lB r) r.res x).1++((nU h s (lB r) 0 r.heap).1++(vQ h s (lB r) 0 r.new).1)) else False
def Pn(T:b9)(s:St)(R:M ResultVar)(r:pb):Prop:=match nS T s R with
 |none=>False
 |some a=>V5 (vP s (ie a)).1.h (vP s (ie a)).2 r (aMM (vP s (ie a)).1.h (vP s (ie a)).2 r)
def auC(T:b9)(R:M ResultVar)(r:pb)(e:Ex)(s:St):Prop:=match e with
 |.norm|.ret=>Pn T s R r
 |_=>False
def Cz(E:Env)(L:Nat->Option bO)(c:Code)(n:Nat)(R:M ResultVar)(b:M AV)(h:M AB)(r:pb):Prop:=
 bif Nat.ble b.length n then tu E L c (auC E.T R r) (St.Gh E.lM n b h) else False
variable {G:Nat->Option GD}{bm as_:List AV}{hs:List AB}{n:Nat}{A A' A0 A1 A2:Nat->Prop}{w w0 w1 w2:World}{β aC Hu:Nat->Value}{C:Ctx}{a:Act}{st:St}{v:Value}{x:AV}{b:AB}{s:List (Nat×Option Nat)}{P:Program}{T:b9}{fn:Func}{r:pb}{E:Env}{c:Code}{f:FuncId}{l:List CF}{xs args:List Value}{α:Type}{m:List Bool}
theorem Po{k:Nat}{a:AB}(h:(St.Gh G n bm hs).h k=some a):∃i,k=50000+i/\hs[i]? =some a:=by
 simp[St.Gh] at h;cases H:(Nat.ble 50000 k&&Nat.blt k 60000) with
 |false=>grind
 |true=>
  simp only[Bool.and_eq_true] at H;have:=Nat.le_of_ble_eq_true H.1;grind
def aq.Gh {G:Nat->Option GD}{args:M Value}{bm:M AV}{hs:M AB}{n:Nat}(o:∀b,A b->b<w.heap.size)(e:∀i d,G i=some d->auo w A i d)(p:ae w A β args bm)(q:bm.length<=n)
  (f:∀i a,hs[i]? =some a->BR w A β (50000+i) a) (y:∀i j b,i<hs.length->j<hs.length->ah (β (50000+i))=some b->ah (β (50000+j))=some b->i=j):
  aq ⟨w,A,HM β hs.length,G,β⟩ A β (St.Gh G n bm hs) {tmps:=args.toArray++Array.replicate (n-args.toArray.size) undef,defers:=[]} w:=by
 have H:=aq.init o e p q
 have t:∀k,((St.Gh G n bm hs).h k).isSome->∃i,k=50000+i/\i<hs.length:=by
  grind[Option.isSome_iff_exists,Po,List.getElem?_eq_some_iff]
 refine⟨H.defers,H.size,H.tmps,λk a h=>?_,λk K b h z g F=>?_,H.bound,⟨rfl,rfl,rfl,Nat.le_refl _,λb _ _=>rfl⟩,λb _ h=>.inl h,λb h=>h,λk b h g=>?_,λi d h=>h,e,λk _=>rfl⟩;grind[Po];grind;obtain⟨i,rfl,u⟩:=t k h;exact .inr ⟨i,u,g⟩
def aor(g:∀a∈hs,Ah a=true)(f:∀i a,hs[i]? =some a->BR w A β (50000+i) a):∀b,HM β hs.length b->¬A b:=by
 rintro b ⟨i,o,q⟩;have h:=f i _ (C! o);have p:=g _ (List.getElem_mem o);generalize hs[i]=a at h p;cases a with
 |cells cs=>
  have⟨B,arr,e,H,d,k,_⟩:=h;grind[ah,Option.some.injEq]
 |arr row l=>
  have⟨B,arr,e,H,d,k,_⟩:=h;grind[ah,Option.some.injEq]
 |fvar _ _=>cases p
 |mp t es ck=>
  have⟨H,d,k⟩:=h;grind[ah,Option.some.injEq]
 |views _ _ _ _ _|dO _ _ _|bm _ _ _ _|eG _ _ _ _=>
  have⟨xs,H,d,_⟩:=h;grind
 |row e row l fr=>
  have⟨xs,H,d,k⟩:=h;grind[Ah]
 |iE e j row l i=>
  have⟨xs,v,H,d,_⟩:=h;grind
theorem aq.shrink(H:aq C A β st a w){k e:Nat}{r:M Ty}{l:M (Row r)}(K:st.h k=some (.row e r l false))(t:aa w A β v (.pre k n)):
  aq C A (br β 70000 v) (vO st k n e r l) a w/\aa w A (br β 70000 v) v (.own 70000):=by
 have⟨xs,O,L,E⟩:=Oa H K;have P:=gK l xs n L
 have B:w.ownsRow 0 e r.length v n (xs.take (n*r.length))/\n<=l.length/\ah v=ah (β k):=by
  simp only[aa] at t;rcases t with⟨h1,o,D⟩|⟨b,N,c,h1,o,D⟩;simp_all[World.ownsRow_nil]
  rcases O.2 with⟨G,_⟩|⟨g,T,u,G,F,Q,g4,R,S,g7⟩;grind;rw[h1] at G;obtain⟨rfl,rfl,rfl⟩:=G;refine⟨⟨?_,.inr ⟨b,c,u,o,w!,Q,w!,R,S,?_⟩⟩,D,by rw[h1,o];rfl⟩<;>grind[List.length_take,Nat.min_eq_left,Nat.mul_le_mul_right]
 have⟨B,U,V⟩:=B
 have W:v.oneCell'=true:=by
  simp only[aa] at t;rcases t with⟨_,o,_⟩|⟨b,N,c,_,o,_⟩<;>subst o<;>rfl
 have hs:∀j,((vO st k n e r l).h j).isSome->(j=70000/\br β 70000 v j=v)\/(j≠70000/\j≠k/\(st.h j).isSome/\br β 70000 v j=β j):=by
  intro j d;by_cases p:j=70000;subst p;exact .inl ⟨rfl,by rfl⟩;simp only[vO,aO p,cond_false] at d;grind[cY,aO,br]
 have m:∀j b,((vO st k n e r l).h j).isSome->ah (br β 70000 v j)=some b->∃J,(st.h J).isSome/\ah (β J)=some b/\((j=70000/\J=k)\/(j≠70000/\J=j/\j≠k)):=by
  grind
 refine⟨⟨H.defers,H.size,λi=>zI 70000 v _ _ (H.tmps i),λj ab d=>?_,λj J b h1 o G F=>?_,H.bound,H.frame,H.gG,H.base,λj b h1 G=>?_,H.qo,H.laid,λj d=>?_⟩,?_⟩
 . by_cases p:j=70000;subst p;simp only[vO,cY,cond_true,Option.some.injEq] at d;grind[br,BR,List.length_take,Nat.min_eq_left]
   . simp only[vO,aO p,N!] at d;by_cases s:j=k;simp_all
     . rw[aO s] at d;cases I:st.h j with
       |none=>grind
       |some x=>
        rw[I] at d;simp only[N!,A!] at d;subst d
        exact yD (new:=[(70000,.cells [])]) (λq hq=>by
         have :¬q=70000:=by rintro rfl;simp_all[ai]
         grind[br]) (by grind[br]) (λb _=>⟨rfl,id⟩) (λb X=>⟨X,rfl⟩) (H.blocks j x I)
 have⟨i,y,z,a3⟩:=m j b h1 G;have⟨Y,Z,f,b3⟩:=m J b o F;have:=H.apart i Y b y Z z f;omega;have⟨i,y,z,_⟩:=m j b h1 G;exact H.om i b y z;have :¬j=70000:=by rintro rfl;simp_all[rJ]
 simp only[br,if_neg this];exact H.held j d;grind[aa,br]
theorem V6(h:aq C A β st a w)(H:aa w A β v x):∃aC,aq C A aC (vP st x).1 a w/\aa w A aC v (vP st x).2:=by
 unfold vP;split;split;rename_i e r l d;have⟨g,i⟩:=h.shrink d H<;>grind;grind;grind
mutual
theorem Aj(hB:aq C A β st a w){s:M (Nat×Option Nat)}{bad:Nat->Bool}(g:∀b,A b->A' b)(i:Keyed bad s β aC):∀(x y:AV) (v:Value),
  (∀p∈(Ai st.h s bad x y).1,p)->(∀k∈(Ai st.h s bad x y).2,∀b,ah (β k)=some b->A' b)->aa w A β v y->aa w A' aC v x/\∀k∈(Ai st.h s bad x y).2,(st.h k).isSome
 |x,y,v,h,d,H=>by
  generalize j:Ai st.h s bad x y=r at h d |-;unfold Ai at j;split at j;rename_i R L k;subst j;exact Iq hB g R L k v h d H;rename_i xs Y;subst j;simp only[aa] at H |-;obtain⟨o,E,t⟩:=H;obtain⟨G,q⟩:=oP hB g i xs Y _ h d t;exact⟨⟨o,E,G⟩,q⟩;rename_i xs Y;subst j;simp only[aa] at H |-;obtain⟨o,E,t⟩:=H;obtain⟨G,q⟩:=oP hB g i xs Y _ h d t;exact⟨⟨o,E,G⟩,q⟩;subst j;exact⟨jh (λb u=>⟨g b u,rfl⟩) _ _ (rT i _ _ _ h H),λk hk=>by cases hk⟩;subst j;obtain⟨G,q⟩:=uU hB H g d;exact⟨rT i _ _ _ h G,λk hk=>by obtain⟨e,z,l,f,H⟩:=q k hk;simp[H]⟩
theorem oP(hB:aq C A β st a w){s:M (Nat×Option Nat)}{bad:Nat->Bool}(g:∀b,A b->A' b)(i:Keyed bad s β aC):∀(xs Y:M AV) (V:M Value),
  (∀p∈(pa st.h s bad xs Y).1,p)->(∀k∈(pa st.h s bad xs Y).2,∀b,ah (β k)=some b->A' b)->ae w A β V Y->ae w A' aC V xs/\∀k∈(pa st.h s bad xs Y).2,(st.h k).isSome
 |[],[],V,_,_,H=>by
   simp only[ae] at H |-;exact⟨H,λk hk=>by simp[pa] at hk⟩
 |x::xs,y::Y,V,h,d,H=>by
  simp only[pa] at h d |-;obtain⟨G,q⟩:=l6 h;simp only[ae] at H |-;obtain⟨v,c,e,B,D⟩:=H;obtain⟨Q,F⟩:=Aj hB g i x y v G (λk hk=>d k (T! _ hk)) B;obtain⟨I,J⟩:=oP hB g i xs Y c q (λk hk=>d k (U! _ hk)) D;refine⟨⟨v,c,e,Q,I⟩,λk hk=>?_⟩;rcases I!.1 hk with hk|hk;exact F k hk;exact J k hk
 |[],_::_,V,h,_,_|_::_,[],V,h,_,_=>by simp only[pa] at h;exact(aR h).elim
end
theorem aGb {k:Nat}(y:∀b,A b->A' b)(D:kindOk b=true)(r:∀g,ah (β k)=some g->¬A g->¬A' g)(h:BR w A β k b):BR w A' β k b:=by
 have p:bI w w A A':=λb u=>⟨y b u,rfl⟩;cases b with
 |cells cs=>
  have⟨g,arr,e,h1,H,d,q,z⟩:=h;exact⟨g,arr,e,h1,H,r g (by rw[h1];rfl) d,cN p _ _ q,z⟩
 |arr row l=>
  have⟨g,arr,e,h1,H,d,q⟩:=h;exact⟨g,arr,e,h1,H,r g (by rw[h1];rfl) d,bR (λc x t=>bE p row c x t) l _ q⟩
 |views _ _ _ _ _|dO _ _ _|fvar _ _|mp _ _ _=>grind[kindOk]
 |bm e sz n cs=>
  have⟨xs,h1,H,d⟩:=h;exact⟨xs,h1,λg o=>r g o (H g o),λf=>cN p _ _ (d f)⟩
 |eG e j xs i=>
  have⟨Y,h1,H,d⟩:=h;exact⟨Y,h1,λg o=>r g o (H g o),d⟩
 |iE e j row l i=>
  have⟨xs,v,h1,H,d,q⟩:=h;exact⟨xs,v,h1,λg o=>r g o (H g o),bR (λc x t=>bE p row c x t) l _ d,q⟩
 |row e row l fr=>
  cases fr with
  |true=>grind[kindOk]
  |false=>
   have⟨xs,X,B,F⟩:=h;refine⟨xs,X,bR (λc x t=>bE p row c x t) l xs B,λb u=>?_⟩<;>grind
def L7(d:aq C A β st a w){s:M (Nat×Option Nat)}{B:Nat->Bool}(j:∀b,A b->A' b)(o:Keyed B s β aC){k K:Nat}{b:AB}(t:aC K=β k)(P:kindOk b=true)
  (h:∀p∈(xl st.h s B (st.h k) b).1,p) (u:∀q∈(xl st.h s B (st.h k) b).2,∀g,ah (β q)=some g->A' g) (R:∀g,ah (β k)=some g->¬A g->¬A' g):BR w A' aC K b:=by
 generalize H:xl st.h s B _ b=r at h u;unfold xl at H;split at H;rename_i xs Y v;subst H;have⟨g,i,e,h1,z,D,F,I⟩:=d.blocks k _ v;have⟨Q,_⟩:=oP d j o Y xs _ h u F;exact⟨g,i,e,t.trans h1,z,R g (by rw[h1];rfl) D,Q,I⟩;subst H;have⟨c,y⟩:=yT h;rw[y] at h;exact aGb j P x! (Ac o t h (d.blocks k c y))
theorem Ak(d:aq C A β st a w){B:Nat->Bool}(i:Keyed B s β aC){k:Nat}
  (h:∀p∈(xl st.h s B (st.h k) b).1,p):(st.h k).isSome/\∀q∈(xl st.h s B (st.h k) b).2,(st.h q).isSome:=by
 generalize H:xl st.h s B _ b=r at h |-;unfold xl at H;split at H;rename_i xs y v;subst H;have⟨g,j,e,t,u,z,o,D⟩:=d.blocks k _ v;exact⟨x!,(oP d (λ_ _=>trivial) i y xs _ h (λ_ _ _ _=>trivial) o).2⟩;subst H;have⟨c,F⟩:=yT h;grind
def xm {h:aP}{s:M (Nat×Option Nat)}{bad:Nat->Bool}:∀(B:M (Option AB)) (i j:Nat) (b:AB),B[j]? =some (some b)->
  (∀p∈(xl h s bad (h (50000+(i+j))) b).1,p∈(nU h s bad i B).1)/\∀p∈(xl h s bad (h (50000+(i+j))) b).2,p∈(nU h s bad i B).2
 |some d::B,i,0,b,hb=>by
  grind[List.getElem?_cons_zero,Option.some.injEq,nU,List.mem_append_left]
 |some d::B,i,j+1,b,hb=>by
  simp[nU];have:=xm (h:=h) (s:=s) (bad:=bad) B (i+1) j b x!;grind
 |none::B,i,0,b,hb=>by grind
 |none::B,i,j+1,b,hb=>by
  simp[nU];have:=xm (h:=h) (s:=s) (bad:=bad) B (i+1) j b x!;grind
def CA {h:aP}{s:M (Nat×Option Nat)}{d:Nat->Bool}:∀(B:M (Option AB)) (i q:Nat),q∈(nU h s d i B).2->
  ∃(j:Nat) (b:AB),B[j]? =some (some b)/\q∈(xl h s d (h (50000+(i+j))) b).2
 |[],i,q,H=>by grind[nU]
 |some k::B,i,q,H=>by
  simp[nU,I!] at H;rcases H with H|H;exact⟨0,k,rfl,H⟩;have⟨j,b,e,g⟩:=CA B _ q H;exact⟨j+1,b,by simpa using e,by rwa [show i+1+j=i+(j+1) by omega] at g⟩
 |none::B,i,q,H=>by
  have⟨j,b,e,g⟩:=CA B _ q H;exact⟨j+1,b,by simpa using e,by rwa [show i+1+j=i+(j+1) by omega] at g⟩
def Gi {h:aP}{s:M (Nat×Option Nat)}{bad:Nat->Bool}:∀(B:M AB) (i j:Nat) (b:AB),B[j]? =some b->
  (∀p∈(Bm h s bad (60000+(i+j)) b).1,p∈(vQ h s bad i B).1)/\∀p∈(Bm h s bad (60000+(i+j)) b).2,p∈(vQ h s bad i B).2
 |d::B,i,0,b,hb=>by
  grind[List.getElem?_cons_zero,Option.some.injEq,vQ,List.mem_append_left]
 |d::B,i,j+1,b,hb=>by
  simp[vQ];have:=Gi (h:=h) (s:=s) (bad:=bad) B (i+1) j b x!;grind
def Pt {h:aP}{s:M (Nat×Option Nat)}{B:Nat->Bool}:∀(d:M AB) (i q:Nat),q∈(vQ h s B i d).2->
  ∃(j:Nat) (b:AB),d[j]? =some b/\q∈(Bm h s B (60000+(i+j)) b).2
 |[],i,q,H=>by grind[vQ]
 |e::d,i,q,H=>by
  simp[vQ,I!] at H;rcases H with H|H;exact⟨0,e,rfl,H⟩;have⟨j,b,g,k⟩:=Pt d _ q H;exact⟨j+1,b,by simpa using g,by rwa [show i+1+j=i+(j+1) by omega] at k⟩
theorem V7(H:bM T P)(d:aq C A β st a w)(h:nS T st fn.results.toList=some as_):∃v,(results fn a.tmps).run P w= .ok v w/\aa w A β v (ie as_):=by
 have⟨V,e,p⟩:=uv H d fn.results.toList as_ h;refine⟨if h:V.toArray.size=1 then V.toArray[0] else .tuple V.toArray,?_,?_⟩;grind[L4,Array.mapM_eq_mapM_toList,Sem.run_bind,map_eq_pure_bind,Result.andThen_ok,Sem.run_pure]
 . match as_,V,(ajO as_ V p),p with
   |[x],[v],_,p=>
     grind[ae,List.cons.injEq,ie]
   |[],[],_,p=>
     grind[ie,aa,ae]
   |x::y::l,v::u::m,_,p=>
    simp_all[dif_neg,ie,aa]
theorem V8{u:Nat->Value}(e:aq ⟨w0,A0,HM Hu n,G,Hu⟩ A u st a w)
  (hn:r.heap.length=n) (anJ:n<=100) (T:∀b,HM Hu n b->¬A0 b) (Na:∀b,A0 b->b<w0.heap.size) (HX:aa w A u v x) (h:V5 st.h x r s):
  ∃A' aC,JW w0 A0 Hu n w v r A' aC:=by
 unfold V5 at h;cases o:(kW (eU s)&&(((eU s).all (lB r))&&((s.all λy=>Nat.ble 60000 y.1)&&(((Pm st.h s x r).all λk=>!aw (eU s) k&&lB r k)&&(r.new.all kindOk&&r.heap.all aoq))))) with
 |false=>grind
 |true=>
  rw[o] at h;simp only[K!] at h;simp only[B!,V!] at o;have⟨q1,q2,q3,q4,q5,q6⟩:=o;have⟨c1,C⟩:=l6 (yO _ h);have⟨C,c3⟩:=l6 C;let F:=Pm st.h s x r
  let f:Nat->Value:=λi=>match cz s i with
   |some (some k)=>u k
   |some none=>ua
   |none=>u i
  have h60:∀K y,cz s K=some y->60000<=K:=by
   have :∀(l:M (Nat×Option Nat)),(∀z∈l,Nat.ble 60000 z.1=true)->∀K y,cz l K=some y->60000<=K:=by
    intro l;induction l with
    |nil=>intro _ K y h;cases h
    |cons z l ih=>
     intro J K y h;have⟨z1,z2⟩:=z;simp only[cz] at h;cases H:Nat.beq K z1 with
     |true=>rw[D! H];exact L! (J _ (G! ..))
     |false=>rw[H] at h;exact ih (λz hz=>J z (F! _ hz)) K y h
   exact this s q3
  have U:∀K,lB r K=false->rJ K=true/\cz s K=none/\∃d,r.heap[K-50000]? =some (some d):=by
   intro K hK;simp only[lB,Ō,Bool.not_eq_false',B!] at hK;have⟨k1,k2⟩:=hK;refine⟨k1,?_,?_⟩
   . cases J:cz s K with
     |none=>rfl
     |some y=>
      have:=h60 K y J;simp only[rJ,B!] at k1;have:=L! k1.2;omega
   split at k2;rename_i d kO;exact⟨d,kO⟩;cases k2
  have E:Keyed (lB r) s u f:=⟨λK k h=>by simp only[f,h],λK h=>by simp only[f,h],λK h _=>by simp only[f,h],λK h=>by simp only[f,(U K h).2.1]⟩
  have Y:∀i d,r.heap[i]? =some (some d)->i<100/\lB r (50000+i)=false/\f (50000+i)=u (50000+i)/\u (50000+i)=Hu (50000+i):=by
   intro i d hi;have iT:=(F?.1 hi).1
   have V:rJ (50000+i)=true:=by
    simp only[rJ,B!];exact⟨Nat.ble_eq_true_of_le w!,Nat.ble_eq_true_of_le w!⟩
   have H:lB r (50000+i)=false:=by
    simp only[lB,Ō,V,Bool.true_and,j?,hi,Bool.not_true]
   exact⟨w!,H,by simp only[f,(U _ H).2.1],e.held _ V⟩
  have Wa:∀q∈F,(st.h q).isSome:=by
   intro q o;simp only[F,Pm,List.mem_append] at o;rcases o with o|o|o;exact(Aj (A':=λ_=>True) e (λ_ _=>trivial) E r.res x v c1 (λ_ _ _ _=>trivial) HX).2 q o;have⟨j,b,L,D⟩:=CA _ _ _ o;have I:=xm (h:=st.h) (s:=s) (bad:=lB r) r.heap 0 j b L;exact(Ak e E (λp N=>C p (I.1 p N))).2 q D;have⟨j,b,L,D⟩:=Pt _ _ _ o;have I:=Gi (h:=st.h) (s:=s) (bad:=lB r) r.new 0 j b L;have O:∀p∈(Bm st.h s (lB r) (60000+(0+j)) b).1,p:=λp N=>c3 p (I.1 p N);generalize t:Bm st.h s (lB r) (60000+(0+j)) b=g at O D;unfold Bm at t;split at t;subst t;exact(Ak e E O).2 q D;split at t<;>(subst t;cases D);subst t;cases D
  have Q:∀q∈F,∀b,ah (u q)=some b->cd A u F b:=λq o b H=>.inr ⟨q,o,H⟩;have R:∀b,A b->cd A u F b:=λb H=>.inl H
  have rS:∀k,(st.h k).isSome->k∉F->∀g,ah (u k)=some g->¬A g->¬cd A u F g:=by
   rintro k hk hkF g t ml (hAg|⟨j,B,hjg⟩);exact ml hAg;have:=e.apart j k g (Wa j B) hk hjg t;subst this;exact hkF B
  have W:∀k,(k∈eU s\/lB r k=false)->k∉F:=by
   rintro k hk hF;have Z:=q4 k hF;rcases hk with hk|hk;have:=nQ.2 hk;rw[this] at Z;simp at Z;rw[hk] at Z;simp at Z
  have Sr:∀i d,r.heap[i]? =some (some d)->BR w (cd A u F) f (50000+i) d/\(st.h (50000+i)).isSome:=by
   intro i d hi;have⟨_,H,c,_⟩:=Y i d hi;have I:=xm (h:=st.h) (s:=s) (bad:=lB r) r.heap 0 i d hi;rw[n?] at I;have J:=Ak e E (λp N=>C p (I.1 p N));have Pq:kindOk d=true:=q6 _ (W! hi);exact⟨L7 e R E c Pq (λp N=>C p (I.1 p N)) (λq o=>Q q (by simp only[F,Pm,I!];exact .inr (.inl (I.2 q o)))) (rS _ J.1 (W _ (.inr H))),J.1⟩
  have X:∀j d,r.new[j]? =some d->BR w (cd A u F) f (60000+j) d/\(f (60000+j)=ua\/∃k,cz s (60000+j)=some (some k)/\f (60000+j)=u k/\(st.h k).isSome):=by
   intro j d B;have I:=Gi (h:=st.h) (s:=s) (bad:=lB r) r.new 0 j d B;rw[n?] at I;have O:∀p∈(Bm st.h s (lB r) (60000+j) d).1,p:=λp N=>c3 p (I.1 p N);have hf:∀q∈(Bm st.h s (lB r) (60000+j) d).2,q∈F:=λq o=>by simp only[F,Pm,I!];exact .inr (.inr (I.2 q o))
   have Pq:kindOk d=true:=q5 _ (List.mem_of_getElem? B);generalize t:Bm st.h s (lB r) (60000+j) d=g at O hf;unfold Bm at t;split at t;rename_i k hk;subst t;have c:f (60000+j)=u k:=by simp only[f,hk]
   have J:=Ak e E O;exact⟨L7 e R E c Pq O (λq o=>Q q (hf q o)) (rS _ J.1 (W _ (.inl (j9 s _ _ hk)))),.inr ⟨k,hk,c,J.1⟩⟩;rename_i hk;have c:f (60000+j)=ua:=by simp only[f,hk]
   split at t;subst t;exact⟨VY c (aR O),.inl c⟩;subst t;exact(aR O).elim;subst t;exact(aR O).elim
  have w9:=(Aj e R E r.res x v c1 (λq o=>Q q (by simp only[F,Pm,I!];exact .inl o)) HX).1
  have fP:∀k b,Cb r k->ah (f k)=some b->∃S,(st.h S).isSome/\ah (u S)=some b/\((lB r k=false/\S=k)\/cz s k=some (some S)):=by
   rintro k b (⟨i,d,rfl,_,hi⟩|⟨j,rfl,B⟩) H;have⟨_,L,D,_⟩:=Y i d hi;rw[D] at H;exact⟨_,(Sr i d hi).2,H,.inl ⟨L,rfl⟩⟩;rcases(X j _ (C! B)).2 with h|⟨k,L,D,h3⟩;rw[h] at H;simp[ua,ah] at H;rw[D] at H;exact⟨k,h3,H,.inr L⟩
  refine⟨cd A u F,f,⟨e.frame.os,e.frame.tape,e.frame.output,e.frame.size,λb H hM=>e.frame.block b H hM,λb H=>⟨.inl (e.base b H),e.frame.block b (Na b H) λhM=>T b hM H⟩,λb H Vf=>?_,λb H=>?_,w9,λi d hi=>⟨(Sr i d hi).1,(Y i d hi).2.2.1.trans (Y i d hi).2.2.2⟩,λj d B=>⟨(X j d B).1,λb H=>?_⟩,λk S b L D g1 g2=>?_⟩⟩;rcases Vf with Vf|⟨j,B,B4⟩;exact e.gG b H Vf;rcases e.om j b (Wa j B) B4 with h|h;exact absurd H (Nat.not_lt.2 h);exact .inr h;rcases H with H|⟨j,B,B4⟩;exact e.bound b H;exact oK e (Wa j B) B4;obtain⟨k,g1,g2,_⟩:=fP _ b (.inr ⟨j,rfl,(F?.1 B).1⟩) H;exact e.om k b g1 g2;have⟨j,a1,a2,a3⟩:=fP k b L g1;have⟨j',b1,b2,b3⟩:=fP S b D g2;have:=e.apart j j' b a1 b1 a2 b2;subst this;rcases a3 with⟨P,p2⟩|P<;>rcases b3 with⟨m,r2⟩|m;exact p2.symm.trans r2;have:=q2 j (j9 s _ _ m);rw[p2,P] at this;cases this;have:=q2 j (j9 s _ _ P);rw[r2,m] at this;cases this;exact Ad s q1 k S j P m
def Ze(e:bM T P)(g:aq ⟨w0,A0,HM Hu n,G,Hu⟩ A β st a w)
  (i:r.heap.length=n) (d:n<=100) (H:∀b,HM Hu n b->¬A0 b) (N:∀b,A0 b->b<w0.heap.size) (h:Pn T st fn.results.toList r):
  ∃v,(results fn a.tmps).run P w= .ok v w/\∃A' aC,JW w0 A0 Hu n w v r A' aC:=by
 grind[Pn,V7,V6,V8]
variable {s:eQ}
theorem SI(j:ba P E)(t:P.follows .mixedOrders=true){f:FuncId}{fn:Func}(L:M AV->M AB->Nat->Option bO)(u:P.funcs[f]? =some fn)(y:fn.body=some c)
  (g:∀bm hs r,s bm hs=some r->∀a∈hs,Ah a=true)
  (h:∀bm hs r,s bm hs=some r->r.pre->Cz E (L bm hs) c fn.ntmps fn.results.toList bm hs r):aJ P E.lM f s:=by
 intro w A β args bm hs r o z b F Y n B H C;have V:=h bm hs r n B;unfold Cz at V;cases p:Nat.ble bm.length fn.ntmps with
 |false=>grind
 |true=>
  rw[p] at V;refine calls_of_wp u y (gO ⟨j,rfl⟩ t c _ _ _ w _ V ⟨A,β,aq.Gh o z b (L! p) F Y⟩ ?_);intro e D I W d _ J;have⟨A',aC,q⟩:=J
  have k:Pn E.T D fn.results.toList r->bodyPost P fn (λe W=>∃v,e= .returned v/\∃A' aC,JW w A β hs.length W v r A' aC) .ret I W:=by
   intro d;have⟨v,K,A2,N,O⟩:=Ze j.gm q H C (aor (g bm hs r n) F) o d;exact⟨q.defers,v,K,v,rfl,A2,N,O⟩
  cases e with
  |norm=>exact k d
  |ret=>exact k d
  |exit i=>exact d.elim
inductive TA where
 |dV (t:Ty)
 |own (k:Nat)
 |ref (k off:Nat)
 |nil
 |lh
 |nb
 |agg (l:List TA)
 |fn (f:Fn) (first bl:List TA)
 |var (ts:List Ty)
mutual
@[reducible] def TA.tys:TA->M Ty
  |.dV t=>[t]
  |.agg l=>TA.du l
  |.fn _ l m=>TA.du l++TA.du m
  |.var ts=>ts
  |_=>[]
@[reducible] def TA.du:M TA->M Ty
  |[]=>[]
  |t::ts=>TA.tys t++TA.du ts
end
mutual
def TA.get:TA->AV->Option (M AV)
 |.dV _,a=>some [a]
 |.own k,.own k'=>bif Nat.beq k k' then some [] else none
 |.ref k o,.ref k' O=>bif Nat.beq k k'&&Nat.beq o O then some [] else none
 |.nil,.nil|.lh,.lh|.nb,.nb=>some []
 |.agg l,.agg cs=>TA.Bn l cs
 |.fn f l m,.fn F cs d=>if f=F then ES (TA.Bn l cs) (TA.Bn m d) else none
 |.var ts,.dc I x 0=>match fN I ts [x] with
   |some (y::_)=>some (ax ts y)
   |_=>none
 |_,_=>none
def TA.Bn:M TA->M AV->Option (M AV)
 |[],[]=>some []
 |t::ts,a::as_=>ES (TA.get t a) (TA.Bn ts as_)
 |_,_=>none
end
mutual
def TA.put:TA->M AV->AV
 |.dV _,cs=>cs.headD .db
 |.own k,_=>.own k
 |.ref k o,_=>.ref k o
 |.nil,_=>.nil
 |.lh,_=>.lh
 |.nb,_=>.nb
 |.agg l,cs=>.agg (TA.qG l cs)
 |.fn f l m,cs=>.fn f (TA.qG l (cs.take (TA.du l).length)) (TA.qG m (cs.drop (TA.du l).length))
 |.var ts,cs=>Af ts cs
def TA.qG:M TA->M AV->M AV
 |[],_=>[]
 |t::ts,cs=>TA.put t (cs.take (TA.tys t).length)::TA.qG ts (cs.drop (TA.tys t).length)
end
inductive TB where
 |row (e:Nat) (row:List Ty)
 |cells (l:List TA)
 |arr (row:List Ty)
 |eG (e k:Nat)
@[reducible] def TB.D:TB->Type
  |.row _ r=>M (Row r)
  |.cells l=>Row (TA.du l)
  |.arr r=>M (Row r)
  |.eG _ _=>M Value×Nat
@[reducible] def fD:M TB->Type
  |[]=>Unit
  |b::bs=>TB.D b×fD bs
def TB.get:(b:TB)->AB->Option (TB.D b)
 |.row e r,.row e' R l false=>bif Nat.beq e e' then fN R r l else none
 |.cells ts,.cells cs=>match TA.Bn ts cs with
   |some as_=>kA (TA.du ts) as_
   |none=>none
 |.arr r,.arr R l=>fN R r l
 |.eG e k,.eG e' (some k') xs i=>bif Nat.beq e e'&&Nat.beq k k' then some (xs,i) else none
 |_,_=>none
def TB.put:(b:TB)->TB.D b->AB
 |.row e r,l=>.row e r l false
 |.cells ts,x=>.cells (TA.qG ts (ax (TA.du ts) x))
 |.arr r,l=>.arr r l
 |.eG e k,x=>.eG e (some k) x.1 x.2
def TB.ok:(b:TB)->TB.D b->Prop
 |.row _ r,l=>D.ok (.slice r) l
 |.cells ts,x=>Row.ok (TA.du ts) x
 |.arr _,_=>True
 |.eG _ _,x=>x.1.length<=maxLen
def fD.get:(bs:M TB)->M AB->Option (fD bs)
 |[],[]=>some ()
 |b::bs,h::hs=>match TB.get b h,fD.get bs hs with
  |some x,some y=>some (x,y)
  |_,_=>none
 |_,_=>none
def fD.put:(bs:M TB)->fD bs->M AB
 |[],_=>[]
 |b::bs,x=>TB.put b x.1::fD.put bs x.2
def fD.ok:(bs:M TB)->fD bs->Prop
 |[],_=>True
 |b::bs,x=>TB.ok b x.1/\fD.ok bs x.2
def bZ(t:M TA)(b:M TB)(F:Row (TA.du t)->fD b->pb):eQ:=λbm hs=>match TA.Bn t bm with
 |some cs=>match kA (TA.du t) cs,fD.get b hs with
  |some x,some y=>some (F x y)
  |_,_=>none
 |none=>none
def aun(s t:eQ):eQ:=λbm hs=>match s bm hs with
 |some r=>some r
 |none=>t bm hs
def Pu {α:Type}{a b:Option (M α)}{c:M α}(h:ES a b=some c):∃x y,a=some x/\b=some y/\c=x++y:=by
 cases a with
 |none=>grind[ES]
 |some x=>
  cases b with
  |none=>grind[ES]
  |some y=>grind[ES,Option.some.injEq]
def L8 {as_ b g:M AV}{u v:M Value}(H:ae w A β u as_)(d:g.length=(as_++b).length)(h:ae w A β (u++v) g):
  ae w A β u (g.take as_.length)/\ae w A β v (g.drop as_.length):=by
 grind[lA,List.take_append_drop,xk,List.length_take,List.append_inj]
def Zf{t I:M Ty}{x:Row I}{y:Row t}{r:M (Row t)}(h:aa w A β v (.dc I x 0))(i:fN I t [x]=some (y::r)):
  ∃V,ae w A β V (ax t y)/\∀g,g.length=t.length->ae w A β V g->aa w A β v (Af t g):=by
 obtain⟨b,o,H,G,j,k,p⟩:=h;obtain⟨e,d⟩:=ju i;subst e;simp only[List.cons.injEq] at d;obtain⟨rfl,_⟩:=d;refine⟨H,hZ _ _ _ p,λg B q=>?_⟩;unfold Af;split;rename_i z u;exact⟨b,o,H,G,j,k,lY _ _ _ _ q u⟩;trivial
mutual
theorem auE:∀(t:TA) (a:AV) (C:M AV) (v:Value),TA.get t a=some C->aa w A β v a->
  C.length=(TA.tys t).length/\∃V,ae w A β V C/\∀g,g.length=C.length->ae w A β V g->aa w A β v (TA.put t g)
 |t,a,C,v,h,H=>by
  unfold TA.get at h;split at h
  . simp only[A!] at h;subst h;refine⟨rfl,[v],by simp only[ae];exact⟨v,[],rfl,H,rfl⟩,λg d q=>?_⟩;match g,d with
    |[c],_=>
      simp only[ae] at q;obtain⟨Z,b,e,R,z⟩:=q;simp only[List.cons.injEq] at e;obtain⟨rfl,rfl⟩:=e;simpa only[TA.put,List.headD] using R
  . rename_i k K;cases i:Nat.beq k K with
    |false=>rw[i] at h;cases h
    |true=>
     rw[i] at h;simp only[K!,A!] at h;subst h;have:=D! i;subst this;exact⟨rfl,[],by simp[ae],λg _ _=>by simpa only[TA.put] using H⟩
  . rename_i k o K L;cases i:(Nat.beq k K&&Nat.beq o L) with
    |false=>rw[i] at h;cases h
    |true=>
     rw[i] at h;simp only[K!,A!] at h;subst h;simp only[B!] at i;have N:=D! i.1;have S:=D! i.2;subst N;subst S;exact⟨rfl,[],by simp[ae],λg _ _=>by simpa only[TA.put] using H⟩
  simp only[A!] at h;subst h;exact⟨rfl,[],by simp[ae],λg _ _=>by simpa only[TA.put] using H⟩;simp only[A!] at h;subst h;exact⟨rfl,[],by simp[ae],λg _ _=>by simpa only[TA.put] using H⟩;simp only[A!] at h;subst h;exact⟨rfl,[],by simp[ae],λg _ _=>by simpa only[TA.put] using H⟩;rename_i l D;simp only[aa] at H;obtain⟨B,rfl,H⟩:=H;obtain⟨g1,V,G,j⟩:=CC l D C _ h H;exact⟨g1,V,G,λg d q=>by simp only[TA.put,aa];exact⟨B,rfl,j g d q⟩⟩;rename_i f l m n D E;split at h;rename_i W;subst W;obtain⟨x,y,F,p,rfl⟩:=Pu h;simp only[aa] at H;obtain⟨X,Y,rfl,R,z⟩:=H;obtain⟨g1,U,G,j⟩:=CC l D x _ F R;obtain⟨q1,V,Q,I⟩:=CC m E y _ p z;refine⟨by simp[g1,q1],U++V,gy _ _ _ _ G Q,λg d q=>?_⟩;obtain⟨P,J⟩:=L8 G d q;simp only[TA.put,aa];rw[<-g1];refine⟨X,Y,rfl,j _ ?_ P,I _ ?_ J⟩;simp at d |-;omega;simp at d |-;omega;cases h;rename_i T s x;split at h;rename_i y r p;simp only[A!] at h;subst h;obtain⟨V,g1,G⟩:=Zf H p;exact⟨fA _ _,V,g1,λg d=>G g (by rw[d,fA])⟩;cases h;cases h
theorem CC:∀(T:M TA) (as_ C:M AV) (O:M Value),TA.Bn T as_=some C->ae w A β O as_->
  C.length=(TA.du T).length/\∃V,ae w A β V C/\∀g,g.length=C.length->ae w A β V g->ae w A β O (TA.qG T g)
 |[],[],C,O,h,H=>by
   simp only[TA.Bn,A!] at h;subst h;exact⟨rfl,[],by simp[ae],λg _ _=>by simpa only[TA.qG] using H⟩
 |t::T,a::as_,C,O,h,H=>by
  simp only[TA.Bn] at h;obtain⟨x,y,F,p,rfl⟩:=Pu h;simp only[ae] at H;obtain⟨v,u,rfl,R,z⟩:=H;obtain⟨g1,U,G,j⟩:=auE t a x v F R;obtain⟨q1,V,Q,I⟩:=CC T as_ y u p z;refine⟨by simp[g1,q1],U++V,gy _ _ _ _ G Q,λg d q=>?_⟩;obtain⟨P,J⟩:=L8 G d q;simp only[TA.qG,ae];rw[<-g1];refine⟨v,u,rfl,j _ ?_ P,I _ ?_ J⟩;simp at d |-;omega;simp at d |-;omega
 |[],_::_,C,O,h,_|_::_,[],C,O,h,_=>by simp[TA.Bn] at h
end
def D6 {t:M TA}{c:M AV}{O:M Value}{x:Row (TA.du t)}(h:TA.Bn t as_=some c)(d:kA (TA.du t) c=some x)(H:ae w A β O as_):
  ae w A β O (TA.qG t (ax (TA.du t) x))/\Row.ok (TA.du t) x:=by
 obtain⟨g,v,G,e⟩:=CC t as_ c O h H;grind[lY,fA,hZ,Ir]
def auF:∀(b:TB) (a:AB) (k:Nat) (y:TB.D b),TB.get b a=some y->BR w A β k a->BR w A β k (TB.put b y)/\TB.ok b y
 |b,a,k,y,h,j=>by
  unfold TB.get at h;split at h
  . rename_i e r E R l;cases H:Nat.beq e E with
    |false=>grind
    |true=>
     rw[H] at h;have:=D! H;subst this;obtain⟨p,q⟩:=aoU h;subst p;subst q;refine⟨j,?_⟩;obtain⟨xs,d,o,F⟩:=j;refine⟨?_,V1 (λc x I=>Ir _ c x I) _ xs o⟩;rcases d.2 with⟨_,h⟩|⟨g,C,t,_,_,_,G,u,_⟩;omega;exact b? G u
  split at h;rename_i as_ z;obtain⟨g,B,e,d,o,F,J,K⟩:=j;obtain⟨Q,L⟩:=D6 z h J;exact⟨⟨g,B,e,d,o,F,Q,K⟩,L⟩;cases h;obtain⟨p,q⟩:=aoU h;subst p;subst q;exact⟨j,trivial⟩
  . rename_i M N E O xs i;cases H:(Nat.beq M E&&Nat.beq N O) with
    |false=>rw[H] at h;cases h
    |true=>
     rw[H] at h;simp only[K!,A!] at h;subst h;simp only[B!] at H;have d:=D! H.1;have o:=D! H.2;subst d;subst o;refine⟨j,?_⟩;obtain⟨Y,d,_⟩:=j;rcases d.2 with⟨_,h⟩|⟨g,C,t,_,_,_,G,u,_⟩;show xs.length<=maxLen;omega;exact b? G u
  grind
def Iw:∀(B:M TB) (hs:M AB) (y:fD B) (n:Nat),fD.get B hs=some y->(∀i a,hs[i]? =some a->BR w A β (n+i) a)->
  (fD.put B y).length=hs.length/\(∀i a,(fD.put B y)[i]? =some a->BR w A β (n+i) a)/\fD.ok B y
 |[],[],y,n,_,_=>⟨rfl,λi a h=>by grind[fD.put],trivial⟩
 |b::B,h::hs,y,n,H,d=>by
  simp[fD.get] at H;split at H;rename_i x z e g;simp at H;subst H;obtain⟨j,G⟩:=auF b h n x e (d 0 h rfl)
  obtain⟨Q,k,q⟩:=Iw B hs z (n+1) g λi a hi=>by
   have:=d (i+1) a x!;grind
  refine⟨by grind[fD.put],λi a hi=>?_,G,q⟩;grind[fD.put,List.getElem?_cons_zero,Option.some.injEq,hi];grind
 |[],_::_,y,n,h,_|_::_,[],y,n,h,_=>by grind[fD.get]
theorem aeG:∀(B:M TB) (y:fD B),∀a∈fD.put B y,Ah a=true
 |[],_,a,h=>by grind[fD.put]
 |b::B,y,a,h=>by
  simp[fD.put,O!] at h;rcases h with rfl|h;cases b<;>rfl;exact aeG B y.2 a h
def SJ(d:ba P E)(e:P.follows .mixedOrders=true){f:FuncId}{fn:Func}(t:M TA)(B:M TB){F:Row (TA.du t)->fD B->pb}
  (L:Row (TA.du t)->fD B->Nat->Option bO) (g:P.funcs[f]? =some fn) (k:fn.body=some c)
  (h:∀x y,(F x y).pre->Row.ok (TA.du t) x->fD.ok B y->Cz E (L x y) c fn.ntmps fn.results.toList (TA.qG t (ax (TA.du t) x)) (fD.put B y) (F x y)):aJ P E.lM f (bZ t B F):=by
 intro w A β args bm hs r o p q u Y n z H C;unfold bZ at n;split at n;rename_i O D;split at n;rename_i x y J K;simp only[Option.some.injEq] at n;obtain⟨G,S⟩:=D6 D J q;obtain⟨U,Q,V⟩:=Iw B hs y 50000 K u
 have N:aJ P E.lM f (λT I=>open Classical in if T=TA.qG t (ax (TA.du t) x)/\I=fD.put B y then some (F x y) else none):=by
  refine SI d e (λ_ _=>L x y) g k (λT I R a=>?_) λT I R a W=>?_;grind[aeG];grind
 have:=N w A β args _ _ r o p G Q (λi j b X Z=>Y i j b w! w!) x! z w! w!;grind;grind;grind
def aJ.or{t:eQ}(g:aJ P G f s)(i:aJ P G f t):aJ P G f (aun s t):=by
 intro w A β args bm hs r H d b F y n e h C;unfold aun at n;split at n;rename_i R q;simp at n;subst n;exact g w A β args bm hs _ H d b F y q e h C;exact i w A β args bm hs r H d b F y n e h C
def Env.bT(f:Nat)(m:M Bool)(s:eQ)(E:Env):Env:={E with rA:=λg=>bif Nat.beq g f then some (m,s) else E.rA g}
def ba.bT(H:ba P E){f:FuncId}{m:M Bool}{s:eQ}(h:aJ P E.lM f s)(i:aMw P f):ba P (E.bT f m s):=by
 refine⟨H.gm,H.sig,λg j t d=>?_,H.hp,H.cn⟩;simp[Env.bT] at d;cases e:Nat.beq g f with
 |true=>
  rw[e] at d;have:=D! e;obtain⟨_,rfl⟩:=d;subst this;exact⟨h,i⟩
 |false=>
  rw[e] at d;exact H.rA g j t d
def Env.J7(f:Nat)(t:M AV->Option (Option Nat×CF))(E:Env):Env:={E with cn:=λg=>bif Nat.beq g f then some t else E.cn g}
def Pv(p:M PS)(F:Row (PS.flat p)->CF)(bm:M AV):Option (Option Nat×CF):=match bm.getLast?,J5 p bm.dropLast with
 |some (.ref k 0),some x=>some (some k,F x)
 |_,_=>none
def bv:AV->Bool
 |.bool b=>b
 |.tt=>true
 |_=>false
def isB:AV->Bool
 |.bool _=>true
 |_=>false
def bX:M CF->Z->Prop×Bool×Z
 |[],z=>(True,true,z)
 |F::l,z=>((F z).1/\isB (F z).2.1=true/\(bv (F z).2.1=true->(bX l (F z).2.2).1),bif bv (F z).2.1 then(bX l (F z).2.2).2.1 else false,bif bv (F z).2.1 then(bX l (F z).2.2).2.2 else(F z).2.2)
def Z.rows:Z->M U
 |.g _ _ l=>l
 |_=>[]
def Z.txt:Z->B8
 |.s t=>t
 |_=>[]
def runT:M CF->Z->B8
 |[],z=>z.txt
 |F::l,z=>bif bv (F z).2.1 then runT l (F z).2.2 else(F z).2.2.txt
theorem runT_eq:∀(l:M CF) (z:Z),runT l z=(bX l z).2.2.txt
 |[],_=>rfl
 |F::l,z=>by
  unfold runT bX;rw[runT_eq l];cases bv (F z).2.1<;>rfl
abbrev aE.run(l:M CF)(z:Z):Prop×Bool×Z:=bX l z
abbrev aE.L9(n:Nat):M U:=List.replicate n []
abbrev aE.rows(z:Z):M U:=z.rows
def TK(b:Bool):AV:=.int .i64 (bif b then 0 else 6)
def Ix(E:Nat):eQ:=λbm hs=>match bm,hs with
 |[.own 50000],[.dO _ _ l]=>some ⟨(bX l .n).1,TK (bX l .n).2.1,[none],[]⟩
 |[.own 50000],[.dO _ (some 50001) l,.cells [.str t]]=>some ⟨(bX l (.s t)).1,TK (bX l (.s t)).2.1,[none,some (.cells [.str (runT l (.s t))])],[]⟩
 |[.own 50000],[.dO _ (some 50001) l,.cells [.own 50002],.bm e 1 n cs]=>
   some ⟨cs=aE.LO n/\(aE.run l (.g e E (aE.L9 n))).1,TK (aE.run l (.g e E (aE.L9 n))).2.1,[none,some (.cells [.own 50002]),some (.row e [.slice [.int .i64]] (aE.rows (aE.run l (.g e E (aE.L9 n))).2.2) false)],[]⟩
 |_,_=>none
theorem ba.J7(d:ba P E){f:FuncId}{t:M AV->Option (Option Nat×CF)}(h:Oo E.lM f t):ba P (E.J7 f t):=by
 refine⟨d.gm,d.sig,d.rA,d.hp,λg u H=>?_⟩;simp[Env.J7] at H;cases e:Nat.beq g f with
 |true=>
  rw[e] at H;have:=D! e;simp at H;subst this;subst H;exact h
 |false=>
  rw[e] at H;exact d.cn g u H
def aka{g:M PS}{F:Row (PS.flat g)->CF}(t:∀Q,HP.is Q->Q=P)(u:aMw P f)
  (h:∀(w:World) (A S:Nat->Prop) (β:Nat->Value) (b:Nat) (args:M Value) (x:Row (PS.flat g)) (z:Z),(∀b,A b->b<w.heap.size)->(∀i d,G i=some d->auo w A i d)->ae w A β args (rU g x)->Row.ok (PS.flat g) x->
    (∀b,S b->¬A b/\b<w.heap.size)->HB w S (.pointer (some ⟨b,0,none⟩)) z->(F x z).1->
    Calls P f (args++[Value.pointer (some ⟨b,0,none⟩)]).toArray w λe W=>∃v,e= .returned v/\∃A' s,tZ w A S z W A' s (.pointer (some ⟨b,0,none⟩)) v (F x z).2):
  Oo G f (Pv g F):=by
 intro w A β B bm k C y D H p I;unfold Pv at H;split at H;rename_i K x J o;obtain⟨rfl,rfl⟩:=H;obtain⟨T,rfl⟩:=List.getLast?_eq_some_iff.1 J;rw[List.dropLast_concat] at o;obtain⟨U,vs,L,N,O⟩:=lA _ _ _ D;obtain⟨v,cr,rfl,R,V⟩:=O;subst V;obtain⟨b,X,rfl⟩:=R;obtain⟨Y,a⟩:=vM g o N;have j:=(I K rfl).trans X;subst j;refine⟨rfl,.inr ⟨f, #[],B,rfl,λQ c=>?_⟩⟩;have:=t Q c;subst this;refine⟨u,λW A' z S q l m n r=>?_⟩;have:=h W A' S β b U x z l (λi d E=>(y i d E).mono q) (cN q _ _ Y) a m n r;rw[<-L] at this;simpa using this;grind
def tD:AV->Option (B8×B8×Bool)
 |.bk [.agg [.sl [.int .u8] a,.sl [.int .u8] b],.bool c]=>some (a,b,c)
 |_=>none
def gF:M CF->Prop×B8×B8×Bool
 |[]=>(True,[],[],false)
 |F::l=>match tD (F .n).2.1 with
  |some (a,b,c)=>((F .n).1/\(c=false->(gF l).1),bif c then(a,b,true) else(gF l).2)
  |none=>(False,[],[],false)
abbrev aE.first(l:M CF):Prop×B8×B8×Bool:=gF l
def D7:eQ:=λbm hs=>match bm,hs with
 |[.own 50000],[.dO _ none l]=>some ⟨(aE.first l).1,.bk [.agg [.sl [.int .u8] (aE.first l).2.1,.sl [.int .u8] (aE.first l).2.2.1],.bool (aE.first l).2.2.2],[none],[]⟩
 |_,_=>none
structure PF (w:World) (A:Nat->Prop) (w':World) (A':Nat->Prop):Prop where
 os:w'.os=w.os
 tape:w'.tape=w.tape
 output:w'.output=w.output
 size:w.heap.size<=w'.heap.size
 same:∀b,b<w.heap.size->w'.heap[b]? =w.heap[b]?
 mono:∀b,A b->A' b
 gG:∀b,b<w.heap.size->A' b->A b
 bound:∀b,A' b->b<w'.heap.size
theorem PF.zero(h:∀b,A b->b<w.heap.size):PF w A w A:=⟨rfl,rfl,rfl,M! _,λ_ _=>rfl,λ_ h=>h,λ_ _ h=>h,h⟩
theorem PF.trans(h:PF w A w1 A1)(g:PF w1 A1 w2 A2):PF w A w2 A2:=
 ⟨g.os.trans h.os,g.tape.trans h.tape,g.output.trans h.output,b? h.size g.size,λb H=>(g.same b (Y! H h.size)).trans (h.same b H),λb H=>g.mono b (h.mono b H),
   λb H d=>h.gG b H (g.gG b (Y! H h.size) d),g.bound⟩
theorem PF.keeps(h:PF w A w1 A1)(d:∀b,A b->b<w.heap.size):bI w w1 A A1:=λb H=>⟨h.mono b H,h.same b (d b H)⟩
theorem PF.more {t:Nat}(h:PF w A w1 A1)(e:w2.os=w1.os)(g:w2.tape=w1.tape)(i:w2.output=w1.output)(d:w1.heap.size<=w2.heap.size)(j:∀b,b<w1.heap.size->b≠t->w2.heap[b]? =w1.heap[b]?)(k:w.heap.size<=t):PF w A w2 A1:=
 ⟨e.trans h.os,g.trans h.tape,i.trans h.output,b? h.size d,λb H=>(j b (Y! H h.size) w!).trans (h.same b H),h.mono,h.gG,λb H=>Y! (h.bound b H) d⟩
def auH{a b:B8}{c:Bool}(h:tD x=some (a,b,c))(H:aa w A β v x):∃X g,v= .tuple #[.agg #[X,g],.bool c]/\Rd w A (.slice [.int .u8]) X a/\Rd w A (.slice [.int .u8]) g b:=by
 unfold tD at h;split at h;obtain⟨rfl,rfl,rfl⟩:=h;obtain⟨e,rfl,y,B,D,⟨d,rfl,Y,j,F,G,i,k,I,o,p⟩,z,Z,J,q,t⟩:=H;subst t;subst p;have E:e= #[.agg d,z]:=by grind
 have u:d= #[Y,i]:=by grind
 subst E;subst u;rw[show z=_ from q];exact⟨Y,i,rfl,G,o⟩;grind
theorem PF.step {k:Nat}(t:HP.is P)(h:PF w A w1 A1)(u:∀b,A b->b<w.heap.size)(y:ng w A undef xs l)(H:k<l.length)(d:(gF (l.drop k)).1):
  ∃f j o,∃x:B8×B8×Bool,xs[k]? =some (.func (.func f) j o)/\aMw P f/\(x.2.2=false->(gF (l.drop (k+1))).1)/\(gF (l.drop k)).2=(bif x.2.2 then(x.1,x.2.1,true) else(gF (l.drop (k+1))).2)/\
   Calls P f (j++o) w1 λe w2=>∃X p,e= .returned (.tuple #[.agg #[X,p],.bool x.2.2])/\∃A2,PF w1 A1 w2 A2/\Rd w2 A2 (.slice [.int .u8]) X x.1/\Rd w2 A2 (.slice [.int .u8]) p x.2.1:=by
 have z:l[k]? =some l[k]:=C! H
 have q:∀ {xs:M Value} {l:M CF} {k:Nat} {F:CF},ng w A undef xs l->l[k]? =some F->∃v,xs[k]? =some v/\BN w A undef v F:=by
  intro xs l;induction l generalizing xs with
  |nil=>grind
  |cons G l I=>
   intro k F h H;cases xs with
   |nil=>exact h.elim
   |cons x xs=>
    cases k with
    |zero=>simp at H;subst H;exact⟨x,rfl,h.1⟩
    |succ k=>exact I (k:=k) h.2 x!
 obtain⟨v,B,i⟩:=q y z;have hd:l.drop k=l[k]::l.drop (k+1):=List.drop_eq_getElem_cons H;rw[hd] at d |-;simp only[gF] at d |-;split at d;rename_i a b c D;obtain⟨N,O|⟨f,j,o,rfl,i⟩⟩:=i;grind;obtain⟨J,i⟩:=i P t;refine⟨f,j,o,(a,b,c),B,J,d.2,rfl,?_⟩;refine(i w1 A1 .n (λ_=>False) (h.keeps u) h.bound nofun trivial d.1).mono λe w2 ⟨v,K,A2,S,g⟩=>?_;obtain⟨X,p,rfl,r,R⟩:=auH D (g.res λ_=>undef);exact⟨X,p,K,A2,⟨g.os,g.tape,g.output,g.size,λb L=>g.same b L nofun,g.mono,g.gG,g.bound⟩,r,R⟩;grind
def aGe(P:Program)(f:FuncId):Prop:=∀(w:World) (A:Nat->Prop) (l:M CF) (xs:M Value) (B c:Nat) (a:Option Addr),(∀b,A b->b<w.heap.size)->(gF l).1->ng w A undef xs l->l.length<=maxLen->
    (l≠ []->B<w.heap.size/\w.rangeAt B 0 xs)->(l≠ []->a=some ⟨B,0,none⟩)->
    Calls P f #[.slice a l.length c] w λe W=>∃x X,e= .returned (.tuple #[.agg #[x,X],.bool (gF l).2.2.2])/\∃A',PF w A W A'/\Rd W A' (.slice [.int .u8]) x (gF l).2.1/\Rd W A' (.slice [.int .u8]) X (gF l).2.2.1
def Iy(p:aGe P f):aJ P G f D7:=by
 intro w A β args bm hs r d W t F Y I u o X;unfold D7 at I;split at I;rename_i e l;simp at I;subst I;obtain⟨v,Z,rfl,y,z⟩:=t;subst z;rw[show v=β 50000 from y.1];obtain⟨xs,O,m,D⟩:=F 0 _ rfl
 have K:∃a c B,β 50000= .slice a l.length c/\l.length<=maxLen/\(l≠ []->B<w.heap.size/\w.rangeAt B 0 xs)/\(l≠ []->a=some ⟨B,0,none⟩):=by
  rcases jm O with⟨J,L⟩|⟨b,c,J,L,n,s⟩;simp_all
  rcases O.2 with⟨q,x⟩|⟨g,E,C,q,_,T,_⟩;grind;grind
 obtain⟨a,c,B,M,N,Q,R⟩:=K;rw[M];refine(p w A l xs B c a d u (D undef nofun) N Q R).mono ?_;rintro e' w' ⟨x1,x2,rfl,A',g,S,U⟩;refine⟨_,rfl,A',β,⟨g.os,g.tape,g.output,g.size,λb H _=>g.same b H,λb H=>⟨g.mono b H,g.same b (d b H)⟩,λb H V=>.inl (g.gG b H V),g.bound,?_,?_,nofun,?_⟩⟩;exact⟨_,rfl,_,_,rfl,⟨_,rfl,_,_,rfl,S,_,_,rfl,U,rfl⟩,_,_,rfl,rfl,rfl⟩;grind;rintro k k' b (⟨i,ab,_,_,h⟩|⟨j,_,h⟩) _ _ _;grind;grind;grind
def TL:∀(T:M Ty) (x:Row T),ay (ax T x)=[]
 |[],_=>rfl
 |t::T,x=>by
  simp[ax,ay,TL T (Row.tl x),B?];cases t<;>rfl
def Gj:∀(C:M AV) (n:Nat),ay C=[]->ay (C.take n)=[]/\ay (C.drop n)=[]
 |[],n,h=>by grind
 |c::C,0,h=>⟨rfl,h⟩
 |c::C,n+1,h=>by
  simp[ay,List.append_eq_nil_iff] at h;obtain⟨g1,g⟩:=Gj C n h.2;exact⟨by simp[List.take_succ_cons,ay,h.1,g1,B?],g⟩
def sV:∀(p:M PS) (C:M AV),ay C=[]->ay (PS.group p C)=[]
 |[],_,_=>rfl
 |.one _::p,[],h=>by
   exact sV p [] rfl
 |.one _::p,c::C,h=>by
   simp[ay,List.append_eq_nil_iff] at h;simp[PS.group,List.headD,List.tail,ay,h.1,o?];exact sV p C h.2
 |.agg ts::p,C,h=>by
   obtain⟨g1,g⟩:=Gj C ts.length h;simp[PS.group,ay,aA,g1,o?];exact sV p _ g
 |.var ts::p,C,h=>by
   obtain⟨g1,g⟩:=Gj C ts.length h;simp only[PS.group,ay];have :aA (Af ts (C.take ts.length))=[]:=by unfold Af;split<;>rfl
   rw[this,o?];exact sV p _ g
def Zg {p:M PS}{x:Row (PS.flat p)}(h:ae w A β args (rU p x)):ae w A aC args (rU p x):=
 Oz (sV p _ (TL _ x)) h
def akb{b:Nat}(h:ae w A β args bm)(H:β 50000= .pointer (some ⟨b,0,none⟩)):ae w A β (args++[.pointer (some ⟨b,0,none⟩)]) (bm++[.ref 50000 0]):=
 gy _ _ _ _ h ⟨_,[],rfl,⟨b,H,rfl⟩,rfl⟩
def aS4{B:M PS}{F:Row (PS.flat B)->CF}(O:∀Q,HP.is Q->Q=P)(R:aMw P f)(U:aJ P G f s)
  (h:∀x z,(F x z).1->∃t T r,z= .s t/\(F x z).2.2= .s T/\aA (F x z).2.1=[]/\s (rU B x++[.ref 50000 0]) [.cells [.str t]]=some r/\r.pre/\r.res=(F x z).2.1/\r.heap=[some (.cells [.str T])]/\r.new=[]):
  Oo G f (Pv B F):=by
 refine aka O R λw A S β b args x z V W X Ge o Y Z=>?_;obtain⟨t,T,r,rfl,hz,l,hs,m,n,I,J⟩:=h x z Z;obtain⟨b1,e,K,E,c3,c⟩:=Y;simp at K;subst K;let aC:Nat->Value:=λk=>if k=50000 then .pointer (some ⟨b,0,none⟩) else undef
 have C:aC 50000= .pointer (some ⟨b,0,none⟩):=rfl
 have L:∀y,HM aC 1 y->y=b:=by
  rintro y ⟨i,d,H⟩;have :i=0:=by omega
  subst this;exact(R? H).symm
 refine(U w A aC _ _ [.cells [.str t]] r V W (akb (Zg X) C) ?_ ?_ hs m (by rw[I];rfl) z!).mono ?_
 . intro i ab d;match i,d with
   |0,d=>
    simp at d;subst d;exact⟨b,_,e,C,E,(o b c).1,⟨_,[],rfl,⟨rfl,c3⟩,rfl⟩,by simp[Value.oneCell']⟩
   |_+1,d=>cases d
 intro i j b d hj _ _;have h1:i<1:=d;have h2:j<1:=hj;omega;rintro e' w' ⟨v,he,A',fy,q⟩;obtain⟨q1,q2⟩:=q.kept 0 _ (by rw[I];rfl);obtain⟨N,a,e2,d1,d2,d3,⟨u,us,d4,⟨d5,d6⟩,d7⟩,_⟩:=q1
 have Ğ:N=b:=by
  have:=d1.symm.trans (q2.trans C);simp at this;exact this
 subst Ğ;subst d7;subst d5;have HT:a= #[.string ⟨T.toArray⟩]:=by apply Array.ext';exact d4
 subst HT;have g:∀y,y<w.heap.size->A' y->A y:=λy H p=>(q.gG y H p).elim id λD=>absurd p (L y D▸d3)
 refine⟨v,he,A',S,?_,q.os,q.tape,q.output,q.size,λy H J=>q.same y H λD=>J (L y D▸c),λy H=>(q.mono y H).1,g,q.bound,
  λy H=>⟨.inl H,λp=>(o y H).1 (g y (o y H).2 p),Y! (o y H).2 q.size⟩,λVB=>ajS l (n▸q.res),?_⟩
 rw[hz];trivial;rw[hz];exact⟨N,e2,rfl,d2,d6,c⟩
def TM {S:Nat->Prop}{e:Nat}:∀ {xs:M Value} {l:M U},o8 w S e xs l->xs.length=l.length/\∀(i:Nat) (u:Value) (x:U),xs[i]? =some u->l[i]? =some x->
  w.ownsRow 0 e 1 u x.length (x.map (Value.int .i64))/\(∀n∈x,lo .i64<=n/\n<=hi .i64)/\∀b,ah u=some b->S b/\∀I d,I≠i->xs[I]? =some d->ah d≠some b
 |[],[],_=>⟨rfl,λi u x h=>by cases h⟩
 |v::vs,y::l,⟨h1,o,k,p⟩=>by
  obtain⟨g1,G⟩:=TM p;refine⟨by simp[g1],λi u x H j=>?_⟩;match i,H,j with
  |0,H,j=>
   cases H;cases j;refine⟨h1,o,λb g=>⟨(k b g).1,λI d hi N=>?_⟩⟩;match I,hi,N with
   |I+1,_,N=>exact(k b g).2 d (W! (by simpa using N))
  |i+1,H,j=>
   obtain⟨Q,t,q⟩:=G i u x (by simpa using H) (by simpa using j);refine⟨Q,t,λb g=>⟨(q b g).1,λI d hi N=>?_⟩⟩;match I,hi,N with
   |0,_,N=>
    cases N;intro z;exact(k b z).2 u (W! (by simpa using H)) g
   |I+1,hi,N=>exact(q b g).2 I d w! (by simpa using N)
def TN {S:Nat->Prop}{e:Nat}:∀ {xs:M Value} {l:M U},xs.length=l.length->(∀(i:Nat) (u:Value) (x:U),xs[i]? =some u->l[i]? =some x->
  w.ownsRow 0 e 1 u x.length (x.map (Value.int .i64))/\(∀n∈x,lo .i64<=n/\n<=hi .i64)/\∀b,ah u=some b->S b/\∀I d,I≠i->xs[I]? =some d->ah d≠some b)->o8 w S e xs l
 |[],[],_,_=>trivial
 |v::vs,y::l,g,h=>by
  obtain⟨o,p,k⟩:=h 0 v y rfl rfl;refine⟨o,p,λb H=>⟨(k b H).1,λu j=>?_⟩,TN (by simpa using g) λi u x j t=>?_⟩;obtain⟨i,hi,rfl⟩:=l? j;exact(k b H).2 (i+1) _ w! (by simp[hi]);obtain⟨Q,z,q⟩:=h (i+1) u x (by simpa using j) (by simpa using t);exact⟨Q,z,λb H=>⟨(q b H).1,λI d hi N=>(q b H).2 (I+1) d w! (by simpa using N)⟩⟩
 |[],_::_,g,_|_::_,[],g,_=>by grind
def TO:∀ {x:U},(∀n∈x,lo .i64<=n/\n<=hi .i64)->dZ (bJ w A [.int .i64]) (x.map (Value.int .i64)) x
 |[],_=>rfl
 |n::x,h=>⟨[_],_,rfl,⟨_,[],rfl,⟨rfl,h n (G! ..)⟩,rfl⟩,TO λm H=>h m (F! _ H)⟩
def TP:∀ {x:U} {z:M Value},dZ (bJ w A [.int .i64]) z x->z=x.map (Value.int .i64)/\∀n∈x,lo .i64<=n/\n<=hi .i64
 |[],z,h=>⟨h,nofun⟩
 |n::x,z,⟨c1,c2,d,⟨v,vs,h1,⟨H,i⟩,e⟩,g⟩=>by
  obtain⟨G,j⟩:=TP g;subst d h1 e;have H:v= .int .i64 n:=H;grind
def auI {e g:Nat}(h:w.ownsRow 0 e 1 v n xs)(H:ah v=some g):g<w.heap.size:=by
 rcases h.2 with⟨d,_⟩|⟨G,c,C,i,_,j,_⟩;rw[d] at H;cases H;rw[i] at H;cases H;grind
def Zh{ps:M PS}{F:Row (PS.flat ps)->CF}(hP:∀Q,HP.is Q->Q=P)(hf:aMw P f)(hv:aJ P G f s)
  (h:∀x z,(F x z).1->∃e R l j y,z= .g e R l/\(F x z).2.2= .g e R (l.set j y)/\j<l.length/\(∃c,(F x z).2.1= .bool c)/\∀xs:M Value,xs.length=l.length->∃r,s (rU ps x++[.ref 50000 0]) [.cells [.own 50001],.eG e (some 50002) xs j,.row R [.int .i64] (l.getD j []) false]=some r/\
    r.pre/\r.res=(F x z).2.1/\((r.heap=[some (.cells [.own 50001]),some (.eG e (some 50002) xs j),some (.row R [.int .i64] y false)]/\r.new=[])\/(r.heap=[some (.cells [.own 50001]),some (.eG e (some 60000) xs j),none]/\r.new=[.row R [.int .i64] y false]))):
  Oo G f (Pv ps F):=by
 refine aka hP hf λw A S β b args x z hA hG bQ Ge V hH qC=>?_;obtain⟨e,R,l,j,y,rfl,hz,hj,⟨c,hk⟩,h⟩:=h x z qC;obtain⟨b1,e0,v,xs,c1,c2,c3,c4,c5,C,c7,c8⟩:=hH;simp only[Value.pointer.injEq,A!,Addr.mk.injEq,and_true] at c1;subst c1;obtain⟨M9,Ol⟩:=TM c8;obtain⟨r,hs,hp,hr,o⟩:=h xs M9;have hju:j<xs.length:=by omega
 obtain⟨u,hu⟩:∃u,u=xs[j]:=⟨_,rfl⟩;have I:xs[j]? =some u:=by grind
 have hlj:l[j]? =some (l.getD j []):=by grind
 obtain⟨u1,U,u3⟩:=Ol j u _ I hlj;let aC:Nat->Value:=λk=>if k=50000 then .pointer (some ⟨b,0,none⟩) else if k=50001 then v else if k=50002 then u else undef
 have cc:aC 50000= .pointer (some ⟨b,0,none⟩):=rfl;have anC:aC 50001=v:=rfl;have L6:aC 50002=u:=rfl;have a:∀g,ah u=some g->g≠b:=λg H Wb=>c7 u (W! I) (Wb▸H);have m:∀g,ah u=some g->ah v≠some g:=λg H hv=>(C g hv).2.2 u (W! I) H
 have hM:∀q,HM aC 3 q↔q=b\/ah v=some q\/ah u=some q:=by
  intro q;constructor
  . rintro⟨i,p,d⟩;match i,p,d with
    |0,_,d=>exact .inl (R? (show some b=some q from d)).symm
    |1,_,d=>exact .inr (.inl d)
    |2,_,d=>exact .inr (.inr d)
  rintro(rfl|d|d);exact⟨0,by decide,rfl⟩;exact⟨1,by decide,d⟩;exact⟨2,by decide,d⟩
 have T:∀q,HM aC 3 q->S q:=λq d=>by
  rcases(hM q).1 d with rfl|d|d;exact c3;exact(C q d).1;exact(u3 q d).1
 have aGf:u.oneCell'=true:=by obtain⟨_,_,_,n⟩:=jC u1;rw[n];rfl
 refine(hv w A aC _ _ [.cells [.own 50001],.eG e (some 50002) xs j,.row R [.int .i64] (l.getD j []) false] r hA hG (akb (Zg bQ) cc) ?_ ?_ hs hp (by rcases o with⟨o,_⟩|⟨o,_⟩<;>rw[o]<;>rfl) z!).mono ?_
 . intro i ab p;match i,p with
   |0,p=>
    cases p;exact⟨b,_,e0,cc,c2,(V b c3).1,⟨_,[],rfl,⟨rfl,c4⟩,rfl⟩,by simpa using c4⟩
   |1,p=>
    cases p;exact⟨xs,by rw[M9];exact c5,λq d=>(V q (C q d).1).1,λ_ _=>rfl,λj' hY=>by cases hY;exact⟨I,aGf⟩⟩
   |2,p=>
    cases p;exact⟨_,u1,TO U,λq d=>(V q (u3 q d).1).1⟩
   |_+3,p=>cases p
 . intro i W q p t d B;have e1:∀q,ah (aC 50000)=some q->q=b:=λq d=>(R? (show some b=some q from d)).symm;match i,W,p,t,d,B with
   |0,0,_,_,_,_|1,1,_,_,_,_|2,2,_,_,_,_=>rfl
   |0,1,_,_,d,B=>exact absurd (e1 q d) (C q B).2.1
   |1,0,_,_,d,B=>exact absurd (e1 q B) (C q d).2.1
   |0,2,_,_,d,B=>exact absurd (e1 q d) (a q B)
   |2,0,_,_,d,B=>exact absurd (e1 q B) (a q d)
   |1,2,_,_,d,B=>exact absurd d (m q B)
   |2,1,_,_,d,B=>exact absurd B (m q d)
   |_+3,_,p,_,_,_|_,_+3,_,p,_,_=>exact absurd p z!
 rintro e' w' ⟨v',he,A',L,q⟩
 obtain⟨K,k1,k2,k3,k4,k5,k6⟩:∃K,BR w' A' L 50001 (.eG e (some K) xs j)/\BR w' A' L K (.row R [.int .i64] y false)/\Cb r 50000/\Cb r 50001/\Cb r K/\(K≠50000/\K≠50001/\(∀g,ah (L K)=some g->w.heap.size<=g\/HM aC 3 g)):=by
  rcases o with⟨o,Z⟩|⟨o,Z⟩;refine⟨50002,(q.kept 1 _ (by rw[o];rfl)).1,(q.kept 2 _ (by rw[o];rfl)).1,.inl ⟨0,_,rfl,by decide,by rw[o];rfl⟩,.inl ⟨1,_,rfl,by decide,by rw[o];rfl⟩,.inl ⟨2,_,rfl,by decide,by rw[o];rfl⟩,by decide,by decide,λg H=>?_⟩;rw[(q.kept 2 _ (by rw[o];rfl)).2] at H;exact .inr ((hM g).2 (.inr (.inr H)));refine⟨60000,(q.kept 1 _ (by rw[o];rfl)).1,(q.rows 0 _ (by rw[Z];rfl)).1,.inl ⟨0,_,rfl,by decide,by rw[o];rfl⟩,.inl ⟨1,_,rfl,by decide,by rw[o];rfl⟩,.inr ⟨0,rfl,by rw[Z];exact Nat.one_pos⟩,by decide,by decide,(q.rows 0 _ (by rw[Z];rfl)).2⟩
 have Yi:BR w' A' L 50000 (.cells [.own 50001])/\L 50000=aC 50000:=q.kept 0 _ (by rcases o with⟨o,_⟩|⟨o,_⟩<;>rw[o]<;>rfl)
 have MX:L 50001=v:=by
  rcases o with⟨o,_⟩|⟨o,_⟩;exact(q.kept 1 _ (by rw[o];rfl)).2;exact(q.kept 1 _ (by rw[o];rfl)).2
 obtain⟨⟨b2,arr,e2,d1,d2,d3,⟨u',us,d4,⟨d5,d6⟩,d7⟩,_⟩,d8⟩:=Yi
 have Ğ:b2=b:=by
  have:=d1.symm.trans (d8.trans cc);simp only[Value.pointer.injEq,A!,Addr.mk.injEq,and_true] at this;exact this
 subst Ğ;simp only[ae] at d7;subst d7;subst d5;rw[MX] at d4 d6;have HT:arr= #[v]:=by apply Array.ext';exact d4
 subst HT;obtain⟨ys,o1,o2,o3,o4⟩:=k1;rw[MX] at o1 o2;obtain⟨o5,o6⟩:=o4 K rfl;obtain⟨zs,p1,p2,p3⟩:=k2;obtain⟨rfl,p4⟩:=TP p2;have p3:∀g,ah (L K)=some g->¬A' g:=λg H=>by simpa using p3 g H
 have hyl:ys.length=l.length:=by have:=o1.1;omega
 have J:∀i,i≠j->ys[i]? =xs[i]? :=o3;have hA0:∀g,g<w.heap.size->A' g->A g\/HM aC 3 g:=q.gG
 have vG:∀g,ah (L K)=some g->g≠b2/\ah v≠some g:=λg H=>by
  refine⟨λWb=>?_,λhgv=>?_⟩;subst Wb;exact k6.1 (q.apart K 50000 g k5 k3 H (by rw[d1];rfl));exact k6.2.1 (q.apart K 50001 g k5 k4 H (by rw[MX];exact hgv))
 have N:∀i U g,i≠j->xs[i]? =some U->ah U=some g->S g/\g<w.heap.size/\¬HM aC 3 g/\¬A' g/\ah (L K)≠some g:=λi U g p E H=>by
  have hil:i<l.length:=by rw[<-M9];exact(F?.1 E).1
  obtain⟨_,_,q3⟩:=Ol i U l[i] E (C! hil);obtain⟨X,s2⟩:=q3 g H
  have hm:¬HM aC 3 g:=λhm=>by
   rcases(hM g).1 hm with rfl|hm|hm;exact c7 U (W! E) H;exact(C g hm).2.2 U (W! E) H;exact s2 j u (λh=>p h.symm) I hm
  refine⟨X,(V g X).2,hm,λY=>(hA0 g (V g X).2 Y).elim (V g X).1 hm,λO=>?_⟩;rcases k6.2.2 g O with h|h;have:=(V g X).2;omega;exact hm h
 refine⟨v',he,λg=>A' g/\(g<w.heap.size->A g),λg=>(S g/\¬A' g)\/ah (L K)=some g,?_,q.os,q.tape,q.output,q.size,λg H Z=>q.same g H λhm=>Z (T g hm),λg H=>⟨(q.mono g H).1,λ_=>H⟩,λg H Y=>Y.2 H,λg H=>q.bound g H.1,?_,λVB=>?_,?_⟩;rw[hz];refine⟨rfl,rfl,λu0 ⟨b3,e3,g1,g2⟩=>?_⟩;simp only[Value.pointer.injEq,A!,Addr.mk.injEq,and_true] at g1;subst g1;rw[c2] at g2;simp only[A!,Obj.cells.injEq] at g2;have :u0=v:=by have:=g2.1;simpa using this.symm
 subst this;exact⟨b2,e2,rfl,d2⟩;rintro g (⟨h1,h2⟩|h);exact⟨.inl h1,λY=>h2 Y.1,Y! (V g h1).2 q.size⟩;refine⟨?_,λY=>p3 g h Y.1,auI p1 h⟩;rcases k6.2.2 g h with h|h;exact .inr h;exact .inl (T g h);have:=q.res;rw[hr,hk] at this;rw[hk];exact this;rw[hz];refine⟨b2,e2,v,ys,rfl,d2,.inl ⟨c3,d3⟩,d6,by rw[List.length_set];simpa[M9] using o1,λg H=>⟨.inl ⟨(C g H).1,o2 g H⟩,(C g H).2.1,λU E O=>?_⟩,λU E O=>?_,TN (by rw[List.length_set];exact hyl) λi un x2 E ł=>?_⟩;obtain⟨i,p,rfl⟩:=l? E;have t:=C! p;by_cases D:i=j;subst D;rw[o5,A!] at t;rw[<-t] at O;exact(vG g O).2 H;rw[J i D] at t;exact(C g H).2.2 _ (W! t) O;obtain⟨i,p,rfl⟩:=l? E;have t:=C! p;by_cases D:i=j;subst D;rw[o5,A!] at t;rw[<-t] at O;exact(vG b2 O).1 rfl;rw[J i D] at t;exact c7 _ (W! t) O;by_cases D:i=j;subst D;rw[o5] at E;cases E;rw[List.getElem?_set_self w!] at ł;cases ł;refine⟨p1,p4,λg H=>⟨.inr H,λW u' t n yR=>?_⟩⟩;rw[J W t] at n;exact(N W u' g t n yR).2.2.2.2 H;rw[J i D] at E;rw[List.getElem?_set_ne (λh=>D h.symm)] at ł;obtain⟨q1,q2,q3⟩:=Ol i un x2 E ł;refine⟨dH q1 (λg H=>?_),q2,λg H=>⟨?_,λW u' t n yR=>?_⟩⟩;obtain⟨_,s2,s3,_,_⟩:=N i un g D E H;exact q.same g s2 s3;obtain⟨X,_,_,s4,_⟩:=N i un g D E H;exact .inl ⟨X,s4⟩;by_cases aEn:W=j;subst aEn;rw[o5] at n;cases n;exact(N i un g D E H).2.2.2.2 yR;rw[J W aEn] at n;exact(q3 g H).2 W u' t n yR
theorem Valid.cases{p:M PS}{F g i:Row (PS.flat p)->Prop×AV×M AB}(u:Valid P G f (fo p g))(y:Valid P G f (fo p i))
  (h:∀x,(F x).1->((g x).1/\(F x).2=(g x).2)\/((i x).1/\(F x).2=(i x).2)):Valid P G f (fo p F):=by
 intro w A β args bm j r b H k o hs z;unfold fo at hs;split at hs;rename_i x B
 have K:∀d:Row (PS.flat p)->Prop×AV×M AB,Valid P G f (fo p d)->(d x).1->(F x).2=(d x).2->Calls P f args.toArray w λe W=>∃v,e= .returned v/\∃A' aC,nO w A W v r b A' aC:=by
  intro d q t E;refine q w A β args bm (d x).1 r b H k o ?_ t;unfold fo;grind
 grind;grind
theorem aJ.cases {P:Program}{G:Nat->Option GD}{f:FuncId}{t:M TA}{b:M TB}{F g i:Row (TA.du t)->fD b->pb}(H:aJ P G f (bZ t b g))(j:aJ P G f (bZ t b i))
  (h:∀x y,(F x y).pre->((g x y).pre/\F x y= {g x y with pre:=(F x y).pre})\/((i x y).pre/\F x y= {i x y with pre:=(F x y).pre})):aJ P G f (bZ t b F):=by
 intro w A β args bm hs r o u z B Y n D I C;unfold bZ at n;split at n;rename_i c J;split at n;rename_i x y hx K;cases n
 have k:∀d:Row (TA.du t)->fD b->pb,aJ P G f (bZ t b d)->(d x y).pre->F x y= {d x y with pre:=(F x y).pre}->Calls P f args.toArray w λe W=>∃v,e= .returned v/\∃A' aC,JW w A β hs.length W v (F x y) A' aC:=by
  intro d L p E;have N:(F x y).heap=(d x y).heap:=by rw[E]
  refine(L w A β args bm hs (d x y) o u z B Y (by unfold bZ;simp only[J,hx,K]) p (by rw[<-N];exact I) C).mono ?_;rintro e W ⟨v,O,A',aC,q⟩;refine⟨v,O,A',aC,?_⟩;rw[E];exact⟨q.os,q.tape,q.output,q.size,q.same,q.mono,q.gG,q.bound,q.res,q.kept,q.rows,q.apart⟩
 rcases h x y D with⟨p,E⟩|⟨p,E⟩;exact k g H p E;exact k i j p E;cases n;cases n
def tv(f:Func):Code:=f.body.getD .skip
def cS(f:Nat)(p:M PS)(F:Row (PS.flat p)->Prop×AV×M AB)(E:Env):Env:=Env.cons f (fo p F) E
def cH(f:Nat)(m:M Bool)(p:M TA)(q:M TB)(F:Row (TA.du p)->fD q->pb)(E:Env):Env:=Env.bT f m (bZ p q F) E
def nL:α->Nat->Option bO:=λ_ _=>none
def mF {β:Type}:α->β->Nat->Option bO:=λ_ _ _=>none
def Gk(f:Func):Bool:=f.body.isSome&& !(f.name== "runtime.NumGoroutine")
abbrev Nc(p:Prop):Prop:=∃V:Prop,V/\V=p
def Nc.go {p:Prop}(h:Nc p):p:=h.elim λ_ h=>h.2▸h.1
def yV(h:Gk fn=true):fn.body=some (tv fn)/\(fn.name== "runtime.NumGoroutine")=false :=by
 unfold Gk at h;unfold tv;cases H:fn.body with
 |none=>rw[H] at h;cases h
 |some c=>rw[H] at h;simpa using h
theorem aMw.k(H:P.funcs[f]? =some fn)(h:Gk fn=true):aMw P f:=aMw.of H (yV h).1 (yV h).2
def vS(H:ba P E)(d:P.follows .mixedOrders=true)(p:M PS){F:Row (PS.flat p)->Prop×AV×M AB}(L:Row (PS.flat p)->Nat->Option bO)
  (e:P.funcs[f]? =some fn) (g:Gk fn=true)
  (h:∀x,(F x).1->Row.ok (PS.flat p) x->Nc (LP E (L x) (tv fn) fn.ntmps fn.results.toList (rU p x) (F x).2.1 (F x).2.2)):Valid P E.lM f (fo p F):=
 Is H d p L e (yV g).1 λx a b=>(h x a b).go
def vH(H:ba P E)(d:P.follows .mixedOrders=true)(p:M TA)(q:M TB){F:Row (TA.du p)->fD q->pb}(L:Row (TA.du p)->fD q->Nat->Option bO)
  (e:P.funcs[f]? =some fn) (g:Gk fn=true)
  (h:∀x y,(F x y).pre->Row.ok (TA.du p) x->fD.ok q y->Nc (Cz E (L x y) (tv fn) fn.ntmps fn.results.toList (TA.qG p (ax (TA.du p) x)) (fD.put q y) (F x y))):aJ P E.lM f (bZ p q F):=
 SJ H d p q L e (yV g).1 λx y a b c=>(h x y a b c).go
def vH2(H:ba P E)(o:Nat->Bool)(c:Nat->Option Nat)(s:Nat->Bool)(d:P.follows .mixedOrders=true)(p:M TA)(q:M TB){F:Row (TA.du p)->fD q->pb}(L:Row (TA.du p)->fD q->Nat->Option bO)
  (e:P.funcs[f]? =some fn) (g:Gk fn=true)
  (h:∀x y,(F x y).pre->Row.ok (TA.du p) x->fD.ok q y->Nc (Cz {E with iE:=o,cls:=c,MT:=s} (L x y) (tv fn) fn.ntmps fn.results.toList (TA.qG p (ax (TA.du p) x)) (fD.put q y) (F x y))):aJ P E.lM f (bZ p q F):=
 vH (E:={E with iE:=o,cls:=c,MT:=s}) ⟨H.gm,H.sig,H.rA,H.hp,H.cn⟩ d p q L e g h
def kS2(g:P.follows .mixedOrders=true)(H:ba P E)(o:Nat->Bool)(c:Nat->Option Nat)(s:Nat->Bool){p:M PS}{F:Row (PS.flat p)->Prop×AV×M AB}(L:Row (PS.flat p)->Nat->Option bO)
  (d:P.funcs[f]? =some fn) (e:Gk fn=true)
  (h:∀x,(F x).1->Row.ok (PS.flat p) x->Nc (LP {E with iE:=o,cls:=c,MT:=s} (L x) (tv fn) fn.ntmps fn.results.toList (rU p x) (F x).2.1 (F x).2.2)):ba P (cS f p F E):=
 ba.cons H (vS (E:={E with iE:=o,cls:=c,MT:=s}) ⟨H.gm,H.sig,H.rA,H.hp,H.cn⟩ g p L d e h) (aMw.k d e)
def kS(g:P.follows .mixedOrders=true)(H:ba P E){p:M PS}{F:Row (PS.flat p)->Prop×AV×M AB}(L:Row (PS.flat p)->Nat->Option bO)
  (d:P.funcs[f]? =some fn) (e:Gk fn=true)
  (h:∀x,(F x).1->Row.ok (PS.flat p) x->Nc (LP E (L x) (tv fn) fn.ntmps fn.results.toList (rU p x) (F x).2.1 (F x).2.2)):ba P (cS f p F E):=
 ba.cons H (vS H g p L d e h) (aMw.k d e)
def kR(j:P.follows .mixedOrders=true)(g:ba P E){p:M PS}{F:Row (PS.flat p)->Prop×AV×M AB}(d:Row (PS.flat p)->Nat)(L:Row (PS.flat p)->Nat->Option bO)
  (H:P.funcs[f]? =some fn) (e:Gk fn=true)
  (h:∀m x,d x<m+1->(F x).1->Row.ok (PS.flat p) x->Nc (LP (Env.cons f (rV p d m F) E) (L x) (tv fn) fn.ntmps fn.results.toList (rU p x) (F x).2.1 (F x).2.2)):ba P (cS f p F E):=
 ba.cons g (ň p d λm I=>Is (E:=Env.cons f (rV p d m F) E) (ba.cons g I (aMw.k H e)) j p L H (yV e).1 λx i o=>(h m x i.1 i.2 o).go) (aMw.k H e)
def kH2(g:P.follows .mixedOrders=true)(H:ba P E)(o:Nat->Bool)(c:Nat->Option Nat)(s:Nat->Bool){p:M TA}{q:M TB}{F:Row (TA.du p)->fD q->pb}(L:Row (TA.du p)->fD q->Nat->Option bO)
  (d:P.funcs[f]? =some fn) (e:Gk fn=true)
  (h:∀x y,(F x y).pre->Row.ok (TA.du p) x->fD.ok q y->Nc (Cz {E with iE:=o,cls:=c,MT:=s} (L x y) (tv fn) fn.ntmps fn.results.toList (TA.qG p (ax (TA.du p) x)) (fD.put q y) (F x y))):ba P (cH f m p q F E):=
 ba.bT H (vH (E:={E with iE:=o,cls:=c,MT:=s}) ⟨H.gm,H.sig,H.rA,H.hp,H.cn⟩ g p q L d e h) (aMw.k d e)
def kH(g:P.follows .mixedOrders=true)(H:ba P E){p:M TA}{q:M TB}{F:Row (TA.du p)->fD q->pb}(L:Row (TA.du p)->fD q->Nat->Option bO)
  (d:P.funcs[f]? =some fn) (e:Gk fn=true)
  (h:∀x y,(F x y).pre->Row.ok (TA.du p) x->fD.ok q y->Nc (Cz E (L x y) (tv fn) fn.ntmps fn.results.toList (TA.qG p (ax (TA.du p) x)) (fD.put q y) (F x y))):ba P (cH f m p q F E):=
 ba.bT H (vH H g p q L d e h) (aMw.k d e)
def kX(H:ba P E){p:M PS}{F:Row (PS.flat p)->Prop×AV×M AB}(d:P.funcs[f]? =some fn)(e:Gk fn=true)(h:Valid P E.lM f (fo p F)):ba P (cS f p F E):=ba.cons H h (aMw.k d e)
def kXH(H:ba P E){p:M TA}{q:M TB}{F:Row (TA.du p)->fD q->pb}(d:P.funcs[f]? =some fn)(e:Gk fn=true)(h:aJ P E.lM f (bZ p q F)):ba P (cH f m p q F E):=ba.bT H h (aMw.k d e)
def kV {F:Va}(h:ba P E)(hs:E.sig f=some F):Valid P E.lM f F:=(h.sig f F hs).1
abbrev jE(p:M PS)(x:Row (PS.flat p)):Prop:=Row.ok (PS.flat p) x
abbrev aEo(p:M TA)(x:Row (TA.du p)):Prop:=Row.ok (TA.du p) x
abbrev hlen(l:M α):Prop:=l.length<=9223372036854775807
abbrev hint(x:Int):Prop:= -9223372036854775808<=x/\x<=9223372036854775807
def aVN(p:M PS)(d:Row (PS.flat p)->Nat){F:Row (PS.flat p)->Prop×AV×M AB}:Valid P G f (rV p d 0 F):=by
 intro w A β args bm e r b h H B hs g;unfold rV fo at hs;grind
def k3T{E:Env}(B:P.follows .mixedOrders=true)(D:ba P E){u c q:FuncId}{n N y:Func}
  {i g p:M PS} {t:Row (PS.flat i)->Prop×AV×M AB} {f:Row (PS.flat g)->Prop×AV×M AB} {F:Row (PS.flat p)->Prop×AV×M AB}
  (j:Row (PS.flat i)->Nat) (e:Row (PS.flat g)->Nat) (d:Row (PS.flat p)->Nat)
  (L:Row (PS.flat i)->Nat->Option bO) (l:Row (PS.flat g)->Nat->Option bO) (K:Row (PS.flat p)->Nat->Option bO)
  (o:Nat->Bool) (C:Nat->Option Nat) (s:Nat->Bool) (O:Nat->Option (M (Option TypeId)))
  (Q:P.funcs[u]? =some n) (R:Gk n=true) (S:P.funcs[c]? =some N) (U:Gk N=true) (J:P.funcs[q]? =some y) (b:Gk y=true)
  (Y:∀m x,j x<m+1->(t x).1->Row.ok (PS.flat i) x->Nc (LP (Env.cons q (rV p d m F) E) (L x) (tv n) n.ntmps n.results.toList (rU i x) (t x).2.1 (t x).2.2))
  (Z:∀m x,e x<m+1->(f x).1->Row.ok (PS.flat g) x->Nc (LP (Env.cons q (rV p d m F) E) (l x) (tv N) N.ntmps N.results.toList (rU g x) (f x).2.1 (f x).2.2))
  (r:∀m x,d x<m+1->(F x).1->Row.ok (PS.flat p) x->Nc (LP {Env.cons u (rV i j (m+1) t) (Env.cons c (rV g e (m+1) f) E) with iE:=o,cls:=C,MT:=s,Hk:=O} (K x) (tv y) y.ntmps y.results.toList (rU p x) (F x).2.1 (F x).2.2)):
  Valid P E.lM u (fo i t)/\Valid P E.lM c (fo g f)/\Valid P E.lM q (fo p F):=by
 have V:∀m,Valid P E.lM q (rV p d m F)->Valid P E.lM u (rV i j (m+1) t):=λm I=>
  Is (E:=Env.cons q (rV p d m F) E) (ba.cons D I (aMw.k J b)) B i L Q (yV R).1 λx H z=>(Y m x H.1 H.2 z).go
 have W:∀m,Valid P E.lM q (rV p d m F)->Valid P E.lM c (rV g e (m+1) f):=λm I=>
  Is (E:=Env.cons q (rV p d m F) E) (ba.cons D I (aMw.k J b)) B g l S (yV U).1 λx H z=>(Z m x H.1 H.2 z).go
 have X:∀m,Valid P E.lM q (rV p d m F)->Valid P E.lM q (rV p d (m+1) F):=λm I=>by
  have h:=ba.cons (E:=Env.cons c (rV g e (m+1) f) E) (ba.cons D (W m I) (aMw.k S U)) (V m I) (aMw.k Q R);exact Is (E:={Env.cons u (rV i j (m+1) t) (Env.cons c (rV g e (m+1) f) E) with iE:=o,cls:=C,MT:=s,Hk:=O}) ⟨h.gm,h.sig,h.rA,h.hp,h.cn⟩ B p K J (yV b).1 λx H z=>(r m x H.1 H.2 z).go
 have a:∀m,Valid P E.lM q (rV p d m F):=λm=>by
  induction m with
  |zero=>exact aVN p d
  |succ m I=>exact X m I
 exact⟨ň i j λm _=>V m (a m),ň g e λm _=>W m (a m),ň p d X⟩
def kS3(i:P.follows .mixedOrders=true)(H:ba P E)(o:Nat->Bool)(c:Nat->Option Nat)(s:Nat->Bool)(d:Nat->Option (M (Option TypeId))){p:M PS}{F:Row (PS.flat p)->Prop×AV×M AB}(L:Row (PS.flat p)->Nat->Option bO)
  (e:P.funcs[f]? =some fn) (g:Gk fn=true)
  (h:∀x,(F x).1->Row.ok (PS.flat p) x->Nc (LP {E with iE:=o,cls:=c,MT:=s,Hk:=d} (L x) (tv fn) fn.ntmps fn.results.toList (rU p x) (F x).2.1 (F x).2.2)):ba P (cS f p F E):=
 ba.cons H (vS (E:={E with iE:=o,cls:=c,MT:=s,Hk:=d}) ⟨H.gm,H.sig,H.rA,H.hp,H.cn⟩ i p L e g h) (aMw.k e g)
def kH3(i:P.follows .mixedOrders=true)(H:ba P E)(o:Nat->Bool)(c:Nat->Option Nat)(s:Nat->Bool)(d:Nat->Option (M (Option TypeId))){p:M TA}{q:M TB}{F:Row (TA.du p)->fD q->pb}(L:Row (TA.du p)->fD q->Nat->Option bO)
  (e:P.funcs[f]? =some fn) (g:Gk fn=true)
  (h:∀x y,(F x y).pre->Row.ok (TA.du p) x->fD.ok q y->Nc (Cz {E with iE:=o,cls:=c,MT:=s,Hk:=d} (L x y) (tv fn) fn.ntmps fn.results.toList (TA.qG p (ax (TA.du p) x)) (fD.put q y) (F x y))):ba P (cH f m p q F E):=
 ba.bT H (vH (E:={E with iE:=o,cls:=c,MT:=s,Hk:=d}) ⟨H.gm,H.sig,H.rA,H.hp,H.cn⟩ i p q L e g h) (aMw.k e g)
end Go.Vg
namespace Go.S
variable {α:Type}{l W out nx:List Int}{b m g:B8}{x n i t j:Nat}{p u v a e s1 s2 f:Int}{c:Bool}{parts T docs:List B8}{y y0 y1:UInt8}
def len(l:M α):Nat:=l.length
def af(m n:Nat):Nat:=m-n
def gU(l:M α)(n:Nat):Prop:=n<=l.length
def cC(n m:Nat):Prop:=n<=m
def pW(l:M α):Int:=l.length
def small(l:M α):Prop:=l.length<=1099511627776
theorem qH(n:Int)(k:Nat)(h:0<=n):Vg.aT n ((2:Int)^k-1)=n%2^k:=by
 obtain⟨m,rfl⟩:=w? h
 have h1:((2:Int)^k-1).toNat=2^k-1:=by
  have :(1:Nat)<=2^k:=Nat.one_le_two_pow;have e:((2:Int)^k-1)=((2^k-1:Nat):Int):=by rw[Int.natCast_sub this];simp
  rw[e];rfl
 simp only[Vg.aT,E?,h1,Nat.and_two_pow_sub_one_eq_mod];simp
theorem ake(n:Int)(h:0<=n):Vg.aT n 7=n%8:=by simpa using qH n 3 h
theorem ō(n:Int)(h:0<=n):Vg.aT n 15=n%16:=by simpa using qH n 4 h
theorem Gl(n:Int)(h:0<=n):Vg.aT n 31=n%32:=by simpa using qH n 5 h
theorem Pw(n:Int)(h:0<=n):Vg.aT n 63=n%64:=by simpa using qH n 6 h
theorem at3(n:Int)(h:0<=n):Vg.aT n 127=n%128:=by simpa using qH n 7 h
theorem gZ(a b:Int)(k:Nat)(H:0<=a)(d:0<=b)(h:b<2^k):Vg.cv (a*2^k) b=a*2^k+b:=by
 obtain⟨m,rfl⟩:=w? H
 have o:((m:Int)*2^k).toNat=m*2^k:=by
  rfl
 grind[Vg.cv,Int.toNat_natCast,Nat.mul_comm,Nat.two_pow_add_eq_or_of_lt,Int.mul_comm]
theorem CD(a b:Int):Vg.cv a b=Vg.cv b a:=by grind[Vg.cv]
theorem Px(n:Int)(h:0<=n)(h1:n<128):Vg.cv n 128=n+128:=by
 rw[CD,show(128:Int)=1*2^7 by rfl,gZ 1 n 7 w! h h1];omega
theorem SK(p:α->Bool)(l:M α):(l.takeWhile p).length<=l.length:=by
 induction l with
 |nil=>simp
 |cons x l i=>grind[List.takeWhile_cons]
abbrev H8:=Int×Int×Int×Int×Int×Int×Int×Int
def right(x n:Int):Int:=(x/2^n.toNat+x*2^(32-n).toNat%4294967296)%4294967296
def rotl(x k:Int):Int:=right x (-k)
def ux(x k:Int):Prop:= -32<k/\k<0/\0<=x/\x<4294967296
def Al(p:B8)(i:Nat):Int:=(p.getD i 0).toNat
def word(p:B8)(i:Nat):Int:=Al p (4*i)*16777216+Al p (4*i+1)*65536+Al p (4*i+2)*256+Al p (4*i+3)
def aMX(x:Int):Int:=Vg.e9 (Vg.e9 (right x 7) (right x 18)) (x/2^Int.toNat 3)
def aMY(y:Int):Int:=Vg.e9 (Vg.e9 (right y 17) (right y 19)) (y/2^Int.toNat 10)
def aox(w:U)(n:Nat):Int:=(((w.getD (n-16) 0+aMX (w.getD (n-15) 0))%4294967296+w.getD (n-7) 0)%4294967296+aMY (w.getD (n-2) 0))%4294967296
def Am(p:B8)(w:U)(n:Nat):Int:=if n<16 then word p n else aox w n
def sched(p:B8):Nat->U
 |0=>[]
 |n+1=>sched p n++[Am p (sched p n) n]
def bf(p:B8)(n:Nat):U:=sched p n++List.replicate (64-n) 0
def Bo:U:=[1116352408,1899447441,3049323471,3921009573,961987163,1508970993,2453635748,2870763221,3624381080,310598401,607225278,1426881987,1925078388,2162078206,2614888103,3248222580,3835390401,4022224774,264347078,604807628,770255983,1249150122,1555081692,1996064986,2554220882,2821834349,2952996808,3210313671,3336571891,3584528711,113926993,338241895,666307205,773529912,1294757372,1396182291,1695183700,1986661051,2177026350,2456956037,2730485921,2820302411,3259730800,3345764771,3516065817,3600352804,4094571909,275423344,430227734,506948616,659060556,883997877,958139571,1322822218,1537002063,1747873779,1955562222,2024104815,2227730452,2361852424,2428436474,2756734187,3204031479,3329325298]
def H0:H8:=(1779033703,3144134277,1013904242,2773480762,1359893119,2600822924,528734635,1541459225)
def aMZ(a:Int):Int:=Vg.e9 (Vg.e9 (right a 2) (right a 13)) (right a 22)
def aM0(e:Int):Int:=Vg.e9 (Vg.e9 (right e 6) (right e 11)) (right e 25)
def ch(e f g:Int):Int:=Vg.e9 (Vg.aT e f) (Vg.aT (4294967296-1-e) g)
def maj(a b c:Int):Int:=Vg.e9 (Vg.e9 (Vg.aT a b) (Vg.aT a c)) (Vg.aT b c)
def one(k w e f g h:Int):Int:=((((h+aM0 e)%4294967296+ch e f g)%4294967296+k)%4294967296+w)%4294967296
def two(a b c:Int):Int:=(aMZ a+maj a b c)%4294967296
def rnd(k w:Int)(s:H8):H8:=((one k w s.2.2.2.2.1 s.2.2.2.2.2.1 s.2.2.2.2.2.2.1 s.2.2.2.2.2.2.2+two s.1 s.2.1 s.2.2.1)%4294967296,s.1,s.2.1,s.2.2.1,
 (s.2.2.2.1+one k w s.2.2.2.2.1 s.2.2.2.2.2.1 s.2.2.2.2.2.2.1 s.2.2.2.2.2.2.2)%4294967296,s.2.2.2.2.1,s.2.2.2.2.2.1,s.2.2.2.2.2.2.1)
def gz(w:U)(s:H8):Nat->H8
 |0=>s
 |n+1=>rnd (Bo.getD n 0) (w.getD n 0) (gz w s n)
def aeH(s t:H8):H8:=((s.1+t.1)%4294967296,(s.2.1+t.2.1)%4294967296,(s.2.2.1+t.2.2.1)%4294967296,(s.2.2.2.1+t.2.2.2.1)%4294967296,
 (s.2.2.2.2.1+t.2.2.2.2.1)%4294967296,(s.2.2.2.2.2.1+t.2.2.2.2.2.1)%4294967296,(s.2.2.2.2.2.2.1+t.2.2.2.2.2.2.1)%4294967296,(s.2.2.2.2.2.2.2+t.2.2.2.2.2.2.2)%4294967296)
def block(s:H8)(p:B8):H8:=aeH s (gz (sched p 64) s 64)
def proc(s:H8)(b:B8):Nat->H8
 |0=>s
 |n+1=>block (proc s b n) ((b.drop (64*n)).take 64)
def fb(s:H8):U:=[s.1,s.2.1,s.2.2.1,s.2.2.2.1,s.2.2.2.2.1,s.2.2.2.2.2.1,s.2.2.2.2.2.2.1,s.2.2.2.2.2.2.2]
def b32(w:Int):B8:=[UInt8.ofNat (w/16777216%256).toNat,UInt8.ofNat (w/65536%256).toNat,UInt8.ofNat (w/256%256).toNat,UInt8.ofNat (w%256).toNat]
def oQ(s:H8)(n:Nat):B8:=((fb s).take n).flatMap b32
def dig(s:H8):B8:=oQ s 8
def ij(n:Nat):Nat:=(119-n%64)%64
def len8(n:Int)(k:Nat):B8:=(List.range k).map λi=>UInt8.ofNat (n/2^(56-8*i)%256).toNat
def gB(r:B8)(k:Nat):B8:=r++[128]++List.replicate k 0
def pA(r:B8)(n:Int)(k:Nat):B8:=gB r (ij r.length)++len8 (n*8) k
def tail(r:B8)(n:Int):B8:=pA r n 8
def blocks(b:B8):Nat:=b.length/64
def cb(s:H8)(b:B8):H8:=proc s b (blocks b)
def kY(b:B8):B8:=b.drop (64*blocks b)
def sum(b:B8):B8:=dig (cb H0 (tail b b.length))
def yg(s:H8):Prop:=∀x∈fb s,0<=x/\x<4294967296
def okW(l:U):Prop:=∀x∈l,0<=x/\x<4294967296
def cI(r:B8)(k:Nat):Prop:=k<=ij r.length
def qI(r:B8)(n:Int):Bool:=decide (0<=n)&&decide (n<=1099511627776)&&decide ((r.length:Int)=n%64)
def Wc(s:H8)(r:B8)(n:Int)(b:B8):Prop:=yg s/\r=[]/\n=0/\small b
def Nw(s:H8)(r:B8)(n:Int):Prop:=yg s/\0<=n/\n<=1099511627776/\(r.length:Int)=n%64
def Wd(s:H8)(p:B8):Prop:=yg s/\p.length=64
def ka(b:B8)(k:Nat):B8:=b.drop (64*k)
theorem aoy(a b c d:UInt8):Vg.cv (Vg.cv (Vg.cv ((a.toNat:Int)*2^Int.toNat 24%4294967296) ((b.toNat:Int)*2^Int.toNat 16%4294967296)) ((c.toNat:Int)*2^Int.toNat 8%4294967296)) (d.toNat:Int)=
  (a.toNat:Int)*16777216+(b.toNat:Int)*65536+(c.toNat:Int)*256+(d.toNat:Int):=by
 have H:=a.toNat_lt;have k:=b.toNat_lt;have o:=c.toNat_lt;have q:=d.toNat_lt
 have e:(a.toNat)*2^Int.toNat 24%4294967296=((a.toNat:Int))*2^24:=by grind
 have E:(b.toNat)*2^Int.toNat 16%4294967296=(b.toNat:Int)*2^16:=by grind
 have h:(c.toNat)*2^Int.toNat 8%4294967296=(c.toNat:Int)*2^8:=by grind
 rw[e,E,h,gZ _ _ 24 w! w! w!];rw[show(a.toNat)*2^24+(b.toNat)*2^16=((a.toNat:Int)*256+b.toNat)*2^16 by omega,gZ _ _ 16 w! w! w!];rw[show((a.toNat)*256+b.toNat)*2^16+(c.toNat)*2^8=((a.toNat:Int)*65536+b.toNat*256+c.toNat)*2^8 by omega,gZ _ _ 8 w! w! w!];omega
theorem dh(p:B8):∀n,(sched p n).length=n
 |0=>rfl
 |n+1=>by simp[sched,dh p n]
theorem vR(p:B8)(n:Nat)(h:n<=64):(bf p n).length=64:=by grind[bf,dh]
theorem aeI(p:B8):bf p 64=sched p 64:=by simp[bf]
theorem aoz(p:B8)(n:Nat):0<=word p n/\word p n<4294967296:=by
 simp only[word,Al];have h:=(p.getD (4*n) 0).toNat_lt;have H:=(p.getD (4*n+1) 0).toNat_lt;have d:=(p.getD (4*n+2) 0).toNat_lt;have k:=(p.getD (4*n+3) 0).toNat_lt
 omega
theorem TQ(p:B8):∀n,okW (sched p n)
 |0=>by simp[sched,okW]
 |n+1=>by
  intro x h;simp[sched,I!,s?] at h;rcases h with h|rfl;exact TQ p n x h;simp[Am];split;exact aoz p n;simp[aox];omega
theorem Zi(h:okW l)(i:Nat):0<=l.getD i 0/\l.getD i 0<4294967296:=by
 rw[E!];cases H:l[i]? with
 |none=>simp
 |some x=>simpa using h x (W! H)
theorem auJ(p:B8)(n i:Nat):0<=(bf p n).getD i 0/\(bf p n).getD i 0<4294967296:=by
 refine Zi ?_ i;intro x hx;simp[bf,List.mem_append] at hx;rcases hx with hx|hx;exact TQ p n x hx;grind
theorem Zj(p:B8)(n i:Nat)(k:Int)(h: -32<k/\k<0):ux ((bf p n).getD i 0) k:=⟨h.1,h.2,auJ p n i⟩
theorem D8(p:B8)(n i:Nat)(h:i<n):(bf p n).getD i 0=(sched p n).getD i 0:=by
 grind[bf,List.getElem?_append_left,dh]
theorem Zk(p:B8)(n:Nat)(v:Int)(h:n<64)(H:v=Am p (sched p n) n):(bf p n).set n v=bf p (n+1):=by
 grind[bf,sched,aj9,dh]
theorem auK(p:B8)(x:Nat)(h:x<16):List.set (bf p x) (0+Int.toNat (x:Int)*1)
  (Vg.cv (Vg.cv (Vg.cv (((List.getD p (Int.toNat (4*(x:Int))) 0).toNat:Int)*2^Int.toNat 24%4294967296) (((List.getD p (Int.toNat (4*(x:Int)+1)) 0).toNat:Int)*2^Int.toNat 16%4294967296))
    (((List.getD p (Int.toNat (4*(x:Int)+2)) 0).toNat:Int)*2^Int.toNat 8%4294967296)) ((List.getD p (Int.toNat (4*(x:Int)+3)) 0).toNat:Int))=bf p (x+1):=by
 rw[aoy,show 0+Int.toNat x*1=x by omega];refine Zk p x _ w! ?_;simp[Am,Q! h,word,Al,show Int.toNat (4*x)=4*x by omega,show Int.toNat (4*x+1)=4*x+1 by omega,show Int.toNat (4*x+2)=4*x+2 by omega,show Int.toNat (4*x+3)=4*x+3 by omega]
theorem auL(p:B8)(x:Nat)(h:16<=x)(H:x<64):List.set (bf p x) (0+Int.toNat (x:Int)*1)
  ((((List.getD (bf p x) (0+Int.toNat ((x:Int)-16)*1) 0+
    Vg.e9 (Vg.e9 (rotl (List.getD (bf p x) (0+Int.toNat ((x:Int)-15)*1) 0) (-7)) (rotl (List.getD (bf p x) (0+Int.toNat ((x:Int)-15)*1) 0) (-18))) (List.getD (bf p x) (0+Int.toNat ((x:Int)-15)*1) 0/2^Int.toNat 3))%4294967296+
    List.getD (bf p x) (0+Int.toNat ((x:Int)-7)*1) 0)%4294967296+
    Vg.e9 (Vg.e9 (rotl (List.getD (bf p x) (0+Int.toNat ((x:Int)-2)*1) 0) (-17)) (rotl (List.getD (bf p x) (0+Int.toNat ((x:Int)-2)*1) 0) (-19))) (List.getD (bf p x) (0+Int.toNat ((x:Int)-2)*1) 0/2^Int.toNat 10))%4294967296)=bf p (x+1):=by
 simp only[show 0+Int.toNat x*1=x by omega,show 0+Int.toNat (x-16)*1=x-16 by omega,show 0+Int.toNat (x-15)*1=x-15 by omega,show 0+Int.toNat (x-7)*1=x-7 by omega,show 0+Int.toNat (x-2)*1=x-2 by omega,
  D8 p x (x-16) w!,D8 p x (x-15) w!,D8 p x (x-7) w!,D8 p x (x-2) w!]
 refine Zk p x _ w! ?_;simp only[Am,R! (by omega :¬x<16)];rfl
theorem auM(k w:Int)(s:H8)(h:yg s):yg (rnd k w s):=by
 simp[yg,fb,O!,List.not_mem_nil,or_false,forall_eq_or_imp,forall_eq,rnd] at h |-;omega
theorem CE(w:U)(s:H8)(h:yg s):∀n,yg (gz w s n)
 |0=>h
 |n+1=>auM _ _ _ (CE w s h n)
theorem akg(s:H8)(p:B8):yg (block s p):=by
 simp[block,aeH,yg,fb,O!,List.not_mem_nil,or_false,forall_eq_or_imp,forall_eq];omega
theorem Pz(s:H8)(b:B8)(h:yg s):∀n,yg (proc s b n)
 |0=>h
 |n+1=>akg _ _
variable {s:H8}
theorem aGk(h:yg s)(k:Int)(H: -32<k/\k<0):ux s.1 k:=⟨H.1,H.2,h _ (by simp[fb])⟩
theorem aGl(h:yg s)(k:Int)(H: -32<k/\k<0):ux s.2.2.2.2.1 k:=⟨H.1,H.2,h _ (by simp[fb])⟩
theorem J8:(64:Nat)=Bo.length:=by decide
theorem Ŏ:yg H0:=by simp[yg,fb,H0]
theorem auN {x k:Int}(h:ux x k):Vg.cv (x*2^Int.toNat (Vg.aT (k%18446744073709551616) 31)%4294967296) (x/2^Int.toNat ((32-Vg.aT (k%18446744073709551616) 31)%18446744073709551616))=rotl x k:=by
 obtain⟨H,o,q,r⟩:=h;have e:Vg.aT (k%18446744073709551616) 31=32+k:=by grind[Gl]
 rw[e,show(32-(32+k))%18446744073709551616= -k by omega];obtain⟨n,d⟩:∃n:Nat,n=(-k).toNat:=⟨_,rfl⟩;rw[show Int.toNat (32+k)=32-n by omega,<-d];simp[rotl,right,<-d,show(32- -k).toNat=32-n by omega];obtain⟨m,rfl⟩:=w? q;have w:m<2^32:=by omega
 have A:(2:Nat)^(32-n)*2^n=2^32:=by rw[<-Nat.pow_add];grind
 have z:m/2^n<2^(32-n):=by
  simp_all[Nat.div_lt_iff_lt_mul,Nat.two_pow_pos]
 have a:m*2^(32-n)%4294967296=(m%2^n)*2^(32-n):=by
  grind[Nat.mul_comm,Nat.mul_mod_mul_right]
 have c1:((m:Int)*2^(32-n)%4294967296)=(((m%2^n:Nat):Int))*2^(32-n):=by
  have:=congrArg (Nat.cast (R:=Int)) a;grind
 have c2:((m:Int)/2^n)=((m/2^n:Nat):Int):=by simp
 rw[c1,c2,gZ _ _ (32-n) (Int.natCast_nonneg _) (Int.natCast_nonneg _) x!]
 have i:(m%2^n)*2^(32-n)+m/2^n<4294967296:=by
  have H:m%2^n<2^n:=by omega
  have o:(m%2^n+1)*2^(32-n)<=2^n*2^(32-n):=Nat.mul_le_mul_right _ H;grind
 grind
theorem auO {x k:Int}(h:ux x k):Vg.aT (k%18446744073709551616) 31=32+k:=by
 have⟨H,d,o,q⟩:=h;grind[Gl]
theorem akh{r:B8}{n:Int}(h:Nw s r n):qI r n=true:=by
 have⟨_,H,d,k⟩:=h;grind[qI]
theorem di(r:B8)(k:Nat):(gB r k).length=r.length+1+k:=by grind[gB]
theorem Zl(r:B8):r++[UInt8.ofNat (Int.toNat 128)]=gB r 0:=by simp[gB]
theorem Ma(r:B8)(k:Nat):gB r k++[UInt8.ofNat (Int.toNat 0)]=gB r (k+1):=by
 grind[gB,List.append_assoc,List.replicate_succ']
theorem PB {r:B8}{k:Nat}(h:cI r k)(H:¬((gB r k).length:Int)%64=56):cI r (k+1):=by
 grind[cI,ij,di]
theorem TR {r:B8}{k:Nat}(h:cI r k)(H:((gB r k).length:Int)%64=56):k=ij r.length:=by
 grind[cI,ij,di]
theorem J9(n:Int)(k:Nat):(len8 n k).length=k:=by simp[len8]
theorem jF(r:B8)(n:Int)(k:Nat):(pA r n k).length=r.length+1+ij r.length+k:=by simp[pA,di,J9]
theorem aoA(r:B8)(n:Int):pA r n 0=gB r (ij r.length):=by simp[pA,len8]
theorem Zm(r:B8)(n:Int)(x:Nat)(h:0<=n)(H:n<=1099511627776)(d:x<8):
  pA r n x++[UInt8.ofNat (Int.toNat (n%18446744073709551616*8%18446744073709551616/2^Int.toNat (56-8*(x:Int))%256))]=pA r n (x+1):=by
 rw[show n%18446744073709551616*8%18446744073709551616=n*8 by omega,show Int.toNat (56-8*(x:Int))=56-8*x by omega];grind[pA,len8,List.range_succ,List.append_assoc]
theorem TS(s:H8)(k:Nat)(h:k<=8):(oQ s k).length=4*k:=by
 match k,h with
 |0,_|1,_|2,_|3,_|4,_|5,_|6,_|7,_|8,_=>rfl
theorem PC(s:H8)(x:Nat)(h:x<8):oQ s x++b32 ((fb s).getD x 0)=oQ s (x+1):=by
 have H:x<(fb s).length:=by simp_all[fb]
 grind[oQ,an,fb]
theorem aoB(s:H8):(dig s).length=32:=by rfl
theorem PD(b:B8):(sum b).length=32:=aoB _
theorem Ka(s:H8)(x y:B8):∀n,64*n<=x.length->proc s (x++y) n=proc s x n
 |0,_=>rfl
 |n+1,h=>by
  simp[proc];rw[Ka s x y n w!,List.drop_append_of_le_length w!,List.take_append_of_le_length (by rw[N?];omega)]
theorem PE(s:H8)(x y:B8)(a:Nat)(h:x.length=64*a):∀n,proc s (x++y) (a+n)=proc (proc s x a) y n
 |0=>Ka s x y a w!
 |n+1=>by
  simp[proc];rw[PE s x y a h n,show 64*(a+n)=x.length+64*n by omega,List.drop_append,V? w!,o?,j?]
theorem xn(b:B8):(kY b).length=b.length%64:=by grind[kY,blocks]
theorem aki(n:Nat):ij (n%64)=ij n:=by simp[ij]
theorem ŏ(b:B8)(n:Int):cb (cb H0 b) (tail (kY b) n)=cb H0 (tail b n):=by
 have h:b=b.take _++kY b:=(O? _ b).symm;have d:(b.take (64*blocks b)).length=64*blocks b:=by simp[blocks];omega
 have H:tail b n=b.take (64*blocks b)++tail (kY b) n:=by
  have :ij (kY b).length=ij b.length:=by rw[xn,aki]
  simp[tail,pA,gB,this];conv=>lhs;rw[h]
  simp only[X!,J!];rw[<-J!,<-h]
 have hk:blocks (tail b n)=blocks b+blocks (tail (kY b) n):=by
  rw[H];simp[blocks,J!] at *;omega
 simp[cb];rw[hk,H,PE H0 _ _ _ d,<-Ka H0 (b.take _) _ _ w!,<-h]
theorem auP(s:H8)(x:Nat)(h:x<8):oQ s x++[UInt8.ofNat (Int.toNat (List.getD (fb s) (Int.toNat (x:Int)) 0/2^Int.toNat 24%256)),UInt8.ofNat (Int.toNat (List.getD (fb s) (Int.toNat (x:Int)) 0/2^Int.toNat 16%256)),
 UInt8.ofNat (Int.toNat (List.getD (fb s) (Int.toNat (x:Int)) 0/2^Int.toNat 8%256)),UInt8.ofNat (Int.toNat (List.getD (fb s) (Int.toNat (x:Int)) 0%256))]=oQ s (x+1):=PC s x h
theorem auQ(s:H8)(b:B8)(n:Nat):block ((proc s b n).1,(proc s b n).2.1,(proc s b n).2.2.1,(proc s b n).2.2.2.1,(proc s b n).2.2.2.2.1,(proc s b n).2.2.2.2.2.1,(proc s b n).2.2.2.2.2.2.1,(proc s b n).2.2.2.2.2.2.2) (List.take (Int.toNat 64) (ka b n))=proc s b (n+1):=rfl
def rD:Nat->Nat->B8
 |0,_=>[]
 |f+1,v=>if v<128 then [UInt8.ofNat v] else UInt8.ofNat (v%128+128)::rD f (v/128)
def num(v:Int):B8:=rD 9 v.toNat
def text(s:B8):B8:=num s.length++s
def gi(v:Int):Bool:=decide (v<0) || decide (4611686018427387904<v)
def mq(b:B8)(v:Int):B8:=if gi v then [] else b++num v
def yW(v:Int):Int:=if gi v then 1 else 0
def uy(l:B8)(v:Int)(m:B8)(u:Int):Prop:=0<=u/\u<=v/\m++num u=l++num v
def IA(l:B8)(v:Int):Prop:=0<=v/\l.length<=70368744177664
def oR(l s:B8):Prop:=l.length<=35184372088832/\s.length<=35184372088832
def lead(b:B8):Nat:=(b.takeWhile λx=>decide (128<=x.toNat)).length
def ajP:B8->Nat
 |[]=>0
 |x::l=>x.toNat%128+128*ajP l
def first(b:B8):Int×Int×Int:=
 if 9<=lead b then(0,0,2)
 else if lead b=b.length then(0,0,4)
 else if ajP (b.take (lead b+1))>4611686018427387904\/num (ajP (b.take (lead b+1)))≠b.take (lead b+1) then(0,0,2)
 else(ajP (b.take (lead b+1)),lead b+1,0)
def aL(b:B8)(g:Int):B8×Int×Int:=
 if(first b).2.2≠0 then([],0,(first b).2.2)
 else if(first b).1>g then([],0,2)
 else if(first b).1>b.length-(first b).2.1 then([],0,4)
 else((b.drop (first b).2.1.toNat).take (first b).1.toNat,(first b).2.1+(first b).1,0)
def dK(b:B8)(a:Int):Prop:=0<=a/\a<=b.length
def TU(a:Int)(x:Int×Int×Int):Int×Int×Int:=(x.1,if x.2.2=0 then a+x.2.1 else 0,x.2.2)
def aQ(b:B8)(a:Int):Int×Int×Int:=TU a (first (b.drop a.toNat))
def akd(b:B8)(p g:Int):B8×Int×Int:=
 if(aQ b p).2.2≠0 then([],0,(aQ b p).2.2)
 else if g<(aQ b p).1 then([],0,2)
 else if(b.length:Int)-(aQ b p).2.1<(aQ b p).1 then([],0,4)
 else((b.take ((aQ b p).2.1+(aQ b p).1).toNat).drop (aQ b p).2.1.toNat,(aQ b p).2.1+(aQ b p).1,0)
def inside(b:B8)(a:Int):Bool:=decide (0<=a)&&decide (a<=b.length)
def bV(b:B8)(a e:Int):Int:=if e=0/\inside b a=false then 1 else e
abbrev Rd:=B8×Int×Int
def ao(b:B8)(a e g:Int):Rd×B8:=
 if bV b a e≠0 then((b,a,bV b a e),[])
 else if(akd b a g).2.2≠0 then((b,a,(akd b a g).2.2),[])
 else((b,(akd b a g).2.1,0),(akd b a g).1)
def ag(b:B8)(a e:Int):Rd×Int:=
 if bV b a e≠0 then((b,a,bV b a e),0)
 else if(aQ b a).2.2≠0 then((b,a,(aQ b a).2.2),0)
 else((b,(aQ b a).2.1,0),(aQ b a).1)
def aF(b:B8)(a e:Int):Rd×B8:=
 if bV b a e≠0 then((b,a,bV b a e),[])
 else if(b.length:Int)-a<32 then((b,a,4),[])
 else((b,a+32,0),(b.drop a.toNat).take 32)
def done(b:B8)(a e:Int):Int:=if e≠0 then e else if inside b a=false then 1 else if a<b.length then 2 else 0
def ke(b:B8)(a:Int)(n:Nat):Prop:=n<=9/\a+n<=b.length/\∀x∈(b.drop a.toNat).take n,128<=x.toNat
def gP(b:B8)(a:Int)(n:Nat):Int:=(ajP ((b.drop a.toNat).take n):Int)
def IB(b:B8)(n:Nat):Prop:=n<=9/\n<=b.length/\∀x∈b.take n,128<=x.toNat
theorem Kb:∀(f v:Nat),(rD f v).length<=f
 |0,_=>by simp[rD]
 |f+1,v=>by
  have:=Kb f (v/128);simp[rD];split<;>simp<;>omega
theorem cU(v:Int):(num v).length<=9:=Kb 9 _
theorem PG:∀(f g v:Nat),v<128^f->1<=f->f<=g->rD g v=rD f v
 |0,g,v,_,h,_=>by omega
 |f+1,0,v,_,_,h=>by omega
 |f+1,g+1,v,h,_,d=>by
  simp[rD];split;rfl;by_cases H:f=0;subst H;omega;rw[PG f g _ w! w! w!]
theorem IC(v:Int)(h:v<128):num v=[UInt8.ofNat v.toNat]:=by
 simp_all[num,rD,Q!]
theorem aeJ(v:Int)(h:128<=v)(H:v<=9223372036854775807):num v=UInt8.ofNat (v%128+128).toNat::num (v/128):=by
 simp[num];rw[rD,if_neg w!];grind[PG]
theorem Mb:∀(l:B8) (h:l≠ []),ajP l=0->(l.getLast h).toNat<128->(l.getLast h).toNat=0
 |[x],_,h,hx=>by grind[ajP]
 |x::y::l,_,h,hx=>by
  simp[ajP] at h;exact Mb (y::l) _ (by simp[ajP];omega) hx
theorem TV:∀(f:Nat) (l:B8) (h:l≠ []),l.length<=f->(∀x∈l.dropLast,128<=x.toNat)->(l.getLast h).toNat<128->(rD f (ajP l)=l↔(l.length=1\/(l.getLast h).toNat≠0))
 |0,l,h,H,_,_=>by
  grind
 |f+1,[x],_,_,_,hx=>by
  have k:ajP [x]=x.toNat:=by grind[ajP]
  simp_all[rD,Q!]
 |f+1,x::y::l,_,H,hd,hx=>by
  have S:=hd x z!;have o:=x.toNat_lt;have i:=TV f (y::l) _ x! (λz q=>hd z x!) hx;have e:ajP (x::y::l)=x.toNat%128+128*ajP _:=rfl;rw[rD,e];by_cases r:ajP (y::l)=0;grind[Mb];have E:(x.toNat%128+128*ajP (y::l))%128+128=x.toNat:=by omega
  have d:(x.toNat%128+128*ajP (y::l))/128=ajP (y::l):=by omega
  rw[E,d,UInt8.ofNat_toNat];grind[ajP]
theorem Kc:∀(l:B8),ajP l<128^l.length
 |[]=>by simp[ajP]
 |x::l=>by
  have:=Kc l;simp[ajP,M?,v?];omega
theorem Ff:∀(l m:B8),ajP (l++m)=ajP l+128^l.length*ajP m
 |[],m=>by simp[ajP]
 |x::l,m=>by
  simp[List.cons_append,ajP,Ff l m,List.length_cons,Nat.pow_succ];grind
theorem Zn(b:B8)(n:Nat)(h:∀x∈b.take n,128<=x.toNat)(H:n<=b.length)(d:n=b.length\/(b.getD n 0).toNat<128):lead b=n:=by
 induction b generalizing n with
 |nil=>simp at H;subst H;rfl
 |cons x b i=>
  cases n with
  |zero=>
   simp_all[List.getD_cons_zero,lead,List.takeWhile_cons,R!]
  |succ n=>
   have:=i n (λy k=>h y (by simp[k])) (by simpa using H) (by simpa using d);simp[lead,List.takeWhile_cons] at this |-;rw[Q! (by simpa using(h x z!)),M?,this]
theorem aoE(b:B8)(n:Nat)(h:∀x∈b.take n,128<=x.toNat)(H:n<=b.length):n<=lead b:=by
 induction b generalizing n with
 |nil=>grind
 |cons x b i=>
  cases n with
  |zero=>omega
  |succ n=>
   simp_all[lead,List.takeWhile_cons,Q!,M?]
theorem ő(b:B8)(n:Nat)(H:n<b.length):∃h,(b.take (n+1)).getLast h=b.getD n 0:=by
 refine⟨by intro h;simp_all,?_⟩;grind
theorem TW(b:B8)(n:Nat)(h:∀x∈b.take n,128<=x.toNat)(d:n<b.length)(o:n<9)(k:(b.getD n 0).toNat<128):
  first b=if((1<=n/\(b.getD n 0).toNat=0)\/ajP (b.take (n+1))>4611686018427387904) then(0,0,2) else((ajP (b.take (n+1)):Int),(n:Int)+1,0):=by
 obtain⟨D,q⟩:=ő b n d;have H:(b.take (n+1)).length=n+1:=by grind
 have r:=TV 9 (b.take (n+1)) D w! (by
  grind[List.dropLast_eq_take]) x!
 simp[first,(Zn b n h w! (.inr k)),num,Int.toNat_natCast];grind
theorem aoF(b:B8)(h:∀x∈b.take 9,128<=x.toNat)(H:9<=b.length):first b=(0,0,2):=by
 simp_all[aoE,first,Q!]
theorem Œ(b:B8)(n:Nat)(h:∀x∈b.take n,128<=x.toNat)(H:n=b.length)(d:n<9):first b=(0,0,4):=by
 have:=Zn b n h w! (.inl H);simp_all[first,R!,Q!]
theorem nX(b:B8):0<=(first b).1/\(first b).1<=4611686018427387904/\0<=(first b).2.1/\(first b).2.1<=b.length/\((first b).2.2=0\/(first b).2.2=2\/(first b).2.2=4):=by
 have h:=SK (λx:UInt8=>decide (128<=x.toNat)) b;unfold first
 split;simp;split;simp;split;simp;simp[lead,not_or,Nat.not_lt] at *;grind
theorem akm(h:IB b x)(h1:x<b.length)(d:x<9)(k:128<=(b.getD x 0).toNat):IB b (x+1):=by
 refine⟨w!,w!,λy H=>?_⟩;rw[an b x 0 h1] at H;rcases List.mem_append.1 H with H|H;exact h.2.2 y H;grind
theorem aGm(h:IB b 9):first b=(0,0,2):=aoF b h.2.2 h.2.1
theorem aoG(h:IB b x)(H:x=b.length)(d:x≠9):first b=(0,0,4):=Œ b x h.2.2 H (by have:=h.1;omega)
theorem aM2(h:dK b p):ke b p 0:=by grind[dK,ke]
theorem hU(h:ke b p x):x<=9/\p+x<=b.length:=⟨h.1,h.2.1⟩
theorem TX(b:B8)(p:Int)(x:Nat)(h:0<=p):(b.drop p.toNat).getD x 0=b.getD (p+x).toNat 0:=by
 grind
theorem PH(H:dK b p)(h:ke b p x):IB (b.drop p.toNat) x:=by
 simp[dK] at H;exact⟨h.1,by rw[N?];have:=h.2.1;omega,h.2.2⟩
theorem akn(H:dK b p)(h:ke b p x)(d:p+x<b.length)(k:x≠9)(o:128<=(b.getD (p+x).toNat 0).toNat):ke b p (x+1):=by
 simp[dK] at H;have:=akm (PH H h) x! (by have:=h.1;omega) x!;exact⟨this.1,w!,this.2.2⟩
theorem aoH(H:dK b p)(h:ke b p 9):aQ b p=(0,0,2):=by
 grind[aQ,aGm,PH,TU]
theorem Zo{x:Nat}(H:dK b p)(h:ke b p x)(k:(x:Int)=b.length-p)(d:x≠9):aQ b p=(0,0,4):=by
 simp[dK] at H;have:=aoG (PH H h) x! d;grind[aQ,TU]
theorem aeK(H:dK b p)(h:ke b p x)(d:p+x<b.length):
  Vg.cv (gP b p x) (Vg.aT ((b.getD (p+x).toNat 0).toNat:Int) 127*2^(7*(x:Int)).toNat)=gP b p (x+1):=by
 have G:=H;simp[dK] at G;have hx:x<(b.drop p.toNat).length:=by grind
 rw[at3 _ w!,CD,gZ _ _ _ w! (by simp[gP])];simp[gP];rw[an _ x 0 hx,Ff,TX _ _ _ G.1,C?,Nat.min_eq_left w!];simp[ajP,show(7*(x:Int)).toNat=7*x by omega,Nat.mul_zero,Nat.add_zero];simp_all[Int.natCast_add,Int.natCast_mul,Int.natCast_pow,Int.natCast_emod,Int.pow_mul,Int.mul_comm,Int.add_comm]
 simp[gP,show(7*(x:Int)).toNat=7*x by omega];grind[Kc,Nat.pow_le_pow_right,List.length_take,Int.natCast_pow,Int.pow_mul]
theorem aM3(b:B8)(p:Int):gP b p 0=0:=by rfl
theorem auT(h:x<=9):0<=gP b p x/\gP b p x<=9223372036854775807:=by
 have:=Kc ((b.drop p.toNat).take x);have e:128^((b.drop p.toNat).take x).length<=128^9:=Nat.pow_le_pow_right w! x!;grind[gP]
theorem aeL(c:Int)(x:Nat)(h:0<=c)(H:c<=127)(k:x<=8):0<=c*2^(7*(x:Int)).toNat/\c*2^(7*(x:Int)).toNat<=9223372036854775807:=by
 have i:2^(7*(x:Int)).toNat<=2^56:=Nat.pow_le_pow_right w! w!;have e:2^(7*(x:Int)).toNat=((2^(7*(x:Int)).toNat:Nat):Int):=by simp
 have d:(2:Int)^(7*(x:Int)).toNat<=72057594037927936:=by omega
 have o:0<2^(7*(x:Int)).toNat:=by grind
 constructor;exact Int.mul_nonneg h w!;have:=Int.mul_le_mul H d w! w!;omega
theorem aoI(H:dK b p)(h:ke b p x)(d:p+x<b.length)(k:x≠9)(o:(b.getD (p+x).toNat 0).toNat<128):
  aQ b p=if((1<=x/\(b.getD (p+x).toNat 0).toNat=0)\/gP b p (x+1)>4611686018427387904) then(0,0,2) else(gP b p (x+1),p+(x+1),0):=by
 have G:=H;simp[dK] at G;have:=TW _ x h.2.2 x! (by have:=h.1;omega) x!;rw[TX _ _ _ G.1] at this;simp[aQ,this,gP];have e:(ajP ((b.drop p.toNat).take (x+1))>4611686018427387904)↔((ajP ((b.drop p.toNat).take (x+1)):Int)>4611686018427387904):=by omega
 simp[e];rw[apply_ite (TU p)];rfl
theorem aoJ(v:Int):1<=(num v).length:=by
 grind[num,rD]
theorem ID {l:B8}(h:uy l v m u):m.length+1<=l.length+9:=by
 have:=congrArg List.length h.2.2;grind[cU,aoJ,List.length_append]
theorem ako {l:B8}(h:uy l v m u)(H:127<u)(d:v<=9223372036854775807):
  uy l v (m++[UInt8.ofNat (Vg.cv (Vg.aT u 127%256) 128).toNat]) (u/2^(7:Int).toNat):=by
 have k:=h.2.1;have e:=aeJ u w! w!
 have E:Vg.cv (Vg.aT u 127%256) 128=u%128+128:=by
  grind[at3,Px]
 have o:=h.2.2;refine⟨x!,x!,?_⟩;grind
theorem aoK {l:B8}(h:uy l v m u)(H:¬127<u):m++[UInt8.ofNat (u%256).toNat]=l++num v:=by
 rw[<-h.2.2,(IC u w!)];have:=h.1;grind
theorem aeM {l:B8}(h:uy l v m u):0<=u:=h.1
theorem Zp {b:B8}{p:Int}{x:Nat}(H:dK b p)(h:ke b p x)(h1:p+x<b.length)(d:x≠9)(k:(b.getD (p+x).toNat 0).toNat<128)
  (o:(bif decide (1<(x:Int)+1) then bif decide (((b.getD (p+((x:Int)+1)-1).toNat 0).toNat:Int)=0) then true else decide (4611686018427387904<Vg.cv (gP b p x) (Vg.aT ((b.getD (p+x).toNat 0).toNat:Int) 127*2^(7*(x:Int)).toNat)) else decide (4611686018427387904<Vg.cv (gP b p x) (Vg.aT ((b.getD (p+x).toNat 0).toNat:Int) 127*2^(7*(x:Int)).toNat)))=c):
  aQ b p=if c=true then(0,0,2) else(Vg.cv (gP b p x) (Vg.aT ((b.getD (p+x).toNat 0).toNat:Int) 127*2^(7*(x:Int)).toNat),p+(x+1),0):=by
 rw[<-o,(aoI H h h1 d k)];rw[aeK H h h1,show p+(x+1)-1=p+x by omega];grind
theorem Kd {b:B8}{p:Int}{x:Nat}(H:dK b p)(h:ke b p x)(h1:p+x<b.length)(d:x≠9)(k:(b.getD (p+x).toNat 0).toNat<128)
  (o:(bif decide (1<(x:Int)+1) then bif decide (((b.getD (p+((x:Int)+1)-1).toNat 0).toNat:Int)=0) then true else decide (4611686018427387904<Vg.cv (gP b p x) (Vg.aT ((b.getD (p+x).toNat 0).toNat:Int) 127*2^(7*(x:Int)).toNat)) else decide (4611686018427387904<Vg.cv (gP b p x) (Vg.aT ((b.getD (p+x).toNat 0).toNat:Int) 127*2^(7*(x:Int)).toNat)))=true):
  0=(aQ b p).1/\0=(aQ b p).2.1/\2=(aQ b p).2.2:=by
 rw[Zp H h h1 d k o];grind
theorem Ke {b:B8}{p:Int}{x:Nat}(H:dK b p)(h:ke b p x)(h1:p+x<b.length)(d:x≠9)(k:(b.getD (p+x).toNat 0).toNat<128)
  (o:(bif decide (1<(x:Int)+1) then bif decide (((b.getD (p+((x:Int)+1)-1).toNat 0).toNat:Int)=0) then true else decide (4611686018427387904<Vg.cv (gP b p x) (Vg.aT ((b.getD (p+x).toNat 0).toNat:Int) 127*2^(7*(x:Int)).toNat)) else decide (4611686018427387904<Vg.cv (gP b p x) (Vg.aT ((b.getD (p+x).toNat 0).toNat:Int) 127*2^(7*(x:Int)).toNat)))=false):
  Vg.cv (gP b p x) (Vg.aT ((b.getD (p+x).toNat 0).toNat:Int) 127*2^(7*(x:Int)).toNat)=(aQ b p).1/\p+(x+1)=(aQ b p).2.1/\0=(aQ b p).2.2:=by
 rw[Zp H h h1 d k o];grind
theorem PJ(H:dK b p):0<=(aQ b p).1/\(aQ b p).1<=4611686018427387904/\0<=(aQ b p).2.1/\(aQ b p).2.1<=b.length/\((aQ b p).2.2=0\/(aQ b p).2.2=2\/(aQ b p).2.2=4):=by
 have h:=nX (b.drop p.toNat);grind[dK,List.length_drop,aQ,TU]
theorem akp(h:bV b a e=0):0<=a/\a<=b.length/\e=0:=by
 grind[bV,inside]
def gQ(k:UInt8)(parts:O):B8:=k::parts.flatten
def nY(K:UInt8)(parts:O)(k:Nat):B8:=gQ K (parts.take k)
def oS(parts:O):Prop:=parts.flatten.length<=35184372088832
def bB(k:Nat)(b:B8):B8:=UInt8.ofNat k::b
def kZ(k:Int)(b:B8):B8:=UInt8.ofNat (k%256).toNat::b
def l7(k:Nat)(b:B8):B8:=sum (bB k b)
def pB(k:Int)(b:B8):B8:=sum (kZ k b)
def leaf(b:B8):B8:=l7 0 b
def œ(l r:B8):B8:=l7 1 (l++r)
def Mc(l r:B8):Bool:=decide (l.length=32)&&decide (r.length=32)
def bz(l r:B8):B8:=if Mc l r then œ l r else []
def vT(l r:B8):Int:=if Mc l r then 0 else 1
def az(b:B8):Prop:=b.length<1099511627776
theorem TY(k:Nat)(b:B8):(l7 k b).length=32:=PD _
theorem akq(h:oS parts)(H:n<parts.length):(gQ 0 (parts.take n)).length+(parts.getD n []).length<=140737488355328:=by
 have d:(parts.take (n+1)).flatten.length<=parts.flatten.length:=by
  grind[List.take_append_drop,List.flatten_append,List.length_append]
 rw[an parts n [] H,List.flatten_append,List.length_append] at d;grind[oS,gQ,List.length_cons,List.flatten_cons,List.flatten_nil]
theorem Ŕ(k:UInt8)(h:oS parts)(H:n<parts.length):(gQ k (parts.take n)).length+(parts.getD n []).length<=140737488355328:=by
 have:=akq h H;grind[gQ]
theorem akr(k:UInt8)(p:O): [UInt8.ofNat (Int.toNat (k.toNat:Int))]=nY k p 0:=by simp[nY,gQ]
theorem Wf(k:UInt8)(p:O)(x:Nat)(h:x<p.length):nY k p x++List.getD p (Int.toNat (x:Int)) []=nY k p (x+1):=by
 grind[nY,gQ,Int.toNat_natCast,an,List.flatten_append]
theorem Zq(k:UInt8)(p:O)(x:Nat)(h:¬x<p.length):nY k p x=gQ k p:=by
 grind[nY,List.take_of_length_le,Nat.not_lt]
def cA(c:Int):Bool:=decide (0<=c)&&(decide (c<=1114111)&&(decide (c<55296) || decide (57343<c)))
def akc(c:Int):Int:=if c<128 then 1 else if c<2048 then 2 else if c<65536 then 3 else 4
def u8(c:Int):UInt8:=UInt8.ofNat c.toNat
def more(c:Int):UInt8:=u8 (128+c%64)
def enc(c:Int):B8:=if c<128 then [u8 c] else if c<2048 then [u8 (192+c/64),more c] else if c<65536 then [u8 (224+c/4096),more (c/64),more c]
 else [u8 (240+c/262144),more (c/4096),more (c/64),more c]
def im(c:Int):B8:=if cA c then enc c else []
def Bp(c:Int):Int:=if cA c then 0 else 1
def dL(b:B8):Int:=((b.getD 0 0).toNat:Int)
def uN(b:B8):Nat:=if dL b<128 then 1 else if dL b/32=6 then 2 else if dL b/16=14 then 3 else if dL b/8=30 then 4 else 0
def uC(b:B8):Int:=if dL b/32=6 then dL b%32 else if dL b/16=14 then dL b%16 else dL b%8
def bW(b:B8):Nat->Int
 |0=>uC b
 |k+1=>bW b k*64+((b.getD (k+1) 0).toNat:Int)%64
def yh(b:B8)(n:Nat):Bool:=((b.drop 1).take (n-1)).all λx=>x.toNat/64==2
def bh(b:B8):Int×Int:=
 if uN b=1 then(dL b,1)
 else if uN b=0\/b.length<uN b\/yh b (uN b)=false\/cA (bW b (uN b-1))=false\/akc (bW b (uN b-1))≠uN b then(65533,1)
 else(bW b (uN b-1),uN b)
def Bq:Nat->B8->U
 |0,_=>[]
 |f+1,b=>if b.isEmpty then [] else(bh b).1::Bq f (b.drop (bh b).2.toNat)
def decode(b:B8):U:=Bq b.length b
def qJ:M (Int×Int):=[(65,90),(97,122),(192,214),(216,246),(248,255),(913,929),(931,937),(945,969),(1024,1119)]
def nZ:M (Int×Int×Int):=[(65,90,32),(192,214,32),(216,222,32),(913,929,32),(931,937,32),(1024,1039,80),(1040,1071,32)]
def pd(c:Int)(s:Int×Int):Bool:=decide (s.1<=c)&&decide (c<=s.2)
def letter(c:Int):Bool:=qJ.any (pd c)
def digit(c:Int):Bool:=decide (48<=c)&&decide (c<=57)
def aX(c:Int):Int:=match nZ.find? (λs=>pd c (s.1,s.2.1)) with
 |some s=>c+s.2.2
 |none=>c
def pX(c:Int)(k:Nat):Prop:=k<=9/\∀s∈qJ.take k,pd c s=false
def qK(c:Int)(k:Nat):Prop:=k<=7/\∀s∈nZ.take k,pd c (s.1,s.2.1)=false
def pY(b:B8)(k:Nat):Prop:=(2<=uN b/\k+1<=uN b/\uN b<=b.length)/\∀x∈(b.drop 1).take k,x.toNat/64=2
def an9(b r:B8)(l:U):Prop:=l++decode r=decode b/\r.length+l.length<=b.length
theorem cx(b:B8)(m:Int)(H:1<=m)(h:m<=b.length):(List.drop (Int.toNat 1) (List.take (Int.toNat m) b)).length=m.toNat-1:=by
 grind
theorem mr(b:B8)(m:Int)(x:Nat)(h:(x:Int)+1<m):List.getD (List.drop (Int.toNat 1) (List.take (Int.toNat m) b)) (Int.toNat (x:Int)) 0=b.getD (x+1) 0:=by
 grind
theorem n0(b:B8)(m:Int)(x:Nat)(h:(x:Int)+1<m):List.getD (List.drop (Int.toNat 1) (List.take (Int.toNat m) b)) x 0=b.getD (x+1) 0:=by simp_all
theorem vU(h:¬((b.getD (Int.toNat 0) 0).toNat:Int)<128)(H:((b.getD (Int.toNat 0) 0).toNat:Int)/2^Int.toNat 5=6):uN b=2:=by
 have e:((b.getD _ 0).toNat)=dL b:=rfl;grind[Int.toNat,uN]
theorem xo(h:¬((b.getD (Int.toNat 0) 0).toNat:Int)<128)(H:¬((b.getD (Int.toNat 0) 0).toNat:Int)/2^Int.toNat 5=6)(d:((b.getD (Int.toNat 0) 0).toNat:Int)/2^Int.toNat 4=14):uN b=3:=by
 have e:((b.getD _ 0).toNat)=dL b:=rfl;grind[Int.toNat,uN]
theorem xp(h:¬((b.getD (Int.toNat 0) 0).toNat:Int)<128)(H:¬((b.getD (Int.toNat 0) 0).toNat:Int)/2^Int.toNat 5=6)(d:¬((b.getD (Int.toNat 0) 0).toNat:Int)/2^Int.toNat 4=14)
  (k:((b.getD (Int.toNat 0) 0).toNat:Int)/2^Int.toNat 3=30):uN b=4:=by
 have e:((b.getD _ 0).toNat)=dL b:=rfl;grind[Int.toNat,uN]
theorem uf1(h:((b.getD (Int.toNat 0) 0).toNat:Int)<128):bh b=(((b.getD (Int.toNat 0) 0).toNat:Int),1):=by
 have H:uN b=1:=by
  exact Q! h
 simp[bh,H,Q?];rfl
theorem uf0(h:¬((b.getD (Int.toNat 0) 0).toNat:Int)<128)(H:¬((b.getD (Int.toNat 0) 0).toNat:Int)/2^Int.toNat 5=6)(d:¬((b.getD (Int.toNat 0) 0).toNat:Int)/2^Int.toNat 4=14)
  (k:¬((b.getD (Int.toNat 0) 0).toNat:Int)/2^Int.toNat 3=30):bh b=(65533,1):=by
 have o:uN b=0:=by
  have e:((b.getD _ 0).toNat)=dL b:=rfl;grind[Int.toNat,uN]
 grind[bh]
theorem Wg(H:uN b=n)(d:2<=n)(h:b.length<n\/yh b n=false\/cA (bW b (n-1))=false\/akc (bW b (n-1))≠n):bh b=(65533,1):=by
 grind[bh]
theorem uW(H:uN b=n)(d:2<=n)(h:(b.length:Int)<n):bh b=(65533,1):=Wg H d (.inl w!)
theorem ŕ(H:uN b=n)(d:2<=n)(h:¬(b.length:Int)<n):pY b 0:=⟨w!,z!⟩
theorem aM4(h:((b.getD (Int.toNat 0) 0).toNat:Int)/2^Int.toNat 5=6):Vg.aT ((b.getD (Int.toNat 0) 0).toNat:Int) 31=bW b 0:=by
 rw[Gl _ w!];have e:((b.getD _ 0).toNat)=dL b:=rfl;grind[Int.toNat,bW,uC]
theorem aM5(h:¬((b.getD (Int.toNat 0) 0).toNat:Int)/2^Int.toNat 5=6)(H:((b.getD (Int.toNat 0) 0).toNat:Int)/2^Int.toNat 4=14):Vg.aT ((b.getD (Int.toNat 0) 0).toNat:Int) 15=bW b 0:=by
 rw[ō _ w!];have e:((b.getD _ 0).toNat)=dL b:=rfl;grind[Int.toNat,bW,uC]
theorem aM6(h:¬((b.getD (Int.toNat 0) 0).toNat:Int)/2^Int.toNat 5=6)(H:¬((b.getD (Int.toNat 0) 0).toNat:Int)/2^Int.toNat 4=14):Vg.aT ((b.getD (Int.toNat 0) 0).toNat:Int) 7=bW b 0:=by
 rw[ake _ w!];have e:((b.getD _ 0).toNat)=dL b:=rfl;grind[Int.toNat,bW,uC]
theorem Zr(b:B8):∀k,k<=4->0<=bW b k/\bW b k*64^(4-k)<=536870911
 |0,_=>by grind[bW,uC]
 |k+1,h=>by
  have i:=Zr b k w!;simp[bW];have :k=0\/k=1\/k=2\/k=3:=by omega
  grind
theorem bP(h:pY b x):x<=3/\0<=bW b x/\bW b x<=536870911/\2<=uN b/\uN b<=4/\x+1<=uN b/\uN b<=b.length:=by
 have H:uN b<=4:=by grind[uN]
 have d:x<=3:=by have:=h.1;omega
 have:=Zr b x w!
 have k:(1:Int)<=64^(4-x):=by
  have :x=0\/x=1\/x=2\/x=3:=by omega
  grind
 have o:=Int.mul_le_mul_of_nonneg_left k this.1;exact⟨d,this.1,w!,h.1.1,H,h.1.2.1,h.1.2.2⟩
theorem Ŗ(H:1<=x)(h:x<b.length)(m:Nat)(d:x<=m):b.getD x 0∈(b.drop 1).take m:=by
 have i:x-1<((b.drop 1).take m).length:=by grind
 have :((b.drop 1).take m)[x-1]=b.getD x 0:=by
  grind
 grind
theorem yX(H:uN b=n)(h:pY b x)(d:x+1<n)(k:¬((b.getD (x+1) 0).toNat:Int)/2^Int.toNat 6=2):bh b=(65533,1):=by
 have f:=bP h;grind[Wg,yh,List.all_eq_true,Ŗ]
theorem Wh(h:pY b x)(k:((b.getD (x+1) 0).toNat:Int)/2^Int.toNat 6=2)(o:x+1<uN b):pY b (x+1):=by
 refine⟨by have:=h.1;omega,λy H=>?_⟩;have f:=bP h;have d:x<(b.drop 1).length:=by grind
 rw[an _ x 0 d] at H;rcases List.mem_append.1 H with H|H;exact h.2 y H;grind
theorem ŗ(h:pY b x)(H:x+1<uN b):Vg.cv (bW b x*2^Int.toNat 6) (Vg.aT ((b.getD (x+1) 0).toNat:Int) 63)=bW b (x+1):=by
 have:=bP h;rw[Pw _ w!,show Int.toNat 6=6 by rfl,gZ _ _ 6 this.2.1 w! w!];rfl
theorem Zs(h:pY b x)(hx:x+1=uN b):yh b (uN b)=true:=by
 simp only[yh,V!,<-hx,Nat.add_sub_cancel];intro y H;simpa using h.2 y H
theorem auU(H:uN b=n)(h:pY b x)(d:x+1=n)(k:(bif !cA (bW b x) then true else !decide (akc (bW b x)=(n:Int)))=c):bh b=if c=true then(65533,1) else(bW b x,(n:Int)):=by
 have o:=bP h;grind[Zs,bh,Nat.add_sub_cancel]
theorem auV(c:Int):Vg.cv (c%64) 128=((more c).toNat:Int):=by
 grind[Px,more,u8,UInt8.toNat_ofNat']
variable {c:Int}{m s:List B8}
theorem eV(h:cA c=true):0<=c/\c<=1114111:=by
 simp_all[cA,B!,H!]
theorem Ř(x:UInt8):UInt8.ofNat (Int.toNat (x.toNat:Int))=x:=by simp
theorem aeN(c:Int)(H:0<=c)(h:c<128): [UInt8.ofNat (Int.toNat (c%256))]=enc c:=by
 simp[enc,Q! h,u8,show c%256=c by omega]
theorem auW(d:Int)(H:0<=d)(h:d<32):Vg.cv 192 d=192+d:=by
 rw[show(192:Int)=6*2^5 by rfl,gZ 6 d 5 w! H h]
theorem auX(d:Int)(H:0<=d)(h:d<16):Vg.cv 224 d=224+d:=by
 rw[show(224:Int)=14*2^4 by rfl,gZ 14 d 4 w! H h]
theorem auY(d:Int)(H:0<=d)(h:d<8):Vg.cv 240 d=240+d:=by
 rw[show(240:Int)=30*2^3 by rfl,gZ 30 d 3 w! H h]
theorem auZ(c:Int)(H:0<=c)(h:128<=c/\c<2048): [UInt8.ofNat (Int.toNat (Vg.cv 192 (c/2^Int.toNat 6%256))),UInt8.ofNat (Int.toNat ((more c).toNat:Int))]=enc c:=by
 simp[enc,if_neg _,if_pos h.2,Ř,u8,show Int.toNat 6=6 by rfl];grind[auW]
theorem au0(c:Int)(H:0<=c)(h:2048<=c/\c<65536): [UInt8.ofNat (Int.toNat (Vg.cv 224 (c/2^Int.toNat 12%256))),UInt8.ofNat (Int.toNat ((more (c/2^Int.toNat 6)).toNat:Int)),UInt8.ofNat (Int.toNat ((more c).toNat:Int))]=enc c:=by
 simp[enc,if_neg _,if_neg _,if_pos h.2,Ř,u8,show Int.toNat 6=6 by rfl,show Int.toNat 12=12 by rfl];grind[auX]
theorem au1(c:Int)(H:0<=c)(d:c<=1114111)(h:65536<=c): [UInt8.ofNat (Int.toNat (Vg.cv 240 (c/2^Int.toNat 18%256))),UInt8.ofNat (Int.toNat ((more (c/2^Int.toNat 12)).toNat:Int)),UInt8.ofNat (Int.toNat ((more (c/2^Int.toNat 6)).toNat:Int)),UInt8.ofNat (Int.toNat ((more c).toNat:Int))]=enc c:=by
 simp[enc,if_neg _,if_neg _,if_neg _,Ř,u8,show Int.toNat 6=6 by rfl,show Int.toNat 12=12 by rfl,show Int.toNat 18=18 by rfl];grind[auY]
theorem rW(b:B8)(h:0<b.length):1<=(bh b).2/\(bh b).2<=b.length/\0<=(bh b).1/\(bh b).1<=1114111:=by
 unfold bh;split;have:=(b.getD 0 0).toNat_lt;grind[dL];split;omega;rename_i d H;simp at H;have:=eV H.2.2.2.1;omega
theorem IE:∀(f g:Nat) (b:B8),b.length<=f->b.length<=g->Bq f b=Bq g b
 |0,0,b,_,_=>rfl
 |0,g+1,b,h,_=>by
  grind[List.eq_nil_of_length_eq_zero,Bq]
 |f+1,0,b,_,h=>by
  grind[List.eq_nil_of_length_eq_zero,Bq]
 |f+1,g+1,b,h1,d=>by
  simp only[Bq];cases k:b.isEmpty with
  |true=>rfl
  |false=>
   have H:0<b.length:=by
    grind
   have:=rW b H;rw[IE f g _ (by rw[N?];omega) (by rw[N?];omega)]
theorem Zt:decode []=[]:=rfl
theorem Ao(b:B8)(h:0<b.length):decode b=(bh b).1::decode (b.drop (bh b).2.toNat):=by
 have d:=rW b h;unfold decode;have⟨n,H⟩:∃n,b.length=n+1:=by simp_all
 rw[H];simp only[Bq];have :b.isEmpty=false:=by grind
 rw[this];simp only[Bool.false_eq_true,if_false];rw[IE n _ _ x! (Nat.le_refl _)]
theorem aGn(b:B8):an9 b b []:=⟨rfl,z!⟩
theorem Wi {r:B8}(h:an9 b r l)(H:0<(r.length:Int)):1<=(bh r).2/\(bh r).2<=r.length/\r.length+l.length<=b.length:=by
 have:=rW r w!;exact⟨this.1,this.2.1,h.2⟩
theorem TZ {r:B8}(h:an9 b r l)(H:0<(r.length:Int)):an9 b (r.drop (bh r).2.toNat) (l++[(bh r).1]):=by
 have d:=rW r w!;refine⟨?_,?_⟩;rw[List.append_assoc,List.singleton_append,<-Ao r w!];exact h.1;have:=h.2;grind
theorem Zu {r:B8}(h:an9 b r l)(H:¬0<(r.length:Int)):l=decode b:=by
 have :r=[]:=by simp_all
 have:=h.1;grind[Zt]
theorem pZ(b:B8):(decode b).length<=b.length:=by
 have :∀f (c:B8),(Bq f c).length<=f:=by
  intro f;induction f<;>grind[Bq,bh]
 exact this _ _
theorem vV(a b:Bool):(bif a then b else false)=(a&&b):=by grind
theorem nine {x:Nat}(h:(x:Int)<9):x=0\/x=1\/x=2\/x=3\/x=4\/x=5\/x=6\/x=7\/x=8:=by omega
theorem PK{x:Nat}(h:(x:Int)<9):(bif decide (List.getD [65,97,192,216,248,913,931,945,1024] (Int.toNat (x:Int)) 0<=c) then decide (c<=List.getD [90,122,214,246,255,929,937,969,1119] (Int.toNat (x:Int)) 0) else false)=pd c (qJ.getD x (0,0)):=by
 rcases nine h with rfl|rfl|rfl|rfl|rfl|rfl|rfl|rfl|rfl<;>simp[pd,qJ,E?,List.getD_cons_zero,List.getD_cons_succ,vV]
theorem ř {c:Int}{x:Nat}(h:(x:Int)<9)(H:(bif decide (List.getD [65,97,192,216,248,913,931,945,1024] (Int.toNat (x:Int)) 0<=c) then decide (c<=List.getD [90,122,214,246,255,929,937,969,1119] (Int.toNat (x:Int)) 0) else false)=true):true=letter c:=by
 grind[PK,letter,List.any_eq_true,aU,qJ,List.length_cons,List.length_nil]
theorem Ś {c:Int}{x:Nat}(d:pX c x)(h:(x:Int)<9)(k:(bif decide (List.getD [65,97,192,216,248,913,931,945,1024] (Int.toNat (x:Int)) 0<=c) then decide (c<=List.getD [90,122,214,246,255,929,937,969,1119] (Int.toNat (x:Int)) 0) else false)=false):pX c (x+1):=by
 rw[PK h] at k;refine⟨w!,λs H=>?_⟩;rw[an qJ x (0,0) (by grind[qJ,List.length_cons,List.length_nil])] at H;rcases List.mem_append.1 H with H|H;exact d.2 s H;grind
theorem ś{x:Nat}(H:pX c x)(h:¬(x:Int)<9):false=letter c:=by
 symm
 have d:x=9:=by have:=H.1;omega
 simp only[letter,List.any_eq_false];intro s k;have:=H.2 s (by simp_all[qJ]);grind
theorem seven {x:Nat}(h:(x:Int)<7):x=0\/x=1\/x=2\/x=3\/x=4\/x=5\/x=6:=by omega
theorem T0{x:Nat}(h:(x:Int)<7):(bif decide (List.getD [65,192,216,913,931,1024,1040] (Int.toNat (x:Int)) 0<=c) then decide (c<=List.getD [90,214,222,929,937,1039,1071] (Int.toNat (x:Int)) 0) else false)=pd c ((nZ.getD x (0,0,0)).1,(nZ.getD x (0,0,0)).2.1)/\
  List.getD ([32,32,32,32,32,80,32]:U) (Int.toNat (x:Int)) 0=(nZ.getD x (0,0,0)).2.2:=by
 rcases seven h with rfl|rfl|rfl|rfl|rfl|rfl|rfl<;>simp[pd,nZ,E?,List.getD_cons_zero,List.getD_cons_succ,vV,and_self]
theorem Md {α:Type}(p:α->Bool)(d:α):∀(l:M α) (x:Nat),x<l.length->(∀s∈l.take x,p s=false)->p (l.getD x d)=true->l.find? p=some (l.getD x d)
 |[],x,h,_,_=>by grind
 |a::l,0,_,_,h=>by grind
 |a::l,x+1,hx,h1,h=>by
  rw[List.find?_cons,(h1 a z!)];exact Md p d l x (by simpa using hx) (λs H=>h1 s (by simp[H])) h
theorem T1 {c:Int}{x:Nat}(k:qK c x)(h:(x:Int)<7)(d:(bif decide (List.getD [65,192,216,913,931,1024,1040] (Int.toNat (x:Int)) 0<=c) then decide (c<=List.getD [90,214,222,929,937,1039,1071] (Int.toNat (x:Int)) 0) else false)=true):
  c+List.getD ([32,32,32,32,32,80,32]:U) (Int.toNat (x:Int)) 0=aX c/\(c<=1071/\65<=c/\List.getD ([32,32,32,32,32,80,32]:U) (Int.toNat (x:Int)) 0<=80/\0<=List.getD ([32,32,32,32,32,80,32]:U) (Int.toNat (x:Int)) 0):=by
 have H:=T0 (c:=c) h;refine⟨?_,?_⟩;rw[H.1] at d;rw[H.2];simp only[aX];rw[Md _ _ nZ x x! k.2 d];rcases seven h with rfl|rfl|rfl|rfl|rfl|rfl|rfl<;>simp[List.getD] at d |- <;>omega
theorem akt {c:Int}{x:Nat}(d:qK c x)(h:(x:Int)<7)(k:(bif decide (List.getD [65,192,216,913,931,1024,1040] (Int.toNat (x:Int)) 0<=c) then decide (c<=List.getD [90,214,222,929,937,1039,1071] (Int.toNat (x:Int)) 0) else false)=false):qK c (x+1):=by
 rw[(T0 h).1] at k;refine⟨w!,λs H=>?_⟩;rw[an nZ x (0,0,0) (by grind[nZ,List.length_cons,List.length_nil])] at H;rcases List.mem_append.1 H with H|H;exact d.2 s H;grind
theorem aku{x:Nat}(H:qK c x)(h:¬(x:Int)<7):c=aX c:=by
 have d:x=7:=by have:=H.1;omega
 simp[aX];rw[List.find?_eq_none.2 (λs k=>by rw[H.2 s (by simp_all[nZ])];simp)]
theorem yY {b:B8}{n x:Nat}{m:Int}(H:uN b=n)(h:pY b x)(d:x+1=n)(k:cA (bW b x)=false\/¬akc (bW b x)=m)(o:(n:Int)=m):bh b=(65533,1):=by
 have q:=bP h;grind[Wg]
theorem yZ {b:B8}{n x:Nat}{m:Int}(H:uN b=n)(h:pY b x)(d:x+1=n)(k:cA (bW b x)=true/\akc (bW b x)=m)(o:(n:Int)=m):bh b=(bW b x,m):=by
 have:=auU (c:=false) H h d x!;grind
theorem Ŝ {A B:Prop}[Decidable A][Decidable B](h:A/\B):(bif decide A then decide B else false)=true:=by grind
theorem aoL {A B:Prop}[Decidable A][Decidable B](h:¬A\/¬B):(bif decide A then decide B else false)=false:=by
 grind
def pe(c:Int):Bool:=(decide (0<=c)&&decide (c<55296)) || (decide (57343<c)&&decide (c<1114112))
def dM(c a b:Int):Bool:=decide (a<=c)&&decide (c<=b)
def aeO(n:Int):Int:=[0,0,192,224,240].getD n.toNat 0
def p0(b:B8)(n:Int):Nat->Int
 |0=>dL b-aeO n
 |k+1=>p0 b n k*64+((b.getD (k+1) 0).toNat:Int)-128
def cg(b:B8)(n:Int):Int:=if(b.length:Int)<n then -1 else p0 b n (n.toNat-1)
def sW(b:B8)(k:Nat):Bool:=pe (cg b k)&&decide (enc (cg b k)=b.take k)
def iq(b:B8):Nat->Int×Int
 |0=>(65533,1)
 |k+1=>if sW b (k+1) then(cg b (k+1:Nat),((k+1:Nat):Int)) else iq b k
theorem PL(c:Int):pe c=cA c:=by
 grind[pe,cA]
theorem Kf(h:0<=c)(H:c<256):u8 c=y↔c=(y.toNat:Int):=by
 constructor;grind[u8,UInt8.toNat_ofNat'];simp_all[u8]
theorem PM:more c=y↔128+c%64=(y.toNat:Int):=Kf w! w!
theorem aGo(h:0<=c)(H:c<=1114111):enc c=[y0]↔c<128/\c=(y0.toNat:Int):=by
 unfold enc;split;simp[List.cons.injEq,and_true,Kf h w!, *,true_and];grind
theorem aGp(h:0<=c)(H:c<=1114111):enc c=[y0,y1]↔128<=c/\c<2048/\192+c/64=(y0.toNat:Int)/\128+c%64=(y1.toNat:Int):=by
 unfold enc;split;grind;split;simp[List.cons.injEq,and_true,Kf (c:=192+c/64) w! w!,PM];omega;grind
theorem aGq{y:UInt8}(h:0<=c)(H:c<=1114111):enc c=[y0,y1,y]↔2048<=c/\c<65536/\224+c/4096=(y0.toNat:Int)/\128+c/64%64=(y1.toNat:Int)/\128+c%64=(y.toNat:Int):=by
 unfold enc;split;grind;split;grind;split;simp[List.cons.injEq,and_true,Kf (c:=224+c/4096) w! w!,PM];omega;grind
theorem aGr{y Y:UInt8}(h:0<=c)(H:c<=1114111):enc c=[y0,y1,y,Y]↔65536<=c/\240+c/262144=(y0.toNat:Int)/\128+c/4096%64=(y1.toNat:Int)/\128+c/64%64=(y.toNat:Int)/\128+c%64=(Y.toNat:Int):=by
 unfold enc;split;grind;split;grind;split;grind;simp[List.cons.injEq,and_true,Kf (c:=240+c/262144) w! w!,PM];omega
def lD(b:B8)(k:Nat):Prop:=uN b=k/\k<=b.length/\(k=1\/(yh b k=true/\cA (bW b (k-1))=true/\akc (bW b (k-1))=(k:Int)))
theorem y4(b:B8)(k:Nat):sW b k=true↔cA (cg b k)=true/\enc (cg b k)=b.take k:=by
 simp_all[sW,PL,B!,H!]
theorem ŝ{k:Nat}(h:b.length<k):sW b k=false:=by
 simp_all[cg,Q!,sW,pe]
theorem PN(b:B8):0<=dL b/\dL b<256:=by have:=(b.getD 0 0).toNat_lt;grind[dL]
theorem aoM(x:UInt8)(l:B8):(sW (x::l) 1=true↔lD (x::l) 1)/\cg (x::l) 1=dL (x::l):=by
 have h:cg (x::l) 1=dL (x::l):=by
  rfl
 refine⟨?_,h⟩;have H:=PN (x::l);rw[y4];show cA (cg _ 1)=true/\enc (cg _ 1)=[x]↔_;rw[h];have d:cA (dL (x::l))=true:=by grind[cA]
 rw[aGo H.1 w!,d];simp[lD,uN,true_or,and_true,List.length_cons,true_and];have :dL (x::l)=(x.toNat):=rfl;grind
theorem akv(b:B8):uN b=2↔dL b/32=6:=by grind[uN]
theorem akw(b:B8):uN b=3↔dL b/16=14:=by grind[uN]
theorem akx(b:B8):uN b=4↔dL b/8=30:=by grind[uN]
theorem aoN(c:Int):akc c=2↔128<=c/\c<2048:=by grind[akc]
theorem aoO(c:Int):akc c=3↔2048<=c/\c<65536:=by grind[akc]
theorem aoP(c:Int):akc c=4↔65536<=c:=by grind[akc]
theorem p9(c:Int):cA c=true↔0<=c/\c<=1114111/\(c<55296\/57343<c):=by simp[cA]
theorem aGs(x X:UInt8)(l:B8):(sW (x::X::l) 2=true↔lD (x::X::l) 2)/\(lD (x::X::l) 2->cg (x::X::l) 2=bW (x::X::l) 1):=by
 have h:cg (x::X::l) 2=((x.toNat)-192)*64+X.toNat-128:=by
  rfl
 have H:dL (x::X::l)=(x.toNat):=rfl
 have d:dL (x::X::l)/32=6->bW (x::X::l) 1=(x.toNat)%32*64+(X.toNat)%64:=by
  simp_all[bW,uC,Q!]
 have k:lD (x::X::l) 2↔(dL (x::X::l)/32=6/\(X.toNat/64=2/\cA (bW (x::X::l) 1)=true/\akc (bW (x::X::l) 1)=2)):=by
  grind[lD,akv,yh]
 grind[y4,p9,aGp,aoN]
theorem aGt(x X d:UInt8)(l:B8):(sW (x::X::d::l) 3=true↔lD (x::X::d::l) 3)/\(lD (x::X::d::l) 3->cg (x::X::d::l) 3=bW (x::X::d::l) 2):=by
 have h:cg (x::X::d::l) 3=(((x.toNat)-224)*64+X.toNat-128)*64+d.toNat-128:=by
  rfl
 have H:dL (x::X::d::l)=(x.toNat):=rfl
 have k:dL (x::X::d::l)/16=14->bW (x::X::d::l) 2=((x.toNat)%16*64+(X.toNat)%64)*64+(d.toNat)%64:=by
  grind[bW,uC]
 have o:lD (x::X::d::l) 3↔(dL (x::X::d::l)/16=14/\((X.toNat/64=2/\d.toNat/64=2)/\cA (bW (x::X::d::l) 2)=true/\akc (bW (x::X::d::l) 2)=3)):=by
  grind[lD,akw,yh]
 grind[y4,p9,aGq,aoO]
theorem aGu(x X d h:UInt8)(l:B8):(sW (x::X::d::h::l) 4=true↔lD (x::X::d::h::l) 4)/\(lD (x::X::d::h::l) 4->cg (x::X::d::h::l) 4=bW (x::X::d::h::l) 3):=by
 have k:cg (x::X::d::h::l) 4=((((x.toNat)-240)*64+X.toNat-128)*64+d.toNat-128)*64+h.toNat-128:=by
  rfl
 have o:dL (x::X::d::h::l)=(x.toNat):=rfl
 have q:dL (x::X::d::h::l)/8=30->bW (x::X::d::h::l) 3=(((x.toNat)%8*64+(X.toNat:Int)%64)*64+(d.toNat:Int)%64)*64+(h.toNat:Int)%64:=by
  grind[bW,uC]
 have H:lD (x::X::d::h::l) 4↔(dL (x::X::d::h::l)/8=30/\((X.toNat/64=2/\d.toNat/64=2/\h.toNat/64=2)/\cA (bW (x::X::d::h::l) 3)=true/\akc (bW (x::X::d::h::l) 3)=4)):=by
  grind[lD,akx,yh]
 rw[H,y4];grind[p9,aGr,aoP]
theorem vW(b:B8)(k:Nat)(d:0<b.length)(o:1<=k)(q:k<=4):(sW b k=true↔lD b k)/\(lD b k->cg b k=bW b (k-1)\/(k=1/\cg b k=dL b)):=by
 by_cases H:b.length<k;rw[ŝ H];exact⟨⟨λh=>absurd h (by decide),λh=>absurd h.2.1 w!⟩,λh=>absurd h.2.1 w!⟩
 . have :k=1\/k=2\/k=3\/k=4:=by omega
   match b,this with
   |[],_=>grind
   |x::l,.inl h=>grind[aoM]
   |x::x1::l,.inr (.inl h)=>grind[aGs]
   |x::x1::x2::l,.inr (.inr (.inl h))=>grind[aGt]
   |x::x1::x2::x3::l,.inr (.inr (.inr h))=>grind[aGu]
   |[_],.inr (.inl h)|[_],.inr (.inr (.inl h))|[_,_],.inr (.inr (.inl h))=>grind
   |[_],.inr _=>grind
   |[_,_],.inr (.inr (.inr h))|[_,_,_],.inr (.inr (.inr h))=>grind
theorem Zv{k:Nat}(h:lD b k)(d:1<=k)(o:k<=4)(q:0<b.length):bh b=(cg b k,(k:Int)):=by
 have H:=(vW b k q d o).2 h;have⟨r,z,A⟩:=h;simp[bh,r];by_cases w:k=1;subst w;rcases H with H|H;obtain⟨x,l,rfl⟩:∃x l,b=x::l:=by cases b<;>grind
 rfl;grind;grind
theorem T2 {b:B8}(H:0<b.length)(n:Nat):∀k,k<=4->(∀j,j<=k->1<=j->¬lD b j)->iq b k=(65533,1)
 |0,_,_=>rfl
 |k+1,d,h=>by
  simp[iq]
  have :sW b (k+1)=false:=by
   cases o:sW b _ with
   |false=>rfl
   |true=>simp_all[absurd,vW,M!]
  rw[this];exact T2 H n k w! (λj q=>h j w!)
theorem Gm {b:B8}(H:0<b.length){n:Nat}(d:lD b n)(q:1<=n):∀k,k<=4->n<=k->iq b k=(cg b n,(n:Int))
 |0,_,h=>by omega
 |k+1,o,h=>by
  simp only[iq];by_cases r:n=k+1;subst r;rw[(vW b _ H w! o).1.2 d,Q! rfl]
  . have :sW b (k+1)=false:=by
     cases w:sW b _ with
     |false=>rfl
     |true=>
      have:=(vW b _ H w! o).1.1 w;have z:=this.1;have A:=d.1;omega
    rw[this];exact Gm H d q k w! w!
theorem aoQ(b:B8):uN b<=4:=by grind[uN]
theorem CG(b:B8)(d:0<b.length):iq b 4=bh b:=by
 by_cases H:lD b (uN b)/\1<=uN b;rw[Gm d H.1 H.2 4 (M! _) (aoQ b),Zv H.1 H.2 (aoQ b) d]
 . rw[T2 d 0 4 (Nat.le_refl _) (λj r h1 h=>H (by have:=h.1;grind))];simp[bh];by_cases h1:uN b=1;exfalso;apply H
   exact⟨⟨rfl,w!,.inl h1⟩,w!⟩
   . rw[R! h1];rw[Q!];by_cases w:uN b=0;omega
     . refine .inr ?_;by_cases z:b.length<uN b;omega
       . refine .inr ?_;cases k:yh b _ with
         |false=>grind
         |true=>
          cases o:cA _ with
          |false=>grind
          |true=>
           refine .inr (.inr λq=>H ⟨⟨rfl,w!,.inr ⟨k,o,q⟩⟩,w!⟩)
theorem PO(c:Int):letter c=(dM c 65 90 || (dM c 97 122 || (dM c 192 214 || (dM c 216 246 || (dM c 248 255 || (dM c 913 929 || (dM c 931 937 || (dM c 945 969 || dM c 1024 1119)))))))):=by
 simp_all[letter,qJ,pd,dM,List.any_cons,List.any_nil,Bool.or_false]
theorem Ea(h:dM c 1024 1039=true):c+80=aX c/\c<=1039/\1024<=c:=by
 simp[dM,Bool.and_eq_true,decide_eq_true_eq] at h;simp[aX,nZ,pd,List.find?_cons];grind
theorem Eb(h:dM c 1024 1039=false)(H:dM c 65 90=true\/dM c 192 214=true\/dM c 216 222=true\/dM c 913 929=true\/dM c 931 937=true\/dM c 1040 1071=true):c+32=aX c/\c<=1071/\65<=c:=by
 have e:∀a b:Int,pd c (a,b)=dM c a b:=λ_ _=>rfl;simp[aX,nZ,List.find?_cons,e,h];grind[dM]
theorem CH(h:dM c 1024 1039=false)(H:dM c 65 90=false/\dM c 192 214=false/\dM c 216 222=false/\dM c 913 929=false/\dM c 931 937=false/\dM c 1040 1071=false):c=aX c:=by
 have e:∀a b:Int,pd c (a,b)=dM c a b:=λ_ _=>rfl;simp_all[aX,nZ,List.find?_cons,List.find?_nil]
def fB(c:Int):Bool:=letter c || digit c
def l8(t:B8):U->B8
 |[]=>t
 |c::w=>if 64<t.length+(im (aX c)).length then t else l8 (t++im (aX c)) w
def fe(w:U):B8:=l8 [] w
def SM(w:U):Prop:=w.length<=1099511627776/\∀c∈w,cA c=true
def lE(w:U)(k:Nat)(t:B8):Prop:=l8 t (w.drop k)=fe w/\k<=w.length/\t.length<=64
def na(a:U):U->M U
 |[]=>if a.isEmpty then [] else [a]
 |c::l=>if fB c then na (a++[c]) l else if a.isEmpty then na [] l else a::na [] l
def aS(b:B8):O:=(na [] (decode b)).map fe
def aoa(d:U)(k:Nat)(T:O)(W:U):Prop:=
 T++(na W (d.drop k)).map fe=(na [] d).map fe/\k<=d.length/\T.length<=k/\W.length<=k/\(∀c∈W,c∈d)
def isTerm(s:B8):Bool:=decide (aS s=[s])
def eJ(l:O):Nat->Nat
 |0=>0
 |k+1=>if Op.bytesLess (l.getD k []) (l.getD (eJ l k) []) then k else eJ l k
def eo(l:O):Nat:=eJ l l.length
theorem Wj(c:Int):aX c=c\/(65<=c/\c<=1071/\(aX c=c+32\/aX c=c+80)):=by
 cases h:dM c 1024 1039<;>grind[dM,Ea,Eb,CH]
theorem Ap(h:cA c=true):cA (aX c)=true:=by
 grind[Wj,p9]
theorem SN(b:B8):cA (bh b).1=true:=by
 grind[bh,PN,p9]
theorem oT(b:B8):∀c∈decode b,cA c=true:=by
 have :∀f (x:B8),∀c∈Bq f x,cA c=true:=by
  intro f;induction f<;>grind[Bq,SN]
 exact this _ b
theorem pC(l:M α)(k:Nat)(d:α)(h:k<l.length):l.drop k=l.getD k d::l.drop (k+1):=by
 simp_all
theorem Aq(w:U):lE w 0 []:=⟨rfl,S! _,z!⟩
theorem pE {w:U}{k:Nat}{t:B8}(h:lE w k t)(d:(k:Int)<w.length)(o:¬(64:Int)<(t.length:Int)+((im (aX (w.getD (Int.toNat (k:Int)) 0))).length:Int)):lE w (k+1) (t++im (aX (w.getD (Int.toNat (k:Int)) 0))):=by
 have⟨H,q,r⟩:=h;rw[Int.toNat_natCast] at *;rw[pC w k 0 w!] at H;simp only[l8] at H;rw[if_neg w!] at H;exact⟨H,w!,x!⟩
theorem pF {w:U}{k:Nat}{t:B8}(h:lE w k t)(H:(k:Int)<w.length)(d:(64:Int)<(t.length:Int)+((im (aX (w.getD (Int.toNat (k:Int)) 0))).length:Int)):t=fe w:=by
 have⟨o,q,r⟩:=h;grind[Int.toNat_natCast,pC,l8]
theorem a3U {w:U}{k:Nat}{t:B8}(h:lE w k t)(d:¬(k:Int)<w.length):t=fe w:=by
 have⟨H,o,q⟩:=h;rw[V? w!] at H;exact H
theorem y5(c:Int):(enc c).length<=4:=by grind[enc]
theorem akC(c:Int):(im c).length<=4:=by grind[im,y5]
theorem aGv(d:U):aoa d 0 [] []:=⟨rfl,S! _,z!,z!,z!⟩
theorem akD {d:U}{k:Nat}(h:aoa d k T W)(o:(k:Int)<d.length)(hw:fB (d.getD (Int.toNat (k:Int)) 0)=true):aoa d (k+1) T (W++[d.getD (Int.toNat (k:Int)) 0]):=by
 have⟨H,q,r,w,z⟩:=h;rw[Int.toNat_natCast] at *;rw[pC d k 0 w!] at H;simp only[na] at H;rw[if_pos hw] at H;refine⟨H,w!,w!,x!,λc A=>?_⟩;grind
theorem aoS {d:U}{k:Nat}(h:aoa d k T W)(o:(k:Int)<d.length)(q:fB (d.getD (Int.toNat (k:Int)) 0)=false)(r:(0:Int)<W.length):aoa d (k+1) (T++[fe W]) []:=by
 have⟨H,w,z,A,B⟩:=h;rw[pC d k 0 w!] at H;simp[na] at H;refine⟨?_,w!,x!,z!,z!⟩;grind
theorem akE {d:U}{k:Nat}(h:aoa d k T W)(o:(k:Int)<d.length)(q:fB (d.getD (Int.toNat (k:Int)) 0)=false)(r:¬(0:Int)<W.length):aoa d (k+1) T W:=by
 have⟨H,w,z,A,B⟩:=h;have :W=[]:=by simp_all
 subst this;rw[pC d k 0 w!] at H;simp only[na] at H;rw[if_neg x!,if_pos z!] at H;exact⟨H,w!,w!,z!,z!⟩
theorem akF {b:B8}{k:Nat}{T:O}{W:U}(h:aoa (decode b) k T W)(d:¬(k:Int)<(decode b).length)(o:(0:Int)<W.length):T++[fe W]=aS b:=by
 have⟨H,q,r,w,z⟩:=h;rw[List.drop_eq_nil_of_le w!] at H;simp[na] at H;rw[if_neg x!] at H;exact H
theorem akG {b:B8}{k:Nat}{T:O}{W:U}(h:aoa (decode b) k T W)(d:¬(k:Int)<(decode b).length)(o:¬(0:Int)<W.length):T=aS b:=by
 have⟨H,q,r,w,z⟩:=h;have :W=[]:=by simp_all
 subst this;rw[V? w!] at H;simp[na,List.isEmpty_nil,Q?,List.map_nil,B?] at H;exact H
theorem sA {b:B8}{k:Nat}{T:O}{W:U}(h:aoa (decode b) k T W)(o:b.length<=1099511627776):SM W/\T.length<=1099511627776/\W.length<=1099511627776/\k<=1099511627776:=by
 have⟨q,r,w,z,H⟩:=h;have:=pZ b;exact⟨⟨w!,λc d=>oT b c (H c d)⟩,w!,w!,w!⟩
theorem PR:∀(u a r:U),(∀c∈u,fB c=true)->na a (u++r)=na (a++u) r
 |[],a,r,_=>by simp
 |c::u,a,r,h=>by
  simp_all[k?,na,Q!,PR,X!]
theorem akJ(s:B8):(bif decide (((aS s).length:Int)=1) then decide (List.getD (aS s) (Int.toNat 0) []=s) else false)=isTerm s:=by
 unfold isTerm;match h:aS s with
 |[]=>simp
 |[x]=>grind
 |x::y::l=>grind
theorem CI {l:O}:∀k,0<l.length->k<=l.length->eJ l k<l.length
 |0,h,_=>h
 |k+1,h,hk=>by
  simp[eJ];split;omega;exact CI k h w!
theorem aoT(h:letter c=true\/digit c=true):fB c=true:=by grind[fB]
theorem Zy(h:letter c=false/\digit c=false):fB c=false:=by grind[fB]
def yi:Nat->O->O
 |0,_=>[]
 |f+1,l=>if l.isEmpty then [] else l.getD (eo l) []::yi f (l.filter (λx=>!decide (x=l.getD (eo l) [])))
def sorted(l:O):O:=yi l.length l
def y7(l:O)(t:B8)(k:Nat):U:=((List.range k).filter (λi=>decide (l.getD i []=t))).map (λ(i:Nat)=>(i:Int))
def places(b t:B8):U:=y7 (aS b) t (aS b).length
def CJ(c:Int):Bool:=fB c&&decide (aX c=c)
def tx(s:B8):Bool:=(decode s).all CJ&&(decide (0<((decode s).length:Int))&&decide ((s.length:Int)<=64))
variable {l:List B8}
theorem CK(h:0<l.length):eo l<l.length:=CI _ h (M! _)
theorem vX(h:0<l.length):(l.filter (λx=>!decide (x=l.getD (eo l) []))).length<l.length:=by
 have H:=aU l _ [] (CK h);simp_all
theorem Fg:∀(f g:Nat) (l:O),l.length<=f->l.length<=g->yi f l=yi g l
 |0,0,_,_,_=>rfl
 |0,g+1,l,h,_=>by
  have :l=[]:=by simp_all
  subst this;rfl
 |f+1,0,l,_,h=>by
  have :l=[]:=by grind
  subst this;rfl
 |f+1,g+1,l,h1,d=>by
  simp only[yi];cases k:l.isEmpty with
  |true=>rfl
  |false=>
   have H:0<l.length:=by grind
   have:=vX H;rw[R! z!,R! z!,Fg f g _ w! w!]
theorem IF(h:0<l.length):sorted l=l.getD (eo l) []::sorted (l.filter (λx=>!decide (x=l.getD (eo l) []))):=by
 have d:=vX h;unfold sorted;have⟨n,H⟩:∃n,l.length=n+1:=by simp_all
 rw[H];simp only[yi];have :l.isEmpty=false:=by grind
 rw[this,R! z!,Fg n _ _ w! (M! _)]
theorem Au(b:B8):(aS b).length<=b.length:=by
 have h:∀(l a:U),(na a l).length<=l.length+a.length:=by
  intro l;induction l with
  |nil=>intro a;simp[na];cases a<;>simp
  |cons c l i=>
   grind[na]
 grind[decode,pZ,aS,List.length_map]
theorem T5(b:B8):∀k,(iq b k).1≠65533->enc (iq b k).1=b.take (iq b k).2.toNat
 |0,h=>absurd rfl h
 |k+1,h=>by
  simp[iq] at h |-;by_cases H:sW b (k+1)=true;simp_all[Q!,y4]
  simp_all[R!,T5]
theorem ZA(H:0<b.length)(h:(bh b).1≠65533):enc (bh b).1=b.take (bh b).2.toNat:=by
 rw[<-CG b H] at h |-;grind[T5]
theorem Wk:∀(n:Nat) (b:B8),b.length<=n->(∀c∈decode b,c≠65533)->(decode b).flatMap enc=b:=by
 intro n;induction n with
 |zero=>intro b h _;have :b=[]:=D? w!
        subst this;rfl
 |succ n i=>
  intro b h H;by_cases d:b.length=0;grind;have k:=rW b w!;rw[Ao b w!] at H |-;rw[List.flatMap_cons,ZA w! (H _ z!),i _ x! (λc o=>H c x!)];simp_all
theorem sB(h:0<=c)(H:c<256):((u8 c).toNat:Int)=c:=((Kf h H).1 rfl).symm
theorem CL(d:cA c=true)(r:B8):cg (enc c++r) ((enc c).length:Nat)=c/\1<=(enc c).length/\(enc c).length<=4:=by
 have o:=eV d;unfold enc;split;grind[aoM,u8,dL,sB];split;refine⟨?_,z!,z!⟩;show cg (u8 (192+c/64)::more c::r) 2=c;have h:=sB (c:=192+c/64) w! w!;have H:((more c).toNat:Int)=128+c%64:=sB (c:=128+c%64) w! w!
 have e:cg (u8 (192+c/64)::more c::r) 2=(((u8 (192+c/64)).toNat:Int)-192)*64+(more c).toNat-128:=by
  rfl
 omega;split;refine⟨?_,z!,z!⟩;show cg (u8 (224+c/4096)::more (c/64)::more c::r) 3=c;have h:=sB (c:=224+c/4096) w! w!;have H:((more (c/64)).toNat:Int)=128+c/64%64:=sB (c:=128+c/64%64) w! w!;have k:((more c).toNat:Int)=128+c%64:=sB (c:=128+c%64) w! w!
 have e:cg (u8 (224+c/4096)::more (c/64)::more c::r) 3=((((u8 (224+c/4096)).toNat:Int)-224)*64+(more (c/64)).toNat-128)*64+(more c).toNat-128:=by
  rfl
 omega;refine⟨?_,z!,z!⟩;show cg (u8 (240+c/262144)::more (c/4096)::more (c/64)::more c::r) 4=c;have h:=sB (c:=240+c/262144) w! w!;have H:((more (c/4096)).toNat:Int)=128+c/4096%64:=sB (c:=128+c/4096%64) w! w!;have k:((more (c/64)).toNat:Int)=128+c/64%64:=sB (c:=128+c/64%64) w! w!;have q:((more c).toNat:Int)=128+c%64:=sB (c:=128+c%64) w! w!
 have e:cg (u8 (240+c/262144)::more (c/4096)::more (c/64)::more c::r) 4=(((((u8 (240+c/262144)).toNat:Int)-240)*64+(more (c/4096)).toNat-128)*64+(more (c/64)).toNat-128)*64+(more c).toNat-128:=by
  rfl
 omega
theorem ť(d:cA c=true)(r:B8):bh (enc c++r)=(c,((enc c).length:Int)):=by
 obtain⟨k,h1,H⟩:=CL d r;have h:0<(enc c++r).length:=by grind
 have o:sW (enc c++r) (enc c).length=true:=by
  grind[y4,List.take_left']
 have q:=(vW _ _ h h1 H).1.1 o;rw[<-CG _ h,Gm h q h1 4 (M! _) H,k]
theorem CM:∀(P:U),(∀c∈P,cA c=true)->decode (P.flatMap enc)=P
 |[],_=>rfl
 |c::P,h=>by
  have H:=h c z!;have d:=(CL H []).2.1;rw[List.flatMap_cons,Ao _ x!,ť H];rw[Int.toNat_natCast,List.drop_left' rfl,CM P (λx hx=>h x (by simp[hx]))]
theorem PU:∀(w:U) (t:B8),t.length+(w.flatMap λc=>im (aX c)).length<=64->l8 t w=t++w.flatMap λc=>im (aX c)
 |[],t,_=>by simp[l8]
 |c::w,t,h=>by
  rw[List.flatMap_cons,List.length_append] at h;simp only[l8];rw[if_neg w!,PU w _ x!,List.flatMap_cons,List.append_assoc]
theorem CN:∀(w:U) (t:B8),∃p:U,(∀c∈p,c∈w)/\l8 t w=t++p.flatMap λc=>im (aX c)
 |[],t=>⟨[],z!,by simp[l8]⟩
 |c::w,t=>by
  simp[l8];split;exact⟨[],z!,z!⟩;obtain⟨p,h,H⟩:=CN w (t++im (aX c));refine⟨c::p,?_,x!⟩;grind
theorem Ec:∀(w:U) (t:B8),t.length<=64->(l8 t w).length<=64
 |[],t,h=>h
 |c::w,t,h=>by
  simp[l8];split;exact h;exact Ec w _ (by rw[J!];omega)
theorem IH:∀(l a:U),(∀c∈a,fB c=true)->∀W∈na a l,∀c∈W,fB c=true/\(c∈a\/c∈l)
 |[],a,d,W,hW,c,h=>by
   grind[na,List.mem_singleton]
 |x::l,a,d,W,hW,c,h=>by
  simp[na] at hW;by_cases hx:fB x=true;rw[Q! hx] at hW
  have:=IH l (a++[x]) (λy H=>by
   grind) W hW c h
  grind
  have o:∀w∈na [] l,∀c∈w,fB c=true/\(c∈a\/c∈x::l):=λw k y H=>by
   have:=IH l [] z! w k y H;grind
  grind
theorem ava {b:Int}(h:c<a\/b<c):dM c a b=false:=by
 grind[dM,Bool.and_eq_false_iff,decide_eq_false_iff_not]
theorem PV {b:Int}:dM c a b=true↔a<=c/\c<=b:=by simp[dM]
theorem II(c:Int):aX (aX c)=aX c:=by
 have s:∀x:Int,(97<=x/\x<192)\/(223<=x/\x<913)\/(938<=x/\x<1024)\/1072<=x->aX x=x:=λx h=>by
  grind[CH,ava]
 cases h:dM c 1024 1039 with
 |true=>grind[Ea]
 |false=>
  by_cases H:dM c 65 90=true\/dM c 192 214=true\/dM c 216 222=true\/dM c 913 929=true\/dM c 931 937=true\/dM c 1040 1071=true;grind[Eb,PV];grind[CH]
theorem CO(c:Int):letter c=true↔(65<=c/\c<=90)\/(97<=c/\c<=122)\/(192<=c/\c<=214)\/(216<=c/\c<=246)\/(248<=c/\c<=255)\/(913<=c/\c<=929)\/(931<=c/\c<=937)\/(945<=c/\c<=969)\/(1024<=c/\c<=1119):=by
 simp_all[PO,Y?,PV]
theorem Kg(c:Int):fB c=true↔letter c=true\/(48<=c/\c<=57):=by simp[fB,digit]
theorem Me(h:fB c=true):fB (aX c)=true:=by
 cases H:dM c 1024 1039 with
 |true=>grind[Ea,Kg,CO]
 |false=>
  by_cases d:dM c 65 90=true\/dM c 192 214=true\/dM c 216 222=true\/dM c 913 929=true\/dM c 931 937=true\/dM c 1040 1071=true;grind[Eb,PV,Kg,CO];grind[CH]
theorem xq {d:Type}{l:M α}{f g:α->M d}(h:∀x∈l,f x=g x):l.flatMap f=l.flatMap g:=by
 induction l with
 |nil=>rfl
 |cons a l i=>grind
theorem IJ(h:cA c=true):im c=enc c:=by simp_all[im,Q?]
theorem Kh(s:B8):tx s=isTerm s:=by
 rw[Bool.eq_iff_iff];simp only[tx,isTerm,B!,H!,V!,CJ];constructor;rintro⟨o,A,B⟩
 have C:=Wk s.length s (M! _) (λc d e=>by
  grind[Kg,CO])
 have hw:na [] (decode s)=[decode s]:=by
  have:=PR (decode s) [] [] (λc d=>(o c d).1);grind[na]
 have D:(decode s).flatMap (λc=>im (aX c))=s:=by
  grind[xq,IJ,oT]
 grind[aS,fe,PU];intro h
 have k:s.length<=64:=by
  have H:s∈aS s:=by grind
  simp only[aS,U?] at H;obtain⟨w,_,hw⟩:=H;rw[<-hw];exact Ec w [] z!
 have H:s∈aS s:=by grind
 simp only[aS,U?] at H;obtain⟨W,q,r⟩:=H;have a:=IH (decode s) [] z! W q;obtain⟨p,E,z⟩:=CN W []
 have F:∀c∈p,cA (aX c)=true:=λc d=>Ap (oT s c (by
  grind))
 have V:s=(p.map aX).flatMap enc:=by
  rw[<-r];show l8 [] W=_
  grind[List.flatMap_map,xq,IJ]
 have G:decode s=p.map aX:=by
  grind[CM]
 grind[Me,II,decode,na,List.length_pos_iff]
theorem cJ:∀a:B8,Op.bytesLess a a=false
 |[]=>rfl
 |a::x=>by simp[Op.bytesLess,cJ x]
theorem iC:∀a b c:B8,Op.bytesLess a b=true->Op.bytesLess b c=true->Op.bytesLess a c=true
 |_,[],_,h,_|_,_::_,[],_,h=>by grind[Op.bytesLess]
 |[],_::_,_::_,_,_=>rfl
 |a::x,b::y,c::z,d,H=>by
  simp[Op.bytesLess,Y?,H!,B!,beq_iff_eq] at d H |-;rcases d with d|⟨rfl,d⟩;rcases H with H|⟨rfl,H⟩;rw[UInt8.lt_iff_toNat_lt] at *;omega;left;exact d
  rcases H with H|⟨rfl,H⟩;left;exact H
  right;exact⟨rfl,iC x y z d H⟩
theorem pg:∀a b:B8,Op.bytesLess a b=true\/a=b\/Op.bytesLess b a=true
 |[],[]=>.inr (.inl rfl)
 |[],_::_=>.inl rfl
 |_::_,[]=>.inr (.inr rfl)
 |a::x,b::y=>by
  simp[Op.bytesLess,Y?,H!,B!,beq_iff_eq,List.cons.injEq];by_cases h:a=b;subst h;rcases pg x y with h|h|h;exact .inl (.inr ⟨rfl,h⟩);exact .inr (.inl ⟨rfl,h⟩);exact .inr (.inr (.inr ⟨rfl,h⟩));have :a.toNat≠b.toNat:=λe=>h (UInt8.toNat_inj.1 e);by_cases H:a.toNat<b.toNat;exact .inl (.inl (UInt8.lt_iff_toNat_lt.2 H));exact .inr (.inr (.inl (UInt8.lt_iff_toNat_lt.2 w!)))
theorem y8 {a:B8}(h:Op.bytesLess a b=true):Op.bytesLess b a=false:=by
 grind[iC,cJ]
def qM(l:O):Prop:=l.Pairwise λa b=>Op.bytesLess a b=true
theorem Av:∀(l m:O),qM l->qM m->(∀x,x∈l↔x∈m)->l=m
 |[],[],_,_,_=>rfl
 |[],b::m,_,_,h=>by have:=(h b).2 z!;grind
 |a::l,[],_,_,h=>by have:=(h a).1 z!;grind
 |a::l,b::m,r,hm,h=>by
  obtain⟨H,k⟩:=W?.1 r;obtain⟨d,o⟩:=W?.1 hm
  have K:a=b:=by
   rcases O!.1 ((h a).1 z!) with e|e;exact e;rcases O!.1 ((h b).2 z!) with E|E;exact E.symm;have q1:=d a e;have q:=y8 (H b E);rw[q1] at q;cases q
  subst K
  have:=Av l m k o (λx=>by
   constructor;intro hx;rcases O!.1 ((h x).1 (by simp[hx])) with e|e;have:=H x hx;rw[e,cJ] at this;cases this;exact e;intro hx;rcases O!.1 ((h x).2 (by simp[hx])) with e|e;have:=d x hx;rw[e,cJ] at this;cases this;exact e)
  rw[this]
theorem PW(l:O):∀k,k<=l.length->∀i,i<k->Op.bytesLess (l.getD i []) (l.getD (eJ l k) [])=false
 |0,_,i,hi=>by omega
 |k+1,hk,i,hi=>by
  have I:=PW l k w!;rw[show eJ l (k+1)=if Op.bytesLess (l.getD k []) (l.getD (eJ l k) [])=true then k else eJ l k from rfl];by_cases h:Op.bytesLess (l.getD k []) (l.getD (eJ l k) [])=true;grind[cJ,iC];grind
theorem PX:∀(n:Nat) (l:O),l.length<=n->qM (sorted l)/\∀x,x∈sorted l↔x∈l:=by
 intro n;induction n with
 |zero=>
  intro l h;have :l=[]:=D? w!;subst this;exact⟨List.Pairwise.nil,λx=>Iff.rfl⟩
 |succ n I=>
  intro l h;by_cases w:l.length=0;grind;have H:0<l.length:=by omega
  have z:=vX H;obtain⟨d,k⟩:=I (l.filter (λx=>!decide (x=l.getD (eo l) []))) w!;have A:l.getD (eo l) []∈l:=aU l _ [] (CK H);rw[IF H];refine⟨List.pairwise_cons.2 ⟨λx o=>?_,d⟩,λx=>?_⟩;have E:=(k x).1 o;simp at E;obtain⟨i,r,e⟩:=List.mem_iff_getElem.1 E.1;have q:=PW l l.length (Nat.le_refl _) i r;grind[pg,eo,absurd,Op.bytesLess];grind
theorem iX(l:O):qM (sorted l):=(PX _ l (M! _)).1
theorem ir(l:O)(x:B8):x∈sorted l↔x∈l:=(PX _ l (M! _)).2 x
theorem Ŧ(h:qM m)(H:∀x,x∈m↔x∈l):m=sorted l:=
 Av _ _ h (iX l) (λx=>(H x).trans (ir l x).symm)
def bU:O->O
 |[]=>[]
 |a::l=>match bU l with
  |[]=>[a]
  |b::r=>if a=b then b::r else a::b::r
theorem uA:∀(l:O) (x:B8),x∈bU l↔x∈l
 |[],_=>Iff.rfl
 |a::l,x=>by
  have i:=uA l x;simp only[bU];split;rename_i h;rw[h] at i;rw[s?,O!];constructor;exact .inl;rintro(h|h);exact h;have:=i.2 h;cases this;rename_i b r h;rw[h] at i;split;rename_i e;subst e;rw[i,O!];constructor;exact .inr;rintro(H|H);rw[<-i,H];simp;exact H;rw[O!,i,O!]
theorem Fh:∀(l:O),(l.Pairwise λa b=>Op.bytesLess b a=false)->qM (bU l)
 |[],_=>List.Pairwise.nil
 |a::l,h=>by
  obtain⟨o,d⟩:=W?.1 h;have i:=Fh l d;simp[bU];split;exact List.pairwise_singleton _ _;rename_i b r H;rw[H] at i;split;omega;refine W?.2 ⟨λx k=>?_,i⟩;have A:b∈l:=by rw[<-uA l,H];simp
  have K:Op.bytesLess a b=true:=by
   grind[pg]
  rcases List.mem_cons.1 k with e|e;grind;exact iC _ _ _ K ((List.pairwise_cons.1 i).1 x e)
theorem Nd(h:m.Pairwise λa b=>Op.bytesLess b a=false)(H:∀x,x∈m↔x∈l):bU m=sorted l:=
 Ŧ (Fh m h) (λx=>(uA m x).trans (H x))
def lS(a b:B8):Int:=if Op.bytesLess a b then -1 else if Op.bytesLess b a then 1 else 0
theorem avc(a b:B8):decide (lS a b=0)=decide (a=b):=by
 unfold lS;rcases pg a b with h|h|h;grind[cJ];grind[cJ];grind[cJ]
def n4(l:O)(k:Nat):Prop:=1<=k/\k<=l.length/\∀j,j+1<k->¬l.getD (j+1) []=l.getD j []
def jG(l:O)(x i k:Nat)(m:O):Prop:=1<=k/\x+k<=l.length/\1<=i/\i+1<=x+k/\m.length=l.length/\m.drop i=l.drop i/\m.take i=bU (l.take (x+k))
theorem ZB(h:l≠ []):∃b r,bU l=b::r:=by
 cases H:bU l with
 |nil=>
  cases l with
  |nil=>grind
  |cons a l=>have:=(uA (a::l) a).2 z!;grind
 |cons b r=>grind
theorem Fi(a b:B8):∀p:O,bU (p++[a,b])=if a=b then bU (p++[a]) else bU (p++[a])++[b]
 |[]=>by
   grind[bU]
 |c::p=>by
  have i:=Fi a b p;obtain⟨h,r,e⟩:=ZB (l:=p++[a]) z!;grind[bU]
theorem sD(h:n+1<l.length):bU (l.take (n+2))=if l.getD n []=l.getD (n+1) [] then bU (l.take (n+1)) else bU (l.take (n+1))++[l.getD (n+1) []]:=by
 grind[an,List.append_assoc,List.singleton_append,Fi]
theorem Ki {l:O}:∀k,k<=l.length->(∀j,j+1<k->¬l.getD (j+1) []=l.getD j [])->bU (l.take k)=l.take k
 |0,_,_=>by rfl
 |1,h,_=>by
  cases l with
  |nil=>rfl
  |cons a l=>rfl
 |k+2,hk,h=>by
  rw[sD w!,R! (λe=>h k w! e.symm),Ki (k+1) w! (λj H=>h j w!),<-an l (k+1) [] w!]
theorem PY {l:O}(h:(l.length:Int)<2):l=bU l:=by
 match l,h with
 |[],_=>rfl
 |[a],_=>rfl
 |a::b::l,h=>grind
theorem aoV {l:O}(h:¬(l.length:Int)<2):n4 l 1:=⟨M! _,w!,λj H=>by omega⟩
theorem T6 {l:O}{k:Nat}(h:n4 l k)(d:(k:Int)<l.length)(H:¬l.getD k []=l.getD (Int.toNat ((k:Int)-1)) []):n4 l (k+1):=by
 obtain⟨o,q,r⟩:=h;rw[show Int.toNat ((k:Int)-1)=k-1 by omega] at H;refine⟨w!,w!,λj w=>?_⟩;grind
theorem ZC{k:Nat}(h:n4 l k)(o:¬(k:Int)<l.length):l=bU l:=by
 obtain⟨q,H,d⟩:=h;have e:=Ki k H d;grind
theorem aeQ {l:O}{x:Nat}(h:n4 l x)(o:(x:Int)<l.length)(H:l.getD x []=l.getD (Int.toNat ((x:Int)-1)) []):jG l x x 1 l:=by
 obtain⟨d,q,k⟩:=h;rw[show Int.toNat ((x:Int)-1)=x-1 by omega] at H;refine⟨M! _,w!,d,M! _,rfl,rfl,?_⟩;obtain⟨y,rfl⟩:∃y,x=y+1:=⟨x-1,w!⟩;rw[Nat.add_sub_cancel] at H;rw[show y+1+1=y+2 by omega,sD w!,Q! H.symm,Ki (y+1) w! k]
theorem T7{k:Nat}(h:jG l x i k m)(d:x+k<l.length):m.getD (x+k) []=l.getD (x+k) []/\m.getD (x+k-1) []=l.getD (x+k-1) []:=by
 obtain⟨o,r,w,z,A,H,B⟩:=h
 have K:∀j,i<=j->m.getD j []=l.getD j []:=λj C=>by
  have:=congrArg (λq=>q.getD (j-i) []) H;grind
 grind
theorem PZ{k:Nat}(h:jG l x i k m)(H:x+k<l.length)(z:m.getD (x+k) []=m.getD (x+k-1) []):jG l x i (k+1) m:=by
 have A:=T7 h H;obtain⟨B,C,d,D,o,q,r⟩:=h;refine⟨w!,w!,d,w!,o,q,?_⟩;rw[r];obtain⟨n,w⟩:∃n,x+k=n+1:=⟨x+k-1,w!⟩;rw[show x+(k+1)=n+2 by omega,w,sD w!,if_pos];grind
theorem T8{k:Nat}(h:jG l x i k m)(H:x+k<l.length)(w:¬m.getD (x+k) []=m.getD (x+k-1) []):jG l x (i+1) (k+1) (m.set i (m.getD (x+k) [])):=by
 have d:=T7 h H;obtain⟨z,A,B,C,D,o,q⟩:=h;rw[d.1];refine⟨w!,w!,w!,w!,x!,?_,?_⟩;rw[List.drop_set,if_pos w!];have:=congrArg (List.drop 1) o;grind[List.drop_drop];have hi:i<(m.set i (l.getD (x+k) [])).length:=by grind
 rw[an _ _ [] hi,List.take_set,List.set_eq_of_length_le x!,q];rw[List.getD_eq_getElem?_getD,List.getElem?_set_self w!,Option.getD_some];obtain⟨n,r⟩:∃n,x+k=n+1:=⟨x+k-1,w!⟩;rw[show x+(k+1)=n+2 by omega,r,sD w!,if_neg];grind
theorem T9{k:Nat}(h:jG l x i k m)(H:¬x+k<l.length):m.take i=bU l:=by
 obtain⟨d,o,q,r,w,z,A⟩:=h;grind
def up(l:O):Prop:=l.Pairwise λa b=>Op.bytesLess b a=false
def fp(l:O):O:=l.mergeSort λa b=>!Op.bytesLess b a
theorem akP(l:O):up (fp l):=by
 have:=List.pairwise_mergeSort (le:=λa b=>!Op.bytesLess b a) (λa b c H d=>by
  grind[Bool.not_eq_true',pg,iC]) (λa b=>by
  grind[pg,y8,cJ]) l
 exact this.imp (λh=>by grind)
theorem CP(l:O):(fp l).Perm l:=List.mergeSort_perm l _
theorem ŧ(l:O):(fp l).length=l.length:=(CP l).length_eq
theorem P0(l:O):bU (fp l)=sorted l:=Nd (akP l) (λ_=>(CP l).mem_iff)
def sp(n:Nat):Nat:=2^Nat.log2 (n-1)
def split(n:Int):Int:=if n<2\/1099511627776<n then 0 else((sp n.toNat:Nat):Int)
def jy(n k:Int)(t:Nat):Prop:=k=((2^t:Nat):Int)/\k<n
def yj:Nat->O->B8
 |0,_=>sum []
 |f+1,l=>if l.length=0 then sum [] else if l.length=1 then l.getD 0 [] else bz (yj f (l.take (sp l.length))) (yj f (l.drop (sp l.length)))
def root(l:O):B8:=yj l.length l
def cP(l:O):Bool:=l.all λd=>decide ((d.length:Int)=32)
def sZ(l:O)(k:Nat):Prop:=(∀d∈l.take k,(d.length:Int)=32)/\k<=l.length
def eW(l:O):Prop:=cP l=true/\l.length<=1099511627776
def kI(l:O):B8:=if cP l then root l else []
def yk(l:O):Int:=if cP l then 0 else 1
def leaves(l:O):O:=l.map leaf
def fg(l:O)(k:Nat):O:=(l.take k).map leaf
def dj(l:O):Prop:=l.length<=1099511627776/\∀b∈l,b.length<1099511627776
def comb(s:O):O:=s.take (s.length-2)++[bz (s.getD (s.length-2) []) (s.getD (s.length-1) [])]
def y9(s:O):Prop:=2<=s.length/\s.length<=1099511627776
def uB(l:O)(t a:Nat):B8:=root ((l.drop (2^t*a)).take (2^t))
def tz(l:O)(t j:Nat):O:=
 if j=0 then [] else if j%2=1 then tz l (t+1) (j/2)++[uB l t (j-1)] else tz l (t+1) (j/2)
termination_by j
def qN(l:O)(i:Nat)(s:O):Prop:=s=tz l 0 i/\i<=l.length
def ph(l:O)(i t j:Nat)(s:O):Prop:=
 s=tz l t j++[uB l t j]/\tz l 0 (i+1)=tz l t (j+1)/\2^t*(j+1)=i+1/\i<l.length
def qO(l s:O):Prop:=∃t j,s=tz l t j++[root (l.drop (2^t*j))]/\2^t*j<l.length/\l.length-2^t*j<=2^t
theorem aoW {m:Nat}(h:2^t<=m)(H:m<2^(t+1)):Nat.log2 m=t:=by
 grind[Nat.two_pow_pos,Nat.log2_eq_iff]
theorem Ũ(h:2^t<n)(H:n<=2^(t+1)):sp n=2^t:=by
 grind[sp,aoW]
theorem iY(h:2<=n):1<=sp n/\sp n<n:=by
 grind[sp,Nat.log2_self_le,Nat.two_pow_pos,Nat.log2]
theorem sE:∀(f g:Nat) (l:O),l.length<=f->l.length<=g->yj f l=yj g l
 |0,0,_,_,_=>rfl
 |0,g+1,l,h,_=>by
  simp_all[yj,Q!]
 |f+1,0,l,_,h=>by
  simp_all[yj,Q!]
 |f+1,g+1,l,h1,k=>by
  simp only[yj];by_cases H:l.length=0;grind;by_cases d:l.length=1;grind;have:=iY (n:=l.length) w!;rw[if_neg H,if_neg H,if_neg d,if_neg d,sE f g _ x! x!,sE f g _ x! x!]
theorem Ua(h:l.length=0):root l=sum []:=by
 unfold root;rw[h];rfl
theorem Ed(h:l.length=1):root l=l.getD 0 []:=by
 simp_all[root,yj,R!,Q!]
theorem za{k:Nat}(h:2<=l.length)(H:sp l.length=k):root l=bz (root (l.take k)) (root (l.drop k)):=by
 have d:=iY h;unfold root;have⟨n,o⟩:∃n,l.length=n+1:=⟨l.length-1,w!⟩;have e:=sE n _ (l.take (sp l.length)) x! (Nat.le_refl _);have E:=sE n _ (l.drop (sp l.length)) x! (Nat.le_refl _);grind[yj]
theorem cQ(l:O):cP l=true↔∀d∈l,d.length=32:=by
 simp[cP,List.all_eq_true,decide_eq_true_eq];grind
theorem akQ:∀(n:Nat) (l:O),l.length<=n->cP l=true->(root l).length=32:=by
 intro n;induction n with
 |zero=>grind[Ua,PD]
 |succ n i=>
  intro l h H;by_cases k:l.length=0;grind;by_cases o:l.length=1;grind[Ed,cQ,aU];have q:=iY (n:=l.length) w!;rw[za w! rfl];have e:=i (l.drop (sp l.length)) x! ((cQ _).2 λd s=>(cQ l).1 H d (List.mem_of_mem_drop s));simp[bz,Mc,(i (l.take (sp l.length)) x! ((cQ _).2 λd s=>(cQ l).1 H d (List.mem_of_mem_take s))),e,decide_true,Bool.and_self,if_true];rfl
theorem uD(h:cP l=true):(root l).length=32:=akQ _ l (M! _) h
variable {a:Nat}{n:Int}{b:List Int}
theorem aGw(h:a<l.length):uB l 0 a=l.getD a []:=by
 grind[uB,Ed]
theorem two_pos(t:Nat):0<2^t:=by grind
theorem akR(h:2^(t+1)*(a+1)<=l.length):bz (uB l t (2*a)) (uB l t (2*a+1))=uB l (t+1) a:=by
 have H:=two_pos t;have e:2^(t+1)*a=2^t*(2*a):=by rw[v?,Nat.mul_assoc]
 have E:2^t*(2*a+1)=2^t*(2*a)+2^t:=by rw[Nat.mul_add,x?]
 have d:2^(t+1)*(a+1)=2^t*(2*a)+(2^t+2^t):=by rw[Nat.mul_add,e,x?,v?];omega
 have k:((l.drop (2^(t+1)*a)).take (2^(t+1))).length=2^t+2^t:=by rw[C?,N?];omega
 have F:sp ((l.drop (2^(t+1)*a)).take (2^(t+1))).length=2^t:=by exact Ũ w! w!
 unfold uB;rw[za w! F];congr 2
 rw[List.take_take,e,Nat.min_eq_left w!];rw[List.drop_take,h?,e,E];congr 1;omega
theorem CQ(l:O)(h:j%2=1):tz l t j=tz l (t+1) (j/2)++[uB l t (j-1)]:=by
 rw[tz,R! w!,Q! h]
theorem zb(l:O)(h:j%2=0):tz l t j=tz l (t+1) (j/2):=by
 by_cases H:j=0;subst H;rw[tz,Q! rfl,tz,Q! rfl];rw[tz,R! H,R! w!]
theorem P1(l:O)(t:Nat):tz l t 0=[]:=by rw[tz,Q! rfl]
theorem IK(l:O):∀(n t j:Nat),j<=n->(tz l t j).length<=j/\(0<j->0<(tz l t j).length):=by
 intro n;induction n with
 |zero=>grind[P1]
 |succ n i=>
  intro t j h;by_cases H:j=0;subst H;rw[P1];simp;by_cases h1:j%2=1;rw[CQ l h1,J!];have:=i (t+1) (j/2) w!;simp;omega
  rw[zb l w!];have:=i (t+1) (j/2) w!;omega
theorem Ub(s:O)(a b:B8):comb (s++[a]++[b])=s++[bz a b]:=by
 unfold comb;have h:(s++[a]++[b]).length=s.length+2:=by simp
 rw[h,show s.length+2-2=s.length by omega,show s.length+2-1=s.length+1 by omega,X!,List.take_left'];simp[E!];rfl
theorem avd(l:O):qN l 0 []:=⟨(P1 l 0).symm,S! _⟩
theorem aGx{i:Nat}(h:qN l i s)(H:(i:Int)<l.length):ph l i 0 i (s++[l.getD (Int.toNat (i:Int)) []]):=by
 rw[E?];refine⟨?_,rfl,z!,w!⟩;rw[h.1,aGw w!]
theorem and_1:Vg.aT (j:Int) 1=((j%2:Nat):Int):=by
 have :Vg.aT j 1=((j&&&1:Nat)):=rfl;grind
theorem Kj{j:Nat}(h:ph l i t j s)(H:Vg.aT (j:Int) 1=1):ph l i (t+1) (j/2) (comb s)/\j/2<j/\2<=s.length:=by
 rw[and_1] at H;have⟨o,d,q,k⟩:=h;have r:s=tz l (t+1) (j/2)++[uB l t (j-1)]++[uB l t j]:=by grind[CQ]
 have E:2^(t+1)*(j/2+1)=2^t*(j+1):=by
  grind
 refine⟨⟨?_,?_,w!,k⟩,w!,x!⟩;have e:=akR (l:=l) (t:=t) (a:=j/2) w!;grind[Ub];rw[d,zb l w!,show(j+1)/2=j/2+1 by omega]
theorem aoX{j:Nat}(h:ph l i t j s)(H:¬Vg.aT (j:Int) 1=1):qN l (i+1) s:=by
 rw[and_1] at H;have⟨k,d,o,q⟩:=h;refine⟨?_,w!⟩;rw[d,CQ l w!,show(j+1)/2=j/2 by omega,Nat.add_sub_cancel,<-zb l w!];omega
theorem aoY(h:ph l i t j s):s.length<=l.length:=by
 have⟨d,k,H,o⟩:=h;have:=(IK l j t j (M! _)).1;have :j+1<=i+1:=by rw[<-H];exact Nat.le_mul_of_pos_left _ (two_pos t)
 grind
theorem ave(l:O):∀(n t m:Nat),m<=n->0<m->2^t*m=l.length->qO l (tz l t m):=by
 intro n;induction n with
 |zero=>omega
 |succ n i=>
  intro t m h H he;by_cases h1:m%2=1;refine⟨t+1,m/2,?_,?_,?_⟩;have e:2^(t+1)*(m/2)=2^t*(m-1):=by rw[v?,Nat.mul_assoc];congr 1;omega
  rw[CQ l h1,e];unfold uB;rw[List.take_of_length_le];rw[List.length_drop,<-he,Nat.mul_sub,Nat.mul_one];grind;have e:2^(t+1)*(m/2)=2^t*(m-1):=by rw[Nat.pow_succ,Nat.mul_assoc];congr 1;omega
  rw[e,<-he];exact Nat.mul_lt_mul_of_pos_left w! (two_pos t);have e:2^(t+1)*(m/2)=2^t*(m-1):=by rw[v?,Nat.mul_assoc];congr 1;omega
  rw[e,<-he,Nat.mul_sub,x?,v?];omega;rw[zb l w!];exact i (t+1) (m/2) w! w! (by rw[<-he,v?,Nat.mul_assoc];congr 1;omega)
theorem aGy {l:O}{i:Nat}(h:qN l i s)(H:¬(i:Int)<l.length)(d:¬(l.length:Int)=0):qO l s:=by
 have :i=l.length:=by have:=h.2;omega
 rw[h.1,this];exact ave l l.length 0 l.length (M! _) w! z!
theorem aoZ(l:O):∀(n t j:Nat),j<=n->0<j->2^t*j<l.length->l.length-2^t*j<=2^t->qO l (comb (tz l t j++[root (l.drop (2^t*j))]))/\(comb (tz l t j++[root (l.drop (2^t*j))])).length<(tz l t j++[root (l.drop (2^t*j))]).length:=by
 intro n;induction n with
 |zero=>omega
 |succ n i=>
  intro t j h k H o;by_cases d:j%2=1;have e:2^(t+1)*(j/2)=2^t*(j-1):=by rw[v?,Nat.mul_assoc];congr 1;omega
  have em:2^t*j=2^t*(j-1)+2^t:=by
   have :j=(j-1)+1:=by omega
   conv=>lhs;rw[this,Nat.mul_add,x?]
  have q:(l.drop (2^t*(j-1))).length=2^t+(l.length-2^t*j):=by rw[N?];omega
  have F:sp (l.drop (2^t*(j-1))).length=2^t:=by exact Ũ w! w!
  have E:bz (uB l t (j-1)) (root (l.drop (2^t*j)))=root (l.drop (2^t*(j-1))):=by
   rw[za w! F,h?,<-em];rfl
  rw[CQ l d,Ub,E];refine⟨⟨t+1,j/2,by rw[e],w!,?_⟩,z!⟩;omega;have e:2^(t+1)*(j/2)=2^t*j:=by rw[v?,Nat.mul_assoc];congr 1;omega
  have:=i (t+1) (j/2) w! w! (by rw[e];exact H) w!;rw[e] at this;rw[zb l w!];exact this
theorem Uc(h:qO l s)(o:(1:Int)<s.length):qO l (comb s)/\(comb s).length<s.length:=by
 have⟨t,j,h1,H,d⟩:=h
 have k:0<j:=by
  grind[P1]
 rw[h1];exact aoZ l j t j (M! _) k H d
theorem ao0(h:qO l s)(H:¬(1:Int)<s.length):s.getD (Int.toNat 0) []=root l/\s.length=1:=by
 have⟨t,j,d,k,o⟩:=h;have q:s.length=(tz l t j).length+1:=by grind
 have r:j=0:=by
  have:=(IK l j t j (M! _)).2;omega
 simp_all[P1]
theorem ao1(h:qO l s):s.length<=l.length:=by
 have⟨t,j,H,d,k⟩:=h;have:=(IK l j t j (Nat.le_refl _)).1;have:=Nat.le_mul_of_pos_left j (two_pos t);grind
theorem avf(h:y9 s):List.take (Int.toNat ((s.length:Int)-2+1)) (List.set s (Int.toNat ((s.length:Int)-2)) (bz (List.getD s (Int.toNat ((s.length:Int)-2)) []) (List.getD s (Int.toNat ((s.length:Int)-2+1)) [])))=comb s:=by
 have d:=h.1;rw[show Int.toNat _=s.length-2+1 by omega,show Int.toNat _=s.length-2 by omega,show s.length-2+1=s.length-1 by omega];unfold comb;generalize bz _ _=x;have H:s.length-2<(s.set (s.length-2) x).length:=by grind
 rw[show s.length-1=s.length-2+1 by omega,an _ _ [] H,List.take_set,List.set_eq_of_length_le x!];grind
theorem ZD(h:n<2\/1099511627776<n):0=split n:=by simp_all[split,Q!]
theorem Mf(h:¬n<2):jy n 1 0:=⟨rfl,w!⟩
theorem CR {k:Int}(h:jy n k t)(H:2*k<n):jy n (2*k) (t+1)/\1<=k:=by
 have d:=two_pos t;have⟨o,q⟩:=h;refine⟨⟨?_,H⟩,w!⟩;omega
theorem Aw(h:2<=n)(H:n<=1099511627776):split n=((sp n.toNat:Nat):Int):=by simp_all[split,R!]
theorem Fj {k:Int}(h:jy n k t)(H:¬n<2)(d:¬1099511627776<n)(o:¬2*k<n):k=split n:=by
 have q:=two_pos t;have⟨e,E⟩:=h;grind[Aw,Ũ,Nat.pow_succ]
theorem kh {k:Int}(h:jy n k t):1<=k/\k<n:=by
 have H:=two_pos t;have⟨e,E⟩:=h;omega
theorem avg(l:O):sZ l 0:=⟨z!,S! _⟩
theorem ũ {l:O}{k:Nat}(h:sZ l k)(H:(k:Int)<l.length)(o:((l.getD (Int.toNat (k:Int)) []).length:Int)=32):sZ l (k+1):=by
 refine⟨λd s=>?_,w!⟩;rw[an l k [] w!] at s;rcases List.mem_append.1 s with s|s;exact h.1 d s;grind
theorem akS {l:O}{k:Nat}(h:(k:Int)<l.length)(H:¬((l.getD (Int.toNat (k:Int)) []).length:Int)=32):false=cP l:=by
 grind[Int.toNat_natCast,cP,List.all_eq_false,aU]
theorem akT{k:Nat}(h:sZ l k)(H:¬(k:Int)<l.length):true=cP l:=by
 simp[cP,List.all_eq_true,decide_eq_true_eq];have d:=h.1;grind[List.take_length]
theorem fh{k:Nat}(h:(k:Int)<l.length):fg l k++[leaf (l.getD (Int.toNat (k:Int)) [])]=fg l (k+1):=by
 grind[Int.toNat_natCast,fg,an]
theorem fZ{k:Nat}(h:¬(k:Int)<l.length):fg l k=leaves l:=by
 grind[fg,leaves,List.take_of_length_le]
theorem ga{k:Nat}(h:dj l)(H:(k:Int)<l.length):az (l.getD (Int.toNat (k:Int)) []):=by
 exact h.2 _ (aU l k [] w!)
theorem Fk(l:O)(k:Nat):(fg l k).length<=l.length:=by grind[fg,List.length_map,List.length_take]
theorem Nx{i I:Nat}(h:ph l I t j s/\(i:Int)=(I:Int)):ph l i t j s:=by
 grind
theorem ao2{j:Nat}(h:ph l i t j s)(H:Vg.aT (j:Int) 1=1)(d:eW l):y9 s:=by
 have:=aoY h;exact⟨(Kj h H).2.2,by have:=d.2;omega⟩
theorem ZE(h:qN l i s):s.length<=l.length:=by
 rw[h.1];have:=(IK l i 0 i (M! _)).1;have:=h.2;omega
theorem Ud {l:O}(h:(l.length:Int)=0):sum (Vg.pV UInt8)=root l:=(Ua w!).symm
def cD(l:U)(i:Nat):Int:=if i=0 then -1 else l.getD (i-1) 0
def Kk(l:U)(i:Nat):Bool:=decide (cD l i<l.getD i 0)&&decide (l.getD i 0<1000)
def aV(l:U):Bool:=(List.range l.length).all (Kk l)
def mu(l:U)(k:Nat):Prop:=(∀i,i<k->Kk l i=true)/\k<=l.length
def b6(l:U)(k:Nat):B8:=num l.length++(List.range k).flatMap (λi=>num (l.getD i 0-cD l i-1))
def iH(l:U):B8:=b6 l l.length
def jH(l:U):B8:=if aV l then iH l else []
def qP(l:U):Int:=if aV l then 0 else 1
def vY(l:U):B8:=if aV l then l7 2 (iH l) else []
def kl(l:U):B8:=l7 2 (iH l)
def yl(n a b:Int):Bool:=decide (a<=n)&&decide (n<b)
def sF:U:=[]
def tA(l:U):U:=if aV l then l else []
def P2(l:U)(a b:Int):U:=(tA l).filter (λn=>yl n a b)
def nv(l:U)(a b:Int)(r out:U):Prop:=out++r.filter (λn=>yl n a b)=P2 l a b/\out.length+r.length<=1000
def xr(a b:U)(k:Nat):Prop:=a.length=b.length/\a.take k=b.take k/\k<=a.length
def lG(a b:U):Bool:=decide (a=b)
def aVn(l:U)(n:Int):Bool:=decide (n∈l)
theorem jI(l:U):aV l=true↔∀i,i<l.length->Kk l i=true:=by
 grind[aV,List.all_eq_true]
theorem iI(l:U)(i:Nat):Kk l i=true↔cD l i<l.getD i 0/\l.getD i 0<1000:=by
 simp_all[Kk,B!,H!]
theorem lT(l:U)(k:Nat):cD l (k+1)=l.getD k 0:=by
 rfl
theorem vZ(l:U):cD l 0= -1:=rfl
theorem Wl {l:U}{k:Nat}(h:mu l k):∀i,i<k->(i:Int)<=l.getD i 0/\l.getD i 0<1000
 |0,hi=>by have:=(iI l 0).1 (h.1 0 hi);grind[vZ]
 |i+1,hi=>by
  have:=(iI l (i+1)).1 (h.1 (i+1) hi);rw[lT] at this;have:=Wl h i w!;omega
variable {l a:List Int}{s t:B8}
theorem Ue{k:Nat}(h:mu l k): -1<=cD l k/\cD l k<1000:=by
 cases k with
 |zero=>grind[vZ]
 |succ k=>rw[lT];have:=Wl h k w!;omega
theorem ao3(h:aV l=true):mu l l.length:=⟨(jI l).1 h,M! _⟩
theorem aeR{k:Nat}(h:aV l=true)(H:k<=l.length):mu l k:=⟨λi d=>(jI l).1 h i w!,H⟩
theorem mz(h:aV l=true):l.length<=1000:=by
 by_cases H:l.length=0;omega;have:=Wl (ao3 h) (l.length-1) w!;omega
theorem avh(l:U):mu l 0:=⟨λi h=>by omega,S! _⟩
theorem Ū{k:Nat}(h:mu l k)(H:(k:Int)<l.length)(d:¬l.getD (Int.toNat (k:Int)) 0<=cD l k/\¬1000<=l.getD (Int.toNat (k:Int)) 0):mu l (k+1):=by
 refine⟨λi o=>?_,w!⟩;by_cases q:i=k;grind[iI];exact h.1 i w!
theorem akU{k:Nat}(h:(k:Int)<l.length)(H:l.getD (Int.toNat (k:Int)) 0<=cD l k\/1000<=l.getD (Int.toNat (k:Int)) 0):false=aV l:=by
 grind[Int.toNat_natCast,iI,jI]
theorem akV{k:Nat}(h:mu l k)(H:¬(k:Int)<l.length):true=aV l:=by
 symm
 exact(jI l).2 λi d=>h.1 i w!
theorem Kl(l:U):b6 l 0=num l.length:=by simp[b6]
theorem uE(l:U)(k:Nat):b6 l k++num (l.getD k 0-cD l k-1)=b6 l (k+1):=by
 grind[b6,List.range_succ,List.append_assoc]
theorem CS(l:U):∀k,(b6 l k).length<=9+9*k
 |0=>by grind[Kl,cU]
 |k+1=>by
  rw[<-uE,J!];have:=CS l k;have:=cU (l.getD k 0-cD l k-1);omega
theorem Uf(H:0<=v)(h:v<=4611686018427387904):mq (Vg.pV UInt8) v=num v:=by
 grind[gi,Bool.or_eq_false_iff,decide_eq_false_iff_not,mq]
theorem Ee{k:Nat}(h:aV l=true)(H:(k:Int)<l.length):0<=l.getD (Int.toNat (k:Int)) 0-cD l k-1/\l.getD (Int.toNat (k:Int)) 0-cD l k<=1001/\0<=l.getD (Int.toNat (k:Int)) 0:=by
 rw[E?];have d:=(iI l k).1 ((jI l).1 h k w!);have o:=Ue (aeR (k:=k) h w!);omega
theorem P4{k:Nat}(h:aV l=true)(H:(k:Int)<l.length):b6 l k++mq (Vg.pV UInt8) (l.getD (Int.toNat (k:Int)) 0-cD l k-1)=b6 l (k+1):=by
 grind[Ee,Uf,Int.toNat_natCast,uE]
theorem ym{k:Nat}(h:aV l=true)(H:(k:Int)<l.length)(v:Int):(b6 l k).length+(mq (Vg.pV UInt8) v).length<=20000/\(b6 l k).length+(num v).length<=20000:=by
 have d:=CS l k;have o:=mz h;have q:=cU v
 have r:(mq (Vg.pV UInt8) v).length<=9:=by
  grind[mq]
 omega
theorem Ax(h:aV l=true):(iH l).length<=20000:=by
 grind[CS,mz,iH]
theorem akW(h:aV l=true):b6 l l.length=jH l:=by simp[jH,h,Q?];rfl
theorem avi(a:U)(s1 s2:Int):nv a s1 s2 (tA a) []:=by
 refine⟨rfl,?_⟩;grind[tA,mz]
theorem akX{n:Int}{r:U}(h:nv a s1 s2 (n::r) out)(H:yl n s1 s2=true):nv a s1 s2 r (out++[n]):=by
 obtain⟨d,k⟩:=h;refine⟨x!,x!⟩
theorem ao4{n:Int}{r:U}(h:nv a s1 s2 (n::r) out)(d:yl n s1 s2=false):nv a s1 s2 r out:=by
 obtain⟨H,k⟩:=h;rw[List.filter_cons,if_neg x!] at H;exact⟨H,x!⟩
theorem akY(h:nv a s1 s2 [] out):out=P2 a s1 s2:=by
 have:=h.1;grind
theorem avj {a:U}(h:(a.length:Int)=b.length):xr a b 0:=⟨w!,z!,S! _⟩
theorem ū{k:Nat}(h:xr a b k)(o:(k:Int)<a.length)(H:a.getD (Int.toNat (k:Int)) 0=b.getD (Int.toNat (k:Int)) 0):xr a b (k+1):=by
 rw[Int.toNat_natCast] at H;obtain⟨d,q,r⟩:=h;exact⟨d,by grind[an],w!⟩
theorem akZ{k:Nat}(h:¬a.getD (Int.toNat (k:Int)) 0=b.getD (Int.toNat (k:Int)) 0):false=lG a b:=by
 grind[lG,decide_eq_false_iff_not]
theorem ak0 {a:U}(h:¬(a.length:Int)=b.length):false=lG a b:=by
 grind[lG,decide_eq_false_iff_not]
theorem ak1{k:Nat}(h:xr a b k)(H:¬(k:Int)<a.length):true=lG a b:=by
 obtain⟨d,o,q⟩:=h;simp_all[lG,H!,d?]
abbrev bw:=B8×U
abbrev Lk:=B8×B8×B8
def zc(a b:B8):Bool:=Op.bytesLess a b || decide (a=b)
def cF(d:M bw)(i:Nat):B8:=(d.getD i ([],[])).1
def iD(d:M bw)(i:Nat):U:=(d.getD i ([],[])).2
def aW(d:M bw):Prop:=d.length<=1048576/\∀e∈d,e.1.length<=1099511627776
def CT(d:M bw)(i:Nat):Bool:= !(decide (0<i)&&zc (cF d i) (cF d (i-1)))&&(!decide ((iD d i).length=0)&&(aV (iD d i)&&isTerm (cF d i)))
def aK(d:M bw):Bool:=(List.range d.length).all (CT d)
def Mg(d:M bw)(k:Nat):Prop:=(∀i,i<k->CT d i=true)/\k<=d.length
def eR(a b c:B8):Bool:=decide ((a.length:Int)<=64)&&(decide ((b.length:Int)<=64)&&decide ((c.length:Int)=32))
def mc(a b c:B8):B8:=text a++text b++c
def dw(a b c:B8):B8:=if eR a b c then mc a b c else []
def kJ(a b c:B8):Int:=if eR a b c then 0 else 1
def Ŭ(b:B8):Rd×B8:=ao b 0 0 64
def Wn(b:B8):Rd×B8:=ao (Ŭ b).1.1 (Ŭ b).1.2.1 (Ŭ b).1.2.2 64
def v7(b:B8):Rd×B8:=aF (Wn b).1.1 (Wn b).1.2.1 (Wn b).1.2.2
def bg(b:B8):Lk×Int:=
 if done (v7 b).1.1 (v7 b).1.2.1 (v7 b).1.2.2=0 then(((Ŭ b).2,(Wn b).2,(v7 b).2),0) else(([],[],[]),done (v7 b).1.1 (v7 b).1.2.1 (v7 b).1.2.2)
def Gp(b:B8):Lk×Int:=
 if(aL b 64).2.2≠0 then(([],[],[]),(aL b 64).2.2)
 else if(aL (b.drop (aL b 64).2.1.toNat) 64).2.2≠0 then(([],[],[]),(aL (b.drop (aL b 64).2.1.toNat) 64).2.2)
 else if((b.drop ((aL b 64).2.1+(aL (b.drop (aL b 64).2.1.toNat) 64).2.1).toNat).length:Int)<32 then(([],[],[]),4)
 else if 32<((b.drop ((aL b 64).2.1+(aL (b.drop (aL b 64).2.1.toNat) 64).2.1).toNat).length:Int) then(([],[],[]),2)
 else(((aL b 64).1,(aL (b.drop (aL b 64).2.1.toNat) 64).1,b.drop ((aL b 64).2.1+(aL (b.drop (aL b 64).2.1.toNat) 64).2.1).toNat),0)
def apB(d:M bw)(i:Nat):B8:=
 mc (if i=0 then [] else cF d (i-1)) (if i<d.length then cF d i else []) (kl (if i=0 then [] else iD d (i-1)))
def eM(d:M bw)(k:Nat):O:=(List.range k).map (apB d)
def dW(d:M bw):O:=eM d (d.length+1)
def bn(d:M bw):O:=if aK d then dW d else []
def dE(d:M bw):Int:=if aK d then 0 else 1
def oa(d:M bw):B8:=root (leaves (dW d))
def pG(d:M bw):B8:=if aK d then oa d else []
def dB(d:M bw)(t:B8):Nat->Int
 |0=> -1
 |k+1=>if zc (cF d k) t then(k:Int) else dB d t k
def bo(d:M bw)(t:B8):Int:=if aK d then dB d t d.length else -1
def fE(d:M bw)(t:B8):Bool:=decide (0<=bo d t)&&decide (cF d (bo d t).toNat=t)
def dN(d:M bw)(t:B8):U:=if fE d t then iD d (bo d t).toNat else []
def iZ(a b:M bw):Bool:=decide (a=b)
def mv(a b:M bw)(k:Nat):Prop:=a.length=b.length/\a.take k=b.take k/\k<=a.length
def dm(docs:O)(s1 s2:Int):Bool:=
 docs.all (λb=>decide ((b.length:Int)<=2000))&&(decide ((docs.length:Int)<=1000)&&(decide (0<=s1)&&(decide (s1<=s2)&&decide (s2<=(docs.length:Int)))))
def qQ(docs:O)(k:Nat):Prop:=(∀b∈docs.take k,b.length<=2000)/\k<=docs.length
def ub(b t:B8):Bool:=decide (0<((places b t).length:Int))
theorem uF(d:M bw):aK d=true↔∀i,i<d.length->CT d i=true:=by
 grind[aK,List.all_eq_true]
theorem aM8(d:M bw):Mg d 0:=⟨λi h=>by omega,S! _⟩
variable {d:List bw}{b:B8}
theorem aeS{k:Nat}(H:(k:Int)<d.length)(h:CT d k=false):false=aK d:=by
 grind[uF]
theorem ao5{k:Nat}(h:Mg d k)(H:(k:Int)<d.length)(o:CT d k=true):Mg d (k+1):=by
 refine⟨λi q=>?_,w!⟩;by_cases e:i=k;grind;exact h.1 i w!
theorem avk{k:Nat}(h:Mg d k)(H:¬(k:Int)<d.length):true=aK d:=by
 symm;exact(uF d).2 λi o=>h.1 i w!
theorem ak2{k:Nat}(h:aW d):(d.getD k ([],[])).1.length<=1099511627776:=by
 by_cases H:k<d.length;exact h.2 _ (aU d k _ H);grind
theorem qR(d:M bw)(i:Nat):CT d i=true↔(i=0\/zc (cF d i) (cF d (i-1))=false)/\(iD d i).length≠0/\aV (iD d i)=true/\isTerm (cF d i)=true:=by
 simp_all[CT,B!,K?,Bool.and_eq_false_iff,p?,id]
theorem P5(d:M bw)(i:Nat):CT d i=false↔(0<i/\zc (cF d i) (cF d (i-1))=true)\/(iD d i).length=0\/aV (iD d i)=false\/isTerm (cF d i)=false:=by
 grind[qR]
theorem P6:∀(w:U) (t:B8),t.length<=64->(l8 t w).length<=64
 |[],t,h=>h
 |c::w,t,h=>by
  simp[l8];split;exact h;exact P6 w _ (by rw[J!];omega)
theorem CU(h:isTerm s=true):s.length<=64:=by
 simp[isTerm,decide_eq_true_eq] at h;have H:s∈aS s:=by grind
 simp[aS,U?] at H;have⟨w,_,hw⟩:=H;rw[<-hw];exact P6 w [] z!
theorem v8(h:aK d=true)(H:i<d.length):(cF d i).length<=64/\aV (iD d i)=true:=by
 grind[qR,uF,CU]
theorem CV(b:B8)(a e m:Int):(ao b a e m).1.1=b:=by grind[ao]
theorem ak3(h:aV l=true):vY l=kl l/\(kl l).length=32:=by
 refine⟨by simp[vY,h,Q?];rfl,TY _ _⟩
theorem wa(h:aK d=true){k:Nat}:eR (if k=0 then [] else cF d (k-1)) (if k<d.length then cF d k else []) (kl (if k=0 then [] else iD d (k-1)))=true\/d.length<k:=by
 by_cases H:d.length<k;omega;have e:(kl (if k=0 then [] else iD d (k-1))).length=32:=TY _ _;simp[eR,e,Bool.and_eq_true,decide_eq_true_eq];grind[v8]
theorem avl(h:aK d=true){k:Nat}(r:k<=d.length):dw (if k=0 then [] else cF d (k-1)) (if k<d.length then cF d k else []) (vY (if k=0 then [] else iD d (k-1)))=apB d k:=by
 have q:aV (if k=0 then [] else iD d (k-1))=true:=by
  by_cases H:k=0;rw[Q! H];rfl;rw[R! H];exact(v8 h w!).2
 rw[(ak3 q).1];rcases wa h (k:=k) with o|o;simp[dw,o,Q?];rfl;omega
theorem Mh(d:M bw)(k:Nat):eM d k++[apB d k]=eM d (k+1):=by
 grind[eM,List.range_succ]
theorem Gq(d:M bw)(k:Nat):(eM d k).length=k:=by simp[eM]
theorem Ay {a c:B8}(h:eR a b c=true):(mc a b c).length<=200:=by
 simp[eR,Bool.and_eq_true,decide_eq_true_eq] at h;grind[cU,mc,text,List.length_append]
theorem kK(q:aW d)(h:aK d=true):dj (dW d)/\eW (leaves (dW d)):=by
 have r:(dW d).length=d.length+1:=Gq d _;have w:=q.1;refine⟨⟨w!,λb H=>?_⟩,⟨?_,?_⟩⟩;simp[dW,eM,List.mem_map,List.mem_range] at H;obtain⟨i,z,rfl⟩:=H;rcases wa h (k:=i) with hk|hk<;>grind[wa,Ay,apB];rw[cQ];intro x o;simp[leaves,List.mem_map] at o;obtain⟨b,_,rfl⟩:=o;rfl;grind[leaves,List.length_map]
theorem IL {d:M bw}{t:B8}:∀k,-1<=dB d t k/\dB d t k<k
 |0=>by grind[dB]
 |k+1=>by
  have:=IL (d:=d) (t:=t) k;grind[dB]
theorem ŭ{k:Nat}(h:zc (cF d k) t=true):(k:Int)=dB d t (k+1):=by
 simp_all[dB,Q!]
theorem Ů{k:Nat}(h:zc (cF d k) t=false):dB d t k=dB d t (k+1):=by
 simp_all[dB,R!]
theorem xt(docs:O):qQ docs 0:=⟨z!,S! _⟩
theorem P7 {docs:O}{k:Nat}(h:qQ docs k)(H:(k:Int)<docs.length)(o:((docs.getD k []).length:Int)<=2000):qQ docs (k+1):=by
 refine⟨λb hb=>?_,w!⟩;rw[an docs k [] w!] at hb;rcases List.mem_append.1 hb with hb|hb;exact h.1 b hb;grind
theorem Ug {docs:O}{k:Nat}(h:(k:Int)<docs.length)(H:2000<((docs.getD k []).length:Int)):false=dm docs s1 s2:=by
 have :docs.all (λb=>decide ((b.length:Int)<=2000))=false:=by
  grind
 simp[dm,this,Bool.false_and]
theorem Uh{k:Nat}(h:qQ docs k)(H:¬(k:Int)<docs.length):docs.all (λb=>decide ((b.length:Int)<=2000))=true:=by
 have o:=h.1;grind[List.take_of_length_le]
theorem CW:∀(a b:B8),zc b a= !Op.bytesLess a b
 |[],[]=>rfl
 |[],b::y=>by rfl
 |a::x,[]=>by rfl
 |a::x,b::y=>by
  have i:=CW x y;simp[zc] at i;simp[zc,Op.bytesLess];grind
theorem avn(h:aK d=true){k:Nat}(hk:k<=d.length):
  dw (bif decide ((k:Int)<(d.length:Int)) then bif decide (0<(k:Int)) then(List.getD d (Int.toNat ((k:Int)-1)) ([],[])).1 else [] else bif decide (0<(k:Int)) then(List.getD d (Int.toNat ((k:Int)-1)) ([],[])).1 else [])
   (bif decide ((k:Int)<(d.length:Int)) then(List.getD d (Int.toNat (k:Int)) ([],[])).1 else bif decide (0<(k:Int)) then [] else [])
   (vY (bif decide (0<(k:Int)) then(List.getD d (Int.toNat ((k:Int)-1)) ([],[])).2 else []))=apB d k:=by
 rw[<-avl h hk];have e:Int.toNat (k-1)=k-1:=by omega
 rw[e,Int.toNat_natCast];by_cases o:k=0;grind[cF,iD,List.eq_nil_of_length_eq_zero];have q:0<(k:Int):=by omega
 by_cases h1:k<d.length;have H:k<(d.length:Int):=by omega
 simp only[L? q,L? H,R! o,Q! h1,K!];rfl;have H:¬k<(d.length:Int):=by omega
 simp only[L? q,e? H,R! o,R! h1,K!,N!];rfl
theorem ao6(h:aK d=true):dB d t d.length=bo d t:=by simp_all[bo,Q?]
theorem IM(h:dE d=0):aK d=true:=by
 grind[aK,dE,absurd]
theorem aM9(h:¬dE d=0):aK d=false:=by
 grind[aK,absurd,dE]
theorem Mi {l:B8}(h:l.length<=1000)(H:s.length<=1000):oR l s:=⟨w!,w!⟩
theorem zd:(text s).length<=s.length+9:=by
 grind[cU,text,List.length_append]
theorem ta(a b c:B8):eR a b c=true↔a.length<=64/\b.length<=64/\c.length=32:=by
 simp[eR,B!,H!];omega
theorem ű {a b c:B8}(h:64<(a.length:Int)\/64<(b.length:Int)\/¬(c.length:Int)=32):eR a b c=false:=by
 grind[ta]
theorem CX {a b c:B8}(h:¬64<(a.length:Int)/\¬64<(b.length:Int)/\(c.length:Int)=32):eR a b c=true:=(ta a b c).2 w!
theorem Ui(h:aK d=false): -1=bo d t/\false=fE d t:=by
 grind[bo,fE]
theorem avo(d:M bw)(t:B8)(x:Nat):(bif Op.bytesLess (List.getD d (Int.toNat (x:Int)) ([],[])).1 t || decide ((List.getD d (Int.toNat (x:Int)) ([],[])).1=t) then(x:Int) else dB d t x)=dB d t (x+1):=by
 grind[Int.toNat_natCast,zc,cF,dB,ŭ,Ů]
theorem ao7(h:aK d=true):(bif decide (0<=dB d t d.length) then decide ((List.getD d (Int.toNat (dB d t d.length)) ([],[])).1=t) else false)=fE d t:=by
 simp[fE,bo,h,Q?];rfl
theorem Fl(b:B8)(m:Int)(h:(aL b m).2.2=0):0<=(aL b m).2.1/\(aL b m).2.1<=b.length:=by
 grind[first,aL]
theorem Ef(h:fE d t=true):0<=bo d t/\bo d t<(d.length:Int)/\(List.getD d (Int.toNat (bo d t)) ([],[])).2=dN d t:=by
 have H:=h;simp[fE,Bool.and_eq_true,decide_eq_true_eq] at H;refine⟨H.1,?_,by simp[dN,h,if_true];rfl⟩;unfold bo;split;simp_all[IL]
 omega
def b7(docs:O)(a:Int)(k:Nat):O:=(List.range k).flatMap λ(i:Nat)=>sorted (aS (docs.getD (a+i).toNat []))
def bA(docs:O)(a:Int)(t:B8)(k:Nat):U:=((List.range k).filter λ(i:Nat)=>ub (docs.getD (a+i).toNat []) t).map λ(i:Nat)=>a+i
def b8(docs:O)(a b:Int):O:=sorted (b7 docs a (b-a).toNat)
def mS(docs:O)(a b:Int)(k:Nat):M bw:=((b8 docs a b).take k).map λt=>(t,bA docs a t (b-a).toNat)
def make(docs:O)(a b:Int):M bw:=(b8 docs a b).map λt=>(t,bA docs a t (b-a).toNat)
def gb(docs:O)(a b:Int):Prop:=0<=a/\a<=b/\b<=docs.length/\docs.length<=1000/\∀d∈docs,d.length<=4000
theorem Uj:∀(f:Nat) (l:O),(yi f l).length<=l.length
 |0,l=>by simp[yi]
 |f+1,l=>by
  simp only[yi];split;simp;rename_i h;have H:0<l.length:=by cases l;simp at h;simp
  have:=Uj f (l.filter (λx=>!decide (x=l.getD (eo l) [])));have:=vX H;rw[M?];omega
theorem eh(l:O):(sorted l).length<=l.length:=Uj _ l
variable {a:Int}{l:List B8}
theorem ZH{b:Int}(H:gb docs a b)(i:Nat):(docs.getD i []).length<=4000:=by
 by_cases h:i<docs.length;exact H.2.2.2.2 _ (aU docs i [] h);grind
theorem xu(docs:O)(a:Int)(k:Nat):b7 docs a k++sorted (aS (docs.getD (Int.toNat (a+(k:Int))) []))=b7 docs a (k+1):=by
 grind[b7,List.range_succ]
theorem CY{b:Int}(h:gb docs a b)(i:Nat):(sorted (aS (docs.getD i []))).length<=4000:=by
 grind[ZH,Au,eh]
theorem CZ {docs:O}{a:Int}{k:Nat}(h:ub (docs.getD (Int.toNat (a+(k:Int))) []) t=true):bA docs a t k++[a+(k:Int)]=bA docs a t (k+1):=by
 simp only[bA,List.range_succ,t?,X?,List.filter_cons,h,Q?,List.filter_nil,G?,List.map_nil]
theorem Gr {docs:O}{a:Int}{k:Nat}(h:ub (docs.getD (Int.toNat (a+(k:Int))) []) t=false):bA docs a t k=bA docs a t (k+1):=by
 grind[bA,List.range_succ]
theorem Mj(docs:O)(a:Int)(t:B8)(k:Nat):(bA docs a t k).length<=k:=by
 grind[bA,List.length_map,List.length_filter_le,ub,List.range,List.length_range]
theorem IN {docs:O}{a b:Int}{k:Nat}(h:k<(b8 docs a b).length)(H:j=(b-a).toNat)(o:(b8 docs a b).getD k []=t):mS docs a b k++[(t,bA docs a t j)]=mS docs a b (k+1):=by
 grind[mS,an,b8]
theorem Mk{b:Int}{k:Nat}(h:¬k<(b8 docs a b).length):mS docs a b k=make docs a b:=by
 grind[mS,make,List.take_of_length_le]
theorem P9(h:0<=a)(H:a<=b.length):inside b a=true:=by
 grind[inside]
theorem C0(h:e≠0):bV b a e=e:=by
 grind[bV]
theorem Gs(h:0<=a)(H:a<=b.length):bV b a 0=0:=by
 grind[bV,P9]
theorem Km(h:e≠0):done b a e=e:=by simp_all[done,Q!]
theorem ao9(h:0<=a)(H:a<=b.length):done b a 0=if a<b.length then 2 else 0:=by
 simp_all[done,R!,P9]
theorem Ų(b:B8):(first b).2.2=0->0<=(first b).1/\0<=(first b).2.1:=by
 grind[first]
theorem C1{m:Int}(q:0<=p)(r:p<=b.length):
  akd b p m=((aL (b.drop p.toNat) m).1,(if(aL (b.drop p.toNat) m).2.2=0 then p+(aL (b.drop p.toNat) m).2.1 else 0),(aL (b.drop p.toNat) m).2.2):=by
 have k:((b.drop p.toNat).length:Int)=b.length-p:=by grind
 have o:=Ų (b.drop p.toNat);have g1:(aQ b p).1=(first (b.drop p.toNat)).1:=rfl;have g3:(aQ b p).2.2=(first (b.drop p.toNat)).2.2:=rfl;by_cases he:(first (b.drop p.toNat)).2.2=0;have g2:(aQ b p).2.1=p+(first (b.drop p.toNat)).2.1:=Q! he;have f:=o he
 have F:aL (b.drop p.toNat) m=if m<(first (b.drop p.toNat)).1 then([],0,2) else if(b.length:Int)-(p+(first (b.drop p.toNat)).2.1)<(first (b.drop p.toNat)).1 then([],0,4) else(((b.drop p.toNat).drop (first (b.drop p.toNat)).2.1.toNat).take (first (b.drop p.toNat)).1.toNat,(first (b.drop p.toNat)).2.1+(first (b.drop p.toNat)).1,0):=by
  unfold aL;rw[if_neg (by simp[he]),k];by_cases h:m<(first (b.drop p.toNat)).1;rw[if_pos h,if_pos h];rw[if_neg h,if_neg h];by_cases H:(b.length:Int)-(p+(first (b.drop p.toNat)).2.1)<(first (b.drop p.toNat)).1;rw[if_pos H,if_pos w!];rw[if_neg H,if_neg w!]
 rw[F];unfold akd;rw[g3,g1,g2,if_neg (by simp[he])];by_cases h:m<(first (b.drop p.toNat)).1;simp only[if_pos h];rfl;simp only[if_neg h];by_cases H:(b.length:Int)-(p+(first (b.drop p.toNat)).2.1)<(first (b.drop p.toNat)).1;simp only[if_pos H];rfl;simp only[if_neg H,if_true];have a:(p+(first (b.drop p.toNat)).2.1).toNat=p.toNat+(first (b.drop p.toNat)).2.1.toNat:=by omega
 have a2:(p+(first (b.drop p.toNat)).2.1+(first (b.drop p.toNat)).1).toNat-(p.toNat+(first (b.drop p.toNat)).2.1.toNat)=(first (b.drop p.toNat)).1.toNat:=by omega
 have a3:p+(first (b.drop p.toNat)).2.1+(first (b.drop p.toNat)).1=p+((first (b.drop p.toNat)).2.1+(first (b.drop p.toNat)).1):=by omega
 rw[h?,a,List.drop_take,a2,a3];simp_all[aL,first,Q!,akd,R!]
theorem ak5(b:B8):bg b=Gp b:=by
 have h:(0:Int)<=b.length:=by omega
 have s:bV b 0 0=0:=Gs w! h;have g:=C1 (b:=b) (p:=0) (m:=64) w! h;rw[show(0:Int).toNat=0 by rfl,List.drop_zero] at g
 have k:Ŭ b=if(aL b 64).2.2≠0 then((b,0,(aL b 64).2.2),[]) else((b,(aL b 64).2.1,0),(aL b 64).1):=by
  simp_all[Ŭ,ao,R!,aL]
 unfold bg Gp;by_cases e:(aL b 64).2.2=0;rw[if_neg w!] at k;have B:=Fl b 64 e;have s1:bV b (aL b 64).2.1 0=0:=Gs B.1 B.2;have G:=C1 (b:=b) (p:=(aL b 64).2.1) (m:=64) B.1 B.2;generalize z:(aL b 64).2.1=n at *;generalize H:aL (b.drop n.toNat) 64=f at *
 have r:Wn b=if f.2.2≠0 then((b,n,f.2.2),[]) else((b,n+f.2.1,0),f.1):=by
  simp_all[Wn,ao,R!]
 by_cases E:f.2.2=0;rw[if_neg w!] at r;have o:=Fl (b.drop n.toNat) 64 x!;rw[H,List.length_drop] at o;have s2:bV b (n+f.2.1) 0=0:=Gs w! w!;have q:((b.drop (n+f.2.1).toNat).length:Int)=b.length-(n+f.2.1):=by grind
 have R:v7 b=if(b.length:Int)-(n+f.2.1)<32 then((b,n+f.2.1,4),[]) else((b,n+f.2.1+32,0),(b.drop (n+f.2.1).toNat).take 32):=by
  simp_all[v7,aF,R!]
 by_cases w:(b.length:Int)-(n+f.2.1)<32;simp_all[Q!,Km,ne_eq,not_true_eq_false,r?,Q?]
 rw[if_neg w] at R;grind[ao9];rw[if_pos E] at r
 have R:v7 b=((b,n,f.2.2),[]):=by
  simp_all[v7,aF,C0,Q!]
 simp_all[Km,ne_eq,not_true_eq_false,not_false_eq_true,r?,Q?]
 rw[Q! e] at k
 have r:Wn b=((b,0,(aL b 64).2.2),[]):=by
  simp_all[Wn,ao,C0,Q!]
 have R:v7 b=((b,0,(aL b 64).2.2),[]):=by
  simp_all[v7,aF,C0,Q!]
 simp_all[Km,ne_eq,not_false_eq_true,r?,Q?]
theorem zf(b t:B8):ub b t=true↔t∈aS b:=by
 unfold ub;rw[decide_eq_true_iff];simp only[places,y7,List.length_map];constructor;intro h;have H:0<((List.range (aS b).length).filter (λi=>decide ((aS b).getD i []=t))).length:=by omega
 obtain⟨i,k⟩:=List.exists_mem_of_length_pos H;grind;intro h;obtain⟨i,k,o⟩:=List.getElem_of_mem h
 have :i∈(List.range (aS b).length).filter (λi=>decide ((aS b).getD i []=t)):=by
  grind
 grind
def gH(docs:O)(a:Int)(k:Nat):O:=sorted (aS (docs.getD (a+(k:Int)).toNat []))
def BJ(docs:O)(a:Int)(k j:Nat)(s:B8):U:=bA docs a s k++if s∈(gH docs a k).take j then [a+(k:Int)] else []
theorem aGz(docs:O)(a:Int)(s:B8):BJ docs a 0 0 s=[]:=by rfl
theorem Ml(h:qM l):l.Nodup:=h.imp λ{a b} k d=>by
 grind[cJ]
theorem C2(h:j<l.length)(s:B8):s∈l.take (j+1)↔s∈l.take j\/s=l.getD j []:=by
 grind[List.take_add_one,List.getElem?_eq_getElem]
theorem ZJ(h:l.Nodup)(H:j<l.length):l.getD j []∉l.take j:=by
 grind[List.getElem?_eq_getElem,List.getElem_of_mem,List.length_take,List.pairwise_iff_getElem]
theorem apa{k:Nat}(h:j<(gH docs a k).length):BJ docs a k (j+1) ((gH docs a k).getD j [])=BJ docs a k j ((gH docs a k).getD j [])++[a+(k:Int)]:=by
 have H:(gH docs a k).getD j []∉(gH docs a k).take j:=ZJ (Ml (iX (aS (docs.getD (a+(k:Int)).toNat [])))) h;have o:=(C2 h ((gH docs a k).getD j [])).2 (.inr rfl);simp_all[BJ,Q!,R!,B?]
theorem ak6 {docs:O}{a:Int}{k:Nat}(h:j<(gH docs a k).length)(H:s≠(gH docs a k).getD j []):BJ docs a k (j+1) s=BJ docs a k j s:=by
 simp_all[BJ,gH,Q!,C2,R!]
theorem ak7 {docs:O}{a:Int}{k:Nat}(o:¬j<(gH docs a k).length)(s:B8):BJ docs a k j s=BJ docs a (k+1) 0 s:=by
 simp[BJ,List.take_zero,List.not_mem_nil,r?,B?];rw[d? w!];by_cases h:s∈gH docs a k;rw[Q! h];exact CZ ((zf _ _).2 ((ir _ _).1 h))
 . rw[R! h,B?];refine Gr ?_;cases H:ub (docs.getD (Int.toNat (a+(k:Int))) []) s with
   |false=>rfl
   |true=>exact absurd ((ir _ _).2 ((zf _ _).1 H)) h
theorem apb(docs:O)(a:Int)(k j:Nat)(s:B8):(BJ docs a k j s).length<=k+1:=by
 grind[Mj,BJ,List.length_append]
theorem Gt(docs:O)(a:Int)(x:B8):∀k,x∈b7 docs a k↔bA docs a x k≠ []
 |0=>by simp[b7,bA]
 |k+1=>by
  rw[<-xu,I!,Gt docs a x k,ir,<-zf];cases h:ub (docs.getD (Int.toNat (a+(k:Int))) []) x with
  |true=>rw[<-CZ h];simp
  |false=>grind[Gr]
def lH(docs:O)(a b:Int):M bw×Int:=if dm docs a b then(make docs a b,0) else([],1)
abbrev Sg:=Int×Int×Int×B8
def me(a b:Int):Bool:=decide (0<=a)&&(decide (a<b)&&decide (b<=1000))
def Qa(d:M bw)(a b:Int)(i:Nat):Bool:=decide (((P2 (iD d i) a b).length:Int)=((iD d i).length:Int))
def eS(a b:Int)(d:M bw):Bool:=(me a b&&aK d)&&(List.range d.length).all (Qa d a b)
def xv(a b:Int)(d:M bw)(k:Nat):Prop:=me a b=true/\aK d=true/\(∀i,i<k->Qa d a b i=true)/\k<=d.length
def tB(a b:Int)(d:M bw):(Int×Int×Int×B8)×Int:=if eS a b d then((a,b,(d.length:Int)+1,oa d),0) else((0,0,0,[]),1)
def SO(a b:Int)(d:M bw):Int×Int×Int×B8:=(a,b,((dW d).length:Int),oa d)
def ow(a b n:Int)(r:B8):Bool:=me a b&&(decide (1<=n)&&(decide (n<=1099511627776)&&decide ((r.length:Int)=32)))
def ajQ(docs:O)(a b:Int):Bool:=dm docs a b&&decide (a<b)
def sg(l:M Sg)(i:Nat):Sg:=l.getD i (0,0,0,[])
def C3(l:M Sg)(i:Nat):Bool:=ow (sg l i).1 (sg l i).2.1 (sg l i).2.2.1 (sg l i).2.2.2&& !(decide (0<i)&& !decide ((sg l i).1=(sg l (i-1)).2.1))
def rE(l:M Sg)(n:Int):Bool:=
 if l.length=0 then decide (n=0)
 else(List.range l.length).all (C3 l)&&(decide ((l.length:Int)<=64)&&(decide ((sg l 0).1=0)&&decide ((sg l (l.length-1)).2.1=n)))
variable {b:Int}
theorem avp {l:U}(h:aV l=true)(w:l.length≠0):(P2 l a b).length=l.length↔a<=l.getD 0 0/\l.getD (l.length-1) 0<b:=by
 have H:∀n,n<l.length->∀i,i<=n->l.getD i 0<=l.getD n 0:=by
  intro n;induction n with
  |zero=>grind
  |succ n I=>
   intro z i k;by_cases e:i=n+1;grind;grind[iI,jI,lT]
 simp only[P2,tA,h,Q?];rw[List.length_filter_eq_length_iff];constructor;intro L;have o:=L _ (aU l 0 0 w!);have q:=L _ (aU l (l.length-1) 0 w!);simp_all[yl,B!,H!]
 rintro⟨o,q⟩ x r;obtain⟨i,k,rfl⟩:=List.mem_iff_getElem.1 r;have e:l[i]=l.getD i 0:=by grind
 have Q:=H i k 0 (S! _);have A:=H (l.length-1) w! i w!;simp[yl,B!,H!];omega
theorem aGA(h:me a b=true)(H:aK d=true):xv a b d 0:=⟨h,H,λi k=>by omega,S! _⟩
theorem ak8{k:Nat}(h:xv a b d k)(H:(k:Int)<d.length)(o:Qa d a b k=true):xv a b d (k+1):=by
 refine⟨h.1,h.2.1,λi q=>?_,w!⟩;by_cases e:i=k;grind;exact h.2.2.1 i w!
theorem apc{k:Nat}(h:(k:Int)<d.length)(H:Qa d a b k=false):false=eS a b d:=by
 grind[eS]
theorem apd{k:Nat}(h:xv a b d k)(H:¬(k:Int)<d.length):true=eS a b d:=by
 simp[eS,h.1,h.2.1,Bool.true_and,V!,f?];intro i o;exact h.2.2.1 i w!
theorem avq(h:me a b=false\/aK d=false):false=eS a b d:=by
 rcases h with h|h<;>simp[eS,h,Bool.false_and,Bool.and_false]
theorem ak9(h:eS a b d=true):aK d=true:=by
 simp_all[eS,B!]
theorem ala{k:Nat}(h:aK d=true)(H:(k:Int)<d.length):0<(iD d k).length/\(iD d k).length<=1000:=by
 have o:=(qR d k).1 ((uF d).1 h k w!);grind[mz]
theorem ų(h:eS a b d=false):tB a b d=((0,0,0,[]),1):=by grind[tB]
theorem Mm(h:eS a b d=true):tB a b d=((a,b,(d.length:Int)+1,oa d),0)/\dE d=0/\pG d=oa d:=by
 have H:=ak9 h;simp_all[tB,Q?,dE,pG]
def dp(docs:O)(a b:Int):(Int×Int×M bw)×Int:=if ajQ docs a b then((a,b,make docs a b),0) else((0,0,[]),1)
def rowAt(l:M Sg)(k:Nat):Int:=if k=0 then 0 else(sg l (k-1)).2.1
def yU(l:M Sg)(k:Nat):Prop:=(∀i,i<k->C3 l i=true)/\k<=l.length/\l.length<=64/\(0<k->(sg l 0).1=0)
theorem Mn {r d:O}(h:i<=m.length):(m.take i++r++d).take i=m.take i:=by
 grind
theorem Wo {b:B8}(h:small b):small (aS b):=by
 grind[Au,small]
theorem Wq(h:small l):small (fp l):=by
 grind[small,fp,List.length_mergeSort]
theorem Qb(a b:Bool):(Bool.rec false b a:Bool)=(a&&b):=by cases a<;>rfl
theorem ape(h:¬(lH docs a b).2=0):dp docs a b=((0,0,[]),1)/\(lH docs a b).2=1:=by
 unfold lH at *;by_cases H:dm docs a b=true;grind;grind[dp,ajQ,dm]
theorem apf(h:(lH docs a b).2=0):dm docs a b=true/\lH docs a b=(make docs a b,0):=by
 grind[lH]
theorem apg(h:a=b):dp docs a b=((0,0,[]),1):=by
 grind[dp,ajQ]
theorem aph {docs:O}{a b:Int}(h:(lH docs a b).2=0)(d:¬a=b):dp docs a b=((a,b,(lH docs a b).1),0):=by
 obtain⟨H,k⟩:=apf h;unfold dp ajQ
 have o:a<=b:=by
  simp_all[dm,B!,H!]
 grind
def wb(l:M Sg)(k:Nat):Bool:=decide ((sg l k).1=rowAt l k)&&ow (sg l k).1 (sg l k).2.1 (sg l k).2.2.1 (sg l k).2.2.2
variable {l:List Sg}
theorem api(h:(64:Int)<l.length):false=rE l n:=by
 grind[rE]
theorem avr(h:¬(64:Int)<l.length):yU l 0:=⟨λi H=>by omega,S! _,w!,λh=>by omega⟩
theorem Qc(l:M Sg):rowAt l 0=0:=rfl
theorem ZK(l:M Sg)(k:Nat):rowAt l (k+1)=(sg l k).2.1:=by rfl
theorem Uk{k:Nat}(h:0<k):C3 l k=wb l k:=by
 grind[C3,wb,rowAt]
theorem Qd:C3 l 0=ow (sg l 0).1 (sg l 0).2.1 (sg l 0).2.2.1 (sg l 0).2.2.2:=by simp[C3]
theorem alb{k:Nat}(o:yU l k)(q:(k:Int)<l.length)(h:wb l k=false):false=rE l n:=by
 unfold rE;by_cases H:k=0;subst H;unfold wb at h;rw[Qc] at h;by_cases r:(sg l 0).1=0
 have :(List.range l.length).all (C3 l)=false:=by
  rw[List.all_eq_false];exact⟨0,x!,by grind[Qd]⟩
 grind;grind
 have :(List.range l.length).all (C3 l)=false:=by
  rw[List.all_eq_false];exact⟨k,x!,by grind[Uk]⟩
 grind
theorem Ŵ{k:Nat}(H:yU l k)(q:(k:Int)<l.length)(h:wb l k=true):yU l (k+1):=by
 refine⟨λi r=>?_,w!,H.2.2.1,λ_=>?_⟩;by_cases e:i=k;by_cases o:i=0;unfold wb at h;grind[Qd];grind[Uk];exact H.1 i w!;by_cases o:k=0;subst o;unfold wb at h;rw[Bool.and_eq_true,decide_eq_true_eq] at h;exact h.1;exact H.2.2.2 w!
theorem alc{k:Nat}(H:yU l k)(q:¬(k:Int)<l.length):decide (rowAt l k=n)=rE l n:=by
 obtain⟨r,w,z,o⟩:=H;have K:k=l.length:=by omega
 subst K;unfold rE;by_cases h:l.length=0;rw[if_pos h,h,Qc,decide_eq_decide];omega;have e:decide ((l.length:Int)<=64)=true:=decide_eq_true w!;have E:decide ((sg l 0).1=0)=true:=decide_eq_true (o w!);simp_all[Bool.true_and,rowAt,if_neg]
theorem aeU(h:fE d t=false): []=dN d t:=by grind[dN]
theorem avt(h:fE d t=true):small (List.getD d (Int.toNat (bo d t)) ([],[])).2:=by
 obtain⟨o,q,_⟩:=Ef h
 have H:aK d=true:=by
  grind[aK,bo]
 have:=ala (d:=d) (k:=Int.toNat (bo d t)) H w!;grind[small,iD]
theorem ZL{k:Nat}(h:¬(sg l k).1=rowAt l k\/ow (sg l k).1 (sg l k).2.1 (sg l k).2.2.1 (sg l k).2.2.2=false):wb l k=false:=by
 grind[wb]
theorem ŵ{k:Nat}(h:(sg l k).1=rowAt l k/\ow (sg l k).1 (sg l k).2.1 (sg l k).2.2.1 (sg l k).2.2.2=true):wb l k=true:=by
 grind[wb,decide_eq_true]
theorem r7{t:Int}(h:ajQ docs f t=true):gb docs f t:=by
 simp[ajQ,dm,Bool.and_eq_true,List.all_eq_true,decide_eq_true_eq] at h;obtain⟨⟨q,r,H,k,o⟩,w⟩:=h;exact⟨H,k,o,w!,λd z=>by grind⟩
theorem aeW(h:eS a b d=true):tB a b d=((a,b,(d.length:Int)+1,oa d),0):=by grind[tB]
theorem AA(a b:Int)(d:M bw):SO a b d=(a,b,(d.length:Int)+1,oa d):=by simp[SO,dW,eM]
theorem kn(l:O):cP (leaves l)=true:=by
 rw[cQ];intro d h;simp[leaves,U?] at h;obtain⟨b,_,rfl⟩:=h;rfl
theorem apj(h:eS a b d=true)(H:aW d):ow a b ((d.length:Int)+1) (oa d)=true:=by
 have hw:me a b=true:=by
  simp_all[eS,B!]
 have k:(oa d).length=32:=uD (kn (dW d));unfold ow;rw[hw,k];have:=H.1;grind
theorem Nz:∀(l a:U),∀W∈na a l,W≠ []
 |[],a,W,hW=>by
   grind[na]
 |x::l,a,W,hW=>by
  simp[na] at hW;split at hW;exact Nz l _ W hW;split at hW;exact Nz l _ W hW;rename_i h;rcases O!.1 hW with e|hW;subst e;intro e;rw[e] at h;exact h rfl;exact Nz l _ W hW
theorem ZN {b:B8}(h:t∈aS b):isTerm t=true:=by
 rw[<-Kh];simp[aS,U?] at h;obtain⟨W,r,z⟩:=h;have a:=IH (decode b) [] z! W r;have d:=Nz (decode b) [] W r
 have k:∀c∈W,cA (aX c)=true:=λc H=>Ap (oT b c (by
  grind))
 have A:t.length<=64:=by rw[<-z];exact Ec W [] z!
 obtain⟨p,B,D,o⟩:∃p:U,(∀c∈p,c∈W)/\l8 [] W=p.flatMap (λc=>im (aX c))/\p≠ []:=by
  cases W with
  |nil=>grind
  |cons c w=>
   obtain⟨p,F,G⟩:=CN w ([]++im (aX c));have I:(im (aX c)).length<=4:=by grind[IJ,CL]
   refine⟨c::p,λx J=>?_,?_,z!⟩;grind;grind[l8,List.length_nil]
 have E:∀c∈p,cA (aX c)=true:=λc H=>k c (B c H)
 have V:t=(p.map aX).flatMap enc:=by
  rw[<-z];show l8 [] W=_
  grind[List.flatMap_map,xq,IJ]
 have hd:decode t=p.map aX:=by
  rw[V]
  exact CM _ (λc H=>by
   obtain⟨C,q,rfl⟩:=U?.1 H;exact E C q)
 simp only[tx,B!,H!,V!,CJ,hd];refine⟨λc H=>?_,?_,w!⟩;obtain⟨C,q,rfl⟩:=U?.1 H;exact⟨Me (a C (B C q)).1,II C⟩;have:=List.length_pos_iff.2 o;simp;omega
theorem xx{k:Nat}{i:Int}:i∈bA docs a t k↔a<=i/\i<a+(k:Int)/\ub (docs.getD i.toNat []) t=true:=by
 simp[bA,List.mem_map,List.mem_filter,List.mem_range];constructor;grind;rintro⟨h,H,o⟩;refine⟨(i-a).toNat,⟨w!,?_⟩,w!⟩;grind
theorem Wr(docs:O)(a:Int)(t:B8)(k:Nat):(bA docs a t k).Pairwise (· < ·):=by
 refine List.pairwise_map.2 ?_;refine List.Pairwise.filter _ ?_;exact(List.pairwise_lt_range (n:=k)).imp λ{x y} h=>by omega
theorem ald {l:U}(h:l.Pairwise (· < ·))(H:∀x∈l,0<=x/\x<1000):aV l=true:=by
 rw[jI];intro i hi;rw[iI];have k:=H _ (aU l i 0 hi);refine⟨?_,k.2⟩;cases i with
 |zero=>simp only[cD,Q!];omega
 |succ i=>
  rw[lT];have:=(List.pairwise_iff_getElem.1 h) i (i+1) w! hi w!;rw[E!,E!,C! hi,C! (show i<l.length by omega)];exact this
theorem uY(docs:O)(a b:Int):(make docs a b).length=(b8 docs a b).length:=by simp[make]
theorem Eg(h:i<(b8 docs a b).length):cF (make docs a b) i=(b8 docs a b).getD i []:=by
 unfold cF make;rw[List.getD_eq_getElem?_getD,List.getElem?_map,List.getElem?_eq_getElem h,List.getD_eq_getElem?_getD,List.getElem?_eq_getElem h];rfl
theorem NA(h:i<(b8 docs a b).length):iD (make docs a b) i=bA docs a ((b8 docs a b).getD i []) (b-a).toNat:=by
 unfold iD make;rw[List.getD_eq_getElem?_getD,List.getElem?_map,List.getElem?_eq_getElem h,List.getD_eq_getElem?_getD,List.getElem?_eq_getElem h];rfl
theorem qb:t∈b8 docs a b↔bA docs a t (b-a).toNat≠ []:=by
 grind[b8,ir,Gt]
theorem tc(h:gb docs a b):aK (make docs a b)=true:=by
 rw[uF];intro i hi;rw[uY] at hi;rw[qR,Eg hi,NA hi];have k:=aU (b8 docs a b) i [] hi;have d:=qb.1 k;have o:=h.1;have q:=h.2.2.1;have r:=h.2.2.2.1;refine⟨?_,?_,?_,?_⟩;by_cases w:i=0;omega;right;rw[Eg w!];have H:qM (b8 docs a b):=iX _;have:=(List.pairwise_iff_getElem.1 H) (i-1) i w! hi w!;rw[CW,List.getD_eq_getElem?_getD,List.getD_eq_getElem?_getD,List.getElem?_eq_getElem hi,List.getElem?_eq_getElem (show i-1<(b8 docs a b).length by omega)];simpa using this;grind;grind[ald,Wr,xx];obtain⟨x,z⟩:=List.exists_mem_of_ne_nil _ d;grind[xx,ZN,zf]
theorem Ŷ(k:gb docs a b)(o:(b8 docs a b).length<=1048576):aW (make docs a b):=by
 refine⟨by grind[uY],λe h=>?_⟩;simp[make,List.mem_map] at h;obtain⟨t,H,rfl⟩:=h;obtain⟨x,q⟩:=List.exists_mem_of_ne_nil _ (qb.1 H);grind[ZN,zf,xx,CU]
theorem IP {d:M bw}{t:B8}:∀k,(dB d t k= -1/\∀i,i<k->zc (cF d i) t=false)\/(∃q:Nat,dB d t k=q/\q<k/\zc (cF d q) t=true/\∀i,q<i->i<k->zc (cF d i) t=false)
 |0=>.inl ⟨rfl,λi o=>by omega⟩
 |k+1=>by
  simp[dB];split;rename_i h;exact .inr ⟨k,rfl,w!,h,λi H r=>by omega⟩;rename_i h;rcases IP (d:=d) (t:=t) k with H|⟨q,H,r,w,z⟩;refine .inl ⟨H.1,λi o=>?_⟩;by_cases e:i=k;rw[e];simpa using h;exact H.2 i w!;refine .inr ⟨q,H,w!,w,λi g G=>?_⟩;by_cases e:i=k;rw[e];simpa using h;exact z i g w!
theorem apk(H:gb docs a b)(K:a<b):eS a b (make docs a b)=true:=by
 have r:=H.1;have w:=H.2.2.1;have z:=H.2.2.2.1;unfold eS;rw[tc H]
 have hw:me a b=true:=by
  unfold me;simp;omega
 rw[hw,Bool.true_and,Bool.true_and,List.all_eq_true];intro i hi;rw[List.mem_range] at hi;have k:=(qR _ _).1 ((uF _).1 (tc H) i hi);unfold Qa;rw[decide_eq_true_eq];have h:=(avp k.2.2.1 k.2.1 (a:=a) (b:=b)).2 ?_;omega;rw[uY] at hi
 have o:∀x∈iD (make docs a b) i,a<=x/\x<b:=λx q=>by
  rw[NA hi] at q;have:=xx.1 q;omega
 exact⟨(o _ (aU _ 0 0 w!)).1,(o _ (aU _ _ 0 w!)).2⟩
theorem Ws {n:Nat}(h:n<=64)(r:B8):first (num (n:Int)++r)=((n:Int),1,0):=by
 have e:num (n:Int)=[UInt8.ofNat n]:=IC n w!;have H:(UInt8.ofNat n).toNat=n:=by grind[UInt8.toNat_ofNat']
 have k:lead (num (n:Int)++r)=0:=by
  grind[lead,List.singleton_append,List.takeWhile,decide,decide_eq_false]
 grind[first,ajP,List.take,UInt8.ofNat]
theorem Fm {a:B8}(h:a.length<=64)(r:B8):aL (text a++r) 64=(a,1+(a.length:Int),0):=by
 have e:text a++r=num (a.length:Int)++(a++r):=by simp[text]
 have el:num (a.length:Int)=[UInt8.ofNat a.length]:=IC _ w!;have H:=Ws (n:=a.length) h (a++r);unfold aL;rw[e,H,if_neg z!,if_neg w!,if_neg x!];simp[el]
theorem apl {a:B8}(h:a.length<=64):(text a).length=1+a.length:=by
 grind[num,UInt8.ofNat,IC,text]
theorem Ÿ {b:B8}(h:(first b).2.2=0):num (first b).1=b.take (first b).2.1.toNat/\(first b).2.1<=b.length:=by
 unfold first at h |-
 split at h;cases h;rename_i h1;split at h;cases h;rename_i k;split at h;cases h;rename_i H;rw[R! h1,R! k,R! H];have q:lead b<=b.length:=List.Sublist.length_le (List.takeWhile_sublist _);refine⟨?_,by simp;omega⟩;have :num (ajP (b.take (lead b+1)))=b.take (lead b+1):=Classical.byContradiction λe=>H (.inr e);congr 1
theorem Qe {a b c:B8}(h:eR a b c=true):bg (mc a b c)=((a,b,c),0):=by
 simp[eR,B!,H!] at h;rw[ak5];have h1:=Fm (a:=a) w! (text b++c);have H:=Fm (a:=b) w! c;have l:=apl (a:=a) w!;have L:=apl (a:=b) w!;have hB:mc a b c=text a++(text b++c):=by simp[mc]
 have d1:(text a++(text b++c)).drop (1+(a.length:Int)).toNat=text b++c:=by
  rw[show(1+(a.length:Int)).toNat=(text a).length by omega];simp
 have d2:(text a++(text b++c)).drop (1+(a.length:Int)+(1+(b.length:Int))).toNat=c:=by
  rw[show(1+(a.length:Int)+(1+(b.length:Int))).toNat=(text a).length+(text b).length by omega,<-h?];simp
 unfold Gp;rw[hB,h1,if_neg z!];simp only[d1,H,d2];rw[if_neg z!,if_neg w!,if_neg w!]
theorem ZO(h:isTerm t=true):t≠ []:=by
 intro e;subst e;exact absurd h (by decide)
theorem avu(h:s≠ []):Op.bytesLess [] s=true:=by
 cases s with
 |nil=>grind
 |cons a s=>rfl
theorem r8 {d:M bw}(h:aK d=true):∀j i,i<j->j<d.length->Op.bytesLess (cF d i) (cF d j)=true
 |0,i,hi,_=>by omega
 |j+1,i,hi,k=>by
  have h1:=((qR d (j+1)).1 ((uF d).1 h (j+1) k)).1
  have H:Op.bytesLess (cF d j) (cF d (j+1))=true:=by
   rcases h1 with h1|h1;omega;rw[CW] at h1;simpa using h1
  by_cases e:i=j;rw[e];exact H;exact iC _ _ _ (r8 h j i w! w!) H
theorem C4(r:aK d=true)(s:B8):(∃q,q<d.length/\cF d q=s/\fE d s=true)\/(fE d s=false/\∃i,i<=d.length/\(∀q,q<i->Op.bytesLess (cF d q) s=true)/\(∀q,i<=q->q<d.length->Op.bytesLess s (cF d q)=true)):=by
 have k:∀q,zc (cF d q) s=false->Op.bytesLess s (cF d q)=true:=λq h=>by
  grind[CW]
 unfold fE bo;rw[if_pos r];rcases IP (d:=d) (t:=s) d.length with⟨h1,o⟩|⟨q,h1,o,B,w⟩;right;rw[h1];exact⟨rfl,0,Nat.zero_le _,λq H=>by omega,λq _ H=>k q (o q H)⟩;by_cases e:cF d q=s;grind;right;refine⟨?_,q+1,w!,λp z=>?_,λp z A=>k p (w p w! A)⟩;grind
 have H:Op.bytesLess (cF d q) s=true:=by
  simp_all[zc,e?,Bool.or_false]
 grind[iC,r8]
abbrev aB:=Int×Int×M bw
def aD(l:M aB)(i:Nat):aB:=l.getD i (0,0,[])
def dT(d:M bw):O:=d.map (·.1)
def aEp(l:M aB):O:=l.flatMap λs=>dT s.2.2
def uT(l:M aB):O:=sorted (aEp l)
def uG(t:B8)(d:M bw):U:=(d.filter λe=>decide (e.1=t)).flatMap (·.2)
def Gu(l:M aB)(t:B8):U:=l.flatMap λs=>uG t s.2.2
def aPu(l:M aB)(k:Nat):M bw:=((uT l).take k).map λt=>(t,Gu l t)
def Wt(l:M aB):M bw:=(uT l).map λt=>(t,Gu l t)
def aMx(l:M aB)(k:Nat)(s:aB):Int:=(((dT s.2.2).filter λt=>decide (t∈(uT l).take k)).length:Nat)
def mA(l:M aB)(k:Nat):U:=l.map (aMx l k)
def ajF(l:M aB)(k i:Nat):U:=(mA l (k+1)).take i++(mA l k).drop i
def aSh(l:M aB)(nx:U):Nat->Int
 |0=> -1
 |i+1=>if nx.getD i 0=((aD l i).2.2.length:Int) then aSh l nx i
  else if aSh l nx i<0\/Op.bytesLess (cF (aD l i).2.2 (nx.getD i 0).toNat) (cF (aD l (aSh l nx i).toNat).2.2 (nx.getD (aSh l nx i).toNat 0).toNat)=true then(i:Int)
  else aSh l nx i
def aVy(l:M aB):Prop:=l.length<=1000/\∀s∈l,aK s.2.2=true/\s.2.2.length<=1048576
def wc(s:aB):Bool:=eS s.1 s.2.1 s.2.2
def apm(l:M aB)(i:Nat):Bool:=decide ((aD l (i+1)).1=(aD l i).2.1)
def Wu(l:M aB):Bool:=(List.range (l.length-1)).all (apm l)
def apn(l:M aB):Prop:=l.length<=1000/\∀s∈l,aW s.2.2
def aeY(l:M aB):(Int×Int×M bw)×Int:=
 if l.length=0 then((0,0,[]),1)
 else if l.all wc=false then((0,0,[]),1)
 else if Wu l=false then((0,0,[]),7)
 else(((aD l 0).1,(aD l (l.length-1)).2.1,Wt l),0)
theorem aZ1 {P:B8->Bool}:∀ {l:O},qM l->(∀x∈l,∀y∈l,Op.bytesLess x y=true->P y=true->P x=true)->
  l.take (l.filter P).length=l.filter P/\l.drop (l.filter P).length=l.filter λx=>!P x
 |[],_,_=>⟨rfl,rfl⟩
 |x::l,h,H=>by
  have k:=W?.1 h;have i:=aZ1 (l:=l) k.2 λa o b q=>H a (F! _ o) b (F! _ q);cases r:P x with
  |true=>
   grind
  |false=>
   grind[List.mem_cons_self,List.mem_cons_of_mem,List.filter_eq_nil_iff,List.filter_eq_self]
theorem aYH(h:qM T)(k:Nat){x y:B8}(o:x∈T)(H:Op.bytesLess x y=true)(q:y∈T.take k):x∈T.take k:=by
 grind[List.take_append_drop,qM,y8]
theorem Wv(d:M bw):(dT d).length=d.length:=by simp[dT]
theorem Ww(d:M bw)(i:Nat):(dT d).getD i []=cF d i:=by
 grind[dT,cF]
theorem alh {a b:B8}(h:zc a b=false):Op.bytesLess b a=true:=by
 grind[zc,Bool.or_eq_false_iff,decide_eq_false_iff_not,pg,absurd]
theorem xy(h:aK d=true):qM (dT d):=by
 have H:∀n i,i<n->n<d.length->Op.bytesLess (cF d i) (cF d n)=true:=by
  intro n;induction n with
  |zero=>omega
  |succ n I=>
   grind[qR,uF,alh,iC]
 unfold qM;grind[List.pairwise_iff_getElem,dT,cF,Ww,List.getElem?_eq_getElem,Wv]
variable {l x:List aB}{s:aB}
theorem aZv(h:s∈l)(H:t∈dT s.2.2):t∈uT l:=by
 grind[uT,ir,aEp]
theorem apo(l:M aB):qM (uT l):=iX _
theorem a1v(q:s∈l)(h:aK s.2.2=true)(k:Nat):
  (dT s.2.2).take (aMx l k s).toNat=(dT s.2.2).filter (λt=>decide (t∈(uT l).take k))/\(dT s.2.2).drop (aMx l k s).toNat=(dT s.2.2).filter λt=>!decide (t∈(uT l).take k):=by
 have:=aZ1 (P:=λt=>decide (t∈(uT l).take k)) (xy h) λx r y w H o=>by
  grind[aYH,apo,aZv]
 grind[aMx,Int.toNat_natCast]
theorem aYr(l:M aB)(k:Nat)(s:aB):0<=aMx l k s/\aMx l k s<=s.2.2.length:=by
 grind[aMx,List.length_filter_le,decide,uT,dT,Wv]
theorem a08(o:s∈l)(q:aK s.2.2=true){k:Nat}(h:aMx l k s<s.2.2.length):
  cF s.2.2 (aMx l k s).toNat∈dT s.2.2/\cF s.2.2 (aMx l k s).toNat∈uT l/\cF s.2.2 (aMx l k s).toNat∉(uT l).take k/\∀t∈dT s.2.2,t∉(uT l).take k->t=cF s.2.2 (aMx l k s).toNat\/Op.bytesLess (cF s.2.2 (aMx l k s).toNat) t=true:=by
 have w:=aYr l k s;have z:=(a1v o q k).2;have r:(aMx l k s).toNat<(dT s.2.2).length:=by grind[Wv]
 have b:(dT s.2.2).drop (aMx l k s).toNat=cF s.2.2 (aMx l k s).toNat::(dT s.2.2).drop ((aMx l k s).toNat+1):=by
  rw[<-Ww,E!,C! r];simp_all
 have H:cF s.2.2 (aMx l k s).toNat∈(dT s.2.2).filter λt=>!decide (t∈(uT l).take k):=by
  grind
 simp at H;refine⟨H.1,aZv o H.1,H.2,λt A B=>?_⟩;grind[qM,dT,aMx,xy,List.drop_sublist,List.pairwise_cons]
theorem a3V(H:s∈l){k:Nat}(h:∀t∈dT s.2.2,t∈(uT l).take k):aMx l k s=s.2.2.length:=by
 grind[aMx,List.filter_eq_self,Wv]
theorem aU3{k:Nat}(h:k<T.length)(t:B8):t∈T.take (k+1)↔t∈T.take k\/t=T.getD k []:=C2 h t
theorem a09{k:Nat}(h:k<(uT l).length):(uT l).getD k []∉(uT l).take k:=ZJ (Ml (apo l)) h
theorem a16 {o:O}(h:qM o){k:Nat}(hk:k<T.length)(q:T.getD k []∉T.take k):
  (o.filter λt=>decide (t∈T.take (k+1))).length=(o.filter λt=>decide (t∈T.take k)).length+(if T.getD k []∈o then 1 else 0):=by
 induction o with
 |nil=>simp
 |cons x r i=>
  have H:=W?.1 h
  have w:T.getD k []=x->T.getD k []∉r:=λe z=>by
   grind[cJ]
  have i:=i H.2;simp[List.filter_cons,aU3 hk,decide_eq_true_eq,List.mem_cons] at i |-;grind
def hit(l:M aB)(k:Nat)(s:aB):Prop:=aMx l k s<s.2.2.length/\cF s.2.2 (aMx l k s).toNat=(uT l).getD k []
theorem a0c(o:s∈l)(q:aK s.2.2=true){k:Nat}(H:k<(uT l).length):hit l k s↔(uT l).getD k []∈dT s.2.2:=by
 constructor;rintro⟨z,r⟩;grind[a08];intro A
 have i:aMx l k s<s.2.2.length:=by
  by_cases h:aMx l k s<s.2.2.length;exact h;have B:=(a1v o q k).2;rw[List.drop_eq_nil_of_le (by grind[Wv])] at B
  have :(uT l).getD k []∈(dT s.2.2).filter λt=>!decide (t∈(uT l).take k):=by
   grind[decide_eq_false,a09]
  grind
 refine⟨i,?_⟩;obtain⟨z,r,C,D⟩:=a08 o q i;rcases D _ A (a09 H) with w|w;grind;exfalso;apply C;refine(aU3 H _).1 (aYH (apo l) (k+1) r w ((aU3 H _).2 (.inr rfl))) |>.resolve_right λe=>?_;grind[cJ]
theorem a0U(o:s∈l)(H:aK s.2.2=true){k:Nat}(h:k<(uT l).length):
  (hit l k s->aMx l (k+1) s=aMx l k s+1)/\(¬hit l k s->aMx l (k+1) s=aMx l k s):=by
 have:=a16 (xy H) h (a09 h);simp_all[aMx,a0c,Q!,R!]
theorem we(h:t∉dT d):uG t d=[]:=by
 have :d.filter (λe=>decide (e.1=t))=[]:=by
  rw[List.filter_eq_nil_iff];intro e H;simp;intro E;exact h (by rw[<-E];exact U?.2 ⟨e,H,rfl⟩)
 grind[uG]
theorem zg:∀ {d:M bw},qM (dT d)->∀ {i:Nat},i<d.length->uG (cF d i) d=iD d i
 |[],_,i,hi=>by rfl
 |e::d,h,0,_=>by
  have H:=List.pairwise_cons.1 h;have o:e.1∉dT d:=λk=>by have:=H.1 _ k;grind[cJ]
  have:=we o;grind[uG,cF,iD]
 |e::d,h,i+1,hi=>by
  have H:=W?.1 h
  have k:cF d i∈dT d:=by
   rw[<-Ww,List.getD_eq_getElem?_getD,List.getElem?_eq_getElem (by grind[Wv])];grind
  have D:¬e.1=cF d i:=λq=>by have r:=H.1 _ k;grind[cJ]
  have I:=zg (d:=d) H.2 (i:=i) x!;have E:cF (e::d) (i+1)=cF d i:=rfl;have w:iD (e::d) (i+1)=iD d i:=rfl;simp_all[uG,List.filter_cons,decide_eq_true_eq,if_neg]
theorem Eh(h:i<l.length):aD l i∈l:=aU l i _ h
theorem aUS{k:Nat}(h:i<l.length):(mA l k).getD i 0=aMx l k (aD l i):=by
 grind[mA,aD,List.getElem?_eq_getElem]
theorem aTS(l:M aB)(k:Nat):(mA l k).length=l.length:=by simp[mA]
theorem aZ9 {l:M aB}(k:Nat):∀i,i<=l.length->
  (aSh l (mA l k) i= -1/\∀j,j<i->aMx l k (aD l j)=(aD l j).2.2.length)\/
  (∃q:Nat,aSh l (mA l k) i=q/\q<i/\aMx l k (aD l q)<(aD l q).2.2.length/\∀j,j<i->aMx l k (aD l j)<(aD l j).2.2.length->
    Op.bytesLess (cF (aD l j).2.2 (aMx l k (aD l j)).toNat) (cF (aD l q).2.2 (aMx l k (aD l q)).toNat)=false)
 |0,_=>.inl ⟨rfl,λj h=>by omega⟩
 |i+1,hi=>by
  have I:=aZ9 (l:=l) k i w!;have B:=aYr l k (aD l i);simp only[aSh];rw[aUS (k:=k) (show i<l.length by omega)];by_cases he:aMx l k (aD l i)=((aD l i).2.2.length:Int);rw[Q! he];rcases I with⟨h1,H⟩|⟨q,h1,H,r,o⟩;refine .inl ⟨h1,λj h=>?_⟩;by_cases e:j=i;rw[e];exact he;exact H j w!;refine .inr ⟨q,h1,w!,r,λj h O=>?_⟩;by_cases e:j=i;rw[e] at O;omega;exact o j w! O
  . rw[R! he];rcases I with⟨h1,H⟩|⟨q,h1,H,r,o⟩;rw[Q! (Or.inl (by rw[h1];decide))];refine .inr ⟨i,rfl,w!,w!,λj h O=>?_⟩;by_cases e:j=i;rw[e];exact cJ _;have:=H j w!;omega
    . rw[h1];have E:((q:Int)).toNat=q:=E? q;rw[E,aUS (k:=k) (show q<l.length by omega)];cases w:Op.bytesLess (cF (aD l i).2.2 (aMx l k (aD l i)).toNat) (cF (aD l q).2.2 (aMx l k (aD l q)).toNat) with
      |true=>
       refine .inr ⟨i,rfl,w!,w!,λj h O=>?_⟩;by_cases e:j=i;rw[e];exact cJ _
       . have z:=o j w! O;cases A:Op.bytesLess (cF (aD l j).2.2 (aMx l k (aD l j)).toNat) (cF (aD l i).2.2 (aMx l k (aD l i)).toNat) with
         |false=>rfl
         |true=>rw[iC _ _ _ A w] at z;cases z
      |false=>
       refine .inr ⟨q,rfl,w!,r,λj h O=>?_⟩;by_cases e:j=i;rw[e];exact w;exact o j w! O
theorem a8F(h:t∈uT l):∃j,j<l.length/\t∈dT (aD l j).2.2:=by
 rw[uT,ir,aEp,List.mem_flatMap] at h;obtain⟨s,H,o⟩:=h;obtain⟨j,k,rfl⟩:=List.mem_iff_getElem.1 H;refine⟨j,k,?_⟩;grind[aD,List.getElem?_eq_getElem]
theorem a1a{k:Nat}(h:k<T.length):T.getD k []∈T:=aU T k [] h
theorem a0V(B:aVy l){k:Nat}(r:k<(uT l).length):
  ∃q:Nat,aSh l (mA l k) l.length=q/\q<l.length/\aMx l k (aD l q)<(aD l q).2.2.length/\cF (aD l q).2.2 (aMx l k (aD l q)).toNat=(uT l).getD k []:=by
 obtain⟨j,z,A⟩:=a8F (a1a r);have H:=Eh z;obtain⟨E,F⟩:=(a0c H (B.2 _ H).1 r).2 A;rcases aZ9 (l:=l) k l.length (M! _) with⟨_,w⟩|⟨q,G,w,C,I⟩;have:=w j z;omega;refine⟨q,G,w,C,?_⟩;have D:=I j z E;rw[F] at D;have o:=Eh w;obtain⟨K,g,J,_⟩:=a08 o (B.2 _ o).1 C;rcases pg ((uT l).getD k []) (cF (aD l q).2.2 (aMx l k (aD l q)).toNat) with h|h|h;rw[D] at h;cases h;exact h.symm;exfalso;apply J;refine(aU3 r _).1 (aYH (apo l) (k+1) g h ((aU3 r _).2 (.inr rfl))) |>.resolve_right λe=>?_;rw[e,cJ] at h;cases h
theorem a3W{k:Nat}(H:(uT l).length<=k):aSh l (mA l k) l.length= -1:=by
 rcases aZ9 (l:=l) k l.length (Nat.le_refl _) with⟨h,_⟩|⟨q,o,r,w,z⟩;exact h;grind[Eh,a3V,List.take_of_length_le,aZv]
theorem a1w(h:aVy l)(k:Nat):aSh l (mA l k) l.length<0↔(uT l).length<=k:=by
 grind[a0V,a3W]
def aQY(l:M aB)(t:B8)(i:Nat):U:=Gu (l.take i) t
theorem a4R(l:M aB)(k i:Nat)(h:i<=l.length):(ajF l k i).length=l.length:=by
 grind[ajF,List.length_append,List.length_take,List.length_drop,aTS]
theorem a8G(l:M aB)(k:Nat):mA l k=ajF l k 0:=by rfl
theorem a4S{k:Nat}:ajF l k l.length=mA l (k+1):=by
 simp_all[ajF,d?,aTS,M!,V?,B?]
theorem a0d{k:Nat}(h:i<l.length):(ajF l k i).getD i 0=aMx l k (aD l i):=by
 rw[<-aUS h];grind[mA,List.length_take,aTS,ajF,List.getElem?_append_right]
theorem a3X{k:Nat}(h:i<l.length)(o:aMx l (k+1) (aD l i)=aMx l k (aD l i)):ajF l k i=ajF l k (i+1):=by
 have e:(mA l (k+1)).take (i+1)=(mA l (k+1)).take i++[aMx l (k+1) (aD l i)]:=by
  rw[an _ i 0 (by grind[aTS]),aUS h]
 have H:i<(mA l k).length:=by grind[aTS]
 have E:(mA l k).drop i=aMx l k (aD l i)::(mA l k).drop (i+1):=by
  rw[T? H];rw[<-aUS (k:=k) h,E!,C! H];rfl
 grind[ajF,List.append_assoc]
theorem a4T{k:Nat}(h:i<l.length)(o:aMx l (k+1) (aD l i)=aMx l k (aD l i)+1):(ajF l k i).set i (aMx l k (aD l i)+1)=ajF l k (i+1):=by
 have H:i<(mA l k).length:=by grind[aTS]
 have e:(mA l (k+1)).take (i+1)=(mA l (k+1)).take i++[aMx l (k+1) (aD l i)]:=by
  rw[an _ i 0 (by grind[aTS]),aUS h]
 have E:(mA l k).drop i=aMx l k (aD l i)::(mA l k).drop (i+1):=by
  rw[T? H];rw[<-aUS (k:=k) h,E!,C! H];rfl
 have q:((mA l (k+1)).take i).length=i:=by rw[C?,aTS];omega
 simp_all[ajF,X!,List.set_append_right,Nat.sub_self]
theorem a18(l:M aB)(t:B8):aQY l t l.length=Gu l t:=by simp[aQY]
theorem aWP(h:i<l.length):aQY l t (i+1)=aQY l t i++uG t (aD l i).2.2:=by
 have :l.take (i+1)=l.take i++[aD l i]:=an l i _ h;grind[aQY,Gu]
theorem a19 {l:M aB}(o:aVy l){k i:Nat}(q:k<(uT l).length)(h:i<l.length)(r:aMx l k (aD l i)<(aD l i).2.2.length)(w:cF (aD l i).2.2 (aMx l k (aD l i)).toNat=(uT l).getD k []):
  aQY l ((uT l).getD k []) i++iD (aD l i).2.2 (aMx l k (aD l i)).toNat=aQY l ((uT l).getD k []) (i+1)/\(ajF l k i).set i (aMx l k (aD l i)+1)=ajF l k (i+1):=by
 have H:=Eh h;have z:=(o.2 _ H).1;have A:=aYr l k (aD l i);refine⟨?_,a4T h ((a0U H z q).1 ⟨r,w⟩)⟩;grind[aWP,zg,xy]
theorem a1x {l:M aB}(r:aVy l){k:Nat}(o:k<(uT l).length)(hi:i<l.length)(h:¬(aMx l k (aD l i)<(aD l i).2.2.length/\cF (aD l i).2.2 (aMx l k (aD l i)).toNat=(uT l).getD k [])):
  aQY l ((uT l).getD k []) i=aQY l ((uT l).getD k []) (i+1)/\ajF l k i=ajF l k (i+1):=by
 have H:=Eh hi;have q:=(r.2 _ H).1;refine⟨?_,a3X hi ((a0U H q o).2 h)⟩;rw[aWP hi,we (λw=>h ((a0c H q o).2 w)),B?]
theorem a1y{k:Nat}(h:k<(uT l).length):aPu l k++[((uT l).getD k [],Gu l ((uT l).getD k []))]=aPu l (k+1):=by
 grind[aPu,an,uT]
theorem a2a{k:Nat}(h:(uT l).length<=k):aPu l k=Wt l:=by
 grind[aPu,Wt,List.take_of_length_le]
theorem a2b(l:M aB)(k:Nat):(aPu l k).length<=k:=by grind[aPu]
theorem a6v(h:aVy l):(uT l).length<=1048576000:=by
 have o:=eh (aEp l)
 have H:∀m:M aB,(∀s∈m,s.2.2.length<=1048576)->(aEp m).length<=1048576*m.length:=by
  intro m;induction m with
  |nil=>grind[aEp]
  |cons s m i=>
   grind[List.mem_cons_of_mem,List.mem_cons_self,aEp,List.length_append,Wv,List.length_cons]
 have:=H l λs k=>(h.2 s k).2;have q:=h.1;grind[uT]
theorem ZP(h:aK d=true)(t:B8):(uG t d).length<=1000:=by
 by_cases H:t∈dT d;obtain⟨i,hi,e⟩:=List.mem_iff_getElem.1 H;have E:cF d i=t:=by rw[<-Ww,E!,C! hi];exact e
 grind[Wv,zg,xy,mz,v8];grind[we]
theorem a0e {l:M aB}(h:aVy l)(t:B8):∀i,i<=l.length->(aQY l t i).length<=1000*i
 |0,_=>by simp[aQY,Gu]
 |i+1,hi=>by
  rw[aWP w!,J!];have:=a0e h t i w!;have:=ZP (h.2 _ (Eh (show i<l.length by omega))).1 t;omega
abbrev Sp:=Int×Int
def mf(l:M Sp)(i:Nat):Sp:=l.getD i (0,0)
def lg(n:Int):Int:=(Nat.log2 n.toNat:Nat)
def aGD(a b:Int):Int:=if a<0\/b<0\/b<=a then -1 else lg (b-a)
def apq(l:M Sp)(i:Nat):Int:=aGD (mf l i).1 (mf l i).2
def Ko(l:M Sp):Nat->Int×Bool
 |0=>(0,false)
 |k+1=>if apq l k<=apq l (k+1) then((k:Int),true) else Ko l k
def AD(l:M Sp):Int×Bool:=Ko l (l.length-1)
def IQ(l:M Sp)(i:Nat):M Sp:=l.take i++[((mf l i).1,(mf l (i+1)).2)]++l.drop (i+2)
def zh:Nat->M Sp->M Sp
 |0,l=>l
 |n+1,l=>if(AD l).2 then zh n (IQ l (AD l).1.toNat) else l
def zi(l:M Sp):M Sp:=zh l.length l
def fT(l:M aB):M Sp:=l.map λs=>(s.1,s.2.1)
def aVi(a b:Int)(n:Nat):Prop:=0<=a/\a<b/\1<=n/\(n:Int)<=b-a
def aVd(l:M Sp)(k:Nat):Prop:=(k+1<=l.length\/k=0)/\AD l=Ko l (l.length-1-k)
theorem baa(h:n<2):0=lg n:=by
 unfold lg;rw[Nat.log2_def,if_neg w!];rfl
theorem a7N(h:2<=n):1+lg (n/2)=lg n:=by
 unfold lg;rw[Nat.log2_def n.toNat,if_pos w!,show(n/2).toNat=n.toNat/2 by omega];omega
theorem a7O(n:Int):0<=lg n:=by grind[lg]
theorem a4U(n:Int)(h:0<=n):lg n<=n:=by
 unfold lg;by_cases H:n.toNat=0;rw[H];simp_all;have:=Nat.log2_lt (n:=n.toNat) (k:=n.toNat) H;grind[Nat.lt_two_pow_self]
theorem aeZ(l:M Sp):∀k,0<=(Ko l k).1/\((Ko l k).2=true->(Ko l k).1<k)
 |0=>⟨Int.le_refl _,λh=>by cases h⟩
 |k+1=>by
  have:=aeZ l k;grind[Ko]
variable {l S L:List Sp}
theorem apr(h:(AD l).2=true):0<=(AD l).1/\(AD l).1+1<l.length:=by
 have:=aeZ l (l.length-1);grind[AD]
theorem ali(h:i+1<l.length):(IQ l i).length+1=l.length:=by
 grind[IQ,List.length_append,List.length_take,List.length_drop,List.length_singleton]
theorem a2c(h:(AD l).2=false):zi l=l:=by
 unfold zi;cases H:l.length with
 |zero=>rfl
 |succ n=>grind[zh]
theorem a1z(h:(AD l).2=true):zi (IQ l (AD l).1.toNat)=zi l:=by
 have k:=apr h;have H:=ali (l:=l) (i:=(AD l).1.toNat) w!;unfold zi;rw[<-H];simp_all[zh,if_true]
def bC(docs:O)(l:M Sp):M aB:=l.map λs=>(s.1,s.2,make docs s.1 s.2)
def eu(l:M aB)(i:Nat):Int:=if i=0 then 0 else(aD l (i-1)).2.1
def jJ(docs:O)(l:M aB)(i:Nat):Bool:=
 decide ((aD l i).1=eu l i)&&(ajQ docs (aD l i).1 (aD l i).2.1&&decide ((aD l i).2.2=make docs (aD l i).1 (aD l i).2.1))
def aY(docs:O)(l:M aB):Bool:=dm docs 0 0&&(decide ((l.length:Int)<=64)&&(List.range l.length).all (jJ docs l))
def ak(docs:O)(l:M aB):O×M aB:=if aY docs l then(docs,l) else([],[])
def dD(l:M aB):Int:=eu l l.length
def iJ(docs:O)(l:M aB):Int:=dD (ak docs l).2
def aQw(docs:O)(l:M aB)(d:B8):(O×M aB)×Int:=
 if(2000:Int)<d.length then(ak docs l,1)
 else if(1000:Int)<=(ak docs l).1.length then(ak docs l,3)
 else(((ak docs l).1++[d],(ak docs l).2),0)
def bS(docs:O)(l:M aB):(O×M aB)×Int:=
 if iJ docs l=(ak docs l).1.length then(ak docs l,5)
 else if(64:Int)<=(ak docs l).2.length then(ak docs l,3)
 else(((ak docs l).1,(ak docs l).2++[(iJ docs l,((ak docs l).1.length:Int),make (ak docs l).1 (iJ docs l) (ak docs l).1.length)]),0)
def Qf(l:M aB)(i m:Nat)(s:aB):M aB:=l.take i++[s]++l.drop (i+m)
def Fo(docs:O)(l:M aB)(i m:Nat):aB:=((aD l i).1,(aD l (i+m-1)).2.1,make docs (aD l i).1 (aD l (i+m-1)).2.1)
def Ul(l:M aB)(i m:Int):Bool:=decide (m<2) || (decide (i<0) || (decide ((l.length:Int)<m) || decide ((l.length:Int)-m<i)))
def Ei(docs:O)(l:M aB)(i m:Int):(O×M aB)×Int:=
 if Ul (ak docs l).2 i m then(ak docs l,1)
 else(((ak docs l).1,Qf (ak docs l).2 i.toNat m.toNat (Fo (ak docs l).1 (ak docs l).2 i.toNat m.toNat)),0)
def zj(docs:O)(l:M aB):O×M aB:=((ak docs l).1,bC (ak docs l).1 (zi (fT (ak docs l).2)))
def C5(s:aB):Sg:=SO s.1 s.2.1 s.2.2
def ya(docs:O)(l:M aB):M Sg:=(ak docs l).2.map C5
def wg(docs:O)(l:M aB)(k:Nat):Prop:=dm docs 0 0=true/\l.length<=64/\(∀i,i<k->jJ docs l i=true)/\k<=l.length
def fI(docs:O):Int->M Sp->Bool
 |_,[]=>true
 |a,s::r=>decide (s.1=a)&&(ajQ docs s.1 s.2&&fI docs s.2 r)
def fi:Int->M Sp->Int
 |a,[]=>a
 |_,s::r=>fi s.2 r
theorem r9(docs:O):∀(a:Int) (l m:M Sp),fI docs a (l++m)=(fI docs a l&&fI docs (fi a l) m)
 |a,[],m=>by rfl
 |a,s::r,m=>by simp[k?,fI,fi];rw[r9 docs s.2 r m,Bool.and_assoc,Bool.and_assoc]
theorem aU4:∀(a:Int) (l m:M Sp),fi a (l++m)=fi (fi a l) m
 |_,[],_=>rfl
 |_,s::r,m=>by exact aU4 s.2 r m
theorem sa(h:ajQ docs a b=true):a<b/\0<=a/\b<=docs.length/\docs.length<=1000/\∀d∈docs,d.length<=2000:=by
 simp[ajQ,dm,Bool.and_eq_true,List.all_eq_true,decide_eq_true_eq] at h;grind
theorem zk(h:dm docs 0 0=true)(H:0<=a)(k:a<b)(o:b<=docs.length):ajQ docs a b=true:=by
 simp[ajQ,dm,Bool.and_eq_true,List.all_eq_true,decide_eq_true_eq] at h |-;grind
theorem aps(h:ajQ docs a b=true):dm docs 0 0=true:=by
 simp_all[ajQ,dm,B!,V!,H!,Int.le_refl]
theorem IS {docs:O}:∀ {l:M Sp} {a:Int},fI docs a l=true->a<=fi a l/\(l≠ []->ajQ docs a (fi a l)=true)/\(fi a l<=docs.length\/l=[])
 |[],a,_=>⟨Int.le_refl _,λh=>absurd rfl h,.inr rfl⟩
 |s::r,a,h=>by
  simp[fI,Bool.and_eq_true,decide_eq_true_eq] at h;obtain⟨o,H,k⟩:=h;have i:=IS k;have q:=sa H;grind[fi,zk,aps]
theorem uZ {docs:O}:∀ {l:M Sp} {a:Int},fI docs a l=true->∀s∈l,ajQ docs s.1 s.2=true
 |[],_,_,s,H=>by grind
 |t::r,a,h,s,H=>by
  simp[fI,B!,H!] at h;rcases O!.1 H with rfl|H;exact h.2.1;exact uZ h.2.2 s H
theorem Qg:∀(l:M aB),fi 0 (fT l)=dD l:=by
 intro l;unfold dD eu;by_cases h:l.length=0;have :l=[]:=List.eq_nil_of_length_eq_zero h;subst this;rfl;obtain⟨m,s,rfl⟩:∃m s,l=m++[s]:=⟨l.dropLast,l.getLast x!,(List.dropLast_concat_getLast _).symm⟩
 have e:aD (m++[s]) ((m++[s]).length-1)=s:=by
  grind[aD,List.length_append,List.length_singleton,Nat.add_sub_cancel]
 rw[e];simp[fT,X?,G?,List.map_nil];rw[aU4];rfl
theorem yn(docs:O)(l:M Sp):fT (bC docs l)=l:=by
 simp[fT,bC,List.map_map];have :((λ(s:aB)=>(s.1,s.2.1))∘λ(s:Sp)=>((s.1,s.2,make docs s.1 s.2):aB))=id:=by rfl
 simp_all
theorem xz(docs:O)(l m:M Sp):bC docs (l++m)=bC docs l++bC docs m:=by simp[bC]
theorem Qh(l m:M aB):fT (l++m)=fT l++fT m:=by simp[fT]
theorem wh(l:M aB):(fT l).length=l.length:=by simp[fT]
theorem lU(docs:O)(l:M Sp):(bC docs l).length=l.length:=by simp[bC]
variable {l:List aB}
theorem Gv {m:M aB}(h:i<l.length):aD (l++m) i=aD l i:=by
 grind[aD,List.getElem?_append_left]
theorem Ż(l:M aB)(s:aB):aD (l++[s]) l.length=s:=by
 simp_all[aD,E!,List.getElem?_append_right,M!,Nat.sub_self]
theorem ZQ {docs:O}:∀(n:Nat) (l:M aB),l.length=n->((∀i,i<l.length->jJ docs l i=true)↔fI docs 0 (fT l)=true/\l=bC docs (fT l))
 |0,l,h=>by
  have :l=[]:=D? h;subst this;exact⟨λ_=>⟨rfl,rfl⟩,λ_ i q=>by omega⟩
 |n+1,l,h=>by
  obtain⟨m,s,rfl⟩:∃m s,l=m++[s]:=⟨l.dropLast,l.getLast x!,(List.dropLast_concat_getLast _).symm⟩;have r:m.length=n:=by grind
  have I:=ZQ (docs:=docs) n m r
  have e:∀i,i<m.length->jJ docs (m++[s]) i=jJ docs m i:=λi q=>by
   have w:eu (m++[s]) i=eu m i:=by
    unfold eu;by_cases H:i=0;omega;rw[if_neg H,if_neg H,Gv w!]
   grind[jJ,Gv]
  have E:eu (m++[s]) m.length=dD m:=by
   unfold dD eu;by_cases H:m.length=0;omega;rw[if_neg H,if_neg H,Gv w!]
  have z:jJ docs (m++[s]) m.length=true↔s.1=dD m/\ajQ docs s.1 s.2.1=true/\s.2.2=make docs s.1 s.2.1:=by
   grind[jJ,Ż]
  have A:fI docs 0 (fT (m++[s]))=true↔fI docs 0 (fT m)=true/\s.1=dD m/\ajQ docs s.1 s.2.1=true:=by
   rw[Qh,r9,Qg,B!];simp_all[fT,G?,List.map_nil,fI,Bool.and_true,B!,H!]
  have B:m++[s]=bC docs (fT (m++[s]))↔m=bC docs (fT m)/\s.2.2=make docs s.1 s.2.1:=by
   rw[Qh,xz];constructor;intro h;have k:=List.append_inj h (by rw[lU,wh]);have o:=k.2;simp only[bC,fT,List.map_cons,List.map_nil,List.cons.injEq,and_true] at o;grind;rintro⟨k,o⟩;congr 1
   simp only[bC,fT,List.map_cons,List.map_nil,List.cons.injEq,and_true];grind
  grind
theorem IT:aY docs l=true↔dm docs 0 0=true/\l.length<=64/\fI docs 0 (fT l)=true/\l=bC docs (fT l):=by
 unfold aY;rw[Bool.and_eq_true,Bool.and_eq_true,decide_eq_true_eq,List.all_eq_true,<-ZQ (docs:=docs) l.length l rfl];grind
theorem ae0:aY [] []=true:=by decide
theorem qc(docs:O)(l:M aB):aY (ak docs l).1 (ak docs l).2=true:=by
 unfold ak;by_cases h:aY docs l=true;grind;simp_all[if_neg,ae0]
theorem iK(h:aY docs l=true):ak docs l=(docs,l):=by simp_all[ak,Q!]
theorem aGE{l:M Sp}(h:dm docs 0 0=true)(H:l.length<=64)(k:fI docs 0 l=true):aY docs (bC docs l)=true:=
 IT.2 ⟨h,by grind[lU],by grind[yn],by rw[yn]⟩
theorem Kq:∀(l a:U),2*(na a l).length<=l.length+1+(if a.isEmpty then 0 else 1)
 |[],a=>by grind[na]
 |c::l,a=>by
  simp[na,List.length_cons];by_cases h:fB c=true;have:=Kq l (a++[c]);grind;have:=Kq l [];grind
theorem ZS(b:B8):2*(aS b).length<=b.length+1:=by
 have h:=Kq (decode b) [];grind[pZ,aS,List.length_map]
theorem Um {docs:O}(h:∀d∈docs,d.length<=2000)(a:Int):∀k,(b7 docs a k).length<=1000*k
 |0=>by simp[b7]
 |k+1=>by
  rw[<-xu,List.length_append];have:=Um h a k;have H:=eh (aS (docs.getD (Int.toNat (a+(k:Int))) []));have o:=ZS (docs.getD (Int.toNat (a+(k:Int))) []);grind
theorem ZT(h:ajQ docs a b=true):aW (make docs a b):=by
 have H:=sa h;grind[Ŷ,r7,Um,eh,b7,b8]
theorem ż(h:a<=b)(k:b<=c):bA docs a t (b-a).toNat++bA docs b t (c-b).toNat=bA docs a t (c-a).toNat:=by
 have e:List.range (c-a).toNat=List.range (b-a).toNat++(List.range (c-b).toNat).map ((b-a).toNat+ ·):=by
  rw[<-List.range_add];congr 1;omega
 simp only[bA];rw[e,t?,X?,List.filter_map,List.map_map]
 have H:((λ(i:Nat)=>ub (docs.getD (a+(i:Int)).toNat []) t)∘λx=>(b-a).toNat+x)=λ(i:Nat)=>ub (docs.getD (b+(i:Int)).toNat []) t:=by
  funext i;simp only[Function.comp];rw[show(a+(((b-a).toNat+i:Nat):Int))=b+(i:Int) by omega]
 rw[H];simp;omega
theorem ZU(docs:O)(a b:Int):dT (make docs a b)=b8 docs a b:=by
 simp[dT,make,List.map_map];have :((λ(e:bw)=>e.1)∘λt=>((t,bA docs a t (b-a).toNat):bw))=id:=by rfl
 simp_all
theorem IU(H:gb docs a b)(t:B8):uG t (make docs a b)=bA docs a t (b-a).toNat:=by
 by_cases h:t∈b8 docs a b;obtain⟨i,k,e⟩:=List.mem_iff_getElem.1 h;have E:cF (make docs a b) i=t:=by grind[Eg]
 grind[zg,xy,tc,uY,NA];grind[we,ZU,qb]
theorem xA {docs:O}{t:B8}:∀ {m:M Sp} {a:Int},fI docs a m=true->Gu (bC docs m) t=bA docs a t (fi a m-a).toNat
 |[],a,_=>by grind[Gu,bC,fi,bA]
 |s::r,a,h=>by
  simp[fI,B!,H!] at h;obtain⟨h1,H,k⟩:=h;have i:=xA (t:=t) k;have q:=sa H;have o:=IS k;simp[Gu,bC,G?,List.flatMap_cons,fi] at i |-;rw[i,IU (r7 H),<-h1];exact ż w! o.1
theorem avv:t∈uT l↔∃s∈l,t∈dT s.2.2:=by
 rw[uT,ir,aEp,List.mem_flatMap]
variable {m:List Sp}
theorem Ž(h:fI docs a m=true)(o:m≠ []):Wt (bC docs m)=make docs a (fi a m):=by
 have q:uT (bC docs m)=b8 docs a (fi a m):=by
  refine Av _ _ (apo _) (iX _) λt=>?_;rw[qb,<-xA h,avv];constructor;rintro⟨s,H,r⟩ k;simp only[Gu,List.flatMap_eq_nil_iff] at k;have w:=k s H;simp only[bC,List.mem_map] at H;obtain⟨p,z,rfl⟩:=H;grind[ZU,IU,r7,uZ,qb];intro d;obtain⟨x,A⟩:=List.exists_mem_of_ne_nil _ d;grind[Gu,dT,we]
 grind[Wt,make,List.map_congr_left,xA]
theorem AE(h:fI docs a m=true)(H:m≠ []):(mf m 0).1=a:=by
 cases m with
 |nil=>grind
 |cons s r=>
  simp[fI,B!,H!] at h;exact h.1
theorem IV:∀(m:M Sp) (a:Int),m≠ []->fi a m=(mf m (m.length-1)).2
 |[],_,h=>absurd rfl h
 |[s],a,_=>rfl
 |s::t::r,a,_=>by
  have:=IV (t::r) s.2 z!;simp only[fi,M?,mf] at this |-;rw[this];rfl
theorem AF(docs:O)(m:M Sp)(i:Nat)(h:i<m.length):aD (bC docs m) i=((mf m i).1,(mf m i).2,make docs (mf m i).1 (mf m i).2):=by
 simp[aD,bC,mf,E!,A?,C! h,Option.map_some,Option.getD_some]
theorem Gw {docs:O}:∀ {m:M Sp} {a:Int},fI docs a m=true->∀i,i+1<m.length->(mf m (i+1)).1=(mf m i).2
 |[],_,_,i,hi=>by rfl
 |s::r,a,h,0,hi=>by
  simp[fI,Bool.and_eq_true,decide_eq_true_eq] at h;have :r≠ []:=by grind
  exact AE h.2.2 this
 |s::r,a,h,i+1,hi=>by
  simp[fI,Bool.and_eq_true,decide_eq_true_eq] at h;exact Gw h.2.2 i x!
theorem apt(h:fI docs a m=true)(k:m.length<=1000):apn (bC docs m):=by
 refine⟨by grind[lU],λs H=>?_⟩;simp only[bC,List.mem_map] at H;obtain⟨p,o,rfl⟩:=H;grind[ZT,uZ]
theorem Mo(h:fI docs a m=true):∀s∈bC docs m,wc s=true:=by
 intro s H;simp only[bC,U?] at H;obtain⟨p,o,rfl⟩:=H;have k:=uZ h p o;exact apk (r7 k) (sa k).1
theorem apu(h:fI docs a m=true)(hm:m≠ []):aeY (bC docs m)=((a,fi a m,make docs a (fi a m)),0):=by
 have H:0<m.length:=List.length_pos_iff.2 hm;unfold aeY;rw[lU,if_neg w!];have h1:(bC docs m).all wc=true:=List.all_eq_true.2 (Mo h);rw[h1,if_neg (by decide)]
 have k:Wu (bC docs m)=true:=by
  unfold Wu;rw[List.all_eq_true];intro i o;rw[List.mem_range,lU] at o;simp[apm,decide_eq_true_eq];grind[AF,Gw]
 rw[k,R! (by decide),AF _ _ _ H,AF _ _ _ w!,AE h hm,<-IV m a hm,Ž h hm]
variable {m:Nat}
theorem IW(h:fI docs 0 S=true)(hm:0<m)(B:i+m<=S.length):
  fI docs (mf S i).1 ((S.drop i).take m)=true/\fi (mf S i).1 ((S.drop i).take m)=(mf S (i+m-1)).2/\(S.drop i).take m≠ []/\
  fI docs 0 (S.take i++[((mf S i).1,(mf S (i+m-1)).2)]++S.drop (i+m))=true/\fi 0 (S.take i++[((mf S i).1,(mf S (i+m-1)).2)]++S.drop (i+m))=fi 0 S:=by
 have e:S=S.take i++((S.drop i).take m++S.drop (i+m)):=by
  rw[<-h?,O?,O?]
 have q:((S.drop i).take m).length=m:=by rw[C?,N?];omega
 have d:(S.drop i).take m≠ []:=by intro e;rw[e] at q;simp at q;omega
 have w:=h;rw[e,r9,r9,B!,B!] at w;obtain⟨A,k,r⟩:=w
 have E:(mf ((S.drop i).take m) 0)=mf S i:=by
  simp[mf,E!];rw[List.getElem?_take_of_lt hm,List.getElem?_drop];rfl
 have el:(mf ((S.drop i).take m) (m-1))=mf S (i+m-1):=by
  simp[mf,E!];rw[List.getElem?_take_of_lt w!,List.getElem?_drop,show i+(m-1)=i+m-1 by omega]
 have o:=AE k d;rw[E] at o;have H:=IV _ (fi 0 (S.take i)) d;rw[q,el] at H;rw[<-o] at k r H;have z:=(IS k).2.1 d;rw[H] at z r;refine⟨k,H,d,?_,?_⟩;rw[r9,r9,A];simp[fI,aU4,fi,r,<-o,z,Bool.and_true,decide_true];conv=>rhs;rw[e,aU4,aU4]
 rw[aU4,aU4];simp[fi];rw[<-o,H]
theorem AG(docs:O)(l:M Sp)(i:Nat):(bC docs l).take i=bC docs (l.take i):=by simp[bC,List.map_take]
theorem AH(docs:O)(l:M Sp)(i:Nat):(bC docs l).drop i=bC docs (l.drop i):=by simp[bC,List.map_drop]
theorem ž(docs:O)(h:0<m)(H:i+m<=S.length):
  Qf (bC docs S) i m (Fo docs (bC docs S) i m)=bC docs (S.take i++[((mf S i).1,(mf S (i+m-1)).2)]++S.drop (i+m)):=by
 unfold Qf Fo;rw[AG,AH,AF _ _ _ w!,AF _ _ _ w!,xz,xz];rfl
theorem apv(h:fI docs 0 S=true)(H:0<m)(k:i+m<=S.length):
  aeY (((bC docs S).drop i).take m)=(Fo docs (bC docs S) i m,0):=by
 have o:=IW h H k;grind[AH,AG,apu,Fo,AF]
theorem apw(h:fI docs 0 S=true)(H:0<m)(k:i+m<=S.length)(o:S.length<=1000):
  apn (((bC docs S).drop i).take m):=by
 have q:=IW h H k;grind[AH,AG,apt,List.length_take,List.length_drop]
theorem alj(h:fI docs 0 S=true)(k:i+1<S.length):fI docs 0 (IQ S i)=true/\fi 0 (IQ S i)=fi 0 S:=by
 have H:=IW (m:=2) h w! (by omega :i+2<=S.length);exact⟨H.2.2.2.1,H.2.2.2.2⟩
theorem Mp {docs:O}:∀(n:Nat) {S:M Sp},fI docs 0 S=true->fI docs 0 (zh n S)=true/\fi 0 (zh n S)=fi 0 S/\(zh n S).length<=S.length
 |0,S,h=>⟨h,rfl,M! _⟩
 |n+1,S,h=>by
  simp[zh];by_cases H:(AD S).2=true;rw[if_pos H];have q:=apr H;have k:=alj h (i:=(AD S).1.toNat) w!;have o:=Mp n k.1;have r:=ali (l:=S) (i:=(AD S).1.toNat) w!;exact⟨o.1,by rw[o.2.1,k.2],w!⟩;grind
abbrev Qi:=O×M aB
abbrev aRI:=Int×Int×Int×B8
def pH(docs:O)(l:M aB)(a b c:Int)(d:B8):Qi×Int:=
 if a=0 then aQw docs l d else if a=1 then bS docs l else if a=2 then Ei docs l b c else(zj docs l,0)
def wi(l:M aRI)(i:Nat):aRI:=l.getD i (0,0,0,[])
def mT(x:Qi)(l:M aRI):Nat->Qi
 |0=>x
 |k+1=>if(2500:Int)<(wi l k).2.2.2.length then mT x l k else(pH (mT x l k).1 (mT x l k).2 (wi l k).1 (wi l k).2.1 (wi l k).2.2.1 (wi l k).2.2.2).1
def eZ(l:M aRI):Qi:=mT ([],[]) l (min l.length 40)
def xB(l:M aRI):Nat->Nat
 |0=>0
 |k+1=>if(wi l k).1=1 then xB l k+1 else xB l k
structure RI (docs:List B8) (l:List aB) (S:List Sp):Prop where
 fair:dm docs 0 0=true
 le:S.length<=64
 row:fI docs 0 S=true
 eq:l=bC docs S
theorem RI.right(h:RI docs l S):aY docs l=true:=by
 rw[h.eq];exact aGE h.fair h.le h.row
theorem RI.of(h:aY docs l=true):RI docs l (fT l):=by
 have:=IT.1 h;exact⟨this.1,by grind[wh],this.2.2.1,this.2.2.2⟩
theorem tf(docs:O)(l:M aB):RI (ak docs l).1 (ak docs l).2 (fT (ak docs l).2):=RI.of (qc docs l)
theorem RI.Wx(h:RI docs l S):dD l=fi 0 S:=by
 rw[<-Qg,h.eq,yn]
theorem RI.bd(h:RI docs l S):0<=dD l/\dD l<=docs.length/\docs.length<=1000/\l.length=S.length:=by
 have H:=IS h.row;rw[h.Wx]
 have k:docs.length<=1000:=by
  have:=h.fair;simp[dm,B!,H!] at this;omega
 refine⟨H.1,?_,k,by rw[h.eq,lU]⟩;grind[fi]
theorem ſ(d:B8)(h:0<=a)(H:b<=docs.length):make (docs++[d]) a b=make docs a b:=by
 have e:∀i:Nat,i<(b-a).toNat->(docs++[d]).getD (a+(i:Int)).toNat []=docs.getD (a+(i:Int)).toNat []:=λi k=>by
  grind
 have E:∀t,bA (docs++[d]) a t (b-a).toNat=bA docs a t (b-a).toNat:=λt=>by
  simp_all[bA,List.filter_congr,f?]
 simp_all[b7,xq,f?,make,b8,g?]
theorem ZV {docs:O}{d:B8}(h:dm docs 0 0=true)(H:(d.length:Int)<=2000)(k:(docs.length:Int)<1000):dm (docs++[d]) 0 0=true:=by
 simp[dm,Bool.and_eq_true,List.all_eq_true,decide_eq_true_eq,List.length_append,List.length_singleton] at h |-;grind
theorem aaa {docs:List B8}{d:B8}(o:dm (docs++[d]) 0 0=true)(h:fI docs a S=true):fI (docs++[d]) a S=true/\bC (docs++[d]) S=bC docs S:=by
 induction S generalizing a with
 |nil=>exact⟨rfl,by simp only[bC,List.map_nil]⟩
 |cons s r i=>
  simp only[fI,B!,H!] at h;have i:=i h.2.2;have H:=sa h.2.1;have q:ajQ (docs++[d]) s.1 s.2=true:=zk o H.2.1 H.1 (by rw[J!];simp only[J?];omega);refine⟨by rw[fI,q,i.1,L? h.1];rfl,?_⟩;have k:=i.2;simp only[bC] at k;simp only[bC,G?,k,ſ d H.2.1 H.2.2.1]
theorem RI.snoc(h:RI docs l S){d:B8}(o:¬(2000:Int)<d.length)(q:¬(1000:Int)<=docs.length):RI (docs++[d]) l S:=by
 have H:=ZV h.fair (d:=d) w! w!;have k:=aaa (d:=d) H h.row;exact⟨H,h.le,k.1,by rw[k.2];exact h.eq⟩
theorem RI.flush(h:RI docs l S)(o:¬dD l=docs.length)(q:¬(64:Int)<=l.length):
  RI docs (l++[(dD l,(docs.length:Int),make docs (dD l) docs.length)]) (S++[(dD l,(docs.length:Int))])/\ajQ docs (dD l) docs.length=true:=by
 have H:=h.bd;have k:=zk h.fair (a:=dD l) (b:=docs.length) H.1 w! w!;refine⟨⟨h.fair,x!,?_,?_⟩,k⟩;rw[r9,h.row,<-h.Wx];simp_all[fI,decide_true,Bool.and_true]
 rw[xz,<-h.eq];rfl
variable {m:Int}
theorem Qj{i:Int}(h:Ul l i m=false):2<=m/\0<=i/\i+m<=l.length/\i.toNat+m.toNat<=l.length/\0<m.toNat:=by
 grind[Ul,Bool.or_eq_false_iff,decide_eq_false_iff_not]
theorem RI.cut(h:RI docs l S){m:Nat}(H:0<m)(q:i+m<=l.length):
  RI docs (Qf l i m (Fo docs l i m)) (S.take i++[((mf S i).1,(mf S (i+m-1)).2)]++S.drop (i+m))/\aeY ((l.drop i).take m)=(Fo docs l i m,0)/\apn ((l.drop i).take m)/\(Qf l i m (Fo docs l i m)).length+m=l.length+1/\dD (Qf l i m (Fo docs l i m))=dD l:=by
 have r:=h.bd;have k:=IW h.row H (by omega :i+m<=S.length)
 have w:(S.take i++[((mf S i).1,(mf S (i+m-1)).2)]++S.drop (i+m)).length+m=S.length+1:=by
  grind
 have o:=h.le;have e:=ž docs H (by omega :i+m<=S.length)
 have R:RI docs (Qf l i m (Fo docs l i m)) (S.take i++[((mf S i).1,(mf S (i+m-1)).2)]++S.drop (i+m)):=by
  rw[h.eq,e];exact⟨h.fair,w!,k.2.2.2.1,rfl⟩
 refine⟨R,?_,?_,?_,?_⟩;rw[h.eq];exact apv h.row H w!;rw[h.eq];exact apw h.row H w! w!;have:=R.bd.2.2.2;omega;rw[R.Wx,h.Wx,k.2.2.2.2]
theorem RI.bab {docs:O}{S:M Sp}(h:RI docs (bC docs S) S)(H:i+2<=S.length):
  RI docs (bC docs (IQ S i)) (IQ S i)/\Qf (bC docs S) i 2 (Fo docs (bC docs S) i 2)=bC docs (IQ S i)/\aeY (((bC docs S).drop i).take 2)=(Fo docs (bC docs S) i 2,0)/\apn (((bC docs S).drop i).take 2):=by
 have k:=h.cut (i:=i) (m:=2) w! (by grind[lU]);have e:=ž docs (S:=S) (i:=i) (m:=2) w! w!;have E:IQ S i=S.take i++[((mf S i).1,(mf S (i+2-1)).2)]++S.drop (i+2):=rfl;grind
theorem RI.settle(h:RI docs l S):RI docs (bC docs (zi S)) (zi S)/\fi 0 (zi S)=fi 0 S/\(zi S).length<=S.length:=by
 have H:=Mp S.length h.row;have k:=h.le;exact⟨⟨h.fair,by grind[zi],H.1,rfl⟩,H.2.1,H.2.2⟩
theorem append_right(docs:O)(l:M aB)(d:B8):aY (aQw docs l d).1.1 (aQw docs l d).1.2=true:=by
 unfold aQw;by_cases h1:(2000:Int)<d.length;simp_all[if_pos,qc]
 rw[R! h1];by_cases h:(1000:Int)<=(ak docs l).1.length;simp_all[Q!,qc]
 rw[R! h];exact((tf docs l).snoc h1 h).right
theorem IX(docs:O)(l:M aB):aY (bS docs l).1.1 (bS docs l).1.2=true:=by
 unfold bS;by_cases h1:iJ docs l=(ak docs l).1.length;simp_all[if_pos,qc]
 rw[R! h1];by_cases h:(64:Int)<=(ak docs l).2.length;simp_all[Q!,qc]
 rw[R! h];exact((tf docs l).flush h1 h).1.right
theorem merge_right(docs:O)(l:M aB)(i m:Int):aY (Ei docs l i m).1.1 (Ei docs l i m).1.2=true:=by
 unfold Ei;by_cases h1:Ul (ak docs l).2 i m=true;simp_all[if_pos,qc]
 rw[R! h1];have h:=Qj (by simpa using h1);exact((tf docs l).cut h.2.2.2.2 h.2.2.2.1).1.right
theorem SP(docs:O)(l:M aB):aY (zj docs l).1 (zj docs l).2=true:=(tf docs l).settle.1.right
theorem aab(docs:O)(l:M aB)(a b c:Int)(d:B8):aY (pH docs l a b c d).1.1 (pH docs l a b c d).1.2=true:=by
 grind[pH,append_right,IX,merge_right,SP]
theorem Mq {x:Qi}(h:aY x.1 x.2=true)(l:M aRI):∀k,aY (mT x l k).1 (mT x l k).2=true
 |0=>h
 |k+1=>by
  simp[mT];split;exact Mq h l k;exact aab _ _ _ _ _ _
theorem Wy(l:M aRI)(k:Nat):aY (mT ([],[]) l k).1 (mT ([],[]) l k).2=true:=Mq ae0 l k
theorem ZW(h:aY docs l=true)(a b c:Int)(d:B8):(pH docs l a b c d).1.2.length<=l.length+(if a=1 then 1 else 0):=by
 have k:=iK h;unfold pH;by_cases o:a=0;grind[aQw];rw[if_neg o];by_cases h1:a=1;grind[bS,List.length_append,List.length_singleton];rw[if_neg h1,if_neg h1];by_cases q:a=2;unfold Ei;by_cases H:Ul l b c=true;grind;have H:=Qj (by simpa using H);have:=((RI.of h).cut H.2.2.2.2 H.2.2.2.1).2.2.2.1;grind;rw[if_neg q];simp[zj,k,lU];have:=(RI.of h).settle.2.2;grind[wh]
theorem Un(l:M aRI):∀k,(mT ([],[]) l k).2.length<=xB l k
 |0=>M! _
 |k+1=>by
  have i:=Un l k;have h:=ZW (Wy l k) (wi l k).1 (wi l k).2.1 (wi l k).2.2.1 (wi l k).2.2.2
  have e:xB l (k+1)=xB l k+(if(wi l k).1=1 then 1 else 0):=by
   rw[xB];grind
  rw[e,mT];grind
theorem Qk(l:M aRI):∀k,xB l k<=k
 |0=>M! _
 |k+1=>by have:=Qk l k;simp[xB];split<;>omega
theorem keeps(h:aY docs l=true)(b c:Int)(d:B8)(o:a≠0):
  (pH docs l a b c d).1.1=docs/\(a=1->dD l<=dD (pH docs l a b c d).1.2/\((64:Int)<=l.length\/dD (pH docs l a b c d).1.2=docs.length))/\
  (a≠1->dD (pH docs l a b c d).1.2=dD l/\(pH docs l a b c d).1.2.length<=l.length):=by
 have q:=iK h;have R:=RI.of h;have F:=R.bd;unfold pH;rw[if_neg o];by_cases h1:a=1;unfold bS iJ;by_cases e:dD l=(docs.length:Int);grind;by_cases E:(64:Int)<=l.length;grind;have:=(R.flush e E).1.Wx
 have w:dD (l++[(dD l,(docs.length:Int),make docs (dD l) docs.length)])=docs.length:=by
  rw[this,aU4];rfl
 grind;rw[if_neg h1];by_cases r:a=2;unfold Ei;by_cases H:Ul l b c=true;grind;have H:=Qj (by simpa using H);have z:=R.cut H.2.2.2.2 H.2.2.2.1;grind;rw[if_neg r];have k:=R.settle;refine⟨by grind[zj],λh=>absurd h h1,λ_=>?_⟩;simp[zj,q];refine⟨by rw[k.1.Wx,k.2.1,R.Wx],?_⟩;grind[lU,wh]
def aVF(l:M aB)(k:Nat):Prop:=k<=l.length/\l.length≠0/\apn l/\∀i,i<k->wc (aD l i)=true
def aWf(l:M aB)(k:Nat):Prop:=k+1<=l.length/\apn l/\l.all wc=true/\∀i,i<k->apm l i=true
def uL(l:M aB):Nat:=(uT l).length
def uAt(l:M aB)(k:Nat):B8:=(uT l).getD k []
def gL(docs:O)(l:M aB):Nat:=(ak docs l).2.length
def pL(l:M aRI):Nat:=(eZ l).2.length
def pD(l:M aRI):Nat:=(eZ l).1.length
def oU(l:M aB)(i:Nat):Nat:=(aD l i).2.2.length
def dX(l:M α)(k:Nat):Prop:=k<=l.length
def aUO(l:M aB)(k:Nat):M (Int×Int):=fT (l.take k)
def Kr(a b:U):Bool:=decide (a=b)
def IY(a b:U)(k:Nat):Prop:=a.length=b.length/\a.take k=b.take k/\k<=a.length
def C6(x:B8)(X:U)(y1:B8)(y:U):Bool:=decide (x=y1)&&decide (X=y)
def Ql(docs:O)(l:M aB)(k:Nat):Prop:=docs.length<=1000/\l.length<=64/\qQ docs k
def xC(docs:O)(l:M aB):Prop:=docs.length<=1000000/\l.length<=1000000/\(∀b∈docs,small b)/\∀s∈l,small s.2.2/\∀e∈s.2.2,small e.2
def eA(z:α)(l:M α)(k:Nat):M α:=l.take k++List.replicate (l.length-k) z
def xD(x r:M aB)(i j:Nat):Prop:=i<x.length/\j<=(aD x i).2.2.length/\r.length=x.length/\∀d,r.set i ((aD r i).1,(aD r i).2.1,d)=(eA (0,0,[]) x i).set i ((aD x i).1,(aD x i).2.1,d)
def aWo(l:M aB)(i m:Int):Prop:=l.length<=1000000/\0<=i/\0<=m/\i+m<=l.length
def aVx(docs:O)(l:M aB)(L:M Sp):Prop:=RI (ak docs l).1 (bC (ak docs l).1 L) L/\zi L=zi (fT (ak docs l).2)
def apx(docs:O)(l:M Sp):Prop:=l.length<=1000000/\∀s∈l,gb docs s.1 s.2
def fC(docs:O)(l:M aB)(k:Nat):M Sg:=(ya docs l).take k
def aVI(l:M aRI)(k:Nat):Prop:=k<=l.length/\k<=40
theorem a4V(h:a<0\/b<0\/b<=a): -1=aGD a b:=by simp_all[aGD,Q!]
theorem a1A(h:0<=n):lg ((n.toNat:Nat):Int)=lg n:=by rfl
theorem a6w(h:¬a<0/\¬b<0/\¬b<=a):aVi a b (b-a).toNat:=⟨w!,w!,w!,w!⟩
theorem a6x(h:1<n):1<=lg n:=by have:=a7N (n:=n) w!;have:=a7O (n/2);omega
theorem a4W{n:Nat}(h:aVi a b n):1<=n/\(n:Int)<=b-a:=⟨h.2.2.1,h.2.2.2⟩
theorem a4X {t:Int}{n:Nat}(h:1<(n:Int)):t-lg n+1=t-lg (((n:Int)/2).toNat:Nat):=by
 grind[a1A,a7N]
theorem a2d{n:Nat}(h:aVi a b n)(o:1<(n:Int)):aVi a b ((n:Int)/2).toNat:=by
 have⟨H,k,q,r⟩:=h;exact⟨H,k,w!,w!⟩
theorem a3Y{n:Nat}(h:¬a<0/\¬b<0/\¬b<=a)(H:aVi a b n)(k:¬1<(n:Int)):lg (b-a)-lg n=aGD a b:=by
 unfold aGD;rw[if_neg w!,<-baa (n:=n) w!];omega
theorem a4Y(l:M aB)(k i:Nat):0<=(mA l k).getD i 0:=by
 by_cases h:i<l.length;rw[aUS h];simp_all[aYr];simp_all[E!,List.getElem?_eq_none,aTS,Int.le_refl]
theorem bac {l:M aB}{k i:Nat}(h:(i:Int)<l.length)(H:¬(mA l k).getD i 0=((aD l i).2.2.length:Int)):(mA l k).getD i 0<((aD l i).2.2.length:Int):=by
 have o:i<l.length:=by omega
 rw[aUS o] at H |-;have:=aYr l k (aD l i);omega
theorem aSM{k:Nat}(H:i<=l.length)(h:¬aSh l (mA l k) i<0):
  aSh l (mA l k) i<l.length/\aSh l (mA l k) i<(mA l k).length/\(aSh l (mA l k) i).toNat<(mA l k).length/\(mA l k).getD (aSh l (mA l k) i).toNat 0<((aD l (aSh l (mA l k) i).toNat).2.2.length:Int):=by
 grind[aTS,aZ9,Int.toNat_natCast,aUS]
theorem a4Z {l:M aB}{i:Nat}(h:nx.getD i 0=((aD l i).2.2.length:Int)):aSh l nx i=aSh l nx (i+1):=by simp_all[aSh,Q!]
theorem a42 {l:M aB}{i:Nat}(h:¬nx.getD i 0=((aD l i).2.2.length:Int)):
  (bif bif decide (aSh l nx i<0) then true else Op.bytesLess (cF (aD l i).2.2 (nx.getD i 0).toNat) (cF (aD l (aSh l nx i).toNat).2.2 (nx.getD (aSh l nx i).toNat 0).toNat) then(i:Int) else aSh l nx i)=aSh l nx (i+1):=by
 grind[aSh]
theorem a8H(o:aVy l){k i:Nat}(q:i<=l.length)(H:¬(i:Int)<l.length)(h:aSh l (mA l k) i<0):aPu l k=Wt l:=by
 grind[a2a,a1w]
theorem a2R(o:aVy l){k i:Nat}(A:i<=l.length)(r:¬(i:Int)<l.length)(h:¬aSh l (mA l k) i<0):
  k<uL l/\cF (aD l (aSh l (mA l k) i).toNat).2.2 ((mA l k).getD (aSh l (mA l k) i).toNat 0).toNat=uAt l k:=by
 have :i=l.length:=by omega
 subst this
 have H:k<(uT l).length:=by
  simp_all[Nat.lt_of_not_le,a1w]
 have⟨q,h1,w,B,z⟩:=a0V o H;refine⟨H,?_⟩;rw[h1,E?,aUS w];exact z
theorem a1b{a b:Nat}(h:aPu l a=aPu l b)(H:a<=uL l)(k:b<=uL l):a=b:=by
 simp_all[congrArg,List.length,aPu,List.length_map,C?,uL]
theorem a43{k i:Nat}(h:(i:Int)<l.length):0<=(ajF l k i).getD i 0/\(ajF l k i).getD i 0<=((aD l i).2.2.length:Int):=by
 rw[a0d w!];exact aYr l k _
theorem aWg{k i:Nat}(h:(i:Int)<l.length):(i:Int)<(ajF l k i).length/\i<(ajF l k i).length:=by
 grind[a4R]
theorem a47 {l:M aB}(r:aVy l){k i:Nat}(w:k<uL l)(h:(i:Int)<l.length)(H:(ajF l k i).getD i 0<((aD l i).2.2.length:Int))(o:cF (aD l i).2.2 ((ajF l k i).getD i 0).toNat=uAt l k):
  (ajF l k i).set i ((ajF l k i).getD i 0+1)=ajF l k (i+1)/\aQY l (uAt l k) i++iD (aD l i).2.2 ((ajF l k i).getD i 0).toNat=aQY l (uAt l k) (i+1):=by
 have q:i<l.length:=by omega
 rw[a0d q] at H o |-;have:=a19 r w q H o;exact⟨this.2,this.1⟩
theorem a2S {l:M aB}(q:aVy l){k i:Nat}(r:k<uL l)(h:(i:Int)<l.length)(H:¬((ajF l k i).getD i 0<((aD l i).2.2.length:Int)/\cF (aD l i).2.2 ((ajF l k i).getD i 0).toNat=uAt l k)):
  ajF l k i=ajF l k (i+1)/\aQY l (uAt l k) i=aQY l (uAt l k) (i+1):=by
 have o:i<l.length:=by omega
 rw[a0d o] at H;have:=a1x q r o H;exact⟨this.2,this.1⟩
theorem a6y(H:aVy l){k i:Nat}(h:(i:Int)<l.length):(aQY l (uAt l k) i).length<=1000000/\(iD (aD l i).2.2 ((ajF l k i).getD i 0).toNat).length<=1000:=by
 have q:=a0e H (uAt l k) i w!;have r:=H.1;have o:=(H.2 _ (Eh (show i<l.length by omega))).1;generalize (ajF l k i).getD i 0=z;by_cases hz:z.toNat<(aD l i).2.2.length;rw[<-zg (xy o) hz];grind[ZP];grind[iD,List.getElem?_eq_none]
theorem a48{k i:Nat}(o:i<=l.length)(h:¬(i:Int)<l.length)(H:k<uL l):aPu l k++[(uAt l k,aQY l (uAt l k) i)]=aPu l (k+1)/\ajF l k i=mA l (k+1):=by
 have :i=l.length:=by omega
 subst this;refine⟨?_,a4S⟩;rw[a18];exact a1y H
theorem bae(h:aVy l){k:Nat}(H:k<=uL l):(aPu l k).length<=1048576000:=by
 grind[a2b,a6v,uL]
theorem a6z(l:M aB):List.replicate (Int.toNat ((l.length:Nat):Int)) (0:Int)=l.map (aMx l 0):=by
 rw[E?];have :l.map (aMx l 0)=l.map (λ_=>0):=g? λs _=>by simp[aMx]
 grind[List.map_const']
theorem a7P(H:aVy l){k i:Nat}(h:(i:Int)<l.length): -9223372036854775808<=(ajF l k i).getD i 0+1/\(ajF l k i).getD i 0+1<=9223372036854775807:=by
 have o:=a43 (k:=k) h;have q:=(H.2 _ (Eh (show i<l.length by omega))).2;omega
theorem a8I {l:M aB}(h:(l.length:Int)=0):aeY l=((0,0,[]),1):=by simp_all[aeY,Q!]
theorem a5a{k:Nat}(h:(k:Int)<l.length)(H:wc (aD l k)=false):aeY l=((0,0,[]),1):=by
 grind[aeY,Eh]
theorem a6A {l:M aB}(H:apn l)(h:¬(l.length:Int)=0):aVF l 0:=⟨S! _,w!,H,λi k=>by omega⟩
theorem a6B{k:Nat}(h:aVF l k)(H:(k:Int)<l.length)(o:wc (aD l k)=true):aVF l (k+1):=
 ⟨w!,h.2.1,h.2.2.1,λi q=>by
   by_cases e:i=k;grind;exact h.2.2.2 i w!⟩
theorem a8J{k:Nat}(h:aVF l k)(o:¬(k:Int)<l.length):l.all wc=true:=by
 rw[List.all_eq_true];intro s H;obtain⟨j,q,rfl⟩:=List.mem_iff_getElem.1 H;have:=h.2.2.2 j w!;grind[aD,List.getElem?_eq_getElem]
theorem a6C{k:Nat}(h:aVF l k)(H:¬(k:Int)<l.length):aWf l 0:=⟨by have:=h.2.1;omega,h.2.2.1,a8J h H,λi o=>by omega⟩
theorem a6D {l:M aB}{k:Nat}(h:aWf l k)(H:(k:Int)+1<l.length)(o:(aD l ((k:Int)+1).toNat).1=(aD l ((k:Int)+1-1).toNat).2.1):aWf l (k+1):=
 ⟨w!,h.2.1,h.2.2.1,λi q=>by
   by_cases e:i=k;simp_all[apm,H!]
   exact h.2.2.2 i w!⟩
theorem a5b {l:M aB}{k:Nat}(h:aWf l k)(o:(k:Int)+1<l.length)(q:¬(aD l ((k:Int)+1).toNat).1=(aD l ((k:Int)+1-1).toNat).2.1):aeY l=((0,0,[]),7):=by
 unfold aeY;rw[if_neg w!,if_neg (by rw[h.2.2.1];simp),if_pos];rw[<-Bool.not_eq_true,Wu,List.all_eq_true];intro H;have:=H k (List.mem_range.2 w!);simp_all[apm,decide_eq_true_eq]
theorem a2e{k:Nat}(h:aWf l k)(H:¬(k:Int)+1<l.length):aeY l=(((aD l 0).1,(aD l ((l.length:Int)-1).toNat).2.1,Wt l),0):=by
 have o:=h.1;unfold aeY;rw[if_neg w!,if_neg (by rw[h.2.2.1];simp),if_neg,show((l.length:Int)-1).toNat=l.length-1 by omega];rw[Bool.not_eq_false,Wu,List.all_eq_true];intro i q;exact h.2.2.2 i x!
theorem Qm(h:wc s=true):aK s.2.2=true:=by
 simp_all[wc,eS,B!]
theorem a8K{k:Nat}(h:aWf l k):aVy l:=by
 refine⟨h.2.1.1,λs H=>⟨Qm (V!.1 h.2.2.1 s H),?_⟩⟩;exact(h.2.1.2 s H).1
theorem n_0(l:M Sp):aVd l 0:=⟨.inr rfl,by rfl⟩
theorem a7Q {l:M Sp}{k:Nat}(h:aVd l k)(H:0<=((len l:Nat):Int)-2-k):(((len l:Nat):Int)-2-k).toNat=l.length-2-k/\(((len l:Nat):Int)-2-k+1).toNat=l.length-2-k+1/\k+2<=l.length:=by
 grind[len]
theorem a5c {l:M Sp}{k:Nat}(h:aVd l k)(o:0<=((len l:Nat):Int)-2-k)
  (H:aGD (mf l (((len l:Nat):Int)-2-k).toNat).1 (mf l (((len l:Nat):Int)-2-k).toNat).2<=aGD (mf l (((len l:Nat):Int)-2-k+1).toNat).1 (mf l (((len l:Nat):Int)-2-k+1).toNat).2):
  AD l=(((len l:Nat):Int)-2-k,true):=by
 have⟨e,E,q⟩:=a7Q h o;rw[e,E] at H;rw[h.2,show l.length-1-k=(l.length-2-k)+1 by omega];simp[Ko];rw[if_pos (show apq l _<=apq l _ from H)];grind
theorem baf {l:M Sp}{k:Nat}(h:aVd l k)(o:0<=((len l:Nat):Int)-2-k)
  (H:¬aGD (mf l (((len l:Nat):Int)-2-k).toNat).1 (mf l (((len l:Nat):Int)-2-k).toNat).2<=aGD (mf l (((len l:Nat):Int)-2-k+1).toNat).1 (mf l (((len l:Nat):Int)-2-k+1).toNat).2):
  aVd l (k+1):=by
 have⟨e,E,q⟩:=a7Q h o;rw[e,E] at H;refine⟨.inl w!,?_⟩;rw[h.2,show l.length-1-k=(l.length-2-k)+1 by omega];simp[Ko];rw[R! (show ¬apq l _<=apq l _ from H),show l.length-1-(k+1)=l.length-2-k by omega]
theorem a8L {l:M Sp}{k:Nat}(h:aVd l k)(H:¬0<=((len l:Nat):Int)-2-k):AD l=(0,false):=by
 simp[len] at H;rw[h.2,show l.length-1-k=0 by omega];rfl
theorem a1B{k:Nat}(h:(k:Int)<l.length):aUO l k++[((aD l k).1,(aD l k).2.1)]=aUO l (k+1):=by
 simp only[aUO,fT];rw[an l k _ w!,X?];rfl
theorem a2f{k:Nat}(h:¬(k:Int)<l.length):aUO l k=fT l:=by
 grind[aUO,List.take_of_length_le]
theorem a1c(l:M aB)(k:Nat):(aUO l k).length<=l.length:=by grind[aUO,fT]
theorem apy{a b:M α}(h:(a.length:Int)=b.length):a.length=b.length/\a.take 0=b.take 0/\0<=a.length:=by grind
theorem Uo{a b:M α}(z:α){k:Nat}(h:a.length=b.length/\a.take k=b.take k/\k<=a.length)(H:(k:Int)<a.length)(o:a.getD k z=b.getD k z):a.length=b.length/\a.take (k+1)=b.take (k+1)/\k+1<=a.length:=by
 grind[an]
theorem ZX{a b:M α}{k:Nat}(h:a.length=b.length/\a.take k=b.take k/\k<=a.length)(H:¬(k:Int)<a.length):a=b:=by
 grind
theorem ZY{a b:M α}(h:¬(a.length:Int)=b.length):¬a=b:=by grind
theorem ZZ{a b:M α}(z:α){k:Nat}(h:¬a.getD k z=b.getD k z):¬a=b:=by grind
theorem aNb {docs:O}{l:M aB}(h:1000<(docs.length:Int)\/64<(l.length:Int)):false=aY docs l:=by
 symm
 rw[<-Bool.not_eq_true];intro H;have⟨k,o,_⟩:=IT.1 H;simp[dm,B!,H!] at k;omega
theorem aNc {docs:O}{k:Nat}(H:(k:Int)<docs.length)(h:2000<((docs.getD k []).length:Int)):false=aY docs l:=by
 grind[IT,Ug]
theorem apz{k:Nat}(h:Ql docs l k)(H:¬(k:Int)<docs.length):wg docs l 0:=by
 refine⟨?_,h.2.1,λi o=>by omega,S! _⟩;have q:=h.1;simp only[dm,B!,H!];exact⟨Uh h.2.2 H,w!,w!,w!,w!⟩
theorem NB{k:Nat}(H:(k:Int)<l.length)(h:jJ docs l k=false):false=aY docs l:=by
 symm
 rw[<-Bool.not_eq_true];intro o;simp_all[aY,B!,V!,f?]
theorem Z0{k:Nat}(h:wg docs l k)(H:(k:Int)<l.length)(o:jJ docs l k=true):wg docs l (k+1):=
 ⟨h.1,h.2.1,λi q=>by
   by_cases e:i=k;grind;exact h.2.2.1 i w!,w!⟩
theorem ae1{k:Nat}(h:wg docs l k)(H:¬(k:Int)<l.length):true=aY docs l:=by
 have o:=h.2.1;simp[aY,B!,V!,f?,H!];exact⟨h.1,w!,λi q=>h.2.2.1 i w!⟩
theorem aNd {docs:O}{l:M aB}{k:Nat}(h:¬(aD l k).1=eu l k\/(aD l k).2.1<=eu l k\/(docs.length:Int)<(aD l k).2.1):jJ docs l k=false:=by
 rw[<-Bool.not_eq_true];intro H;simp[jJ,B!,H!] at H;have⟨q,o,_⟩:=H;have:=sa o;omega
theorem aEq {docs:O}{l:M aB}{k:Nat}(H:wg docs l k)(h:(aD l k).1=eu l k/\¬(aD l k).2.1<=eu l k/\¬(docs.length:Int)<(aD l k).2.1):
  ajQ docs (aD l k).1 (aD l k).2.1=true:=by
 refine zk H.1 ?_ w! w!
 have :∀i,i<=k->0<=eu l i:=by
  intro i o;unfold eu;split;omega;have:=H.2.2.1 (i-1) w!;simp[jJ,Bool.and_eq_true,decide_eq_true_eq] at this;have:=sa this.2.1;omega
 grind
theorem aNe {docs:O}{l:M aB}{k:Nat}(o:wg docs l k)(h:(aD l k).1=eu l k/\¬(aD l k).2.1<=eu l k/\¬(docs.length:Int)<(aD l k).2.1)
  (H:¬(dp docs (aD l k).1 (aD l k).2.1).2=0\/iZ (dp docs (aD l k).1 (aD l k).2.1).1.2.2 (aD l k).2.2=false):jJ docs l k=false:=by
 have r:=aEq o h;have q:dp docs (aD l k).1 (aD l k).2.1=(((aD l k).1,(aD l k).2.1,make docs (aD l k).1 (aD l k).2.1),0):=by grind[dp]
 rw[q] at H;rcases H with H|H;omega;simp[iZ,p?] at H;rw[<-Bool.not_eq_true];intro w;simp_all[jJ,B!,H!]
theorem aNf {docs:O}{l:M aB}{k:Nat}(H:wg docs l k)(h:(aD l k).1=eu l k/\¬(aD l k).2.1<=eu l k/\¬(docs.length:Int)<(aD l k).2.1)
  (o:(dp docs (aD l k).1 (aD l k).2.1).2=0/\iZ (dp docs (aD l k).1 (aD l k).2.1).1.2.2 (aD l k).2.2=true):jJ docs l k=true:=by
 have q:=aEq H h;simp_all[dp,aD,make,iZ,H!,jJ,B!]
theorem Up(l:M aB)(k:Nat):(aD l k).2.1=eu l (k+1):=by rfl
theorem Z1(h:aY docs l=false):ak docs l=([],[]):=by grind[ak]
theorem aGF {l:M aB}(h:(l.length:Int)=0):0=dD l:=by simp_all[dD,eu,Q!]
theorem aGG {l:M aB}(h:¬(l.length:Int)=0):(aD l ((l.length:Int)-1).toNat).2.1=dD l:=by
 simp_all[dD,eu,R!]
theorem ae2(z:α)(l:M α):List.replicate (Int.toNat ((l.length:Nat):Int)) z=eA z l 0:=by rfl
theorem Ej(z:α){l:M α}{k:Nat}(h:(k:Int)<l.length):(k:Int)<(eA z l k).length/\k<(eA z l k).length:=by
 grind[eA,List.length_append,List.length_take,List.length_replicate]
theorem aac(z:α){l:M α}{k:Nat}(h:k<=l.length):(eA z l k).length=l.length:=by
 grind[eA,List.length_append,List.length_take,List.length_replicate]
theorem Z2(z:α){l:M α}{k:Nat}(h:(k:Int)<l.length):(eA z l k).set k (l.getD k z)=eA z l (k+1):=by
 have e:l.length-k=(l.length-(k+1))+1:=by omega
 grind[eA,an,List.set_append_right,List.length_take,min,List.append_assoc]
theorem alk(z:α){l:M α}{k:Nat}(h:¬(k:Int)<l.length):eA z l k=l:=by
 simp_all[eA,d?]
theorem aGH{k:Nat}(h:(k:Int)<x.length):xD x ((eA (0,0,[]) x k).set k ((aD x k).1,(aD x k).2.1,[])) k 0:=by
 have H:=aac ((0,0,[])) (l:=x) (k:=k) w!;refine⟨w!,Nat.zero_le _,x!,λd=>?_⟩;grind[aD,eA,set,List.getElem?_set_self,List.set_set]
theorem apA {r:M aB}(h:xD x r i j):r.set i ((aD r i).1,(aD r i).2.1,(aD x i).2.2)=eA (0,0,[]) x (i+1):=by
 rw[h.2.2.2];exact Z2 _ (by have:=h.1;omega)
theorem Z3(h:xC docs l)(k:Nat):small (docs.getD k []):=by
 by_cases H:k<docs.length;exact h.2.2.1 _ (aU docs k [] H);grind[List.getElem?_eq_none,small]
theorem Gx(h:xC docs l)(k:Nat):small (aD l k).2.2/\∀j,small ((aD l k).2.2.getD j ([],[])).2:=by
 by_cases H:k<l.length;have o:=h.2.2.2 _ (Eh H);grind[aD,aU,List.getElem?_eq_none,small];simp_all[aD,List.getD_eq_getElem?_getD,List.getElem?_eq_none,small]
theorem DT(z:α)(l:M α)(j:Nat):l.set j (l.getD j z)=l:=by
 apply List.ext_getElem?;grind
theorem avw {a b:bw}(h:C6 a.1 a.2 b.1 b.2=true):a=b:=by
 simp[C6,Bool.and_eq_true,decide_eq_true_eq] at h;grind
theorem avx {a b:bw}(h:C6 a.1 a.2 b.1 b.2=false):¬a=b:=by
 grind[C6]
theorem alm{l:M α}{k:Nat}(h:small l)(H:(k:Int)<l.length):(k:Int)+1<=9223372036854775807:=by grind[small]
theorem aln {x r:M aB}{i j:Nat}(h:xD x r i j)(H:(j:Int)<((aD x i).2.2.length:Int)):xD x r i (j+1):=⟨h.1,w!,h.2.2⟩
theorem alo {x:M aB}{i j:Nat}(h:(j:Int)<((aD x i).2.2.length:Int)):af (oU x i) (j+1)<af (oU x i) j:=by
 grind[af,oU]
theorem alp(h:aK d=true):∀e∈d,e.2.length<=1000:=by
 intro e H;obtain⟨j,k,rfl⟩:=List.mem_iff_getElem.1 H;have o:=zg (xy h) k;grind[ZP,cF,iD,List.getElem?_eq_getElem]
theorem RI.seg(h:RI docs l S):∀s∈l,wc s=true/\aW s.2.2/\s=(s.1,s.2.1,make docs s.1 s.2.1)/\ajQ docs s.1 s.2.1=true:=by
 intro s H;rw[h.eq] at H;have o:=Mo h.row s H;simp only[bC,List.mem_map] at H;obtain⟨p,k,rfl⟩:=H;have q:=uZ h.row p k;grind[ZT]
theorem RI.small {docs:O}{l:M aB}{S:M Sp}(h:RI docs l S):xC docs l:=by
 have H:=h.bd;have k:=h.le;refine⟨w!,w!,λb H=>?_,λs o=>?_⟩;have:=h.fair;simp[dm,Bool.and_eq_true,List.all_eq_true,decide_eq_true_eq] at this;grind[Go.S.small];have⟨r,q,_⟩:=h.seg s o;refine⟨by have:=q.1;grind[Go.S.small],λe w=>?_⟩;grind[alp,Qm,Go.S.small]
theorem Mr(docs:O)(l:M aB):xC (ak docs l).1 (ak docs l).2:=(tf docs l).small
theorem tg(docs:O)(l:M aB):(ak docs l).1.length<=1000/\(ak docs l).2.length<=64/\0<=dD (ak docs l).2/\dD (ak docs l).2<=(ak docs l).1.length:=by
 have h:=tf docs l;have k:=h.bd;have H:=h.le;omega
theorem zl(docs:O)(l:M aB){k:Nat}(H:k<(ak docs l).2.length):wc (aD (ak docs l).2 k)=true/\aW (aD (ak docs l).2 k).2.2:=
 have h:=(tf docs l).seg _ (Eh H)
 ⟨h.1,h.2.1⟩
variable {d b:B8}{i:Int}
theorem aNg(h:(2000:Int)<d.length):aQw docs l d=(ak docs l,1):=by simp_all[aQw,Q!]
theorem aNh(h:¬(2000:Int)<d.length)(H:(1000:Int)<=(ak docs l).1.length):aQw docs l d=(ak docs l,3):=by simp_all[aQw,R!,Q!]
theorem aEr(h:¬(2000:Int)<d.length)(H:¬(1000:Int)<=(ak docs l).1.length):aQw docs l d=(((ak docs l).1++[d],(ak docs l).2),0):=by simp_all[aQw,R!]
theorem aNi {docs:O}{l:M aB}(h:dD (ak docs l).2=((ak docs l).1.length:Int)):bS docs l=(ak docs l,5):=by simp_all[bS,iJ,Q!]
theorem aNj {docs:O}{l:M aB}(h:¬dD (ak docs l).2=((ak docs l).1.length:Int))(H:(64:Int)<=(ak docs l).2.length):bS docs l=(ak docs l,3):=by simp_all[bS,iJ,R!,Q!]
theorem aEs {docs:O}{l:M aB}(h:¬dD (ak docs l).2=((ak docs l).1.length:Int)):
  dp (ak docs l).1 (dD (ak docs l).2) ((ak docs l).1.length:Nat)=((dD (ak docs l).2,((ak docs l).1.length:Int),make (ak docs l).1 (dD (ak docs l).2) ((ak docs l).1.length:Nat)),0):=by
 have H:=tg docs l;have k:=zk (tf docs l).fair H.2.2.1 w! (Int.le_refl _);grind[dp]
theorem aNk {docs:O}{l:M aB}(h:¬dD (ak docs l).2=((ak docs l).1.length:Int))(H:¬(64:Int)<=(ak docs l).2.length):
  bS docs l=(((ak docs l).1,(ak docs l).2++[(dp (ak docs l).1 (dD (ak docs l).2) ((ak docs l).1.length:Nat)).1]),0):=by
 simp_all[aEs,bS,iJ,R!]
theorem a7R {l:M aB}(h:¬m<2/\¬i<0/\¬(l.length:Int)<m/\¬(l.length:Int)-m<i):Ul l i m=false/\(i+m).toNat-i.toNat=m.toNat/\i.toNat+m.toNat<=l.length/\0<m.toNat:=by
 grind[Ul,Bool.or_eq_false_iff,decide_eq_false_iff_not]
theorem bag {docs:O}{l:M aB}(h:m<2\/i<0\/((ak docs l).2.length:Int)<m\/((ak docs l).2.length:Int)-m<i):Ei docs l i m=(ak docs l,1):=by
 have :Ul (ak docs l).2 i m=true:=by
  simp_all[Ul,Y?,H!]
 simp_all[Ei,Q!]
theorem a2T {docs:O}{l:M aB}{i m:Int}(h:¬m<2/\¬i<0/\¬((ak docs l).2.length:Int)<m/\¬((ak docs l).2.length:Int)-m<i):
  apn (((ak docs l).2.take (i+m).toNat).drop i.toNat)/\aeY (((ak docs l).2.take (i+m).toNat).drop i.toNat)=(Fo (ak docs l).1 (ak docs l).2 i.toNat m.toNat,0)/\aWo (ak docs l).2 i m:=by
 have⟨r,k,o,q⟩:=a7R h;have H:=(tf docs l).cut q o;have w:=tg docs l;rw[List.drop_take,k];exact⟨H.2.2.1,H.2.1,w!,w!,w!,w!⟩
theorem bah {docs:O}{l:M aB}(h:¬m<2/\¬i<0/\¬((ak docs l).2.length:Int)<m/\¬((ak docs l).2.length:Int)-m<i):
  Ei docs l i m=(((ak docs l).1,Qf (ak docs l).2 i.toNat m.toNat (aeY (((ak docs l).2.take (i+m).toNat).drop i.toNat)).1),0):=by
 simp_all[a2T,Ei,R!,a7R]
theorem bai(docs:O)(l:M aB):aVx docs l (fT (ak docs l).2):=by
 have h:=tf docs l;refine⟨?_,rfl⟩;rw[<-h.eq];exact h
theorem baj(h:aVx docs l L):small (bC (ak docs l).1 L):=by
 have:=h.1.le;grind[small,lU]
theorem a6E(h:aVx docs l L)(h1:(AD (fT (bC (ak docs l).1 L))).2=false):bC (ak docs l).1 L=(zj docs l).2:=by
 rw[yn] at h1;unfold zj;rw[<-h.2,a2c h1]
theorem a2U(h:aVx docs l L)(H:(AD (fT (bC (ak docs l).1 L))).2=true):
  0<=(AD (fT (bC (ak docs l).1 L))).1/\(AD (fT (bC (ak docs l).1 L))).1+2<=((bC (ak docs l).1 L).length:Int)/\(bC (ak docs l).1 L).length<=64:=by
 have:=h.1.le;rw[lU,yn] at *;have:=apr H;omega
theorem a5e {docs:O}{l:M aB}{L:M Sp}(h:aVx docs l L)(k:(AD (fT (bC (ak docs l).1 L))).2=true)(q:(AD (fT (bC (ak docs l).1 L))).1=n):
  apn (((bC (ak docs l).1 L).drop n.toNat).take ((n+2).toNat-n.toNat))/\(aeY (((bC (ak docs l).1 L).drop n.toNat).take ((n+2).toNat-n.toNat))).2=0/\aWo (bC (ak docs l).1 L) n 2/\
  Qf (bC (ak docs l).1 L) n.toNat 2 (aeY (((bC (ak docs l).1 L).drop n.toNat).take ((n+2).toNat-n.toNat))).1=bC (ak docs l).1 (IQ L n.toNat)/\aVx docs l (IQ L n.toNat)/\(IQ L n.toNat).length<L.length:=by
 have o:=a2U h k;rw[q] at o;rw[lU] at o;have H:=q;rw[yn] at k H;have r:=h.1.bab (i:=n.toNat) w!;rw[show(n+2).toNat-n.toNat=2 by omega];have w:=ali (l:=L) (i:=n.toNat) w!;refine⟨r.2.2.2,x!,⟨by grind[lU],o.1,w!,by grind[lU]⟩,x!,⟨r.1,?_⟩,w!⟩;rw[<-h.2,<-H];exact a1z k
theorem Z4{k:Nat}(h:(k:Int)<(ak docs l).2.length):
  fC docs l k++[(tB (aD (ak docs l).2 k).1 (aD (ak docs l).2 k).2.1 (aD (ak docs l).2 k).2.2).1]=fC docs l (k+1):=by
 have H:eS _ _ _=true:=(zl docs l (k:=k) w!).1;have hk:k<(ya docs l).length:=by grind[ya,List.length_map]
 unfold fC;rw[an _ k (0,0,0,[]) hk];rw[List.getD_eq_getElem?_getD,List.getElem?_eq_getElem hk];simp[ya,List.getElem_map,Option.getD_some,C5];grind[aeW,ak,aD,List.getElem?_eq_getElem,AA]
theorem ae3{k:Nat}(h:¬(k:Int)<(ak docs l).2.length):fC docs l k=ya docs l:=by
 grind[fC,List.take_of_length_le,ya,List.length_map]
theorem IZ(docs:O)(l:M aB)(k:Nat):(fC docs l k).length<=64:=by
 grind[tg,fC,ya,List.length_take,List.length_map]
theorem RI.with(h:RI docs l L):apx docs L:=by
 have:=h.le;exact⟨w!,λs H=>r7 (uZ h.row s H)⟩
theorem bak(l:M aRI):aVI l 0:=⟨S! _,S! _⟩
variable {l:List aRI}
theorem a5f{k:Nat}(h:(k:Int)<l.length/\(k:Int)<40):aVI l (k+1):=⟨w!,w!⟩
theorem a5g {x:Qi}{k:Nat}(h:(2500:Int)<(wi l k).2.2.2.length):mT x l k=mT x l (k+1):=by rw[mT,Q! h]
theorem a8M {x:Qi}{k:Nat}(h:¬(2500:Int)<(wi l k).2.2.2.length):(pH (mT x l k).1 (mT x l k).2 (wi l k).1 (wi l k).2.1 (wi l k).2.2.1 (wi l k).2.2.2).1=mT x l (k+1):=by rw[mT,R! h]
theorem a5h {x:Qi}{k:Nat}:
  (bif decide (((wi l k).2.2.2.length:Int)<=2500) then(pH (mT x l k).1 (mT x l k).2 (wi l k).1 (wi l k).2.1 (wi l k).2.2.1 (wi l k).2.2.2).1.1 else(mT x l k).1)=(mT x l (k+1)).1/\
  (bif decide (((wi l k).2.2.2.length:Int)<=2500) then(pH (mT x l k).1 (mT x l k).2 (wi l k).1 (wi l k).2.1 (wi l k).2.2.1 (wi l k).2.2.2).1.2 else(mT x l k).2)=(mT x l (k+1)).2:=by
 grind[decide_eq_false,a5g,decide_eq_true,a8M]
theorem a2V{k:Nat}(h:aVI l k)(H:¬(k:Int)<l.length\/¬(k:Int)<40):mT ([],[]) l k=eZ l/\xB l k=xB l (min l.length 40):=by
 obtain⟨o,q⟩:=h;have :k=min l.length 40:=by omega
 subst this;exact⟨rfl,rfl⟩
theorem avC(l:M aRI):aY (eZ l).1 (eZ l).2=true:=Wy l _
variable {l:List aB}
theorem C8(h:aY docs l=true):iJ docs l=dD l:=by grind[iJ,iK]
theorem als {d:M bw}(h:aK d=true)(t:B8):dN d t=uG t d:=by
 rcases C4 h t with⟨q,r,k,H⟩|⟨H,i,w,z,A⟩;obtain⟨g,G,g3⟩:=Ef H;rw[<-g3];have f:=H;simp[fE,Bool.and_eq_true,decide_eq_true_eq] at f;have:=zg (xy h) (i:=(bo d t).toNat) w!;rw[f.2] at this;rw[this];rfl;rw[<-aeU H,we];intro o;simp only[dT,List.mem_map] at o;obtain⟨e,k,rfl⟩:=o;obtain⟨j,B,rfl⟩:=List.mem_iff_getElem.1 k;grind[cF,List.getElem?_eq_getElem,cJ]
theorem aad(h:aY docs l=true):rE (ya docs l) (iJ docs l)=true:=by
 have R:=RI.of h;have q:=iK h;have r:=R.le;have hlen:(ya docs l).length=l.length:=by grind[ya,List.length_map]
 have F:=wh l;rw[C8 h]
 have H:∀i,i<l.length->sg (ya docs l) i=C5 (aD l i):=λi hi=>by
  simp[sg,ya,q,aD,E!,A?,C! hi,Option.map_some,Option.getD_some]
 have k:∀i,i<l.length->aD l i=((mf (fT l) i).1,(mf (fT l) i).2,make docs (mf (fT l) i).1 (mf (fT l) i).2):=λi hi=>by
  have:=AF docs (fT l) i w!;rw[<-R.eq] at this;omega
 unfold rE;rw[hlen];by_cases o:l.length=0;have :l=[]:=List.eq_nil_of_length_eq_zero o;subst this;rfl;rw[if_neg o];have d:fT l≠ []:=λe=>by grind
 simp;refine⟨λi hi=>?_,w!,?_,?_⟩;have w:=(R.seg _ (Eh hi));have z:eS (aD l i).1 (aD l i).2.1 (aD l i).2.2=true:=w.1;simp[C3,Bool.and_eq_true,Bool.not_eq_true',Bool.and_eq_false_iff,decide_eq_false_iff_not,Bool.not_eq_false',decide_eq_true_eq];rw[H i hi];refine⟨?_,?_⟩;grind[C5,AA,apj];by_cases V:0<i;rw[H (i-1) w!];simp[C5];rw[AA,AA,k i hi,k (i-1) w!];have:=Gw R.row (i-1) w!;grind;omega;rw[H 0 w!];simp[C5];rw[AA,k 0 w!];exact AE R.row d;rw[H (l.length-1) w!];simp[C5];rw[AA,k (l.length-1) w!,R.Wx,IV _ _ d,F]
abbrev Hd:=Int×B8×M Sg
def cO(n:Int)(g:B8)(l:M Sg):Bool:=decide (0<=n)&&(decide (n<=1000)&&(decide ((g.length:Int)=32)&&rE l n))
def cy(docs:O)(l:M aB):Bool:=aY docs l&&decide (iJ docs l=(docs.length:Int))
def gI(docs:O)(l:M aB):Hd×Int:=if cy docs l then(((docs.length:Int),root (leaves docs),ya docs l),0) else((0,[],[]),7)
def Gz(s:Sg):B8:=num s.2.1++num s.2.2.1++s.2.2.2
def jo(l:M Sg):B8:=l.flatMap Gz
def hB(n:Int)(g:B8)(l:M Sg):B8:=num n++g++num l.length++jo l
def hW(n:Int)(g:B8)(l:M Sg):B8×Int:=if cO n g l then(hB n g l,0) else([],1)
def tC(b:B8)(f:Int):Sg×Int×Int:=
 if(first b).2.2≠0 then((0,0,0,[]),0,(first b).2.2)
 else if(first (b.drop (first b).2.1.toNat)).2.2≠0 then((0,0,0,[]),0,(first (b.drop (first b).2.1.toNat)).2.2)
 else if(b.length:Int)<(first b).2.1+(first (b.drop (first b).2.1.toNat)).2.1+32 then((0,0,0,[]),0,4)
 else((f,(first b).1,(first (b.drop (first b).2.1.toNat)).1,(b.drop ((first b).2.1+(first (b.drop (first b).2.1.toNat)).2.1).toNat).take 32),(first b).2.1+(first (b.drop (first b).2.1.toNat)).2.1+32,0)
abbrev Hs:=M Sg×Int×Int×Int
def kT(b:B8)(p:Int):Nat->Hs
 |0=>([],0,p,0)
 |k+1=>if(kT b p k).2.2.2≠0 then kT b p k
  else if(tC (b.drop (kT b p k).2.2.1.toNat) (kT b p k).2.1).2.2≠0 then((kT b p k).1,(kT b p k).2.1,(kT b p k).2.2.1,(tC (b.drop (kT b p k).2.2.1.toNat) (kT b p k).2.1).2.2)
  else((kT b p k).1++[(tC (b.drop (kT b p k).2.2.1.toNat) (kT b p k).2.1).1],(tC (b.drop (kT b p k).2.2.1.toNat) (kT b p k).2.1).1.2.1,(kT b p k).2.2.1+(tC (b.drop (kT b p k).2.2.1.toNat) (kT b p k).2.1).2.1,0)
def GA(b:B8)(n:Int)(g:B8)(s:Hs):Hd×Int:=
 if s.2.2.2≠0 then((0,[],[]),s.2.2.2)
 else if s.2.2.1<b.length\/cO n g s.1=false then((0,[],[]),2)
 else((n,g,s.1),0)
def hR(b:B8):Hd×Int:=
 if(first b).2.2≠0 then((0,[],[]),(first b).2.2)
 else if(b.length:Int)<(first b).2.1+32 then((0,[],[]),4)
 else if(first (b.drop ((first b).2.1+32).toNat)).2.2≠0 then((0,[],[]),(first (b.drop ((first b).2.1+32).toNat)).2.2)
 else if 64<(first (b.drop ((first b).2.1+32).toNat)).1 then((0,[],[]),2)
 else GA b (first b).1 ((b.drop (first b).2.1.toNat).take 32) (kT b ((first b).2.1+32+(first (b.drop ((first b).2.1+32).toNat)).2.1) (first (b.drop ((first b).2.1+32).toNat)).1.toNat)
def aae(a:Int)(A:B8)(h:M Sg)(b:Int)(B:B8)(k:M Sg):Bool:=decide (a=b)&&(decide (A=B)&&decide (h=k))
theorem Ur:∀(f v:Nat),v<128^f->1<=f->∃(m:B8) (x:UInt8),rD f v=m++[x]/\(∀y∈m,128<=y.toNat)/\x.toNat<128/\ajP (m++[x])=v/\(1<=m.length->x.toNat≠0)
 |0,v,_,h=>by omega
 |f+1,v,h,_=>by
  by_cases k:v<128;have e:(UInt8.ofNat v).toNat=v:=by grind[UInt8.toNat_ofNat']
  refine⟨[],UInt8.ofNat v,by simp_all[rD,if_pos],z!,w!,?_,z!⟩;grind[ajP];have o:f≠0:=by grind
  have⟨m,x,q,r,H,w,z⟩:=Ur f (v/128) w! w!;have e:(UInt8.ofNat (v%128+128)).toNat=v%128+128:=by grind[UInt8.toNat_ofNat']
  refine⟨UInt8.ofNat (v%128+128)::m,x,?_,?_,H,?_,λ_=>?_⟩;simp_all[rD,R!]
  grind;grind[ajP];grind[List.eq_nil_of_length_eq_zero,ajP]
theorem zm(h:0<=v)(w:v<=4611686018427387904)(r:B8):first (num v++r)=(v,((num v).length:Int),0):=by
 obtain⟨m,x,e,z,A,H,k⟩:=Ur 9 v.toNat w! w!;have B:m.length+1<=9:=by grind[Kb]
 have E:num v=m++[x]:=e;have g:(m++[x]++r).take m.length=m:=by grind
 have g2:(m++[x]++r).getD m.length 0=x:=by
  grind
 have g3:(m++[x]++r).take (m.length+1)=m++[x]:=by grind
 have:=TW (m++[x]++r) m.length x! z! w! x!;rw[g2,g3,H] at this;rw[E,this,if_neg];simp;omega
 rintro(⟨Q,o⟩|q);exact k Q o;omega
theorem xE(h:(first b).2.2=0):b=num (first b).1++b.drop (first b).2.1.toNat/\(first b).2.1=((num (first b).1).length:Int):=by
 have⟨q,Q⟩:=Ÿ h;have H:=nX b;grind[List.take_append_drop,List.length_take]
theorem Ks {b:Int}(h:ow a b c d=true):0<=a/\a<b/\b<=1000/\1<=c/\c<=1099511627776/\d.length=32:=by
 simp[ow,me,B!,H!] at h;omega
variable {l:List Sg}
theorem sb(h:rE l n=true):l.length<=64/\(∀i,i<l.length->ow (sg l i).1 (sg l i).2.1 (sg l i).2.2.1 (sg l i).2.2.2=true)/\(0<l.length->(sg l 0).1=0)/\(∀i,i+1<l.length->(sg l (i+1)).1=(sg l i).2.1):=by
 unfold rE at h;split at h;grind;simp at h;have⟨k,q,o,r⟩:=h;refine⟨w!,λi H=>?_,λ_=>o,λi H=>?_⟩;simp_all[C3,Bool.and_eq_true]
 have:=k _ H;simp_all[C3,B!,K?,Bool.and_eq_false_iff,p?,Bool.not_eq_false',H!]
theorem jq:cO n g l=true↔0<=n/\n<=1000/\g.length=32/\rE l n=true:=by
 simp[cO,Bool.and_eq_true,decide_eq_true_eq];grind
theorem avF {s:Sg}(h:ow s.1 s.2.1 s.2.2.1 s.2.2.2=true)(r:B8):tC (Gz s++r) s.1=(s,((Gz s).length:Int),0):=by
 have H:=Ks h;have e:Gz s++r=num s.2.1++(num s.2.2.1++(s.2.2.2++r)):=by simp[Gz]
 have d1:(num s.2.1++(num s.2.2.1++(s.2.2.2++r))).drop (((num s.2.1).length:Int)).toNat=num s.2.2.1++(s.2.2.2++r):=by simp_all
 have d2:(num s.2.1++(num s.2.2.1++(s.2.2.2++r))).drop (((num s.2.1).length:Int)+((num s.2.2.1).length:Int)).toNat=s.2.2.2++r:=by
  rw[show(((num s.2.1).length:Int)+((num s.2.2.1).length:Int)).toNat=(num s.2.1).length+(num s.2.2.1).length by omega,<-h?,List.drop_left,List.drop_left]
 unfold tC;rw[e,(zm (v:=s.2.1) w! w! (num s.2.2.1++(s.2.2.2++r)))];simp only[d1,(zm (v:=s.2.2.1) w! w! (s.2.2.2++r)),d2];rw[if_neg z!,if_neg z!,if_neg (by simp;omega),List.take_left' H.2.2.2.2.2];simp[Gz,List.length_append];omega
theorem Us(h:(tC b f).2.2=0):b=Gz (tC b f).1++b.drop (tC b f).2.1.toNat/\(tC b f).2.1=((Gz (tC b f).1).length:Int)/\(tC b f).1.1=f:=by
 unfold tC at h |-;split at h;grind;rename_i h1;split at h;grind;rename_i H;split at h;cases h;rename_i o;rw[if_neg h1,if_neg H,if_neg o];have⟨p,P⟩:=xE (Classical.byContradiction h1);have⟨q1,Q⟩:=xE (Classical.byContradiction H);generalize r:(first b).2.1=m at *;generalize w:(first (b.drop m.toNat)).2.1=k at *;have e:b.drop (m+k).toNat=(b.drop m.toNat).drop k.toNat:=by rw[List.drop_drop];congr 1;omega
 have E:b.drop (m+k+32).toNat=(b.drop (m+k).toNat).drop 32:=by rw[h?];congr 1;omega
 have q:((b.drop (m+k).toNat).take 32).length=32:=by rw[C?,N?];omega
 refine⟨?_,?_,rfl⟩;simp only[Gz];rw[X!,X!,E,O?,e,<-q1];exact p;simp[Gz,J!,q];omega
theorem ae4 {l:M Sg}(H:∀i,i<l.length->ow (sg l i).1 (sg l i).2.1 (sg l i).2.2.1 (sg l i).2.2.2=true)(o:0<l.length->(sg l 0).1=0)(q:∀i,i+1<l.length->(sg l (i+1)).1=(sg l i).2.1)(a r:B8):
  ∀k,k<=l.length->kT (a++(jo l++r)) (a.length:Int) k=(l.take k,(if k=0 then 0 else(sg l (k-1)).2.1),((a.length+(jo (l.take k)).length:Nat):Int),0)
 |0,_=>by rfl
 |k+1,hk=>by
  have I:=ae4 H o q a r k w!;have K:k<l.length:=by omega
  have e:l.take (k+1)=l.take k++[sg l k]:=an l k _ K
  have E:l=l.take k++(sg l k::l.drop (k+1)):=by
   have :l.drop k=sg l k::l.drop (k+1):=by
    rw[T? K];congr 1;rw[sg,E!,C! K];rfl
   rw[<-this];exact(O? k l).symm
  have A:jo l=jo (l.take k)++(Gz (sg l k)++jo (l.drop (k+1))):=by
   grind[jo,sg]
  have h:(a++(jo l++r)).drop ((a.length+(jo (l.take k)).length:Nat):Int).toNat=Gz (sg l k)++(jo (l.drop (k+1))++r):=by
   grind[Int.toNat_natCast,List.drop_drop,List.drop_left,List.append_assoc]
  have w:(if k=0 then(0:Int) else(sg l (k-1)).2.1)=(sg l k).1:=by
   grind
  have z:=avF (H k K) (jo (l.drop (k+1))++r);simp only[kT,I,h,w,z];rw[R! z!,R! z!,R! w!,e];simp only[Nat.add_sub_cancel,jo,List.flatMap_append,List.flatMap_cons,List.flatMap_nil,B?,J!];congr 3
  omega
theorem aaf(h:cO n g l=true):hR (hB n g l)=((n,g,l),0):=by
 have⟨H,z,k,o⟩:=jq.1 h;have⟨A,r,R,w⟩:=sb o;have e:hB n g l=num n++(g++(num l.length++jo l)):=by simp[hB]
 have d1:(num n++(g++(num l.length++jo l))).drop (((num n).length:Int)).toNat=g++(num l.length++jo l):=by rw[E?,List.drop_left]
 have d2:(num n++(g++(num l.length++jo l))).drop (((num n).length:Int)+32).toNat=num l.length++jo l:=by
  rw[show(((num n).length:Int)+32).toNat=(num n).length+g.length by omega,<-h?,List.drop_left,List.drop_left]
 have V:=ae4 r R w (num n++(g++num l.length)) [] l.length (M! _);have E:num n++(g++num l.length)++(jo l++[])=num n++(g++(num l.length++jo l)):=by simp
 have el:(((num n++(g++num (l.length:Int))).length:Nat):Int)=((num n).length:Int)+32+((num (l.length:Int)).length:Int):=by simp;omega
 rw[E,el,List.take_length] at V;unfold hR;rw[e,(zm H w! (g++(num l.length++jo l)))];simp only[d1,d2,(zm (v:=(l.length:Int)) w! w! (jo l))];rw[if_neg z!,if_neg (by simp;omega),if_neg z!,if_neg w!,List.take_left' k,Int.toNat_natCast,V];unfold GA;rw[if_neg z!,if_neg];rw[h];rintro(q|q);simp at q;omega;cases q
theorem ae5 {b:B8}{p:Int}(q:0<=p):∀k,(kT b p k).2.2.2=0->p<=(kT b p k).2.2.1/\b.drop p.toNat=jo (kT b p k).1++b.drop (kT b p k).2.2.1.toNat/\(kT b p k).1.length=k
 |0,_=>by simp[kT,jo]
 |k+1,h=>by
  have i:=ae5 (b:=b) q k;rw[kT] at h |-;generalize kT b p k=s at *;by_cases H:s.2.2.2=0;rw[R! (λe=>e H)] at h |-;by_cases o:(tC (b.drop s.2.2.1.toNat) s.2.1).2.2=0;rw[R! (λe=>e o)];have⟨r,I,i3⟩:=i H;have⟨q1,Q,w⟩:=Us o;generalize tC (b.drop s.2.2.1.toNat) s.2.1=g at *;refine⟨by simp;omega,?_,by simp[i3]⟩;have e:b.drop (s.2.2.1+g.2.1).toNat=(b.drop s.2.2.1.toNat).drop g.2.1.toNat:=by rw[h?];congr 1;omega
  have E:jo (s.1++[g.1])=jo s.1++Gz g.1:=by simp[jo]
  rw[e,E,List.append_assoc,<-q1];exact I;grind;grind
theorem aag(h:(hR b).2=0):cO (hR b).1.1 (hR b).1.2.1 (hR b).1.2.2=true/\hB (hR b).1.1 (hR b).1.2.1 (hR b).1.2.2=b:=by
 unfold hR at h |-;split at h;omega;rename_i h1;split at h;cases h;rename_i q;split at h;omega;rename_i H;split at h;cases h;rename_i r;rw[if_neg h1,if_neg q,if_neg H,if_neg r];unfold GA at h |-;split at h;omega;rename_i o;split at h;cases h;rename_i z;rw[if_neg o,if_neg z];have⟨p,P⟩:=xE (Classical.byContradiction h1);have⟨q1,Q⟩:=xE (Classical.byContradiction H);have B:=nX (b.drop ((first b).2.1+32).toNat);generalize C:(first b).2.1=m at *;generalize D:(first _).1=w at *;generalize F:(first (b.drop (m+32).toNat)).2.1=k at *;have⟨i,i2,i3⟩:=ae5 w! w.toNat (Classical.byContradiction o);refine⟨?_,?_⟩;grind;have e:b.drop (kT b (m+32+k) w.toNat).2.2.1.toNat=[]:=List.drop_eq_nil_of_le w!;rw[e,List.append_nil] at i2;have E:b.drop (m+32).toNat=(b.drop m.toNat).drop 32:=by rw[List.drop_drop];congr 1;omega
 have A:b.drop (m+32+k).toNat=(b.drop (m+32).toNat).drop k.toNat:=by rw[h?];congr 1;omega
 simp only[hB];rw[i3,<-i2,show((w.toNat:Nat):Int)=w by omega,A,X!,X!,<-q1,E,O?];exact p.symm
theorem apE(h:(hR b).2≠0):(hR b).1=(0,[],[]):=by
 grind[hR,GA]
theorem aah {a:Int}{A:B8}{h:M Sg}{b:Int}{B:B8}{k:M Sg}:aae a A h b B k=decide ((a,A,h)=(b,B,k)):=by
 grind[aae,Prod.mk.injEq,Bool.decide_and]
theorem Ms {a b:Hd}(h:cO a.1 a.2.1 a.2.2=true)(H:cO b.1 b.2.1 b.2.2=true):(hB a.1 a.2.1 a.2.2=hB b.1 b.2.1 b.2.2)↔a=b:=by
 grind[aaf]
def tE(n:Int)(g:B8)(l:M Sg)(k:Nat):B8:=num n++g++num l.length++jo (l.take k)
def Fp(n:Int)(g:B8)(l:M Sg)(k:Nat):Prop:=cO n g l=true/\k<=l.length
def wj(b:B8)(a e f:Int):(Int×Int)×Sg:=
 (((aF b (ag b (ag b a e).1.2.1 (ag b a e).1.2.2).1.2.1 (ag b (ag b a e).1.2.1 (ag b a e).1.2.2).1.2.2).1.2.1,
   (aF b (ag b (ag b a e).1.2.1 (ag b a e).1.2.2).1.2.1 (ag b (ag b a e).1.2.1 (ag b a e).1.2.2).1.2.2).1.2.2),
  f,(ag b a e).2,(ag b (ag b a e).1.2.1 (ag b a e).1.2.2).2,
  (aF b (ag b (ag b a e).1.2.1 (ag b a e).1.2.2).1.2.1 (ag b (ag b a e).1.2.1 (ag b a e).1.2.2).1.2.2).2)
abbrev Ps:=(Int×Int)×Int×M Sg
def qS(b:B8)(a e:Int):Nat->Ps
 |0=>((a,e),0,[])
 |k+1=>((wj b (qS b a e k).1.1 (qS b a e k).1.2 (qS b a e k).2.1).1,(wj b (qS b a e k).1.1 (qS b a e k).1.2 (qS b a e k).2.1).2.2.1,
   (qS b a e k).2.2++[(wj b (qS b a e k).1.1 (qS b a e k).1.2 (qS b a e k).2.1).2])
def iA(b:B8):(Int×B8×Int)×Int×Int:=
 (((ag b 0 0).2,(aF b (ag b 0 0).1.2.1 (ag b 0 0).1.2.2).2,
   (ag b (aF b (ag b 0 0).1.2.1 (ag b 0 0).1.2.2).1.2.1 (aF b (ag b 0 0).1.2.1 (ag b 0 0).1.2.2).1.2.2).2),
  (ag b (aF b (ag b 0 0).1.2.1 (ag b 0 0).1.2.2).1.2.1 (aF b (ag b 0 0).1.2.1 (ag b 0 0).1.2.2).1.2.2).1.2.1,
  (ag b (aF b (ag b 0 0).1.2.1 (ag b 0 0).1.2.2).1.2.1 (aF b (ag b 0 0).1.2.1 (ag b 0 0).1.2.2).1.2.2).1.2.2)
def jP(b:B8)(k:Nat):Ps:=qS b (iA b).2.1 (iA b).2.2 k
def pN(b:B8):Nat:=(iA b).1.2.2.toNat
theorem Ek(b:B8)(a e:Int):(ag b a e).1.1=b/\(aF b a e).1.1=b:=by
 grind[ag,aF]
theorem Z6(h:e≠0):bV b a e=e:=by simp_all[bV,R!]
theorem I0(h:0<=a)(H:a<=b.length):bV b a 0=0:=by
 simp_all[bV,R!,inside,Bool.and_eq_false_iff,p?]
theorem ae6(h:e≠0):ag b a e=((b,a,e),0):=by
 simp_all[ag,Z6,Q!]
theorem ae7(h:e≠0):aF b a e=((b,a,e),[]):=by
 simp_all[aF,Z6,Q!]
theorem GB(h:0<=a)(h1:a<=b.length)(H:(first (b.drop a.toNat)).2.2=0):ag b a 0=((b,a+(first (b.drop a.toNat)).2.1,0),(first (b.drop a.toNat)).1):=by
 have e:(aQ b a).2.2=0:=H;unfold ag;rw[I0 h h1,if_neg (λq=>q rfl),if_neg (λq=>q e)];simp_all[aQ,TU,if_true]
theorem Wz(h:0<=a)(h1:a<=b.length)(H:(first (b.drop a.toNat)).2.2≠0):ag b a 0=((b,a,(first (b.drop a.toNat)).2.2),0):=by
 have e:(aQ b a).2.2≠0:=H;unfold ag;rw[I0 h h1,if_neg (λq=>q rfl),if_pos e];rfl
theorem apF(h:0<=a)(H:a+32<=b.length):aF b a 0=((b,a+32,0),(b.drop a.toNat).take 32):=by
 unfold aF;rw[I0 h w!,if_neg (λq=>q rfl),if_neg w!]
theorem apG {b:B8}(h:0<=a)(h1:a<=b.length)(H:(b.length:Int)<a+32):aF b a 0=((b,a,4),[]):=by
 unfold aF;rw[I0 h h1,if_neg (λq=>q rfl),if_pos w!]
theorem apH(h:e≠0):(wj b a e f).1=(a,e):=by
 grind[wj,ae6,ae7]
theorem avG(h:0<=a)(k:a<=b.length)(H:(tC (b.drop a.toNat) f).2.2=0):
  wj b a 0 f=((a+(tC (b.drop a.toNat) f).2.1,0),(tC (b.drop a.toNat) f).1)/\a+(tC (b.drop a.toNat) f).2.1<=b.length:=by
 unfold tC at H |-;split at H;grind;rename_i q1;split at H;grind;rename_i q2;split at H;grind;rename_i q3;rw[if_neg q1,if_neg q2,if_neg q3];have Q:=Classical.byContradiction q1;have q:=Classical.byContradiction q2;have w:=nX (b.drop a.toNat);have B:=nX ((b.drop a.toNat).drop (first (b.drop a.toNat)).2.1.toNat);have r:=GB h k Q;rw[List.length_drop] at q3;generalize z:(first (b.drop a.toNat)).2.1=n at *;have E:(b.drop a.toNat).drop n.toNat=b.drop (a+n).toNat:=by rw[List.drop_drop];congr 1;omega
 rw[E] at q B q3 |-;have R:=GB (b:=b) (a:=a+n) w! w! q;generalize A:(first (b.drop (a+n).toNat)).2.1=m at *;have e:(b.drop a.toNat).drop (n+m).toNat=b.drop (a+n+m).toNat:=by rw[h?];congr 1;omega
 have o:=apF (b:=b) (a:=a+n+m) w! w!;unfold wj;simp only[r,R,o,e];refine⟨?_,w!⟩;congr 2
 omega
theorem avH(h:0<=a)(k:a<=b.length)(H:(tC (b.drop a.toNat) f).2.2≠0):(wj b a 0 f).1.2=(tC (b.drop a.toNat) f).2.2:=by
 unfold tC at H |-;by_cases q:(first (b.drop a.toNat)).2.2=0;have B:=nX (b.drop a.toNat);have r:=GB h k q;generalize w:(first (b.drop a.toNat)).2.1=n at *;have e:(b.drop a.toNat).drop n.toNat=b.drop (a+n).toNat:=by grind[List.drop_drop]
 rw[e] at H |-;have o:a+n<=b.length:=by grind
 by_cases Q:(first (b.drop (a+n).toNat)).2.2=0;have z:=nX (b.drop (a+n).toNat);have R:=GB (b:=b) (a:=a+n) w! o Q;generalize A:(first (b.drop (a+n).toNat)).2.1=m at *;by_cases C:((b.drop a.toNat).length:Int)<n+m+32;grind[List.length_drop,apG,wj];grind;grind[Wz,ae7,wj];simp_all[if_pos,Wz,ae6,ae7,wj]
theorem Kt {b:B8}{p:Int}(H:0<=p)(o:p<=b.length):∀k,((kT b p k).2.2.2=0->qS b p 0 k=(((kT b p k).2.2.1,0),(kT b p k).2.1,(kT b p k).1)/\0<=(kT b p k).2.2.1/\(kT b p k).2.2.1<=b.length)/\((kT b p k).2.2.2≠0->(qS b p 0 k).1.2=(kT b p k).2.2.2)
 |0=>⟨λ_=>⟨rfl,H,o⟩,λh=>absurd rfl h⟩
 |k+1=>by
  obtain⟨i,I⟩:=Kt (b:=b) H o k;rw[kT,qS];generalize kT b p k=s at *;generalize qS b p 0 k=t at *;by_cases r:s.2.2.2=0;obtain⟨rfl,j,J⟩:=i r;by_cases q:(tC (b.drop s.2.2.1.toNat) s.2.1).2.2=0;obtain⟨g,G⟩:=avG j J q;have w:=(Us q).2.1;grind;simp_all[if_pos,absurd,avH]
  simp_all[Q!,apH]
theorem Z7(b:B8)(a e:Int):∀k,(qS b a e k).2.2.length=k
 |0=>rfl
 |k+1=>by simp[qS,J!,J?,Z7 b a e k]
theorem Qn {b:B8}{a e:Int}(h:e≠0):∀k,(qS b a e k).1=(a,e)
 |0=>rfl
 |k+1=>by simp only[qS,Qn h k];exact apH h
theorem GC(b:B8):
  ((iA b).2.2≠0/\(iA b).1.2.2=0/\hR b=((0,[],[]),(iA b).2.2))\/
  ((iA b).2.2=0/\0<=(iA b).2.1/\(iA b).2.1<=b.length/\0<=(iA b).1.2.2/\hR b=if 64<(iA b).1.2.2 then((0,[],[]),2) else GA b (iA b).1.1 (iA b).1.2.1 (kT b (iA b).2.1 (iA b).1.2.2.toNat)):=by
 have B:=nX b;unfold hR;by_cases q:(first b).2.2=0;have r:=GB (b:=b) (a:=0) (Int.le_refl _) (Int.natCast_nonneg _) q;generalize h:(first b).2.1=n at *;by_cases q2:(b.length:Int)<n+32;simp_all[if_pos,apG,ae6,iA,trivial]
 rw[if_neg q2];have R:=apF (b:=b) (a:=n) w! w!;have k:=nX (b.drop (n+32).toNat);by_cases Q:(first (b.drop (n+32).toNat)).2.2=0;grind[GB,iA];have o:=Wz (b:=b) (a:=n+32) w! w! Q;simp_all[iA,trivial]
 simp_all[Wz,Int.le_refl,Int.natCast_nonneg,ae7,ae6,iA,trivial]
theorem Z8(h:64<(iA b).1.2.2):hR b=((0,[],[]),2):=by
 grind[GC]
theorem apI {b:B8}(h:¬64<(iA b).1.2.2)(r:done b (jP b (pN b)).1.1 (jP b (pN b)).1.2≠0):hR b=((0,[],[]),done b (jP b (pN b)).1.1 (jP b (pN b)).1.2):=by
 unfold jP pN at *;rcases GC b with⟨o,H,k⟩|⟨o,H,k,w,q⟩
 . simp_all[Qn,done,Q!]
 . rw[q,if_neg h];obtain⟨l,L⟩:=Kt H k (iA b).1.2.2.toNat;generalize kT b (iA b).2.1 (iA b).1.2.2.toNat=s at *;unfold GA;by_cases z:s.2.2.2=0
   . simp_all[R!,inside,B!,H!,done]
   simp_all[Q!,done]
theorem ae8 {b:B8}(h:¬64<(iA b).1.2.2)(r:done b (jP b (pN b)).1.1 (jP b (pN b)).1.2=0):
  hR b=if cO (iA b).1.1 (iA b).1.2.1 (jP b (pN b)).2.2 then(((iA b).1.1,(iA b).1.2.1,(jP b (pN b)).2.2),0) else((0,[],[]),2):=by
 unfold jP pN at *;rcases GC b with⟨o,H,k⟩|⟨o,H,k,w,q⟩
 . simp_all[Qn,done,Q!,absurd]
 . rw[q,if_neg h];obtain⟨l,L⟩:=Kt H k (iA b).1.2.2.toNat;generalize kT b (iA b).2.1 (iA b).1.2.2.toNat=s at *;unfold GA;by_cases z:s.2.2.2=0
   . grind[done]
   simp_all[done,Q!,absurd]
theorem avI(n:Int)(g:B8)(l:M Sg):(bif decide (0<=n) then bif decide (n<=1000) then bif decide ((g.length:Int)=32) then rE l n else false else false else false)=cO n g l:=by
 grind[cO,decide]
variable {l:List aB}
theorem avJ {docs:O}(h:aY docs l=false\/¬iJ docs l=(docs.length:Int)):gI docs l=((0,[],[]),7):=by
 grind[cy,gI]
theorem Z9 {docs:O}(h:aY docs l=true/\iJ docs l=(docs.length:Int)):gI docs l=(((docs.length:Int),root (leaves docs),ya docs l),0):=by
 simp_all[cy,L?,gI,Q!]
theorem GF(h:aY docs l=true):dj docs/\small (leaves docs):=by
 have R:=RI.of h;have H:=R.bd;refine⟨⟨w!,λb H=>?_⟩,?_⟩;have:=R.fair;simp[dm,Bool.and_eq_true,List.all_eq_true,decide_eq_true_eq] at this;grind;grind[small,leaves,List.length_map]
theorem À(docs:O):yk (leaves docs)=0/\kI (leaves docs)=root (leaves docs):=by
 grind[yk,kI,kn]
theorem aEu(h:gi v=false)(l:B8):yW v=0/\mq l v=l++num v:=by grind[yW,mq]
theorem Qo(h:0<=v)(H:v<=1099511627776):gi v=false:=by
 grind[gi,Bool.or_eq_false_iff,decide_eq_false_iff_not]
variable {l:List Sg}
theorem aai(h:cO n g l=false):hW n g l=([],1):=by grind[hW]
theorem NC(h:cO n g l=true):hW n g l=(hB n g l,0):=by grind[hW]
theorem GG{k:Nat}(h:Fp n g l k)(H:(k:Int)<l.length):gi (sg l k).2.1=false/\gi (sg l k).2.2.1=false/\(sg l k).2.2.2.length=32:=by
 have o:=Ks ((sb (jq.1 h.1).2.2.2).2.1 k w!);grind[Qo]
theorem Em{k:Nat}(h:Fp n g l k):(tE n g l k).length<=100000:=by
 have H:=jq.1 h.1;have o:=cU n;have q:=cU (l.length:Int);have r:=(sb H.2.2.2).1
 have w:∀j,j<=l.length->(jo (l.take j)).length<=50*j:=by
  intro j;induction j with
  |zero=>grind[jo]
  |succ j i=>
   intro z;have A:=Ks ((sb H.2.2.2).2.1 j w!);have:=i w!;rw[an l j (0,0,0,[]) w!];simp[jo,List.flatMap_append,List.flatMap_cons,List.flatMap_nil,List.append_nil,List.length_append] at this |-;grind[cU,sg,Gz,List.length_append]
 have B:=h.2;grind[tE,List.length_append]
theorem aEv(n:Int)(g:B8)(l:M Sg):num n++g++num (l.length:Int)=tE n g l 0:=by simp[tE,jo]
theorem Á{k:Nat}(h:(k:Int)<l.length):tE n g l k++num (sg l k).2.1++num (sg l k).2.2.1++(sg l k).2.2.2=tE n g l (k+1):=by
 simp[tE];rw[an l k (0,0,0,[]) w!];simp[jo,List.flatMap_append,List.flatMap_cons,List.flatMap_nil,B?,Gz,sg,X!]
theorem WB{k:Nat}(h:¬(k:Int)<l.length):tE n g l k=hB n g l:=by
 grind[tE,hB,List.take_of_length_le]
theorem apJ{k:Nat}(h:(k:Int)<(iA b).1.2.2):k+1<=pN b:=by grind[pN]
theorem aaj{k:Nat}(h:k<=pN b)(H:¬(k:Int)<(iA b).1.2.2):k=pN b:=by grind[pN]
theorem aGJ(b:B8)(k:Nat):(jP b k).2.2.length=k:=Z7 b _ _ k
theorem aEw {b:B8}{k:Nat}(h:¬64<(iA b).1.2.2)(H:k<=pN b)(o:¬(k:Int)<(iA b).1.2.2)(q:¬done b (jP b k).1.1 (jP b k).1.2=0):hR b=((0,[],[]),done b (jP b k).1.1 (jP b k).1.2):=by
 grind[aaj,apI]
theorem aEx {b:B8}{k:Nat}(h:¬64<(iA b).1.2.2)(hk:k<=pN b)(h1:¬(k:Int)<(iA b).1.2.2)(H:done b (jP b k).1.1 (jP b k).1.2=0)(o:cO (iA b).1.1 (iA b).1.2.1 (jP b k).2.2=false):hR b=((0,[],[]),2):=by
 rw[aaj hk h1] at H o;simp_all[ae8,R!]
theorem aEy {b:B8}{k:Nat}(h:¬64<(iA b).1.2.2)(hk:k<=pN b)(h1:¬(k:Int)<(iA b).1.2.2)(H:done b (jP b k).1.1 (jP b k).1.2=0)(o:cO (iA b).1.1 (iA b).1.2.1 (jP b k).2.2=true):hR b=(((iA b).1.1,(iA b).1.2.1,(jP b k).2.2),0):=by
 rw[aaj hk h1] at H o |-;simp_all[ae8,Q!]
variable {l:List aB}
theorem iL:cy docs l=true↔aY docs l=true/\iJ docs l=(docs.length:Int):=by
 simp_all[cy,B!,H!]
theorem apK(h:cy docs l=false):gI docs l=((0,[],[]),7):=by grind[gI]
theorem En(h:cy docs l=true):gI docs l=(((docs.length:Int),root (leaves docs),ya docs l),0):=Z9 (iL.1 h)
theorem wk(h:cy docs l=true):cO (docs.length:Int) (root (leaves docs)) (ya docs l)=true:=by
 obtain⟨H,k⟩:=iL.1 h;have o:=(RI.of H).bd;grind[jq,Int.natCast_nonneg,uD,kn,aad]
theorem apL{l:M Sg}(h:(hW n g l).2=0):cO n g l=true/\hW n g l=(hB n g l,0):=by
 grind[NC,aai]
theorem ae9{l:M Sg}(h:cO n g l=true):(hB n g l).length<=100000:=by
 have:=Em (k:=l.length) ⟨h,Nat.le_refl _⟩;grind[WB]
theorem apart {a b:Hd}(h:(hW a.1 a.2.1 a.2.2).2=0)(H:(hW b.1 b.2.1 b.2.2).2=0):(bif decide ((hW a.1 a.2.1 a.2.2).1=(hW b.1 b.2.1 b.2.2).1)==aae a.1 a.2.1 a.2.2 b.1 b.2.1 b.2.2 then true else false)=true:=by
 grind[apL,aah,Ms,decide_eq_true,decide_eq_false]
theorem apM(l:M aRI):(eZ l).2.length<=40:=by
 grind[Un,min,Qk,eZ]
theorem alv(h:aY docs l=true)(a b c:Int)(d:B8):(pH docs l a b c d).1.1.length<=docs.length+1:=by
 by_cases H:a=0;have k:=iK h;unfold pH;grind[aQw];grind[keeps]
theorem Qp(l:M aRI):∀k,(mT ([],[]) l k).1.length<=k
 |0=>M! _
 |k+1=>by
  have i:=Qp l k;rw[mT];split;omega;have:=alv (Wy l k) (wi l k).1 (wi l k).2.1 (wi l k).2.2.1 (wi l k).2.2.2;omega
theorem apN(l:M aRI):(eZ l).1.length<=40:=by grind[Qp,min,eZ]
theorem aak(docs:O)(l:M aB):bS docs l=pH docs l 1 0 0 []:=by rfl
theorem Â(h:aY docs l=true)(H:l.length<64):
  (bS docs l).1.1=docs/\aY docs (bS docs l).1.2=true/\dD (bS docs l).1.2=docs.length/\(bS docs l).1.2.length<=l.length+1/\cy docs (bS docs l).1.2=true:=by
 grind[keeps,IX,ZW,aak,iL,C8]
theorem pf(l:M aRI):(bS (eZ l).1 (eZ l).2).1.1=(eZ l).1/\aY (eZ l).1 (bS (eZ l).1 (eZ l).2).1.2=true/\dD (bS (eZ l).1 (eZ l).2).1.2=(eZ l).1.length/\(bS (eZ l).1 (eZ l).2).1.2.length<=41/\cy (eZ l).1 (bS (eZ l).1 (eZ l).2).1.2=true:=by
 grind[apM,Â,avC]
theorem aGK(h:aY docs l=true)(H:¬(2000:Int)<d.length)(k:docs.length<1000):aQw docs l d=((docs++[d],l),0):=by
 grind[iK,aEr]
theorem grow(l:M aRI)(k:¬(2000:Int)<d.length)(hx:(bS (eZ l).1 (eZ l).2).1.2=x):
  gI (eZ l).1 x=((((eZ l).1.length:Int),root (leaves (eZ l).1),ya (eZ l).1 x),0)/\aQw (eZ l).1 x d=(((eZ l).1++[d],x),0)/\
  ∃s r,bS ((eZ l).1++[d]) x=(((eZ l).1++[d],x++[s]),0)/\gI ((eZ l).1++[d]) (x++[s])=((((eZ l).1.length:Int)+1,r,ya (eZ l).1 x++[C5 s]),0):=by
 have o:=apN l;obtain⟨B,p,q,w,P⟩:=pf l;rw[hx] at p q w P;have H:=aGK p k w!;have h:=append_right (eZ l).1 x d;rw[H] at h;have C:=iK h
 have z:bS ((eZ l).1++[d]) x=(((eZ l).1++[d],x++[(dD x,(((eZ l).1++[d]).length:Int),make ((eZ l).1++[d]) (dD x) ((eZ l).1++[d]).length)]),0):=by
  grind[bS,iJ]
 refine⟨En P,H,_,root (leaves ((eZ l).1++[d])),z,?_⟩;have A:=Â (docs:=(eZ l).1++[d]) (l:=x) h w!;grind[En,ya,eZ,dD,make,C5,iK]
def cq(i n:Int):M Bool:=if h:n<2 then [] else if i<((sp n.toNat:Nat):Int) then false ::cq i ((sp n.toNat:Nat):Int) else true ::cq (i-((sp n.toNat:Nat):Int)) (n-((sp n.toNat:Nat):Int))
termination_by n.toNat
decreasing_by
 have:=iY (n:=n.toNat) w!;omega;have:=iY (n:=n.toNat) w!;omega
def O5(d:B8)(x:Bool×B8):B8:=if x.1 then bz x.2 d else bz d x.2
def ko(d:B8)(s:M Bool)(p:O):B8:=(List.zip s.reverse p).foldl O5 d
def apO(d:B8)(i n:Int)(p:O):B8:=ko d (cq i n) p
def avK(i n:Int):Int:=((cq i n).length:Int)
def path(l:O)(i:Int):O:=if h:l.length<2 then [] else if i<((sp l.length:Nat):Int) then path (l.take (sp l.length)) i++[root (l.drop (sp l.length))] else path (l.drop (sp l.length)) (i-((sp l.length:Nat):Int))++[root (l.take (sp l.length))]
termination_by l.length
decreasing_by
 have:=iY (n:=l.length) w!;rw[C?];omega;have:=iY (n:=l.length) w!;rw[N?];omega
theorem wo(h:n<2):cq i n=[]:=by rw[cq,dif_pos h]
theorem zn {n:Int}(h:2<=n)(hi:i<((sp n.toNat:Nat):Int)):cq i n=false ::cq i ((sp n.toNat:Nat):Int):=by rw[cq,dif_neg w!,Q! hi]
theorem zo {n:Int}(h:2<=n)(hi:¬i<((sp n.toNat:Nat):Int)):cq i n=true ::cq (i-((sp n.toNat:Nat):Int)) (n-((sp n.toNat:Nat):Int)):=by rw[cq,dif_neg w!,R! hi]
theorem WC {l:O}(h:l.length<2):path l i=[]:=by rw[path,dif_pos h]
theorem WD {l:O}(h:2<=l.length)(hi:i<((sp l.length:Nat):Int)):path l i=path (l.take (sp l.length)) i++[root (l.drop (sp l.length))]:=by rw[path,dif_neg w!,Q! hi]
theorem WE {l:O}(h:2<=l.length)(hi:¬i<((sp l.length:Nat):Int)):path l i=path (l.drop (sp l.length)) (i-((sp l.length:Nat):Int))++[root (l.take (sp l.length))]:=by rw[path,dif_neg w!,R! hi]
theorem wu {C:Nat->Prop}(h0:∀n,n<2->C n)(h1:∀n,2<=n->C (sp n)->C (n-sp n)->C n)(n:Nat):C n:=by
 induction n using Nat.strongRecOn with
 |_ n ih=>
  by_cases h:n<2;exact h0 n h;have hb:=iY (n:=n) w!;exact h1 n w! (ih _ w!) (ih _ w!)
theorem alw(n:Nat):∀(l:O) (i:Int),l.length=n->(path l i).length=(cq i l.length).length:=by
 refine wu (C:=λn=>∀(l:O) (i:Int),l.length=n->(path l i).length=(cq i l.length).length) (λn h l i e=>?_) (λn h I k l i e=>?_) n;grind[WC,wo];have H:=iY (n:=l.length) w!;by_cases hi:i<((sp l.length:Nat):Int);rw[WD w! hi,zn w! x!,List.length_append];grind;rw[WE w! hi,zo w! x!,List.length_append];grind
theorem Ã(d:B8)(x:Bool)(s:M Bool)(p:O)(y:B8)(h:p.length=s.length):ko d (x::s) (p++[y])=O5 (ko d s p) (x,y):=by
 simp_all[ko,List.reverse_cons,List.zip_append,List.foldl_append]
theorem aWQ(n:Nat):∀(l:O) (i:Int),l.length=n->0<=i->i<l.length->apO (l.getD i.toNat []) i l.length (path l i)=root l:=by
 refine wu (C:=λn=>∀(l:O) (i:Int),l.length=n->0<=i->i<l.length->apO (l.getD i.toNat []) i l.length (path l i)=root l) (λn h l i e q r=>?_) (λn h I w l i e q r=>?_) n;unfold apO;have :l.length=1:=by omega
 have hi:i=0:=by omega
 rw[WC w!,wo w!,Ed this,hi];rfl;have A:=iY (n:=l.length) w!;unfold apO at *;by_cases hi:i<((sp l.length:Nat):Int);have E:=za (l:=l) w! rfl;rw[WD w! hi,zn w! x!,E];have k:(l.take (sp l.length)).length=sp n:=by grind
 have:=I (l.take (sp l.length)) i k q x!;rw[Int.toNat_natCast];have H:=alw _ (l.take (sp l.length)) i rfl;rw[List.length_take,Nat.min_eq_left w!] at H this;rw[Ã _ _ _ _ _ H]
 have o:(l.take (sp l.length)).getD i.toNat []=l.getD i.toNat []:=by
  grind
 rw[o] at this;rw[this];rfl;have E:=za (l:=l) w! rfl;rw[WE w! hi,zo w! x!,E];have k:(l.drop (sp l.length)).length=n-sp n:=by grind
 have:=w (l.drop (sp l.length)) (i-((sp l.length:Nat):Int)) k w! x!;have H:=alw _ (l.drop (sp l.length)) (i-((sp l.length:Nat):Int)) rfl;have z:(((l.length-sp l.length:Nat)):Int)=(l.length:Int)-((sp l.length:Nat):Int):=by omega
 rw[N?,z] at H this;rw[E?,Ã _ _ _ _ _ H]
 have o:(l.drop (sp l.length)).getD (i-((sp l.length:Nat):Int)).toNat []=l.getD i.toNat []:=by
  grind
 rw[o] at this;rw[this];rfl
theorem aum(a b:B8)(h:a.length=32)(H:b.length=32):(bz a b).length=32:=by
 simp[bz,Mc,h,H,decide_true,Bool.and_self,Q?];rfl
theorem C9:∀(s:M (Bool×B8)) (d:B8),d.length=32->(∀x∈s,x.2.length=32)->(s.foldl O5 d).length=32
 |[],d,h,_=>h
 |x::s,d,h,hx=>by
  refine C9 s _ ?_ (λy H=>hx y (List.mem_cons_of_mem _ H));have:=hx x (List.mem_cons_self ..);unfold O5;split;exact aum _ _ this h;exact aum _ _ h this
def oz(l:O)(i:Int):O:=if cP l=true/\0<=i/\i<l.length then path l i else []
def tF(l:O)(i:Int):Int:=if cP l=true/\0<=i/\i<l.length then 0 else 1
def eX(l:O):Prop:=l.length<=1099511627776
def gD(l:O)(i:Int)(k:O×Int×O):Prop:=
 cP k.1=true/\k.1.length<=l.length/\0<=k.2.1/\k.2.1<k.1.length/\path l i=path k.1 k.2.1++k.2.2.reverse/\k.2.2.length+k.1.length<=l.length
def cB(d:B8)(i n:Int)(p:O):Int:=
 if(d.length:Int)=32/\1<=n/\n<=1099511627776/\0<=i/\i<n then(if(p.length:Int)=avK i n/\cP p=true then 0 else 6) else 1
def jO(d:B8)(i n:Int)(p:O):B8:=if cB d i n p=0 then apO d i n p else []
def cL(d:B8)(i n:Int)(p:O)(k:Nat):B8:=((List.zip (cq i n).reverse p).take k).foldl O5 d
def ob(i n:Int):Prop:=0<=i/\i<n/\n<=1099511627776
def j4(i n:Int)(k:Int×Int×M Bool):Prop:=0<=k.1/\k.1<k.2.1/\k.2.1<=n/\cq i n=k.2.2++cq k.1 k.2.1/\(k.2.2.length:Int)+k.2.1<=n
end Go.S
