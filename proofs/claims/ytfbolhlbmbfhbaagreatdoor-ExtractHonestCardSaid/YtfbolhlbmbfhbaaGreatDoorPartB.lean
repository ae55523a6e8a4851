import Derived.Test.YtfbolhlbmbfhbaaGreatDoorPartA
import Derived.Orders
import Derived.Deep.LoopGhost
import Derived.Scope
import Derived.WalkKit
import Derived.ProofKit
import Derived.OpenShut
import Derived.SizedLaws
set_option linter.all false
namespace Go.Vg
open Go
variable [HP]
def Ox(E:Env):AV->Option (Prop×AV)
 |.fn (.func f) bs bl=>match E.sig f with
   |some s=>match s (bs++bl) with
    |some (pre,res,n)=>bif n.isEmpty&&(aA res).isEmpty then some (pre,res) else none
    |none=>none
   |none=>none
 |_=>none
def ı(E:Env):AV->Option (Option Nat×CF)
 |.fn (.func f) bs bl=>match bs,E.cn f with
   |[],some t=>t bl
   |_,_=>match Ox E (.fn (.func f) bs bl) with
    |some (pre,res)=>some (none,λz=>(pre,res,z))
    |none=>none
 |_=>none
def VC:Option Nat->Option Nat->Option (Option Nat)
 |none,k=>some k
 |some j,none=>some (some j)
 |some j,some k=>bif Nat.beq j k then some (some j) else none
def Np(E:Env):M AV->Option (Option Nat×M CF)
 |[]=>some (none,[])
 |a::r=>match ı E a,Np E r with
  |some (k,F),some (k',l)=>match VC k k' with
   |some k=>some (k,F::l)
   |none=>none
  |_,_=>none
def Tk:Option Nat->Nat->Bool
 |some j,d=>!Nat.beq j d
 |none,_=>true
abbrev aE.Cj(x:M Value):Nat:=x.length
abbrev aE.cat(l m:M CF):M CF:=l++m
abbrev aE.len(l:M CF):Nat:=l.length
abbrev aE.put(l:M CF)(i:Nat)(p:Prop)(r:AV):M CF:=l.set i λz=>(p,r,z)
def E4(E:Env)(s:St)(o:Oper):Option Out:=match o.op with
 |.buildSlice t len parts=>match o.dst,qk E.T t,nG E.T t with
   |some d,some e,some te=>bif fresh s.h (s.kb+d)&&(Nat.blt 0 te.size&&(Nat.beq (ofConst te.zero).cells.length te.size&&Nat.ble (len*te.size) 16777216)) then
    match zF (λi=>some (i*te.size,te.size)) ((List.replicate len (ofConst te.zero).cells).flatten) (parts.toList.map λp=>(p.1,ev s p.2)) with
    |some cs=>bif cs.all AV.one&&Nat.beq cs.length (len*te.size) then match bif Nat.beq te.size 1 then Np E cs else none with
     |some (k,l)=>bif Tk k (s.kb+d) then some {cond:=[],res:=.own (s.kb+d),new:=[(s.kb+d,.dO e k l)]} else none
     |none=>bif (ay cs).isEmpty then some {cond:=[],res:=.own (s.kb+d),new:=[(s.kb+d,.bm e te.size len cs)]} else none
     else none
    |none=>none
    else none
   |_,_,_=>none
 |.call c=>match c.callee with
   |.builtin b=>match b,c.args.toList,c.argTypes.toList with
     |.append,[x,y],[t,t']=>match o.dst,qk E.T t,nG E.T t,ev s x,ev s y with
       |some d,some e,some te,.own j,.own k=>match s.h j,s.h k with
        |some (.dO g q l),some (.dO _ Q m)=>
         bif fresh s.h (s.kb+d)&&(Nat.beq e g&&(Nat.beq te.size 1&&(Nat.beq (ofConst te.zero).cells.length te.size&&cW E.T t' DO))) then match VC q Q with
         |some r=>bif Tk r (s.kb+d) then some {cond:=[aE.len l+m.length<=140737488355328/te.bytes],res:=.own (s.kb+d),del:=[j],new:=[(s.kb+d,.dO e r (aE.cat l m))]} else none
         |none=>none
         else none
        |_,_=>none
       |_,_,_,_,_=>none
     |.len,[x],[t]=>match ev s x with
       |.own k=>match s.h k with
         |some (.bm _ _ n _)=>bif cW E.T t nH then some {cond:=[],res:=.int .i64 (n:Int)} else none
         |_=>none
       |_=>none
     |_,_,_=>none
   |_=>none
 |.store t x y=>match ev s x,ev s y with
   |.elem k sz i j,.own K=>match s.h k,s.h K with
     |some (.eG e _ xs i0),some (.row _ _ _ _)=>bif Nat.beq sz 1&&(Nat.beq j 0&&(kU E.T t 1&& !Nat.beq K k)) then
       some {cond:=[i<aE.Cj xs,i=i0],res:=.undef,hX:=[(k,.eG e (some K) xs i0)]} else none
     |_,_=>none
   |.elem k sz i j,.fn f bs cs=>match s.h k,Ox E (.fn f bs cs) with
     |some (.dO e q l),some (pre,res)=>bif Nat.beq sz 1&&(Nat.beq j 0&&kU E.T t 1) then
       some {cond:=[i<aE.len l],res:=.undef,hX:=[(k,.dO e q (aE.put l i pre res))]} else none
     |_,_=>none
   |_,_=>none
 |.indexAddr t x i=>match ev s x,ev s i with
   |.own k,.int _ i=>match s.h k with
     |some (.bm _ sz n _)=>bif bH E.T t sz&&Nat.blt E.JI n then some {cond:=[i=(E.JI:Int)],res:=.elem k sz E.JI 0} else none
     |some (.eG _ _ xs _)=>bif bH E.T t 1 then some {cond:=[0<=i/\i<(aE.Cj xs:Int)],res:=.elem k 1 i.toNat 0} else none
     |some (.dO _ _ l)=>bif bH E.T t 1 then some {cond:=[0<=i/\i<(aE.len l:Int)],res:=.elem k 1 i.toNat 0} else none
     |_=>none
   |_,_=>none
 |.load t x=>match ev s x,E.T.find t with
   |.elem k sz i j,some te=>match s.h k with
     |some (.bm _ s2 _ cs)=>bif Nat.beq sz s2 then match pick te cs (i*sz+j) with
      |some a=>some {cond:=[],res:=a}
      |none=>none
      else none
     |some (.eG _ (some K) xs i0)=>bif Nat.beq sz 1&&Nat.beq j 0 then match pick te [.own K] 0 with
      |some a=>some {cond:=[i<aE.Cj xs,i=i0],res:=a}
      |none=>none
      else none
     |_=>none
   |.ref k off,some te=>match s.h k with
     |some (.fvar r y)=>match pick te (ax r y) off with
      |some a=>some {cond:=[],res:=a}
      |none=>none
     |_=>none
   |_,_=>none
 |_=>none
def Oy(E:Env)(s:St)(o:Oper):Option Out:=match Tj E s o with
 |some out=>some out
 |none=>E4 E s o
variable {a:Act}{A S A':Nat->Prop}{aC β:Nat->Value}{v p vp vx:Value}{w w':World}{x res:AV}{G:Nat->Option GD}{P:Program}{C:Ctx}{E:Env}{st r s bN s1 base m s':St}{dst:Option Nat}{e n d j i kb i0:Nat}{xs:List Value}{T:b9}{t type:TypeId}{K:Act->World->Prop}{Q:Exit->Act->World->Prop}{after:Array Edge}{pos:String}{o:Oper}{out:Out}{as_ vs:List AV}{l:List (Option TypeId)}{u:List (Nat×AB)}{ab:AB}{α:Type}{W W' L:List Nat}{b g dr:Bool}{ops:Array Oper}{cs:List Prop}{next:St->Option (List Prop×St)}{rest:List Oper}{ks:List Int}{h h':aP}{listed:Array Bool}{es:Array MapEntry}{c:Operand}{bad:Nat->Bool}
mutual
theorem Tl:∀a:AV,fa (λk=>k) a=a
 |.agg cs|.bk cs=>by simp only[fa,pv cs]
 |.fn _ l m=>by simp only[fa,pv l,pv m]
 |.jR _ cs=>by simp only[fa,pv cs]
 |.own _|.pre _ _|.view _ _ _ _|.ref _ _|.elem _ _ _ _|.db|.undef|.int _ _|.bool _|.tt|.ff|.str _|.nil|.lh|.tY _ _|.nb|.sl _ _|.full _ _|.dc _ _ _|.vc _ _=>rfl
theorem pv:∀l:M AV,mP (λk=>k) l=l
 |[]=>rfl
 |a::l=>by simp only[mP,Tl a,pv l]
end
def ajS(h:aA x=[])(H:aa w A β v x):aa w A aC v x:=by
 have:=zT (aC:=aC) (λk=>k) x v x! H;grind[Tl]
def Oz {x:M AV}{v:M Value}(h:ay x=[])(H:ae w A β v x):ae w A aC v x:=by
 have:=j7 (aC:=aC) (λk=>k) x v x! H;grind[pv]
def HU {S:Nat->Prop}{e:Nat}(h:∀b,S b->w'.heap[b]? =w.heap[b]?):∀ {xs:M Value} {l:M U},o8 w S e xs l->o8 w' S e xs l
 |[],[],_=>trivial
 |_::_,_::_,⟨h1,f,H,k⟩=>⟨dH h1 (λb q=>h b (H b q).1),f,H,HU h k⟩
theorem ZR.refl(h:∀b,S b->w'.heap[b]? =w.heap[b]?):∀ {z:Z},HB w S p z->ZR w p w' z z
 |.n,_|.s _,_=>trivial
 |.g _ _ _,⟨b,E,v,xs,h1,k,H,_⟩=>⟨rfl,rfl,λu ⟨B,e,G,f⟩=>by
   rw[h1] at G;simp at G;subst G;exact⟨b,e,h1,(h b H).trans f⟩⟩
def anM(h:∀b,S b->w'.heap[b]? =w.heap[b]?):∀ {z:Z},HB w S p z->HB w' S p z
 |.n,_=>trivial
 |.s _,⟨b,e,h1,k,H,f⟩=>⟨b,e,h1,(h b f).trans k,H,f⟩
 |.g _ _ _,⟨b,E,v,xs,h1,k,H,f,y,q,B,D⟩=>⟨b,E,v,xs,h1,(h b H).trans k,H,f,dH y (λg F=>h g (q g F).1),q,B,HU h D⟩
def Yx(J:∀Q,HP.is Q->Q=P){f:FuncId}{s:Va}(N:Valid P G f s)(O:aMw P f)(R:∀i d,G i=some d->auo w A i d){a B:Array Value}{D:M AV}(U:ae w A β (a++B).toList D)
  {k:Prop} {res:AV} (V:s D=some (k,res,[])) (X:aA res=[]) (p:Value):BN w A p (.func (.func f) a B) λz=>(k,res,z):=by
 refine⟨rfl,.inr ⟨f,a,B,rfl,λQ Y=>?_⟩⟩;have:=J Q Y;subst this;refine⟨O,λw' A' z S F H y I Z=>?_⟩;refine(N w' A' β _ D k res [] H (λi d h=>(R i d h).mono F) (cN F _ _ U) V Z).mono λe W ⟨v,c,g,l,q⟩=>?_
 exact⟨v,c,g,S,ZR.refl (λb H=>q.same b (y b H).2) I,q.os,q.tape,q.output,q.size,λb H _=>q.same b H,q.mono,q.gG,q.bound,
  λb H=>⟨.inl H,λj=>(y b H).1 (q.gG b (y b H).2 j),Y! (y b H).2 q.size⟩,λm=>ajS X q.res,anM (λb H=>q.same b (y b H).2) I⟩
theorem gy:∀(as_ b:M AV) (u vs:M Value),ae w A β u as_->ae w A β vs b->ae w A β (u++vs) (as_++b)
 |[],b,u,vs,h,g=>by
   grind[ae]
 |a::as_,b,u,vs,h,g=>by
  obtain⟨v,J,rfl,H,f⟩:=h;exact⟨v,J++vs,rfl,H,gy as_ b J vs f g⟩
theorem HV(H:dU P C E)(B:aq C A β st a w){k:Prop}{res:AV}(h:Ox E x=some (k,res))(D:aa w A β v x)(p:Value):BN w A p v λz=>(k,res,z):=by
 unfold Ox at h;split at h
 . rename_i f b U;obtain⟨V,X,rfl,F,I⟩:=D;split at h
   . rename_i s J;split at h
     . rename_i M q n N;cases y:(n.isEmpty&&(aA q).isEmpty) with
       |false=>grind
       |true=>
        rw[y] at h;obtain⟨rfl,rfl⟩:=h;simp at y;obtain⟨rfl,O⟩:=y;have⟨G,R⟩:=H.sig f s J;exact Yx (λQ h=>(H.ok.hp Q).1 h) G R (λi d h=>B.laid i d (by rw[H.g];exact h)) (by rw[Array.toList_append];exact gy _ _ _ _ F I) N O p
     grind
   grind
 grind
theorem VD(H:dU P C E)(q:aq C A β st a w){k:Option Nat}{F:CF}(h:ı E x=some (k,F))(y:aa w A β v x)(p:Value)(z:∀j,k=some j->p=β j):BN w A p v F:=by
 unfold ı at h;split at h;rename_i f M b;split at h;rename_i t B;obtain⟨D,I,rfl,N,J⟩:=y;have e:D= #[]:=by grind[Array.ext',ae]
 subst e;exact H.ok.cn f t B w A β I b k F (λi d h=>q.laid i d (by rw[H.g];exact h)) J h p z;grind[HV];grind
def LM {k K r:Option Nat}(h:VC k K=some r)(p:Value)(f:∀j,r=some j->p=β j):(∀j,k=some j->p=β j)/\∀j,K=some j->p=β j:=by
 unfold VC at h;split at h;grind;grind
 . rename_i j k;cases H:Nat.beq j k with
   |false=>grind
   |true=>
    rw[H] at h;simp at h;simp_all
def E5(f:dU P C E)(q:aq C A β st a w):∀ {cs:M AV} {vs:M Value} {k:Option Nat} {l:M CF},Np E cs=some (k,l)->ae w A β vs cs->l.length=cs.length/\∀p,(∀j,k=some j->p=β j)->ng w A p vs l
 |[],vs,k,l,h,H=>by
   obtain⟨rfl,rfl⟩:=h;subst H;exact⟨rfl,λ_ _=>trivial⟩
 |c::cs,vs,k,l,h,H=>by
  obtain⟨v,N,rfl,y,z⟩:=H;simp[Np] at h;split at h;rename_i K F O L e B;split at h;rename_i r D;obtain⟨rfl,rfl⟩:=h;have⟨G,g⟩:=E5 f q B z;refine⟨x!,λp I=>?_⟩;have⟨Q,J⟩:=LM D p I;exact⟨VD f q e y p Q,g p J⟩;grind;grind
theorem aq.Ĳ(q:aq C A β st a w)(z:∀t,dst=some t->t<st.n){d:Nat}{ab:AB}{cond:M Prop}{del:M Nat}{v:Value}{rw :Option Nat}
  (g:st.h d=none/\rJ d=false) (f:w.grownBy w' rw) (m:∀b,rw=some b->∃k,aw del k=true/\(st.h k).isSome/\ah (β k)=some b) (B:∀b,rw=some b->¬A b)
  (K:BR w' A (br β d v) d ab) (O:v.oneCell'=true) (y:∀b,ah v=some b->rw=some b\/w.heap.size<=b):
  aq C A (br β d v) (st.put dst {cond:=cond,res:=.own d,del:=del,new:=[(d,ab)]}) (a.put dst v) w':=by
 have D:bI w w' A A:=λb H=>⟨H,f.block b (q.bound b H) (λh=>B b h.symm H)⟩
 have R:∀k b,ai [(d,ab)] k=some b->k=d/\b=ab:=by
  grind[ai,aO]
 refine q.step z ?_ (by simp[ai]) ?_ D f.os f.tape f.output f.size ?_ (λb H=>Nat.lt_of_lt_of_le (q.bound b H) f.size) (λb H=>.inl H) (by simp[ai]) ?_ ?_ ?_ ?_;grind;intro k h;have :k≠d:=by rintro rfl;simp[ai] at h
 grind[br];intro b H F;refine f.block b H (λh=>?_);have⟨k,I,J,N⟩:=m b h.symm;exact F k ⟨J,.inr I⟩ N;grind;intro k b x h H;simp[br,if_true] at H;grind;grind[Option.isSome_iff_exists];grind[aa,br]
def Tm {p:Value}:∀ {xs:M Value} {l:M CF},ng w A p xs l->xs.length=l.length/\∀u∈xs,u.oneCell'=true
 |[],[],_=>by simp_all
 |x::xs,_::l,h=>by
  have⟨g1,g⟩:=Tm h.2;exact⟨by simp[g1],λu H=>(O!.1 H).elim (λe=>e▸h.1.1) (g u)⟩
theorem HW {p:Value}:∀ {xs y:M Value} {l m:M CF},ng w A p xs l->ng w A p y m->ng w A p (xs++y) (l++m)
 |[],_,[],_,_,h=>h
 |_::_,_,_::_,_,h,h'=>⟨h.1,HW h.2 h'⟩
theorem jm {s:Nat}(h:w.ownsRow 0 e s v n xs):(v= .slice none 0 0/\n=0)\/∃b c,v= .slice (some ⟨b,0,none⟩) n c/\n<=c/\c<=maxLen/\w.rangeAt b 0 xs:=by
 rcases h.2 with h|⟨g,c,C,rfl,_,k,H,f,q,y⟩;grind;refine .inr ⟨g,c,rfl,H,f,λj u z=>?_⟩;grind[World.cell?]
def Yy(h:w.ownsRow 0 e 1 v n xs):∀w':World,w'.heap=w.heap->(Builtin.firstCells 1 n v).run P w'= .ok xs.toArray w':=by
 intro w' hw;have k:=h.1;rcases jm h with⟨rfl,rfl⟩|⟨b,c,rfl,_,_,H⟩;simp_all[D?,Builtin.firstCells]
 have:=run_loadCells_list (P:=P) w' ⟨b,0,none⟩ xs (λj u f=>by
  rw[Addr.add_mid,FT hw];exact H j u f)
 grind[Builtin.firstCells]
def VE(H:bM T P){e:TypeId}{f:TE}{l:Nat}(k:qk T t=some e)(j:nG T t=some f)(Q:1<=f.size)(D:(ofConst f.zero).cells.length=f.size)(F:l*f.size<=16777216)
  {p:M (Nat×AV)} {vparts:Array (Nat×Value)} (q:vparts.toList.map (·.1)=p.map (·.1)) (y:ae w A β (vparts.toList.map (·.2)) (p.map (·.2))) {cs:M AV}
  (z:zF (λi=>some (i*f.size,f.size)) ((List.replicate l (ofConst f.zero).cells).flatten) p=some cs):
  ∃L,(Instr.buildSlice t l vparts).run P w= .ok (.slice (some ⟨w.heap.size,0,none⟩) l l) (w.alloc (.cells L e))/\ae w A β L.toList cs:=by
 have⟨hu,I,i,hi,v,O,J⟩:=vn H k j;have B:f.zero.cells.size=f.size:=by grind[qt]
 have N:(((Array.range (l*i.size)).map (f.zero.cells[· %f.zero.cells.size]!)).toList)=(List.replicate l f.zero.cells.toList).flatten:=by
  have:=qu f.zero.cells w! l;simp_all
 have⟨L,g1,g⟩:=yI _ _ vparts.toList _ ((Array.range (l*i.size)).map (f.zero.cells[· %f.zero.cells.size]!)) cs
  (by grind[qv,lv]) q y z
 refine⟨L,?_,g⟩;have h:¬(16777216<l*i.size):=by grind
 by_cases hz:l*i.size=0;simp[Instr.buildSlice,run_underlying hu,sizeOf,typeInfo,hi,v,newRow];simp_all[Array.range,Array.eq_empty_of_size_eq_zero]
 rw[<-v] at g1;simp[Instr.buildSlice,run_underlying hu,sizeOf,typeInfo,zeroValue,hi,J,h,hz,g1,newRow]
def ajT {a:Array Value}{s l:Nat}(h:a.size=l*s)(H:1<=s)(f:l*s<=16777216):(w.alloc (.cells a e)).ownsRow 0 e s (.slice (some ⟨w.heap.size,0,none⟩) l l) l a.toList:=by
 have k:l<=l*s:=Nat.le_mul_of_pos_right _ w!;exact⟨w!,.inr ⟨w.heap.size,l,a,rfl,w!,heap_alloc_new w _,Nat.le_refl _,by grind[maxLen],h,by rw[<-h];exact List.take_length⟩⟩
def DR(h:aq C A β st a w){c b:Nat}(f:ah (br β d (.slice (some ⟨w.heap.size,0,none⟩) n c) d)=some b):¬A b:=by
 intro H;have:=h.bound b H;simp_all[br,Q?,ah,A!]
def anN(y:aq C A β st a w){d t l:Nat}{p:Array (Nat×Operand)}{g:Option (Nat×Bool)}(z:∀t,some d=some t->t<st.n){k e:Nat}(G:st.h k=none/\rJ k=false){L:Array Value}
  (I:(Instr.buildSlice t l (p.map λ(i,x)=>(i,a.eval x))).run P w= .ok (.slice (some ⟨w.heap.size,0,none⟩) l l) (w.alloc (.cells L e))) {ab:AB}
  (B:BR (w.alloc (.cells L e)) A (br β k (.slice (some ⟨w.heap.size,0,none⟩) l l)) k ab)
  (D:∀q w',Rel C (st.put (some d) {cond:=[],res:=.own k,new:=[(k,ab)]}) q w'->K q w'):
  Oper.wp P ⟨some d,.buildSlice t l p,type,pos,after,g⟩ a w K Q:=by
 have f:w.grownBy (w.alloc (.cells L e)) none:=by
  refine⟨rfl,rfl,rfl,?_,?_⟩;simp;grind[eE]
 have H:∀b,ah (.slice (some ⟨w.heap.size,0,none⟩) l l)=some b->none=some b\/w.heap.size<=b:=λb F=>by
  grind[ah,Option.some.injEq,Nat.le_of_eq]
 refine bK ?_ (D _ _ (Rel.kP (y.Ĳ (cond:=[]) (del:=[]) (rw:=none) z G f nofun nofun B rfl H)));grind[execOp,Sem.run_bind,Result.andThen_ok,Sem.run_pure]
theorem Yz {k:Option Nat}(h:Tk k d=true)(H:k=some j):br β d v j=β j:=by
 grind[Tk,Bool.not_eq_true',cY,br]
def Tn {c:M Value}{i:Nat}(h:c.take n=xs)(H:i<n)(f:n<=c.length):(c.take i++[v]++c.drop (i+1)).take n=xs.set i v:=by
 have :c.take i++[v]++c.drop (i+1)=c.set i v:=by
  rw[i?,Q! w!];simp
 grind[List.take_set]
def Sx(I:bM T P)(z:aq C A β st a w)(J:∀t,dst=some t->t<st.n){k i K e:Nat}{j:Option Nat}{xs:M Value}(N:aa w A β vp (.elem k 1 i 0))(O:aa w A β vx (.own K))
  (R:st.h k=some (.eG e j xs i)) (Q:kU T t 1=true) (L:i<xs.length) {cond:M Prop}:
  ∃w',(Instr.storeAt t vp vx).run P w= .ok () w'/\Rel C (st.put dst {cond:=cond,res:=.undef,hX:=[(k,.eG e (some K) xs i)]}) (a.put dst undef) w':=by
 have⟨S,U,W⟩:=rN I Q;obtain⟨b,m,f,q,rfl⟩:=N;obtain⟨rfl,D⟩:=O;have⟨Y,V,o,o3,_⟩:=z.blocks k _ R;rcases V.2 with⟨g,_⟩|⟨g,lq,c,H,_,y,G,X,g6,Z⟩;omega;rw[q] at H;obtain⟨rfl,rfl,rfl⟩:=H
 have d:(β K).cells= #[β K]:=by
  cases H:β K<;>rw[H] at D<;>first|rfl|cases D
 have F:ah (β k)=some b:=by rw[q];rfl
 have l:i*1+0<xs.length*1:=by omega
 have p:xs.length*1<=c.toList.length:=by
  grind
 have r:=nN (P:=P) (w:=w) U (v:=β K) x! x! y (off:=i*1+0) x!;refine⟨_,r,?_⟩;rw[d];refine z.write J (k:=k) (fz:=[]) (ab:=.eG e (some K) xs i) x! F (o b F) y ⟨rfl,rfl,rfl⟩ z! ?_ (by rfl);intro s a1 a2 a3;have u:∀B,s B->A B:=by simp_all
 have rB:=Tn (v:=β K) Z l p;refine⟨Y.set (i*1+0) (β K),⟨x!,.inr ⟨b,f,_,q,w!,setRow_heap w b c _ e _ y,G,X,?_,?_⟩⟩,λB x E=>o B x (u B E),λm hm=>?_,λj' hY=>?_⟩<;>grind
theorem To {p v:Value}{F:CF}(h:BN w A p v F):∀ {xs:M Value} {l:M CF} (i:Nat),ng w A p xs l->ng w A p (xs.set i v) (l.set i F)
 |[],[],_,_=>trivial
 |_::_,_::_,0,g=>⟨h,g.2⟩
 |_::_,_::_,i+1,g=>⟨g.1,To h i g.2⟩
def ĳ(J:dU P C E)(H:aq C A β st a w)(Y:∀t,dst=some t->t<st.n){k i e:Nat}{q:Option Nat}{l:M CF}{f:Prop}{res:AV}(y:aa w A β vp (.elem k 1 i 0))(Z:aa w A β vx x)(d:Ox E x=some (f,res))
  (j:st.h k=some (.dO e q l)) (Q:kU E.T t 1=true) (hi:i<l.length) {cond:M Prop}:
  ∃w',(Instr.storeAt t vp vx).run P w= .ok () w'/\Rel C (st.put dst {cond:=cond,res:=.undef,hX:=[(k,.dO e q (aE.put l i f res))]}) (a.put dst undef) w':=by
 have⟨ii,K,vq⟩:=rN J.gm Q;obtain⟨b,m,z,N,rfl⟩:=y;have⟨r,s,o,u⟩:=H.blocks k _ j;rcases s.2 with⟨g,_⟩|⟨g,lq,c,O,_,D,g4,G,g6,L⟩;omega;rw[N] at O;obtain⟨rfl,rfl,rfl⟩:=O;have I:=λp=>HV J H d Z p;have qw:=cells_one (I undef).1;have S:=(I undef).1;have R:ah (β k)=some b:=by rw[N];rfl
 have U:=o b R;have W:i*1+0<l.length*1:=by omega
 have OA:l.length*1<=c.toList.length:=by
  grind
 refine⟨_,(nN (P:=P) (w:=w) K (v:=vx) x! x! D (off:=i*1+0) x!),?_⟩;refine H.write Y (fz:=[]) x! R U D ⟨rfl,rfl,rfl⟩ z! ?_ (by rfl);intro V a1 a2 a3;have Yn:∀B,V B->A B:=by simp_all
 have X:∀cs,bI w (w.setRow b cs) A V:=λcs B F=>⟨a1 B F,setRow_other w b B cs λh=>U (h▸F)⟩;have rB:=Tn (v:=vx) L W OA;have hln:(aE.put l i f res).length=l.length:=List.length_set ..;refine⟨r.set (i*1+0) vx,⟨x!,.inr ⟨b,z,_,x!,w!,setRow_heap w b c _ e _ D,w!,G,?_,?_⟩⟩,λB F hA=>o B F (Yn B hA),λp y=>?_⟩;grind;grind;rw[show i*1+0=i by omega];exact To ((I p).mono (X _)) i ((u p y).mono (X _))
def E6(y:dU P C E)(H:aq C A β st a w){dst:Option Nat}(z:∀t,dst=some t->t<st.n){x i:Operand}{g:Option (Nat×Bool)}(B:bH E.T t 1=true)
  {k n:Nat} {f:IntKind} {i0:Int} {Y:M Value} (hx:ev st x= .own k) (hi:ev st i= .int f i0) (o:w.ownsRow 0 e 1 (β k) n Y) (D:0<=i0/\i0<(n:Int)) {cond:M Prop}
  (F:∀q w',Rel C (st.put dst {cond:=cond,res:=.elem k 1 i0.toNat 0}) q w'->K q w'):Oper.wp P ⟨dst,.indexAddr t x i,type,pos,after,g⟩ a w K Q:=by
 have⟨I,J⟩:=D;have⟨V,X,N,O,R,p⟩:=iF y.gm B;have r:=aM H x;rw[hx] at r;have h:=aM H i;rw[hi] at h;rcases jm o with⟨_,Z⟩|⟨b,c,U,_⟩;omega;refine bK (v:=.pointer (some ⟨b,0+i0.toNat*1,none⟩)) ?_ (F _ _ (Rel.kP (H.quiet z ⟨rfl,rfl,rfl⟩ ?_)));have:=j6 (w:=w) N O b 0 n c f i0 I J;simp[execOp,r.1,U,h.1,Sem.run_bind,this,R,Result.andThen_ok,Sem.run_pure];grind[aa]
theorem YA(U:dU P C E)(H:aq C A β st a w)(h:E4 E st o=some out)(vu:fR st o=true)(iP:lp st.h out.new=true)(G:∀p∈out.cond,p)
  (X:∀a' w',Rel C (st.put o.dst out) a' w'->K a' w'):o.wp P a w K Q:=by
 have Y:∀t,o.dst=some t->t<st.n:=by
  intro t ht;simp_all[fR,L!]
 obtain⟨dst,op,type,pos,after,guard⟩:=o;unfold E4 at h;simp at h;split at h
 . rename_i t L F;split at h
   . rename_i d e J he jB;cases z:(fresh st.h (st.kb+d)&&(Nat.blt 0 J.size&&(Nat.beq (ofConst J.zero).cells.length J.size&&Nat.ble (L*J.size) 16777216))) with
     |false=>grind
     |true=>
      rw[z] at h;simp only[K!] at h;simp only[B!] at z;obtain⟨q0,M,s,q4⟩:=z;have M:=L! M;have s:=D! s;have q4:=L! q4;have gM:=pT q0;split at h
      . rename_i cs hf;cases hq5:(cs.all AV.one&&Nat.beq cs.length (L*J.size)) with
        |false=>grind
        |true=>
        rw[hq5] at h;simp only[K!] at h;simp only[B!] at hq5
        have auf:ae w A β ((F.map λ(i,x)=>(i,a.eval x)).toList.map (·.2)) ((F.toList.map λp=>(p.1,ev st p.2)).map (·.2)):=by
         have:=oL H (F.toList.map (·.2));simp_all[Function.comp_def]
        obtain⟨lu,iQ,g2⟩:=VE U.gm (w:=w) (A:=A) (β:=β) he jB M s q4 (vparts:=F.map λ(i,x)=>(i,a.eval x)) z! auf hf
        have Z:lu.size=L*J.size:=by
         have:=ajO cs lu.toList g2;simp_all
        have aUX:∀u∈lu.toList,u.oneCell'=true:=Oc cs _ hq5.1 g2;have jS:=ajT (w:=w) (e:=e) Z M q4;have Si:bI w (w.alloc (.cells lu e)) A A:=λb N=>⟨N,eE _ b (H.bound b N)⟩;split at h
        . rename_i k l mD;cases OB:Tk k (st.kb+d) with
          |false=>grind
          |true=>
          rw[OB] at h;simp only[K!,A!] at h;cases MV:Nat.beq J.size 1 with
          |false=>grind
          |true=>
           rw[MV] at mD;simp only[K!] at mD;have MV:=D! MV;obtain⟨r1,r2⟩:=E5 U H mD g2
           have aR6:cs.length=L:=by
            simp_all
           subst h;refine anN (ab:=.dO e k l) H Y gM iQ ⟨lu.toList,?_,λb N=>DR H N,λp W=>(r2 p λj hj=>(W j hj).trans (Yz OB hj)).mono Si⟩ X;simp_all[br,Q?]
        . cases hk:(ay cs).isEmpty with
          |false=>grind
          |true=>
           rw[hk] at h;simp only[K!,A!] at h;subst h;exact anN (ab:=.bm e J.size L cs) H Y gM iQ ⟨lu.toList,by simp_all[br,Q?],λb N=>DR H N,λfy=>cN Si _ _ (Oz (List.isEmpty_iff.1 hk) g2)⟩ X
      grind
   grind
 . rename_i c;obtain⟨callee,args,B⟩:=c;simp only at h;split at h
   . rename_i b;split at h
     . rename_i x y t t' bQ MY;split at h
       . rename_i d e J j k he jB hx hy;split at h
         . rename_i e1 q l e2 q' m hj hk;cases z:(fresh st.h (st.kb+d)&&(Nat.beq e e1&&(Nat.beq J.size 1&&(Nat.beq (ofConst J.zero).cells.length J.size&&cW E.T t' DO)))) with
           |false=>grind
           |true=>
           rw[z] at h;simp only[K!] at h;simp only[B!] at z;obtain⟨q0,V,M,s,q4⟩:=z;have V:=D! V;have M:=D! M;have s:=D! s;subst V;split at h
           . rename_i r hr;cases OB:Tk r (st.kb+d) with
             |false=>grind
             |true=>
             rw[OB] at h;simp only[cond_true,Option.some.injEq] at h;subst h;have aup:=fH G;change l.length+m.length<=_ at aup;have ea:args= #[x,y]:=by grind
             have et:B= #[t,t']:=by grind
             subst ea;subst et;obtain⟨hu,HG,i,hi,vq,Ob,JT⟩:=vn U.gm he jB;obtain⟨d',ni,sQ⟩:=rM U.gm q4;have hEl:Yk P t t' e 1 J.bytes J.zero:=⟨hu,⟨d',ni,N9 sQ⟩,⟨i,hi,w!,Ob,JT⟩,by grind[qt],w!⟩;obtain⟨xs,O,o2,o3⟩:=H.blocks j _ hj;obtain⟨ys,p1,p2,p3⟩:=H.blocks k _ hk;have R:=aM H x;rw[hx] at R;have hyr:=aM H y;rw[hy] at hyr;have hxe:a.eval x=β j:=R.1;have hye:a.eval y=β k:=hyr.1;obtain⟨ad,lk,ck,HS⟩:=jC p1
             have Z:(Builtin.lenOf (β k)).run P w= .ok m.length w:=by
              rcases jm p1 with⟨g1,g2⟩|⟨b,I,g1,_⟩;rw[g1,g2];rfl;rw[g1];rfl
             have hm:l.length+m.length<=maxLen:=by have:=Nat.le_trans aup (Nat.div_le_self _ _);grind[maxLen]
             obtain⟨s1,s2⟩:=Tm (p3 (q'.elim (β 0) β) (λj hj=>by grind));obtain⟨v',w',g1,g2,g3,g4⟩:=nM (ty:=type) hEl O Z (λw' hw=>Yy p1 w' hw) w! s2 hm (vo aup);rw[zO (jC O)] at g3;have Sr:bI w w' A A:=λb N=>⟨N,g3.block b (H.bound b N) (λh=>o2 b h.symm N)⟩
             have fO:BR w' A (br β (st.kb+d) v') (st.kb+d) (.dO e r (l++m)):=by
              refine⟨xs++ys,?_,λb N hA=>?_,λp W=>?_⟩;simp_all[br,Q?,J!]
              simp only[br,if_true] at N;rcases g4 b N with h|h;grind;have:=H.bound b hA;omega;obtain⟨u1,u2⟩:=LM (β:=β) hr p (λj hj=>(W j hj).trans (Yz OB hj));exact HW ((o3 p u1).mono Sr) ((p3 p u2).mono Sr)
             obtain⟨MZ,l2,c2,HX⟩:=jC g2;have hrel:Rel C (st.put (some d) _) (a.put (some d) v') w':=Rel.kP (H.Ĳ (cond:=[l.length+m.length<=140737488355328/J.bytes]) (del:=[j]) (rw:=ah (β j)) Y (pT q0) g3 (λb N=>⟨j,by simp[aw],x!,N⟩) (λb N=>o2 b N) fO (by rw[HX];rfl) g4);refine bK (v:=v') (w':=w') ?_ (X _ _ hrel);simp_all[execOp,resolve,invoke,builtin]
           grind
         grind
       grind
     . rename_i x t bQ MY;split at h
       . rename_i k hx;split at h
         . rename_i e S n cs hk;cases z:cW E.T t nH with
           |false=>grind
           |true=>
            rw[z] at h;simp only[cond_true,Option.some.injEq] at h;subst h;have ea:args= #[x]:=by grind
            have et:B= #[t]:=by grind
            subst ea;subst et;obtain⟨dd,hu,FO⟩:=rM U.gm z;obtain⟨e',rfl⟩:∃e',dd= .slice e':=by cases dd<;>simp_all[nH]
            have R:=aM H x;rw[hx] at R;obtain⟨xs,O,o2,o3⟩:=H.blocks k _ hk
            have Tp:∃ad I,a.eval x= .slice ad n I/\n<=maxLen:=by
             rcases jm O with⟨h1,h2⟩|⟨b,I,hv,h3,h4,_⟩;exact⟨none,0,by rw[R.1,h1,h2],w!⟩;exact⟨_,I,by rw[R.1,hv],w!⟩
            obtain⟨ad,I,Tp,hn⟩:=Tp;refine bK (v:=.int .i64 (n:Int)) (w':=w) ?_ (X _ _ (Rel.kP (H.quiet Y ⟨rfl,rfl,rfl⟩ (Oi n hn))));simp_all[execOp,resolve,invoke,builtin,Builtin.len_,run_underlying,goInt]
         grind
       grind
     grind
   grind
 . rename_i t x y;split at h
   . rename_i k S i j k5 hx hy;split at h
     . rename_i e j0 xs i0 e5 vv l5 fr5 hk EB;cases z:(Nat.beq S 1&&(Nat.beq j 0&&(kU E.T t 1&& !Nat.beq k5 k))) with
       |false=>grind
       |true=>
       rw[z] at h;simp only[cond_true,Option.some.injEq] at h;subst h;simp only[Bool.and_eq_true] at z;obtain⟨V,M,s,_⟩:=z;have V:=Nat.eq_of_beq_eq_true V;have M:=Nat.eq_of_beq_eq_true M;subst V;subst M;have hi:i<xs.length:=G _ (List.mem_cons_self ..);have he:i=i0:=G _ (List.mem_cons_of_mem _ (List.mem_cons_self ..));subst he;obtain⟨w',g1,g2⟩:=Sx U.gm H Y (hx▸aM H x) (hy▸aM H y) hk s hi;refine pP (w':=w') ?_ (X _ _ g2);grind[execOp,Sem.run_bind,Result.andThen_ok,Sem.run_pure]
     grind
   . rename_i k S i j f bs cs hx hy;split at h
     . rename_i e q l pre res hk hth;cases z:(Nat.beq S 1&&(Nat.beq j 0&&kU E.T t 1)) with
       |false=>grind
       |true=>
       rw[z] at h;simp only[cond_true,Option.some.injEq] at h;subst h;simp only[Bool.and_eq_true] at z;obtain⟨V,M,s⟩:=z;have V:=Nat.eq_of_beq_eq_true V;have M:=Nat.eq_of_beq_eq_true M;subst V;subst M;obtain⟨w',g1,g2⟩:=ĳ U H Y (hx▸aM H x) (hy▸aM H y) hth hk s (fH G);refine pP (w':=w') ?_ (X _ _ g2);grind[execOp,Sem.run_bind,Result.andThen_ok,Sem.run_pure]
     grind
   grind
 . rename_i t x i;split at h
   . rename_i k ki i0 hx hi;split at h
     . rename_i e S n cs hk;cases D:(bH E.T t S&&Nat.blt E.JI n) with
       |false=>grind
       |true=>
        rw[D] at h;simp only[K!,A!] at h;subst h;have hc1:=fH G;simp only[B!] at D;have hw:=L! D.2;obtain⟨e',ii,hu,kQ,eH,pQ⟩:=iF U.gm D.1;have R:=aM H x;rw[hx] at R;have hir:=aM H i;rw[hi] at hir;obtain⟨xs,O,o2,o3⟩:=H.blocks k _ hk;rcases jm O with⟨_,hn⟩|⟨b,I,hv,_⟩;omega;have h0:0<=i0:=by omega
        have h1:i0<(n:Int):=by omega
        refine bK (v:=.pointer (some ⟨b,0+i0.toNat*S,none⟩)) (w':=w) ?_ (X _ _ (Rel.kP (H.quiet Y ⟨rfl,rfl,rfl⟩ ?_)));have:=j6 (P:=P) (w:=w) hu kQ b 0 n I ki i0 h0 h1;simp only[execOp,R.1,hv,hir.1,Sem.run_bind,this,eH,Result.andThen_ok,Sem.run_pure];grind[aa]
     . rename_i e j xs j0 hk;cases D:bH E.T t 1 with
       |false=>grind
       |true=>
        rw[D] at h;simp only[K!,A!] at h;subst h;obtain⟨ys,O,_⟩:=H.blocks k _ hk;exact E6 U H Y D hx hi O (fH G) X
     . rename_i e j l hk;cases D:bH E.T t 1 with
       |false=>grind
       |true=>
        rw[D] at h;simp only[K!,A!] at h;subst h;obtain⟨ys,O,_⟩:=H.blocks k _ hk;exact E6 U H Y D hx hi O (fH G) X
     grind
   grind
 . rename_i t x;split at h
   . rename_i k S i j J hx ht;split at h
     . rename_i e s2 n cs hk;cases D:Nat.beq S s2 with
       |false=>grind
       |true=>
        rw[D] at h;have D:=Nat.eq_of_beq_eq_true D;subst D;simp only[cond_true] at h;split at h;rename_i r W;simp only[Option.some.injEq] at h;subst h;have R:=aM H x;rw[hx] at R;obtain⟨b,m,I,g,hv⟩:=R;obtain⟨xs,O,o2,o3⟩:=H.blocks k _ hk;rcases jm O with⟨g1,_⟩|⟨b',lq,g1,_,_,hr⟩;grind;rw[g1] at g;simp only[Value.slice.injEq,Option.some.injEq,Addr.mk.injEq,and_true] at g;obtain⟨rfl,_,_⟩:=g;obtain⟨v,e1,e2⟩:=lW (β:=β) (A:=A) U.gm ht (o3 β) W hr;rw[Nat.zero_add] at e1;refine bK (v:=v) (w':=w) ?_ (X _ _ (Rel.kP (H.quiet Y ⟨rfl,rfl,rfl⟩ e2)));grind[execOp,Sem.run_bind,Result.andThen_ok,Sem.run_pure];grind
     . rename_i e k5 xs i0 hk;cases D:(Nat.beq S 1&&Nat.beq j 0) with
       |false=>grind
       |true=>
        rw[D] at h;simp only[B!] at D;have V:=D! D.1;have M:=D! D.2;subst V;subst M;simp only[K!] at h;split at h
        . rename_i r W;simp only[A!] at h;subst h;have hi:i<xs.length:=G _ (G! ..);have he:i=i0:=G _ (F! _ (G! ..));subst he;have R:=aM H x;rw[hx] at R;obtain⟨b,m,I,g,hv⟩:=R;obtain⟨ys,O,o2,o3,o4⟩:=H.blocks k _ hk;obtain⟨o5,o6⟩:=o4 k5 rfl;rcases jm O with⟨g1,_⟩|⟨b',lq,g1,_,_,hr⟩;omega
          . rw[g1] at g;simp only[Value.slice.injEq,A!,Addr.mk.injEq,and_true] at g;obtain⟨rfl,_,_⟩:=g
            have hr2:w.rangeAt b' (i*1) [β k5]:=λq u z=>by
             match q,z with
             |0,z=>
              simp only[Z?,A!] at z;subst z;have:=hr i _ o5;omega
             |_+1,z=>grind
            obtain⟨v,e1,e2⟩:=lW (β:=β) (A:=A) U.gm ht (cs:=[β k5]) (as_:=[.own k5]) ⟨_,[],rfl,⟨rfl,o6⟩,rfl⟩ W hr2;refine bK (v:=v) (w':=w) ?_ (X _ _ (Rel.kP (H.quiet Y ⟨rfl,rfl,rfl⟩ e2)));grind[execOp,Sem.run_bind,Result.andThen_ok,Sem.run_pure]
        grind
     grind
   rename_i k off J hx ht;split at h;rename_i r y hk;split at h;rename_i q W;simp only[Option.some.injEq] at h;subst h;have R:=aM H x;rw[hx] at R;obtain⟨b',g,hv⟩:=R;obtain⟨b,arr,e,g1,g2,g3,g4⟩:=H.blocks k _ hk;rw[g1] at g;simp only[Value.pointer.injEq,Option.some.injEq,Addr.mk.injEq,and_true] at g;subst g;obtain⟨v,e1,e2⟩:=lW (β:=β) (A:=A) U.gm ht (hZ _ _ _ g4) W (b:=b) (o:=0) (λj u hj=>by grind[World.cell?]);rw[Nat.zero_add] at e1;refine bK (v:=v) (w':=w) ?_ (X _ _ (Rel.kP (H.quiet Y ⟨rfl,rfl,rfl⟩ e2)));grind[execOp,Sem.run_bind,Result.andThen_ok,Sem.run_pure];grind;grind;grind
 grind
theorem LN(H:dU P C E)(k:aq C A β st a w)(h:Oy E st o=some out)(v:fR st o=true)(i:lp st.h out.new=true)(q:∀p∈out.cond,p)
  (y:∀f w',Rel C (st.put o.dst out) f w'->K f w'):o.wp P a w K Q:=by
 grind[Oy,Option.some.injEq,Yw,YA]
def qz(T:b9)(h:aP):M AV->M (Option TypeId)->Option (M (Nat×AB))
 |_,[]=>some []
 |_::as_,none::r=>qz T h as_ r
 |.ref k _::as_,some ty::r=>match h k,rowOf T qm ty,qz T h as_ r with
   |some (.cells cs),some ts,some u=>match kA ts cs with
    |some x=>some ((k,.fvar ts x)::u)
    |none=>none
   |_,_,_=>none
 |_,_=>none
def Bh(u:M (Nat×AB))(h:aP):aP:=λk=>match ai u k with
 |some b=>some b
 |none=>h k
def zW(h:aP):AV->AV
 |.ref k off=>match h k with
   |some (.fvar r x)=>.dc r x off
   |_=>.ref k off
 |a=>a
abbrev aE.LO(n:Nat):M AV:=List.replicate n .nil
abbrev aE.JY(n:Nat):M CF:=List.replicate n λz=>(False,.undef,z)
def OC(t:TE)(e n:Nat):Option AB:=bif Nat.beq t.size 1 then(match t.zero with
 |.slice none 0 0=>some (.bm e 1 n (aE.LO n))
 |.nilFunc=>some (.dO e none (aE.JY n))
 |_=>none) else none
def HY(E:Env)(st:St)(o:Oper):Option Out:=match o.dst with
 |some d=>match E.Hk d with
  |some l=>match o.op with
   |.makeFunc f first bl=>match qz E.T st.h (bl.toList.map (ev st)) l with
     |some u=>some {cond:=[],res:=.fn f (first.toList.map (ev st)) ((bl.toList.map (ev st)).map (zW (Bh u st.h))),hX:=u}
     |none=>none
   |.load t x=>match ql E.T st.h t (ev st x),qz E.T st.h [ev st x] l with
     |some out,some u=>some {cond:=out.cond,res:=out.res,hX:=u}
     |_,_=>none
   |.makeSlice t x y=>match qk E.T t,nG E.T t,ev st x,ev st y with
     |some e,some te,.int _ n,.int _ c=>match OC te e n.toNat with
      |some ab=>bif fresh st.h (st.kb+d) then some {cond:=[0<=n/\n<=c/\c<=140737488355328/te.bytes],res:=.own (st.kb+d),new:=[(st.kb+d,ab)]} else none
      |none=>none
     |_,_,_,_=>none
   |_=>none
  |none=>none
 |none=>none
theorem vw:∀ {as_:M AV} {l:M (Option TypeId)} {u:M (Nat×AB)} {k:Nat} {ab:AB},qz T st.h as_ l=some u->ai u k=some ab->∃t x cs,ab= .fvar t x/\st.h k=some (.cells cs)/\kA t cs=some x
 |as_,[],u,k,ab,h,H=>by
  simp[qz,A!] at h;subst h;cases H
 |[],o::r,u,k,ab,h,H=>by grind[qz]
 |x::as_,none::r,u,k,ab,h,H=>vw (as_:=as_) (l:=r) (by grind[qz]) H
 |x::as_,some ty::r,u,k,ab,h,H=>by
  unfold qz at h;split at h;grind;grind
  . rename_i j O a q R E e;obtain⟨rfl,rfl⟩:=e;split at h
    . rename_i cs t U z B y;split at h
      . simp at h;subst h;simp[ai] at H;cases f:Nat.beq k j with
        |true=>
         have:=Nat.eq_of_beq_eq_true f;grind
        |false=>
         rw[f] at H;exact vw y H
      grind
    grind
  grind
def YB(A:Nat->Prop)(β:Nat->Value)(u:M (Nat×AB))(b:Nat):Prop:=A b\/∃k,(ai u k).isSome/\ah (β k)=some b
theorem ajV {k o:Nat}{r:M Ty}{x:Row r}(H:BR w A β k (.fvar r x))(h:aa w A β v (.ref k o)):aa w A β v (.dc r x o):=by
 obtain⟨b,a,e,y,z,f,q⟩:=H;obtain⟨B,g,G⟩:=h;refine⟨b,0,a.toList,x!,f,λj u D=>?_,q⟩;grind[World.cell?]
theorem aex(z:aq C A β st a w)(D:qz T st.h as_ l=some u){k:Nat}{r:M Ty}{x:Row r}(h:Bh u st.h k=some (.fvar r x)):BR w (YB A β u) β k (.fvar r x):=by
 have B:bI w w A (YB A β u):=λb F=>⟨.inl F,rfl⟩;unfold Bh at h;split at h;rename_i b I;simp at h;subst h;obtain⟨t,y,cs,e,H,q⟩:=vw D I;cases e;obtain⟨b,f,e,g1,g,O,G,R⟩:=z.blocks k _ H;exact⟨b,f,e,g1,g,.inr ⟨k,x!,by rw[g1];rfl⟩,bE B _ _ _ (lY _ _ _ _ G q)⟩;obtain⟨b,f,e,H,q,J,N⟩:=z.blocks k _ h;exact⟨b,f,e,H,q,.inl J,bE B _ _ _ N⟩
def anQ(h:aP)(H:∀k r (x:Row r),h k=some (.fvar r x)->BR w A β k (.fvar r x)){x:AV}(f:aa w A β v x):aa w A β v (zW h x):=by
 unfold zW;grind[ajV]
def Tq(h:aP)(f:∀k r (x:Row r),h k=some (.fvar r x)->BR w A β k (.fvar r x)):∀ {xs:M AV} {vs:M Value},ae w A β vs xs->ae w A β vs (xs.map (zW h))
 |[],vs,H=>H
 |x::xs,vs,H=>by
  obtain⟨v,c,rfl,q,y⟩:=H;exact⟨v,c,rfl,anQ h f q,Tq h f y⟩
theorem aq.Hk(q:aq C A β st a w)(B:∀t,dst=some t->t<st.n)(z:qz T st.h as_ l=some u){cond:M Prop}
  (D:aa w (YB A β u) β v res):aq C (YB A β u) β (st.put dst {cond:=cond,res:=res,hX:=u}) (a.put dst v) w:=by
 have y:∀k,(ai u k).isSome->(st.h k).isSome:=λk f=>by
  grind[Option.isSome_iff_exists,vw]
 refine q.step (out:={cond:=cond,res:=res,hX:=u}) B nofun (λk b h=>y k x!) (λ_ _=>rfl) (λb H=>⟨.inl H,rfl⟩) rfl rfl rfl (Nat.le_refl _) (λ_ _ _=>rfl) (λb H=>?_) (λb H=>?_) (λk ab h _=>?_) nofun nofun (λk _ _ h=>by cases h) D
 rcases H with H|⟨k,f,H⟩;exact q.bound b H;exact oK q (y k f) H;rcases H with H|⟨k,f,H⟩;grind;exact .inr (.inr ⟨k,⟨y k f,.inl f⟩,H⟩);obtain⟨F,x,cs,rfl,_,_⟩:=vw z h;exact aex q z (by grind[Bh])
def Tr:∀n,ae w A β (List.replicate n (.slice none 0 0)) (List.replicate n .nil)
 |0=>rfl
 |n+1=>⟨_,_,rfl,rfl,Tr n⟩
def OD {p:Value}:∀n,ng w A p (List.replicate n .nilFunc) (aE.JY n)
 |0=>trivial
 |n+1=>⟨⟨rfl,.inl λ_ h=>h⟩,OD n⟩
def OE(z:bM T P)(y:aq C A β st a w)(B:∀t,dst=some t->t<st.n)(g:st.h d=none/\rJ d=false){e:TypeId}{f:TE}(D:qk T t=some e)(j:nG T t=some f){n c:Int}(r:OC f e n.toNat=some ab)
  {k K:IntKind} {v:Value} (F:aa w A β vx (.int k n)) (I:aa w A β v (.int K c)) (J:0<=n/\n<=c/\c<=140737488355328/f.bytes) {cond:M Prop}:
  ∃V w',(Instr.makeSlice t vx v).run P w= .ok V w'/\Rel C (st.put dst {cond:=cond,res:=.own d,new:=[(d,ab)]}) (a.put dst V) w':=by
 obtain⟨N,O,s⟩:=J;obtain⟨R,u,i,U,x,E,X⟩:=vn z D j
 have q:f.size=1/\((f.zero= .slice none 0 0/\ab= .bm e 1 n.toNat (aE.LO n.toNat))\/(f.zero= .nilFunc/\ab= .dO e none (aE.JY n.toNat))):=by
  grind[OC,Nat.beq,Nat.eq_of_beq_eq_true]
 obtain⟨G,Q⟩:=q;have m:f.zero.cells= #[f.zero]:=by rcases Q with⟨h,_⟩|⟨h,_⟩<;>rw[h]<;>rfl
 obtain⟨rfl,_⟩:=F;obtain⟨rfl,S⟩:=I
 have Y:(f.bytes:Int)*c<=281474976710656:=by
  grind[Nat.eq_zero_or_pos,Int.le_ediv_iff_mul_le,Int.mul_comm]
 have Z:c<=9223372036854775807:=by
  have:=Int.ediv_le_self (f.bytes:Int) (show(0:Int)<=140737488355328 by omega);omega
 have l:=run_make (P:=P) w t e i f.zero R U X k K n c N O x! Z
 have L:(madeCells f.zero.cells (c.toNat*i.size)).toList=List.replicate c.toNat f.zero:=by
  rw[m,show i.size=1 by omega,List.eq_replicate_iff];grind[madeCells]
 have W:(madeCells f.zero.cells (c.toNat*i.size)).size=c.toNat:=by
  grind[Array.length_toList,List.length_replicate]
 have jS:(w.alloc (.cells (madeCells f.zero.cells (c.toNat*i.size)) e)).ownsRow 0 e 1 (.slice (some ⟨w.heap.size,0,none⟩) n.toNat c.toNat) n.toNat (List.replicate n.toNat f.zero):=by
  refine⟨z!,.inr ⟨w.heap.size,c.toNat,_,rfl,w!,heap_alloc_new w _,w!,by grind[maxLen],w!,?_⟩⟩;grind
 refine⟨_,_,l,Rel.kP (y.Ĳ (del:=[]) (rw:=none) B g ⟨rfl,rfl,rfl,z!,λk o _=>eE _ k o⟩ nofun nofun ?_ rfl (λb H=>?_))⟩;rcases Q with⟨h,rfl⟩|⟨h,rfl⟩;refine⟨List.replicate n.toNat (.slice none 0 0),?_,λb H=>DR y H,λfy=>Tr _⟩;grind[br];refine⟨List.replicate n.toNat .nilFunc,?_,λb H=>DR y H,λp _=>OD _⟩;simp_all[br,aE.JY]
 grind[ah,Option.some.injEq,Nat.le_of_eq]
theorem YC(F:dU P C E)(H:aq C A β st a w)(h:HY E st o=some out)(s:fR st o=true)(I:∀p∈out.cond,p)
  (z:∀J w',Rel C (st.put o.dst out) J w'->K J w'):o.wp P a w K Q:=by
 have B:∀t,o.dst=some t->t<st.n:=by
  intro t L;simp_all[fR,L!]
 have D:∀u:M (Nat×AB),bI w w A (YB A β u):=λu b U=>⟨.inl U,rfl⟩;obtain⟨dst,S,type,pos,after,g⟩:=o;unfold HY at h;simp at h;split at h
 . rename_i d;split at h
   . split at h;rename_i f first N
     split at h;rename_i u q;simp at h;subst h;refine bK (v:=.func f (first.map a.eval) (N.map a.eval)) (by rfl) (z _ _ (Rel.kP (H.Hk B q ?_)));have V:=cN (D u) _ _ (oL H first.toList);have O:=Tq (Bh u st.h) (λk r x h=>aex H q h) (cN (D u) _ _ (oL H N.toList));exact⟨_,_,rfl,by simp_all,by simp_all⟩;grind;rename_i t x;split at h;rename_i T u X q;simp at h;subst h;obtain⟨_,v,V,O⟩:=BV F.gm H (aM H x) X I;refine bK (v:=v) (w':=w) ?_ (z _ _ (Rel.kP (H.Hk B q (jh (D u) _ _ O))));grind[execOp,Sem.run_bind,Result.andThen_ok,Sem.run_pure];grind
     . rename_i t x y;split at h
       . rename_i e W k n k' c Y j Z i;split at h
         . rename_i ab l;cases R:fresh st.h (st.kb+d) with
           |false=>grind
           |true=>
           rw[R] at h;simp at h;subst h;obtain⟨m,w',g1,G⟩:=OE F.gm H B (pT R) Y j l (Z▸aM H x) (i▸aM H y) (fH I);refine bK (v:=m) (w':=w') ?_ (z _ _ G);grind[execOp,Sem.run_bind,Result.andThen_ok,Sem.run_pure]
         grind
       grind
     grind
   grind
 grind
def Ts(st:St)(o:Oper):Option Out:=match o.op,o.dst with
 |.call ⟨.value f,args,_⟩,some d=>match args.toList,ev st f with
   |[x],.fn (.func f) [] [.ref k 0]=>match HP.mkf f,ev st x with
     |some g,.fn (.func y) [] []=>bif fresh st.h (st.kb+d)&& !(Nat.beq k (st.kb+d)) then
       some {cond:=[],res:=.fn (.func g) [] [.ref k 0,.ref (st.kb+d) 0],new:=[(st.kb+d,.cells [.fn (.func y) [] []])]} else none
     |_,_=>none
   |_,_=>none
 |_,_=>none
variable {d:Option Nat}
theorem YD{u:Value}:(a.put d u).put d v=a.put d v:=by
 cases d with
 |none=>rfl
 |some d=>simp[Act.put]
theorem aq.anR(H:aq C A β s a w)(f:s.t=r.t)(k:s.h=r.h)(q:s.n=r.n)(y:s.g=r.g):aq C A β r a w:=by
 obtain⟨t,h,_,_,_,n,_,g⟩:=s;subst f k q y;exact⟨H.defers,H.size,H.tmps,H.blocks,H.apart,H.bound,H.frame,H.gG,H.base,H.om,H.qo,H.laid,H.held⟩
theorem YE(Y:dU P C E)(q:aq C A β st a w)(h:Ts st o=some out)(vu:fR st o=true)
  (Z:∀N w',Rel C (st.put o.dst out) N w'->K N w'):o.wp P a w K Q:=by
 have O:∀t,o.dst=some t->t<st.n:=by
  intro t ht;simp_all[fR,L!]
 obtain⟨dst,op,type,pos,after,guard⟩:=o;unfold Ts at h;simp only at h;split at h
 . rename_i f args z d;split at h
   . rename_i x R k i l;split at h
     . rename_i g y m hx;cases B:(fresh st.h (st.kb+d)&& !(Nat.beq k (st.kb+d))) with
       |false=>grind
       |true=>
       rw[B] at h;simp at h;subst h;simp at B;have s:k≠st.kb+d:=λe=>by simp_all
       obtain⟨u,D⟩:=HP.Vb P ((Y.ok.hp P).2 rfl) R g m;have U:=aM q f;rw[l] at U;obtain⟨G,L,HG,S,T⟩:=U;obtain⟨p,ps,um,⟨b,Ĵ,F⟩,H⟩:=T;simp only[ae] at S H;subst H;have I:G= #[]:=by grind
       have J:L= #[p]:=by grind
       subst I;subst J;have V:=aM q x;rw[hx] at V;obtain⟨W,b2,M,q1,q2⟩:=V;simp only[ae] at q1 q2;have F0:W= #[]:=by grind
       have M1:b2= #[]:=by grind
       subst F0;subst M1;have bQ:args= #[x]:=by grind
       subst bQ
       have iQ:(execOp a.eval {dst:=some d,op:=.call {callee:=.value f,args:= #[x],argTypes:=z},type,pos,after,guard}).run P w= .ok (.enter R #[a.eval x,p]) w:=by
        have:=u (#[a.eval x,p]) w;simp_all[execOp,resolve,Deferred.ofValue,Sem.run_bind,Sem.run_pure,Result.andThen_ok,invoke]
       unfold Oper.wp;rw[iQ];rw[M];refine(D w y p).mono λe w' ⟨ty,he,hw⟩=>?_;subst he;subst hw;have h1:=q.JU (dst:=some d) (e:=ty) (cs:=[.fn (.func y) [] []]) (arr:= #[.func (.func y) #[] #[]]) (cond:=[]) O (pT B.1) ⟨_,[],rfl,⟨#[], #[],rfl,rfl,rfl⟩,rfl⟩ (by simp[Value.oneCell'])
       have X:=h1.pure (d:=some d) (c:=[]) (r:=.fn (.func g) [] [.ref k 0,.ref (st.kb+d) 0]) (v:=.func (.func g) #[] #[p,.pointer (some ⟨w.heap.size,0,none⟩)]) O
        ⟨#[],_,rfl,rfl,_,_,rfl,⟨b,by simp_all[br,R!],F⟩,_,[],rfl,⟨w.heap.size,by simp[br],rfl⟩,rfl⟩
       rw[YD] at X;refine Z _ _ (Rel.kP (X.anR ?_ ?_ rfl rfl));simp only[St.put,mN];grind;funext j;simp only[St.put,vf,ai,aw,bD,cond_false,gv,eT];grind
     grind
   grind
 grind
def anT(T:b9)(h:aP)(t f:TypeId):AV->AV->Option Out
 |.ref k off,v=>match jt T h t (.ref k off) v with
   |some out=>match out.hX,rowOf T qm f with
    |[(_,.cells cs)],some ts=>match kA ts cs with
      |some x=>some {cond:=[],res:=.undef,hX:=[(k,.fvar ts x)]}
      |none=>none
    |_,_=>none
   |none=>none
 |_,_=>none
def anU(T:b9)(st:St)(d:Nat)(t:TypeId)(x:AV):Option Out:=bif fresh st.h (st.kb+d)&&x.cells.all AV.one then(match rowOf T qm t with
 |some ts=>match kA ts (gv (st.kb+d) x.cells) with
  |some y=>some {cond:=[],res:=.ref (st.kb+d) 0,new:=[(st.kb+d,.fvar ts y)]}
  |none=>none
 |none=>none) else none
def Tt(E:Env)(st:St)(o:Oper):Option Out:=match o.op,o.dst with
 |.store t (.tmp s) v,none=>match E.Hk (100000+s) with
   |some [some ty]=>anT E.T st.h t ty (ev st (.tmp s)) (ev st v)
   |_=>none
 |.box _ x,some d=>match E.Hk (300000+d) with
   |some [some ty]=>anU E.T st d ty (ev st x)
   |_=>none
 |.assign x,some d=>match E.Hk (200000+d) with
   |some _=>some {cond:=[],res:=(oG st.h (ev st x)).1,hX:=cG st.h (oG st.h (ev st x)).2}
   |none=>none
 |_,_=>none
theorem aq.auh(q:aq C A β st a w)(D:∀t,dst=some t->t<st.n){f:M Nat}(F:∀j∈f,∃e r l I,st.h j=some (.row e r l I))(W:aa w (cd A β f) β v res):
  aq C (cd A β f) β (st.put dst {cond:=[],res:=res,hX:=cG st.h f}) (a.put dst v) w:=by
 have Y:∀b,cd A β f b->b<w.heap.size:=by
  intro b h;rcases h with h|⟨j,y,H⟩;exact q.bound b h;exact oK q x! H
 have B:bI w w A (cd A β f):=λb H=>⟨.inl H,rfl⟩;refine q.step (out:={cond:=[],res:=res,hX:=cG st.h f}) D (by simp[ai]) ?_ (λk _=>rfl) B rfl rfl rfl (Nat.le_refl _) (λb H _=>rfl) (λb H=>Y b H) ?_ ?_ (by simp[ai]) (by simp[ai]) (by simp[ai]) W;intro k b h;obtain⟨_,_,_,_,_,h,_⟩:=kD f k b h;grind;intro b h;rcases h with h|⟨j,y,H⟩;exact .inl h;have z:=F j y;exact .inr (.inr ⟨j,⟨x!,.inl (sw f j y z)⟩,H⟩);intro k ab h _;obtain⟨J,E,m,L,U,z,rfl⟩:=kD f k ab h;rw[nI];obtain⟨V,N,O,X⟩:=q.blocks k _ z;simp only[BR];refine⟨V,N,bR (λc x R=>bE B m c x R) L V O,λb H=>?_⟩;simp only[if_true];exact .inr ⟨k,J,H⟩
theorem YF(Z:dU P C E)(H:aq C A β st a w)(h:Tt E st o=some out)(vu:fR st o=true)
  (B:∀U w',Rel C (st.put o.dst out) U w'->K U w'):o.wp P a w K Q:=by
 obtain⟨dst,op,type,pos,after,g⟩:=o;unfold Tt at h;simp at h;split at h;rename_i t s v;split at h;rename_i D F;have X:=aM H (.tmp s);have I:=aM H v;generalize ev st (.tmp s)=p at h X;unfold anT at h;split at h;rename_i k c;split at h;rename_i J e;split at h;rename_i k' cs M hu m;split at h;rename_i y Y;simp at h;subst h;obtain⟨w',g1,A',aC,S⟩:=yG Z.gm H (dst:=none) nofun X I e
 have l:J= {cond:=[],res:=.undef,hX:=[(k,.cells cs)]}/\(st.h k).isSome:=by
  grind[jt]
 obtain⟨rfl,oJ⟩:=l
 have hh:(st.put none {cond:=[],res:=.undef,hX:=[(k,.cells cs)]}).h k=some (.cells cs):=by
  simp_all[St.put,vf,ai,aw,w7,bD,cY]
 have N:qz E.T (st.put none {cond:=[],res:=.undef,hX:=[(k,.cells cs)]}).h [.ref k 0] [some D]=some [(k,.fvar M y)]:=by
  grind[qz]
 have f:=S.Hk (dst:=none) nofun N (cond:=[]) (res:=.undef) (v:=undef) rfl
 refine pP (w':=w') ?_ (B _ _ (Rel.kP (f.anR ?_ ?_ rfl rfl)));grind[execOp,Sem.run_bind,Result.andThen_ok,Sem.run_pure];rfl;funext j;simp[St.put,vf,ai,aw,w7,bD,cond_false];grind;grind;grind;grind;grind;grind
 . rename_i O x d;split at h
   . rename_i D F;unfold anU at h;cases q:(fresh st.h (st.kb+d)&&(ev st x).cells.all AV.one) with
     |false=>rw[q] at h;cases h
     |true=>
     rw[q] at h;simp only[K!] at h;simp at q;split at h;rename_i M m;split at h;rename_i y Y;simp at h;subst h
     have z:∀t,some d=some t->t<st.n:=by
      intro t R;simp_all[fR,L!]
     obtain⟨V,w',g1,A',aC,S⟩:=Og (P:=P) (t:=O) H (dst:=some d) z (pT q.1) (aM H x) (by simpa using q.2)
     have N:qz E.T (st.put (some d) {cond:=[],res:=.ref (st.kb+d) 0,new:=[(st.kb+d,.cells (gv (st.kb+d) (ev st x).cells))]}).h [.ref (st.kb+d) 0] [some D]=some [(st.kb+d,.fvar M y)]:=by
      simp[qz,St.put,vf,ai,aw,cY,m,bD,Y]
     have I:aa w' A' aC V (.ref (st.kb+d) 0):=by
      have:=S.tmps d;have r:d<a.tmps.size:=by rw[H.size];exact z d rfl
      simpa[St.put,Act.put,r] using this
     obtain⟨u,G,L⟩:=id I;have f:=S.Hk (dst:=some d) (λt R=>z t R) N (cond:=[]) (res:=.ref (st.kb+d) 0) (v:=V) ⟨u,G,L⟩;rw[YD] at f;refine bK (v:=V) (w':=w') ?_ (B _ _ (Rel.kP (f.anR ?_ ?_ rfl rfl)));simp[execOp,g1,Result.andThen_ok];funext i;simp only[St.put,mN];grind;funext j;simp[St.put,vf,ai,aw,w7,bD,cond_false];grind;cases h;cases h
   cases h
 rename_i x d;split at h;simp only[A!] at h;subst h;have W:=aM H x;obtain⟨p1,p2⟩:=yH (A':=cd A β (oG st.h (ev st x)).2) H (λb h=>.inl h) (ev st x) _ W (λk hk b hb=>.inr ⟨k,hk,hb⟩)
 have z:∀t,some d=some t->t<st.n:=by
  intro t R;simp_all[fR,L!]
 have f:=H.auh z p2 p1;refine bK (v:=a.eval x) (w':=w) ?_ (B _ _ (Rel.kP f));simp[execOp];cases h;grind
def vz:M AV->Option (M AV×Nat)
 |[]=>none
 |a::r=>match r with
  |[]=>match a with
    |.own k=>some ([],k)
    |_=>none
  |_::_=>match vz r with
   |some (x,k)=>some (a::x,k)
   |none=>none
def DS(E:Env)(h:aP)(t:TypeId):AV->AV->Option Out
 |.elem k sz i j,.agg cs=>match h k,vz cs with
   |some (.row e row l false),some (xs,K)=>match h K with
    |some (.row _ _ _ false)=>bif E.iE t&&Nat.beq j 0&&Nat.beq sz row.length&&kU E.T t row.length&&Nat.blt 0 row.length&& !(Nat.beq K k) then
      match kA row (xs++[.nil]) with
       |some x=>some {cond:=[i<l.length],res:=.undef,hX:=[(k,.iE e (some K) row (l.set i x) i)]}
       |none=>none
     else none
    |_=>none
   |_,_=>none
 |_,_=>none
def uV(E:Env)(h:aP)(t:TypeId):AV->Option Out
 |.elem k sz i j=>match E.T.find t,h k with
   |some te,some (.iE _ (some K) row l i0)=>match h K with
    |some (.row _ _ _ _)=>bif Nat.beq sz row.length&&Nat.beq j (row.length-1)&&Nat.blt 0 row.length then
      match pick te [.own K] 0 with
       |some a=>some {cond:=[i<l.length,i=i0],res:=a}
       |none=>none
     else none
    |_=>none
   |_,_=>none
 |_=>none
def yJ(E:Env)(h:aP)(t:TypeId):AV->AV->Option Out
 |.own k,.int _ i=>match h k with
   |some (.iE _ _ row l _)=>bif bH E.T t row.length then some {cond:=[0<=i/\i<(l.length:Int)],res:=.elem k row.length i.toNat 0} else none
   |_=>none
 |_,_=>none
def closing(h:aP)(k:Nat):Option (Prop×M (Nat×AB)):=match h k with
 |some (.iE e (some K) row l i)=>match h K with
  |some (.row E v L false)=>bif Nat.blt 0 row.length&& !(Nat.beq K k) then match sL row (l.getD i (Row.zero row)) (row.length-1) [.sl v L] with
    |some y=>some (i<l.length,[(k,.row e row (l.set i y) false),(K,.row E v L true)])
    |none=>none
   else none
  |_=>none
 |_=>none
def isNil:M α->Bool
 |[]=>true
 |_::_=>false
def yK(E:Env)(h:aP)(o:Oper):Option (Prop×M (Nat×AB)):=match o.dst with
 |some d=>match E.cls d with
  |some k=>closing h k
  |none=>none
 |none=>none
def YH(E:Env)(st:St)(o:Oper):Option Out:=match yK E st.h o with
 |some (c,u)=>match Oy E st o with
  |some out=>bif isNil out.hX&&isNil out.del&&isNil out.new&&isNil out.raw then some {out with cond:=c::out.cond,hX:=u} else none
  |none=>none
 |none=>match o.op with
  |.store t p v=>DS E st.h t (ev st p) (ev st v)
  |.load t p=>uV E st.h t (ev st p)
  |.indexAddr t x i=>yJ E st.h t (ev st x) (ev st i)
  |_=>none
def Tu(E:Env)(st:St)(o:Oper):Option Out:=match YH E st o with
 |some out=>some out
 |none=>Oy E st o
def act(E:Env)(st:St)(o:Oper):Option Out:=match HY E st o with
 |some out=>some out
 |none=>match Ts st o with
  |some out=>some out
  |none=>match Tt E st o with
   |some out=>some out
   |none=>Tu E st o
def HZ:∀(cs:M AV) (vs:M Value) (xs:M AV) (k:Nat),vz cs=some (xs,k)->ae w A β vs cs->∃u,vs=u++[β k]/\ae w A β u xs/\(β k).oneCell'=true
 |[],vs,xs,k,h,_=>by cases h
 |a::r,vs,xs,k,h,q=>by
  obtain⟨v,c,rfl,H,f⟩:=q;unfold vz at h;cases r with
  |nil=>
   subst f;cases a with
   |own K=>
    obtain⟨rfl,rfl⟩:=h;exact⟨[],by rw[H.1];rfl,by simp[ae],by rw[<-H.1];exact H.2⟩
   |_=>cases h
  |cons b r=>
   simp at h;split at h;rename_i x K y;simp at h;obtain⟨rfl,rfl⟩:=h;have⟨u,e,E,z⟩:=HZ _ c x K y f;refine⟨v::u,by rw[e];rfl,?_,z⟩;exact⟨v,u,rfl,H,E⟩;cases h
theorem anV(p s:M α)(x y:α):(p++x::s).set p.length y=p++y::s:=by
 grind
theorem DT {α:Type}:∀(l:M α) (i:Nat) (x:α),l[i]? =some x->l.set i x=l
 |[],_,_,h=>by rfl
 |a::l,0,x,h=>by grind
 |a::l,i+1,x,h=>by
  rw[List.set_cons_succ,DT l i x (by simpa using h)]
theorem F3(q:aq C A β st a w){k:Nat}{j:Option Nat}{r:M Ty}{l:M (Row r)}(h:st.h k=some (.iE e j r l i)):
  (β k= .slice none 0 0/\l=[])\/∃b c f v,β k= .slice (some ⟨b,0,none⟩) l.length c/\w.heap[b]? =some (.cells f e (0,0))/\l.length<=c/\c<=maxLen/\f.size=c*r.length/\¬A b/\
    dZ (bJ w A r) ((f.toList.take (l.length*r.length)).set (i*r.length+(r.length-1)) v) l/\
    ∀J,j=some J->(f.toList.take (l.length*r.length))[i*r.length+(r.length-1)]? =some (β J):=by
 have⟨xs,v,y,z,I,N⟩:=q.blocks k _ h;rcases y.2 with⟨H,O⟩|⟨g,c,f,H,_,B,G,D,F,R⟩;grind;exact .inr ⟨g,c,f,v,H,B,G,D,F,z g (by rw[H];rfl),x!,x!⟩
def OF(H:aq C A β st a w){k:Nat}{r:M Ty}{l:M (Row r)}{f:Bool}(h:st.h k=some (.row e r l f)):(β k).oneCell'=true:=by
 rcases lX H h with⟨h1,_⟩|⟨b,c,q,h1,_⟩<;>rw[h1]<;>rfl
def M3(D:bM E.T P)(z:aq C A β st a w)(F:aa w A β vx x)(h:uV E st.h t x=some out)(L:∀p∈out.cond,p):
  Reads P A β w (Instr.loadAt t vx) out:=by
 unfold uV at h;split at h
 . rename_i k s i j;split at h
   . rename_i S e K r l i0 I M;split at h
     . rename_i W vv l5 N O;cases H:(Nat.beq s r.length&&Nat.beq j (r.length-1)&&Nat.blt 0 r.length) with
       |false=>grind
       |true=>
        simp[H,K!] at h;simp only[B!] at H;have⟨⟨q,Q⟩,q3⟩:=H;have q:=D! q;have Q:=D! Q;subst q;subst Q;split at h
        . rename_i av f;simp at h;subst h;have R:i=i0:=by simp_all
          subst R;obtain⟨b,m,c,U,rfl⟩:=F;rcases F3 z M with⟨_,hl⟩|⟨b',lq,V,v0,B,X,Y,HD,eY,ml,hL,Z⟩;grind
          . rw[U] at B;obtain⟨rfl,rfl,rfl⟩:=B;have o:=Z K rfl;rw[List.getElem?_take] at o;split at o
            . have d:w.rangeAt b (i*r.length+(r.length-1)) [β K]:=by
               intro J u y;cases J with
               |zero=>
                simp at y;subst y;simp[World.cell?,X];simpa using o
               |succ J=>simp at y
              have v:ae w A β [β K] [.own K]:=by
               exact⟨_,[],rfl,⟨rfl,OF z O⟩,rfl⟩
              have⟨g,G,n⟩:=lW D I v f d;exact⟨⟨rfl,rfl,rfl⟩,g,G,n⟩
            grind
        grind
     grind
   grind
 grind
def OG(f:bM E.T P)(q:aq C A β st a w){i:AV}{v:Value}(y:aa w A β vx x)(hi:aa w A β v i)
  (h:yJ E st.h t x i=some out) (z:∀p∈out.cond,p):Reads P A β w (Instr.indexAt t vx v) out:=by
 unfold yJ at h;split at h
 . rename_i k K n;split at h
   . rename_i F j r l i0 B;cases H:bH E.T t r.length with
     |false=>grind
     |true=>
      simp[H,cond_true,Option.some.injEq] at h;subst h;have⟨I,J⟩:=fH z;have⟨e,M,N,O,R,U⟩:=iF f H;simp[aa] at y hi;rcases F3 q B with⟨_,V⟩|⟨b,c,D,X,Y,_⟩;grind;refine⟨⟨rfl,rfl,rfl⟩,.pointer (some ⟨b,0+n.toNat*r.length,none⟩),?_,?_⟩;simp_all[hi,j6]
      grind[aa]
   grind
 grind
def Sy(W:bM E.T P)(X:aq C A β st a w)(hd:∀t,dst=some t->t<st.n){p:AV}(Y:aa w A β vp p)(H:aa w A β vx x)
  (h:DS E st.h t p x=some out) (hc:∀p∈out.cond,p):∃w',(Instr.storeAt t vp vx).run P w= .ok () w'/\Rel C (st.put dst out) (a.put dst undef) w':=by
 unfold DS at h;split at h
 . rename_i k sz i j cs;split at h
   . rename_i e r l xs K hk ĵ;split at h
     . rename_i e5 vv l5 EB;cases F:(E.iE t&&Nat.beq j 0&&Nat.beq sz r.length&&kU E.T t r.length&&Nat.blt 0 r.length&& !(Nat.beq K k)) with
       |false=>grind
       |true=>
        simp only[F,cond_true] at h;simp only[Bool.and_eq_true] at F;have⟨⟨⟨⟨⟨_,Q⟩,I⟩,q2⟩,Z⟩,q4⟩:=F;have Q:=Nat.eq_of_beq_eq_true Q;have I:=Nat.eq_of_beq_eq_true I;subst Q;subst I;have Z:=Nat.le_of_ble_eq_true Z;split at h;rename_i y hy;simp only[Option.some.injEq] at h;subst h;have d:i<l.length:=fH hc;simp only[aa] at Y H;obtain⟨b,m,J,g,rfl⟩:=Y;obtain⟨q,rfl,H⟩:=H;have⟨U,e1,e2,e3⟩:=HZ cs q.toList xs K ĵ H;rcases lX X hk with⟨_,hl⟩|⟨B,lq,f,M,N,hle,HD,eY,hL,O⟩;grind;rw[g] at M;simp only[Value.slice.injEq,Option.some.injEq,Addr.mk.injEq,and_true] at M;obtain⟨rfl,rfl,rfl⟩:=M;simp only[Bool.false_eq_true,if_false] at O;have hb:ah (β k)=some b:=by rw[g];rfl
        have⟨ii,kQ,vq⟩:=rN W q2
        have R:bJ w A r (U++[Value.slice none 0 0]) y:=by
         refine lY (β:=β) r (xs++[.nil]) _ y ?_ hy<;>grind[lY,BU,ae,aa]
        have o:U.length+1=r.length:=by
         have:=jk r _ y R;grind
        have qp:q.size=ii.size:=by
         have :q.toList.length=q.size:=by simp
         grind
        have aUX:∀u∈q.toList,u.oneCell'=true:=by
         grind[B2,List.mem_append_left,List.mem_singleton]
        have HN:l.length*r.length<=f.size:=by simp_all[I?]
        have V:∀c,bJ w A r c l[i]->bJ w A r (c.take 0++(U++[Value.slice none 0 0])++c.drop (0+(U++[Value.slice none 0 0]).length)) y/\((U++[Value.slice none 0 0])≠ []->0+(U++[Value.slice none 0 0]).length<=c.length):=λc tq=>by
         have mD:=jk r c _ tq;simp_all[n?,V?,List.take_zero,o?,B?]
        rcases Of d hL V HN with⟨g1,g2,g3⟩|EA;have z:(U++[Value.slice none 0 0]).length=r.length:=by grind
        have hal:q.toList.length=r.length:=by grind
        rw[z] at g3
        have N8:i*r.length+0+q.size<=f.size:=by
         omega
        have qw:(Value.agg q).cells=q:=rfl;refine⟨_,nN kQ x! x! N x!,?_⟩;rw[qw];refine X.write hd (fz:=[]) x! hb O N ⟨rfl,rfl,rfl⟩ z! ?_ (by rfl);intro s h1 h2 h3
        have Yn:∀B,s B->A B:=λB h=>by
         grind
        have v:bI w (w.setRow b (f.toList.take (i*r.length+0)++q.toList++f.toList.drop (i*r.length+0+q.toList.length)).toArray) A s:=λB h=>⟨h1 B h,setRow_other w b B _ (λh'=>O (h'▸h))⟩
        have G:f.toList.take (i*r.length+0)++q.toList++f.toList.drop (i*r.length+0+q.toList.length)=(f.toList.take (i*r.length)++U)++β K::f.toList.drop (i*r.length+r.length):=by
         grind
        have D:(f.toList.take (i*r.length)++U).length=i*r.length+(r.length-1):=by
         grind
        have iT:i*r.length+r.length<=l.length*r.length:=by
         have :(i+1)*r.length<=l.length*r.length:=Nat.mul_le_mul_right _ d;grind
        refine⟨_,.slice none 0 0,⟨?_,.inr ⟨b,J,_,x!,w!,setRow_heap w b f _ e _ N,x!,HD,?_,rfl⟩⟩,λB fw=>?_,?_,λj' L=>?_⟩;grind;grind;grind;simp only[List.length_set]
        have EC:(f.toList.take (i*r.length+0)++(U++[Value.slice none 0 0])++f.toList.drop (i*r.length+0+(U++[Value.slice none 0 0]).length))=(f.toList.take (i*r.length)++U)++Value.slice none 0 0::f.toList.drop (i*r.length+r.length):=by
         simp only[Nat.add_zero,z,X!,List.singleton_append]
        have S:=g2;simp only[EC] at S;simp only[G] at v |-;rw[<-List.take_set,<-D,anV];exact bR (λc x H=>bE v r c x H) _ _ S;simp only[Option.some.injEq] at L;subst L;simp only[List.length_set,G];rw[List.getElem?_take,if_pos w!,<-D,List.getElem?_append_right (Nat.le_refl _),Nat.sub_self];rfl;grind;grind
     grind
   grind
 grind
def aq.close(H:aq C A β st a w){k e K X i:Nat}{r v:M Ty}{l:M (Row r)}{L:M (Row v)}{y:Row r}
  (hk:st.h k=some (.iE e (some K) r l i)) (E:st.h K=some (.row X v L false)) (o:K≠k) (pQ:0<r.length) (hi:i<l.length)
  (Y:sL r (l.getD i (Row.zero r)) (r.length-1) [.sl v L]=some y) (p:bN.n=st.n) (s:bN.t=st.t) (hg:bN.g=st.g)
  (u:∀q,bN.h q=if q=k then some (.row e r (l.set i y) false) else if q=K then some (.row X v L true) else st.h q):Rel C bN a w:=by
 let F:Nat->Prop:=λb=>A b\/ah (β K)=some b
 have I:bI w w A F:=λb h=>⟨.inl h,rfl⟩
 have D:∀q,(bN.h q).isSome↔(st.h q).isSome:=by
  grind
 have P:(oG st.h (.own K))=(.sl v L,[K]):=by grind[oG,jA]
 have HS:aa w F β (β K) (.sl v L):=by
  have:=(yH (A':=F) H (λb h=>.inl h) (.own K) (β K) (by simp only[aa];exact⟨trivial,OF H E⟩) (λq z b hb=>by
   grind)).1
  grind
 refine⟨F,β,?_⟩;refine⟨H.defers,by rw[p];exact H.size,λq=>by rw[s];exact jh I _ _ (H.tmps q),λq ab z=>?_,λq Q b h1 B=>H.apart q Q b ((D q).1 h1) ((D Q).1 B),λb hb=>?_,H.frame,λb hb J=>?_,λb hb=>.inl (H.base b hb),λq b z hb=>H.om q b ((D q).1 z) hb,λq d z=>H.qo q d x!,λq d S=>(H.laid q d S).mono I,H.held⟩;rw[u] at z;by_cases h1:q=k;subst h1;rw[if_pos rfl] at z;simp only[Option.some.injEq] at z;subst z;rcases F3 H hk with⟨_,hl⟩|⟨b,N,f,V,Z,O,T,W,eY,ml,hL,yL⟩;grind
 have hN:(f.toList.take (l.length*r.length)).length=l.length*r.length:=by
  simp_all
 have ov:=yL K rfl;have hL1:=bR (λc x R=>bE I r c x R) l _ hL;rw[getD_eq l _ _ hi] at Y
 have rB:=Of (A:=F) (w:=w) (i:=i) (j:=r.length-1) (cur:=((f.toList.take (l.length*r.length)).set (i*r.length+(r.length-1)) V).toArray) (us:=[β K]) hi (by
  grind[List.take_of_length_le,List.length_set]) (λc hc=>by
  have:=zQ (β:=β) r [.sl v L] l[i] (r.length-1) c [β K] y hc (by grind[ae]) Y;omega) x!
 rcases rB with⟨m,G,g3⟩|EA;refine⟨f.toList.take (l.length*r.length),⟨x!,.inr ⟨b,N,f,x!,w!,O,x!,W,eY,x!⟩⟩,?_,λb' U=>?_⟩
 have hp:i*r.length+(r.length-1)<l.length*r.length:=by
  have :(i+1)*r.length<=l.length*r.length:=I? _ hi;rw[q?,Nat.one_mul] at this;omega
 have iP:((f.toList.take (l.length*r.length)).set (i*r.length+(r.length-1)) V).take (i*r.length+(r.length-1))++[β K]++((f.toList.take (l.length*r.length)).set (i*r.length+(r.length-1)) V).drop (i*r.length+(r.length-1)+[β K].length)=f.toList.take (l.length*r.length):=by
  have B:((f.toList.take (l.length*r.length)).set (i*r.length+(r.length-1)) V).set (i*r.length+(r.length-1)) (β K)=f.toList.take (l.length*r.length):=by
   rw[List.set_set];exact DT _ _ _ ov
  rw[i?,Q! (by rw[List.length_set,hN];exact hp)] at B;simpa using B
 simp only[iP] at G;rw[List.take_of_length_le w!] at G;exact G;rw[Z] at U;simp only[ah,Option.some.injEq] at U;subst U;simp only[Bool.false_eq_true,if_false];rintro(h|h);exact ml h;exact o (H.apart K q b (by simp[E]) (by simp[hk]) h (by rw[Z];rfl));grind;rw[if_neg h1] at z;by_cases B:q=K;subst B;rw[if_pos rfl] at z;simp only[Option.some.injEq] at z;subst z;obtain⟨xs,m,G,g3⟩:=H.blocks q _ E;refine⟨xs,m,bR (λc x R=>bE I v c x R) _ _ G,λb hb=>?_⟩;simp only[if_true];exact .inr hb;rw[if_neg B] at z
 have:=yD (new:=[]) (λ_ _=>rfl) rfl (λb hb=>⟨rfl,λh=>by
  rcases h with h|h;exact h;exact absurd (H.apart q K b (by simp[z]) (by simp[E]) hb h) B⟩) I (H.blocks q ab z)
 simpa[bD] using this;rcases hb with hb|hb;exact H.bound b hb;exact oK H (by simp[E]) hb;rcases J with J|J;exact H.gG b hb J;rcases H.om K b (by simp[E]) J with h|h;omega;exact .inr h
def DU:∀ {l:M α},isNil l=true->l=[]
 |[],_=>rfl
 |_::_,h=>by cases h
theorem YI(I:dU P C E)(H:aq C A β st a w)(h:Tu E st o=some out)(X:fR st o=true)(iP:lp st.h out.new=true)(B:∀p∈out.cond,p)
  (D:∀J w',Rel C (st.put o.dst out) J w'->K J w'):o.wp P a w K Q:=by
 unfold Tu at h;split at h
 . rename_i Z f;simp only[A!] at h;subst h
   have M:∀t,o.dst=some t->t<st.n:=by
    intro t ht;simp_all[fR,L!]
   unfold YH at f;split at f
   . rename_i c u m;split at f
     . rename_i Y b;cases N:(isNil Y.hX&&isNil Y.del&&isNil Y.new&&isNil Y.raw) with
       |false=>grind
       |true=>
        simp only[N,cond_true,Option.some.injEq] at f;subst f;simp only[Bool.and_eq_true] at N;have⟨⟨⟨q1,q2⟩,q3⟩,q4⟩:=N;have q1:=DU q1;have q2:=DU q2;have q3:=DU q3;have q4:=DU q4;have O:c:=B c z!;refine LN I H b X w! (λp hp=>B p x!) (λJ w' d=>D J w' ?_);have⟨A',aC,s⟩:=d
        have R:∀q,(st.put o.dst Y).h q=st.h q:=by
         intro q;simp only[St.put,vf,q1,q2,q3,ai,aw];grind[bD]
        have :∃k,closing st.h k=some (c,u):=by
         grind[yK]
        have⟨k,m⟩:=this;unfold closing at m;split at m
        . rename_i e U r l i j;split at m
          . rename_i e5 vv l5 G;cases z:(Nat.blt 0 r.length&& !(Nat.beq U k)) with
            |false=>grind
            |true=>
             simp only[z,K!] at m;simp only[B!,K?] at z;split at m
             . rename_i y L;obtain⟨rfl,rfl⟩:=m;have S:U≠k:=λh=>by grind
               refine aq.close s (by rw[R];exact j) (by rw[R];exact G) S (L! z.1) O L rfl ?_ rfl (λq=>?_);rfl
               . rw[R];simp only[St.put,vf,q2,q3,ai,aw,w7,q4];by_cases F:q=k;subst F;simp[bD]
                 . by_cases V:q=U;subst V;simp[F,aO F,bD]
                   . simp only[aO F,aO V,N!,R! F,R! V];cases st.h q with
                     |none=>rfl
                     |some ab=>simp[bD]
             grind
          grind
        grind
     grind
   rename_i T;clear T;have⟨dst,op,type,pos,after,g⟩:=o;simp only at M D f;split at f;rename_i t p v;have⟨w',g1,W⟩:=Sy I.gm H M (aM H p) (aM H v) f B;refine pP ?_ (D _ _ W);simp only[execOp,Sem.run_bind,g1,Result.andThen_ok,Sem.run_pure];rename_i t p;exact dx (λw=>by simp[execOp]) (Reads.vt H M (M3 I.gm H (aM H p) f B)) D;rename_i t x i;exact dx (λw=>by simp[execOp]) (Reads.vt H M (OG I.gm H (aM H x) (aM H i) f B)) D;cases f
 grind[LN]
def ķ(H:dU P C E)(k:aq C A β st a w)(h:act E st o=some out)(v:fR st o=true)(i:lp st.h out.new=true)(q:∀p∈out.cond,p)
  (y:∀f w',Rel C (st.put o.dst out) f w'->K f w'):o.wp P a w K Q:=by
 grind[act,Option.some.injEq,YC,YE,YF,YI]
mutual
def aG(p:Nat->Bool):AV->AV
 |.own k=>bif p k then .db else .own k
 |.pre k n=>bif p k then .db else .pre k n
 |.view k sz off n=>bif p k then .db else .view k sz off n
 |.ref k off=>bif p k then .db else .ref k off
 |.elem k sz i j=>bif p k then .db else .elem k sz i j
 |.agg cs=>.agg (fV p cs)
 |.bk vs=>.bk (fV p vs)
 |.fn f first bl=>.fn f (fV p first) (fV p bl)
 |.jR ks cs=>.jR ks (fV p cs)
 |a=>a
def fV(p:Nat->Bool):M AV->M AV
 |[]=>[]
 |a::as_=>aG p a::fV p as_
end
def dP(p:Nat->Bool):Option Nat->Option Nat
 |some k=>bif p k then none else some k
 |none=>none
def cw(p:Nat->Bool):AB->AB
 |.cells cs=>.cells (fV p cs)
 |.views e j n m sz=>.views e (dP p j) n m sz
 |.iE e j row l i=>.iE e (dP p j) row l i
 |.dO e (some k) l=>zD (p k) e k l
 |.eG e j xs i=>.eG e (dP p j) xs i
 |b=>b
def ca(p:Nat->Bool):Option AB->Option AB
 |some b=>some (cw p b)
 |none=>none
def KS.has(kb:Nat):KS->Nat->Bool
 |.one j,k=>Nat.beq k j
 |.dst d,k=>Nat.beq k (kb+d) || (Nat.ble (yC (kb+d)) k&&Nat.blt k (yC (kb+d)+100))
def cT(kb:Nat):M KS->Nat->Bool
 |[],_=>false
 |x::r,k=>x.has kb k || cT kb r k
def F4(ops:M Oper)(j:Nat):Option Nat:=match ops[j]? with
 |some o=>o.dst
 |none=>none
def mo(ops:M Oper)(i:Nat):Bool:=ops.any λo=>match o.guard with
 |some (j,_)=>Nat.beq j i
 |none=>false
def OH(ops:M Oper)(t:Nat->AV)(o:Oper):Option Bool:=match o.guard with
 |none=>some true
 |some (j,want)=>match F4 ops j with
  |none=>none
  |some g=>match t g with
   |.tt=>some want
   |.ff=>some (!want)
   |.undef=>some false
   |_=>none
def eI:M Oper->M Nat
 |[]=>[]
 |o::r=>match o.dst with
  |some d=>d::eI r
  |none=>eI r
def Out.wr(o:Out):M Nat:=o.hX.map (·.1)++(o.del++o.new.map (·.1))
def Out.wU(o:Out):M Nat:=aA o.res++(Cf o.hX++Cf o.new)
def Out.skip:Out:={cond:=[],res:=.undef}
def nk(a b:M Nat):Bool:=a.all λk=>!aw b k
structure Ev where
 i:Nat
 o:Oper
 out:Option Out
 kr:List Nat
 pre:List Nat
def Ev.cn(e:Ev):Out:=match e.out with
 |some out=>out
 |none=>.skip
def sS(st:St)(o:Oper):M Nat:=match o.op with
 |.call _=>qy st.h (ay (o.op.operands.toList.map (ev st)))
 |_=>[]
def ib(h:aP):M Nat->M Nat
 |[]=>[]
 |k::r=>match h k with
  |some (.iE _ (some j) _ _ _)=>j::ib h r
  |_=>ib h r
def vA(E:Env)(h:aP)(o:Oper):M Nat:=match o.dst with
 |some d=>match E.cls d with
  |some k=>k::ib h [k]
  |none=>[]
 |none=>[]
def lN(E:Env)(st:St)(o:Oper):M Nat:=(match o.dst with
 |some d=>st.kb+d
 |none=>st.kb)::(ay (o.op.operands.toList.map (ev st))++(sS st o++(ib st.h (ay (o.op.operands.toList.map (ev st)))++vA E st.h o)))
def slotsOf:M Operand->M Nat
 |[]=>[]
 |.tmp i::r=>i::slotsOf r
 |_::r=>slotsOf r
def looks(ops:M Oper)(o:Oper):M Nat:=(match o.guard with
 |some (j,_)=>match F4 ops j with
  |some g=>[g]
  |none=>[]
 |none=>[])++slotsOf o.op.operands.toList
def waits(f e:Ev):Bool:=aw f.pre e.i
def H2:M Nat->M Nat->M Nat
 |[],b=>b
 |k::r,b=>bif aw b k then H2 r b else H2 r (k::b)
def VF(k:Nat):M Ev->M Nat
 |[]=>[]
 |e::r=>bif Nat.beq e.i k then e.pre else VF k r
def pw(t:M Ev):M Edge->M Nat
 |[]=>[]
 |x::r=>bif Region.binds .any x then H2 (x.on::VF x.on t) (pw t r) else pw t r
def OI(l:M Nat):Option Nat->Bool
 |some d=>!aw l d
 |none=>true
def uo(ops:M Oper)(e f:Ev):Bool:=
 OI (looks ops f.o) e.o.dst&&OI (looks ops e.o) f.o.dst&&
 (match e.o.dst,f.o.dst with
   |some d,some D=>!Nat.beq d D
   |_,_=>true)&&
 nk e.cn.wr f.kr&&nk f.cn.wr e.kr&&nk e.cn.wr f.cn.wr&&nk e.cn.wU (f.cn.new.map (·.1))&&nk f.cn.wU (e.cn.new.map (·.1))
def eC:Nat:=49999
def OJ:Op:=.move (.const (.map none))
def JZ(f:Ev):Bool:=match f.o.op with
 |.move (.const (.map none))=>(match f.cn.res with
   |.db=>true
   |_=>false)&&(f.cn.wr.isEmpty&&f.cn.raw.isEmpty)
 |_=>true
def lO(kb:Nat)(dr:Bool)(ops:M Oper)(t:M Ev)(f:Ev):Bool:=
 bif dr then(t.all λe=>nk e.cn.wU (f.cn.new.map (·.1))&&(waits f e || uo ops e f))&&(f.o.after.toList.all λx=>!Region.binds .any x || Nat.blt x.on f.i)&&
  (f.cn.new.all λx=>cT kb ((eI ops).map .dst) x.1)&&(nk (f.kr++(f.cn.wr++f.cn.wU)) [eC]&&JZ f) else true
def OK:AV->AV
 |.bool b=>bif b then .tt else .ff
 |a=>a
def St.lit(st:St)(d:Nat)(a:AV):St:={st with t:=λi=>bif Nat.beq i d then a else st.t i,cm:=[],news:=[],Ly:=[]}
def St.clear(st:St):St:={st with cm:=[],news:=[],Ly:=[]}
def yM(b:Bool)(W:M Nat)(base s1 s:St):Option St:=
 match s1.Ly,s.Ly with
 |[],[]=>some {base with
     t:=λi=>bif aw W i then Ho b (s1.t i) (s.t i) else aG (cT base.kb (s1.news++s.news)) (base.t i)
     h:=λk=>bif aw (s1.cm++s.cm) k then Hp b (s1.h k) (s.h k) else ca (cT base.kb (s1.news++s.news)) (base.h k)
     cm:=(s1.cm++s.cm)++base.cm
     news:=base.news++(s1.news++s.news)}
 |_,_=>none
def Nq(b:Bool)(c C:M Prop):M Prop:=match c,C with
 |[],[]=>[]
 |_,_=>[(b=true->LA c)/\(b=false->LA C)]
def both(b:Bool)(W:M Nat)(base:St)(r R:Option (M Prop×St)):Option (M Prop×St):=match r,R with
 |some (c1,s1),some (c2,s2)=>match yM b W base s1 s2 with
  |some s=>some (Nq b c1 c2,s)
  |none=>none
 |_,_=>none
def DV(c:M Prop):Option (M Prop×St)->Option (M Prop×St)
 |some (C,s)=>some (c++C,s)
 |none=>none
def fork(g:Bool)(W:M Nat)(d:Option Nat)(st:St)(next :St->Option (M Prop×St)):Option (M Prop×St):=match d with
 |some d=>bif g then(match st.t d with
  |.bool b=>both b (d::W) st (next (st.lit d .tt)) (next (st.lit d .ff))
  |_=>next st) else next st
 |none=>next st
def xe(E:Env)(dr:Bool)(ops:M Oper):Nat->M Ev->M Oper->St->Option (M Prop×St)
 |_,_,[],st=>some ([],st)
 |i,T,o::rest,st=>match OH ops st.t o with
  |none=>none
  |some false=>bif fR st o&&lO st.kb dr ops T ⟨i,o,none,lN E st o,pw T o.after.toList⟩ then
    xe E dr ops (i+1) (⟨i,o,none,lN E st o,pw T o.after.toList⟩::T) rest (st.put o.dst .skip) else none
  |some true=>match act E st o with
   |none=>none
   |some out=>bif fR st o&&(lp st.h out.new&&lO st.kb dr ops T ⟨i,o,some out,lN E st o,pw T o.after.toList⟩) then
     DV out.cond (fork (mo ops i) (eI rest) o.dst (st.put o.dst out) (xe E dr ops (i+1) (⟨i,o,some out,lN E st o,pw T o.after.toList⟩::T) rest)) else none
def St.ahead(st:St)(W:M Nat):St:={st with
 t:=λi=>aG (cT st.kb (W.map .dst)) (st.t i)
 h:=λk=>ca (cT st.kb (W.map .dst)) (st.h k)
 news:=st.news++W.map .dst}
def VG(d:Nat)(o:Oper):Option (TypeId×Int×Operand):=match o.op,o.dst,o.guard with
 |.insert t (.tmp D) (.const (.int .i64 k)) x,none,none=>bif Nat.beq D d then some (t,k,x) else none
 |_,_,_=>none
def DW(d:Nat):Operand->Bool
 |.tmp i=>!Nat.beq i d
 |_=>true
def ez(st:St)(t:TypeId)(d:Nat):M Oper->U×M AV×M Oper
 |[]=>([],[],[])
 |o::r=>match VG d o with
  |some (t',k,x)=>bif Nat.beq t' t&&DW d x&&decide (lo .i64<=k/\k<=hi .i64) then(k::(ez st t d r).1,ev st x::(ez st t d r).2.1,(ez st t d r).2.2) else([],[],o::r)
  |none=>([],[],o::r)
def zX(T:b9)(st:St):M Oper->Option (Nat×U×M AV×M Oper)
 |[]=>none
 |o::r=>match o.op,o.dst,o.guard with
  |.makeMap t none,some d,none=>match T.find t with
    |some te=>match te.desc with
     |.map kt _=>bif cW T kt xU&&gY (ez st t d r).1&&Nat.blt d st.n then some (d,ez st t d r) else none
     |_=>none
    |none=>none
  |_,_,_=>none
inductive MR where
 |no
 |mk
 |ins (t:TypeId) (k:Int) (x:Nat)
 |cp (s:Nat)
def role(L:M Nat)(o:Oper):MR:=match o.op with
 |.makeMap _ _=>.mk
 |.insert t (.tmp s) (.const (.int .i64 k)) (.tmp x)=>bif aw L s then .ins t k x else .no
 |.move (.tmp s)|.assign (.tmp s)=>bif aw L s then .cp s else .no
 |_=>.no
def Sz(L:M Nat)(o:Oper):Bool:=match role L o with
 |.mk=>true
 |.cp _=>true
 |_=>false
def fS(L:M Nat)(o:Oper):Oper:=match role L o with
 |.no=>o
 |_=>{o with op:=OJ}
def aey:Nat->M Oper->Option (Nat×Nat×TypeId)
 |_,[]=>none
 |i,o::r=>match o.op,o.dst with
  |.makeMap t none,some d=>some (i,d,t)
  |_,_=>aey (i+1) r
def H3:M Nat->M Oper->M Nat
 |L,[]=>L
 |L,o::r=>match role L o,o.dst with
  |.cp _,some e=>H3 (e::L) r
  |_,_=>H3 L r
def aQK(L:M Nat):Nat->M Oper->M (Nat×Int×Nat)
 |_,[]=>[]
 |i,o::r=>match role L o with
  |.ins _ k x=>(i,k,x)::aQK L (i+1) r
  |_=>aQK L (i+1) r
def H4(o:Oper)(j:Nat):Bool:=o.after.toList.any λx=>Region.binds .any x&&Nat.beq x.on j
def anX(ops:M Oper)(o:Oper)(x:Nat):Bool:=(List.range ops.length).all λj=>match ops[j]? with
 |some q=>(match q.dst with
  |some e=>!(Nat.beq e x) || H4 o j
  |none=>true)
 |none=>true
def YL(L:M Nat)(ops:M Oper)(o:Oper)(s:Nat):Bool:=(List.range ops.length).any λj=>match ops[j]? with
 |some q=>H4 o j&&(Sz L q&&(match q.dst with
  |some e=>Nat.beq e s
  |none=>false))
 |none=>false
def J0(L:M Nat)(o:Oper):Bool:=match o.dst with
 |some e=>aw L e
 |none=>false
def aez(L:M Nat)(ops:M Oper)(i0:Nat)(t:TypeId)(i:Nat)(o:Oper):Bool:=o.guard.isNone&&match role L o with
 |.no=>!(J0 L o)
 |.mk=>Nat.beq i i0&&J0 L o
 |.ins t' k x=>Nat.beq t' t&&decide (lo .i64<=k/\k<=hi .i64)&&(o.dst.isNone&&(H4 o i0&&(anX ops o x&&(match o.op with
   |.insert _ (.tmp s) _ _=>YL L ops o s
   |_=>false))))
 |.cp s=>J0 L o&&(H4 o i0&&YL L ops o s)
def VH(T:b9)(ops:M Oper):Option (Nat×TypeId×M Nat):=match aey 0 ops with
 |some (i0,d,t)=>match T.find t with
  |some te=>match te.desc with
   |.map kt _=>bif cW T kt xU&&(gY ((aQK (H3 [d] ops) 0 ops).map (·.2.1))&&
       (List.range ops.length).all λi=>match ops[i]? with
         |some o=>aez (H3 [d] ops) ops i0 t i o
         |none=>true) then some (i0,t,H3 [d] ops) else none
   |_=>none
  |none=>none
 |none=>none
def St.cut(st:St):St:={st with
 t:=λi=>aG (λk=>Nat.beq k eC) (st.t i)
 h:=λk=>ca (λk=>Nat.beq k eC) (st.h k)
 news:=st.news++[.one eC]}
def St.mapped(st:St)(L:M Nat)(ops:M Oper):St:={st with
 t:=λi=>bif aw (eI (ops.filter (Sz L))) i then .jR ((aQK L 0 ops).map (·.2.1)) ((aQK L 0 ops).map λq=>st.t q.2.2) else st.t i}
def anY(E:Env)(ops:M Oper)(st:St):Option (M Prop×St):=match VH E.T ops with
 |some (_,_,L)=>bif (st.h eC).isNone then(match xe E true (ops.map (fS L)) 0 [] (ops.map (fS L)) (st.ahead (eI ops)).cut with
  |some (c,m)=>some (c,m.mapped L ops)
  |none=>none) else none
 |none=>xe E true ops 0 [] ops (st.ahead (eI ops))
def H5(E:Env)(dr:Bool)(ops:M Oper)(st:St):Option (M Prop×St):=
 bif dr then anY E ops st else match zX E.T st ops with
  |some (d,ks,cs,rest)=>xe E false ops (cs.length+1) [] rest (st.put (some d) {cond:=[],res:=.jR ks cs})
  |none=>xe E false ops 0 [] ops st
inductive Ex where
 |norm
 |exit (i:Nat)
 |ret
def BF:Code->M Nat
 |.region _ ops _=>eI ops.toList
 |.seq x y=>BF x++BF y
 |.cond _ x y=>BF x++BF y
 |.block _ b=>BF b
 |.loop b|.scope b=>BF b
 |_=>[]
def nR:Code->Bool
 |.skip=>true
 |.region _ _ _=>true
 |.seq x y=>nR x&&nR y
 |.cond _ x y=>nR x&&nR y
 |.block _ b=>nR b
 |_=>false
def iR(E:Env):Code->St->Option (M Prop×St)
 |.skip,st=>some ([],st)
 |.region _ ops d,st=>H5 E d ops.toList st
 |.seq x y,st=>match iR E x st with
   |some (c,bN)=>DV c (iR E y bN)
   |none=>none
 |.cond c x y,st=>match ev st c with
   |.tt=>iR E x st
   |.ff=>iR E y st
   |.bool b=>both b (BF x++BF y) st (iR E x st.clear) (iR E y st.clear)
   |_=>none
 |.block _ b,st=>iR E b st
 |_,_=>none
def VI:M Prop->Prop->Prop
 |[],k=>k
 |p::ps,k=>p/\VI ps k
inductive Loc where
 |slot (i:Nat)
 |cell (k off:Nat)
structure bO where
 τ:Type
 yd:List (Nat×(τ->AV))
 keys:List (Nat×(τ->AB)):=[]
 BG:List (Loc×Nat):=[]
 drop:List Nat:=[]
 aEd:List (Nat×(τ->AV)):=[]
 inv:τ->Prop
 af:τ->Nat
def ic {α β:Type}(l:M (Nat×(α->β)))(k:Nat):Option (α->β):=match l with
 |[]=>none
 |(j,a)::r=>bif Nat.beq k j then some a else ic r k
def aFR(st:St):Loc->AV
 |.slot i=>st.t i
 |.cell k off=>match st.h k with
   |some (.cells cs)=>cs.getD off .db
   |_=>.db
def sources(st:St):M (Loc×Nat)->Option (M (Nat×Option Nat))
 |[]=>some []
 |(l,K)::r=>match aFR st l,sources st r with
  |.own k,some s=>some ((K,some k)::s)
  |.ref k _,some s=>some ((K,some k)::s)
  |.nil,some s=>some ((K,none)::s)
  |_,_=>none
def eU:M (Nat×Option Nat)->M Nat
 |[]=>[]
 |(_,some k)::r=>k::eU r
 |(_,none)::r=>eU r
def cz(s:M (Nat×Option Nat))(k:Nat):Option (Option Nat):=match s with
 |[]=>none
 |(j,a)::r=>bif Nat.beq k j then some a else cz r k
def dn(L:bO)(W:M Nat):M KS:=W.map .dst++(L.BG.map (λx=>.one x.2)++L.drop.map .one)
def mQ(L:bO)(W:M Nat)(base:St)(x:L.τ):St:=
 {base with
  t:=λi=>match ic L.yd i with
   |some f=>f x
   |none=>bif aw W i then .db else aG (cT base.kb (dn L W)) (base.t i)
  h:=λk=>match ic L.keys k with
   |some f=>some (f x)
   |none=>bif cT base.kb (dn L W) k then none else ca (cT base.kb (dn L W)) (base.h k)
  cm:=[],news:=[],Ly:=[]}
def vB(s:M (Nat×Option Nat))(bad:Nat->Bool)(k K:Nat):Bool:=match cz s K with
 |some (some j)=>Nat.beq k j
 |some none=>false
 |none=>Nat.beq k K&& !bad K
mutual
def OL(s:M (Nat×Option Nat))(bad:Nat->Bool):AV->AV->M Prop
 |_,.db=>[]
 |.undef,.undef=>[]
 |.int k n,.int k' m=>if k=k' then [n=m] else [False]
 |.tt,.tt|.ff,.ff=>[]
 |.tt,.bool b=>[true=b]
 |.ff,.bool b=>[false=b]
 |.bool b,.bool c=>[b=c]
 |.str a,.str b=>[a=b]
 |.nil,.nil|.lh,.lh|.nb,.nb=>[]
 |.nil,.sl r l=>[([]:M (Row r))=l]
 |.sl r l,.sl R L=>match fN r R l with
   |some m=>[m=L]
   |none=>[False]
 |.full r l,.sl R L=>match fN r R l with
   |some m=>[m=L]
   |none=>[False]
 |.own k,.own K=>match cz s K with
   |some (some j)=>bif Nat.beq k j then [] else [False]
   |some none=>[False]
   |none=>bif Nat.beq k K&& !(bad K) then [] else [False]
 |.nil,.own K=>match cz s K with
   |some none=>[]
   |_=>[False]
 |.ref k o,.ref k' O=>bif vB s bad k k' then [o=O] else [False]
 |.agg xs,.agg Y|.bk xs,.bk Y=>Bi s bad xs Y
 |.fn f xs us,.fn F Y vs=>if f=F then Bi s bad xs Y++Bi s bad us vs else [False]
 |.jR ks xs,.jR q Y=>if ks=q then Bi s bad xs Y else [False]
 |.dc r x j,.dc R y J=>match fN r R [x] with
   |some m=>[m=[y],j=J]
   |none=>[False]
 |_,_=>[False]
def Bi(s:M (Nat×Option Nat))(bad:Nat->Bool):M AV->M AV->M Prop
 |[],[]=>[]
 |x::xs,y::Y=>OL s bad x y++Bi s bad xs Y
 |_,_=>[False]
end
def aEe(s:M (Nat×Option Nat))(bad:Nat->Bool):Option Nat->Option Nat->Bool
 |none,_=>true
 |some j,some J=>vB s bad j J
 |_,_=>false
def SA(s:M (Nat×Option Nat))(bad:Nat->Bool):Option AB->AB->M Prop
 |some (.cells xs),.cells y=>Bi s bad xs y
 |some (.row e r l fr),.row e' R L H=>match fN r R l with
  |some m=>bif Nat.beq e e'&&(fr==H) then [m=L] else [False]
  |none=>[False]
 |some (.arr r l),.arr R L=>match fN r R l with
  |some m=>[m=L]
  |none=>[False]
 |some (.iE e (some j) r l i),.iE e' (some J) R L I=>match fN r R l with
  |some m=>bif Nat.beq e e'&&vB s bad j J then [m=L,i=I] else [False]
  |none=>[False]
 |some (.row e r l false),.views e' _ n m _=>bif Nat.beq e e'&&Nat.beq r.length 1 then [l.length=n,m=0] else [False]
 |some (.views e (some j) n m sz),.views e' (some J) N k f=>bif Nat.beq e e'&&vB s bad j J then [n=N,m=k,sz=f] else [False]
 |some (.dO e j l),.dO e' J L=>bif Nat.beq e e'&&aEe s bad j J then [l=L] else [False]
 |some (.eG e (some j) xs i),.eG e' (some J) V I=>bif Nat.beq e e'&&vB s bad j J then [xs=V,i=I] else [False]
 |some (.bm e sz n cs),.bm e' f N g=>bif Nat.beq e e'&&(Nat.beq sz f&&Nat.beq n N) then Bi [] (λ_=>true) cs g else [False]
 |_,_=>[False]
def Nr {k:Type}(s:M (Nat×Option Nat))(bad:Nat->Bool)(st:St)(x:k):M (Nat×(k->AV))->M Prop
 |[]=>[]
 |(i,f)::r=>OL s bad (st.t i) (f x)++Nr s bad st x r
def VJ {q:Type}(s:M (Nat×Option Nat))(bad:Nat->Bool)(st:St)(x:q):M (Nat×(q->AB))->M Prop
 |[]=>[]
 |(K,f)::r=>(match cz s K with
  |some (some k)=>SA s bad (st.h k) (f x)
  |some none=>match f x with
   |.row _ _ l false=>[[]=l]
   |_=>[False]
  |none=>bif bad K then [False] else SA s bad (st.h K) (f x))++VJ s bad st x r
def DX(L:bO)(W:M Nat)(base st:St)(s:M (Nat×Option Nat)):Bool:=
 kW (L.BG.map (·.2))&&kW (eU s)&&
 (L.BG.all λx=>!(rJ x.2))&&
 (L.yd.all λx=>aw W x.1)&&
 (L.BG.all λx=>(ic L.keys x.2).isSome)&&
 (L.keys.all λx=>(cz s x.1).isSome || !(cT base.kb (dn L W) x.1))&&
 ((eU s).all λk=>cT base.kb (dn L W) k)&&
 (st.cm.all λk=>(ic L.keys k).isSome || cT base.kb (dn L W) k)
def Ns(L:bO)(W:M Nat)(base:St)(n:M KS):Bool:=
 n.all λx=>match x with
  |.one k=>cT base.kb (dn L W) k
  |.dst d=>aw W d
def aFS(st:St):AV->AV
 |.own k=>match st.h k with
   |some (.row _ r l _)=>.sl r l
   |_=>.undef
 |v=>v
def anZ {k:Type}(st:St)(x:k):M (Nat×(k->AV))->M Prop
 |[]=>[]
 |(i,f)::r=>OL [] (λ_=>true) (aFS st (st.t i)) (f x)++anZ st x r
def bO.tied(L:bO)(st:St):bO:=match L.aEd with
 |[]=>L
 |t::ts=>{L with inv:=λx=>L.inv x/\LA (anZ st x (t::ts)),aEd:=[]}
def YM(i:Nat)(K:Ex->St->Prop)(e:Ex)(st:St):Prop:=match e with
 |.exit j=>bif Nat.beq j i then K .norm st else K (.exit j) st
 |e=>K e st
def DY(L:bO)(W:M Nat)(base st:St)(s:M (Nat×Option Nat))(x:L.τ):M Prop:=
 Nr s (cT base.kb (dn L W)) st x L.yd++VJ s (cT base.kb (dn L W)) st x L.keys
def H6(L:bO)(W:M Nat)(base st:St)(P:L.τ->Prop):Prop:=match sources st L.BG with
 |none=>False
 |some s=>bif DX L W base st s then ∃x,LA (DY L W base st s x)/\P x else False
def St.back(L:bO)(W:M Nat)(base st:St):St:=
 {st with cm:=st.cm++(L.keys.map (·.1)++base.cm),news:=base.news++(dn L W++st.news)}
def YN(L:bO)(W:M Nat)(base:St)(x:L.τ)(K:Ex->St->Prop)(e:Ex)(st:St):Prop:=match e with
 |.norm=>bif Ns L W base st.news then H6 L W base st λX=>L.inv X/\L.af X<L.af x else False
 |e=>K e (St.back L W base st)
def aeA(L:bO)(W:M Nat)(K:Ex->St->Prop)(b:(Ex->St->Prop)->St->Prop)(st:St):Prop:=
 H6 L W st st.clear L.inv/\∀x,L.inv x->b (YN L W st x K) (mQ L W st x)
def aFT(E:Ex->St->Prop)(next :St->Prop)(e:Ex)(st:St):Prop:=match e with
 |.norm=>next st
 |e=>E e st
def aeB(E:Env):Operand->Bool
 |.tmp i=>E.MT i
 |_=>false
def aEf(E:Env)(c:Operand)(x y:Code)(st:St):Option (M Prop×St):=
 bif !aeB E c&&(nR x&&nR y) then iR E (.cond c x y) st else none
def auj:Op->Bool
 |.lookup _ _ _ _=>true
 |_=>false
def aeC(E:Env)(o:Oper):Bool:=match o.op,o.dst with
 |.indexAddr _ _ _,some d=>E.MT d
 |_,_=>false
def upto:Nat->Nat->U
 |_,0=>[]
 |i,n+1=>(i:Int)::upto (i+1) n
def ixO(st:St):Op->Option (Int×U)
 |.indexAddr _ x i=>match ev st x,ev st i with
   |.own k,.int _ n=>match st.h k with
     |some (.bm _ _ m _)=>some (n,upto 0 m)
     |_=>none
   |_,_=>none
 |_=>none
def an0(E:Env):M Oper->St->Option (Int×U)
 |[],_=>none
 |o::r,st=>match o.op with
  |.lookup _ m x _=>match ev st m,ev st x with
    |.jR ks _,.int .i64 n=>some (n,ks)
    |_,_=>none
  |_=>match bif aeC E o then ixO st o.op else none with
  |some r=>some r
  |none=>match act E st o with
   |some out=>an0 E r (st.put o.dst out)
   |none=>none
def auk(E:Env)(st:St)(ops:M Oper):Option (Int×U):=
 bif ops.any λo=>auj o.op || aeC E o then an0 E ops st else none
def VK(E:Env)(K:Ex->St->Prop)(st:St)(ops:M Oper)(d:Bool):Prop:=match H5 E d ops st with
 |some (c,bN)=>VI c (K .norm bN)
 |none=>False
def Nt(n:Int)(ks:U)(f:Nat->Prop):Nat->U->Prop
 |i,[]=>zH n ks->f i
 |i,k::r=>(n=k->f i)/\Nt n ks f (i+1) r
def tu(E:Env)(L:Nat->Option bO):Code->(Ex->St->Prop)->St->Prop
 |.skip,K,st=>K .norm st
 |.region _ ops d,K,st=>match auk E st ops.toList with
   |some (n,ks)=>Nt n ks (λi=>VK {E with JI:=i} K st ops.toList d) 0 ks
   |none=>VK E K st ops.toList d
 |.seq x y,K,st=>tu E L x (aFT K (tu E L y K)) st
 |.cond c x y,K,st=>match aEf E c x y st with
   |some (cs,bN)=>VI cs (K .norm bN)
   |none=>match ev st c with
    |.tt=>tu E L x K st
    |.ff=>tu E L y K st
    |.bool b=>(b=true->tu E L x K st)/\(b=false->tu E L y K st)
    |.tY _ l=>(l=[]->tu E L x K st)/\tu E L y K st
    |_=>False
 |.block id (.loop b),K,st=>match L id with
   |some A=>aeA (A.tied st) (BF b) (YM id K) (tu E L b) st
   |none=>False
 |.block id b,K,st=>tu E L b (YM id K) st
 |.exit i,K,st=>K (.exit i) st
 |.ret,K,st=>K .ret st
 |.scope c,K,st=>tu E L c K st
 |.label _,K,st=>K .norm st
 |_,_,_=>False
def St.init(G:Nat->Option GD)(n:Nat)(b:M AV):St:={t:=λi=>b.getD i .undef,h:=λ_=>none,cm:=[],news:=[],Ly:=[],n:=n,kb:=0,g:=G}
def nS(T:b9)(st:St):M ResultVar->Option (M AV)
 |[]=>some []
 |.tmp t::r=>match nS T st r with
   |some l=>some (st.t t::l)
   |none=>none
 |.cell a ty::r=>match st.t a with
   |.ref k off=>match ql T st.h ty (.ref k off),nS T st r with
     |some out,some l=>some (out.res::l)
     |_,_=>none
   |_=>none
def ie:M AV->AV
 |[a]=>a
 |as_=>.bk as_
def xf(s n:Nat)(l:M α):M (M α):=(List.range n).map λi=>(l.drop (i*s)).take s
def F5(h:aP)(r:M Ty)(l:M (Row r))(k:Nat):M Prop×M Nat:=match h k with
 |some (.views _ (some j) n m sz)=>match h j with
  |some (.row _ a bytes _)=>bif Nat.beq a.length 1 then(match fN [.slice a] r (xf sz n bytes) with
   |some g=>([m=n,g=l],[k,j])
   |none=>([False],[])) else([False],[])
  |_=>([False],[])
 |_=>(OL [] (λ_=>true) (jA h (.own k)).1 (.sl r l),(jA h (.own k)).2)
mutual
def Nu:AV->AV->M (Nat×Option Nat)
 |.own i,.own k=>[(i,some k)]
 |.own i,.nil=>[(i,none)]
 |.ref i _,.ref k _=>[(i,some k)]
 |.fn _ xs us,.fn _ Y vs=>vC xs Y++vC us vs
 |.agg xs,.agg Y|.bk xs,.bk Y=>vC xs Y
 |_,_=>[]
def vC:M AV->M AV->M (Nat×Option Nat)
 |x::xs,y::Y=>Nu x y++vC xs Y
 |_,_=>[]
end
mutual
def Ck(h:aP)(s:M (Nat×Option Nat)):AV->AV->M Prop×M Nat
 |.own i,.own k=>(match cz s i with
   |some (some j)=>bif Nat.beq k j then [] else [False]
   |_=>[False],[])
 |.own i,.nil=>(match cz s i with
   |some none=>[]
   |_=>[False],[])
 |.sl r l,.own k=>F5 h r l k
 |.agg xs,.agg Y|.bk xs,.bk Y=>vD h s xs Y
 |x,y=>(OL [] (λ_=>true) (jA h y).1 x,(jA h y).2)
def vD(h:aP)(s:M (Nat×Option Nat)):M AV->M AV->M Prop×M Nat
 |[],[]=>([],[])
 |x::xs,y::Y=>((Ck h s x y).1++(vD h s xs Y).1,(Ck h s x y).2++(vD h s xs Y).2)
 |_,_=>([False],[])
end
def OM(h:aP)(s:M (Nat×Option Nat)):Nat->M AB->M Prop
 |_,[]=>[]
 |i,b::bs=>(match cz s i with
  |some (some k)=>SA s (λ_=>true) (h k) b
  |some none=>match b with
   |.row _ _ l false=>[[]=l]
   |_=>[False]
  |none=>[False])++OM h s (i+1) bs
def ON(h:aP)(s:M (Nat×Option Nat)):Nat->M AB->M (Nat×Option Nat)
 |_,[]=>[]
 |i,.views _ (some j) _ _ _::bs=>(match cz s i with
  |some (some k)=>match h k with
   |some (.views _ (some J) _ _ _)=>[(j,some J)]
   |_=>[]
  |_=>[])++ON h s (i+1) bs
 |i,_::bs=>ON h s (i+1) bs
def uq(h:aP)(w r:AV)(b:M AB):M (Nat×Option Nat):=Nu w r++ON h (Nu w r) 0 b
def YO(T:b9)(st:St)(r:M ResultVar)(w:AV)(b:M AB):Prop:=match nS T st r with
 |none=>False
 |some as_=>bif kW (eU (uq st.h w (ie as_) b))&&((Ck st.h (uq st.h w (ie as_) b) w (ie as_)).2.all λk=>!aw (eU (uq st.h w (ie as_) b)) k)&&ly b.length b then
   LA ((Ck st.h (uq st.h w (ie as_) b) w (ie as_)).1++OM st.h (uq st.h w (ie as_) b) 0 b) else False
def aFU(T:b9)(r:M ResultVar)(w:AV)(b:M AB)(e:Ex)(st:St):Prop:=match e with
 |.norm|.ret=>YO T st r w b
 |_=>False
def LP(E:Env)(L:Nat->Option bO)(c:Code)(n:Nat)(r:M ResultVar)(b:M AV)(w:AV)(B:M AB):Prop:=
 bif Nat.ble b.length n then tu E L c (aFU E.T r w B) (St.init E.lM n b) else False
mutual
theorem oN(p:Nat->Bool){aC:Nat->Value}(cc:∀k,p k=false->aC k=β k):∀(a:AV) (v:Value),aa w A β v a->aa w A aC v (aG p a)
 |.db,_,h=>by simp[aG,aa]
 |.undef,_,h|.int _ _,_,h|.bool _,_,h|.tt,_,h|.ff,_,h|.str _,_,h|.nil,_,h|.lh,_,h|.tY _ _,_,h|.nb,_,h|.sl _ _,_,h|.full _ _,_,h|.dc _ _ _,_,h|.vc _ _,_,h=>by simpa only[aG,aa] using h
 |.own k,v,h=>by
   simp only[aG];cases hk:p k with
   |true=>simp[aa]
   |false=>simp only[N!];simpa only[aa,cc k hk] using h
 |.pre k n,v,h=>by
   simp only[aG];cases hk:p k with
   |true=>simp[aa]
   |false=>simp only[N!];simpa only[aa,cc k hk] using h
 |.view k sz off n,v,h=>by
   simp only[aG];cases hk:p k with
   |true=>simp[aa]
   |false=>simp only[N!];simpa only[aa,cc k hk] using h
 |.ref k off,v,h=>by
   simp only[aG];cases hk:p k with
   |true=>simp[aa]
   |false=>simp only[N!];simpa only[aa,cc k hk] using h
 |.elem k sz i j,v,h=>by
   simp only[aG];cases hk:p k with
   |true=>simp[aa]
   |false=>simp only[N!];simpa only[aa,cc k hk] using h
 |.agg cs,v,h=>by
   simp only[aG,aa] at h |-;obtain⟨y,H,q⟩:=h;exact⟨y,H,ig p cc cs _ q⟩
 |.jR ks cs,v,h=>by
   simp only[aG,aa] at h |-;obtain⟨b,es,C,H,q,z,B,D⟩:=h;exact⟨b,es,C,H,q,z,B,ig p cc cs _ D⟩
 |.bk cs,v,h=>by
   simp only[aG,aa] at h |-;obtain⟨y,H,q⟩:=h;exact⟨y,H,ig p cc cs _ q⟩
 |.fn f first bl,v,h=>by
   simp only[aG,aa] at h |-;obtain⟨F,I,H,q,z⟩:=h;exact⟨F,I,H,ig p cc first _ q,ig p cc bl _ z⟩
theorem ig(p:Nat->Bool){aC:Nat->Value}(cc:∀k,p k=false->aC k=β k):∀(as_:M AV) (vs:M Value),ae w A β vs as_->ae w A aC vs (fV p as_)
 |[],_,h=>by simpa only[fV,ae] using h
 |a::as_,vs,h=>by
  simp only[fV,ae] at h |-;obtain⟨v,c,H,q,z⟩:=h;exact⟨v,c,H,oN p cc a v q,ig p cc as_ c z⟩
end
def zY(p:Nat->Bool){k:Nat}(h:BR w A β k ab):BR w A β k (cw p ab):=by
 cases ab with
 |cells cs=>
  obtain⟨b,arr,e,f,q,z,B,F⟩:=h;exact⟨b,arr,e,f,q,z,ig p (λ_ _=>rfl) _ _ B,F⟩
 |row e row l fr=>exact h
 |arr row l=>exact h
 |bm _ _ _ _=>exact h
 |mp _ _ _=>exact h
 |fvar _ _=>exact h
 |eG e j xs i=>
  obtain⟨Y,f,q,z,B⟩:=h;refine⟨Y,f,q,z,λJ H=>B J ?_⟩;cases j with
  |none=>cases H
  |some D=>
   simp only[dP] at H;cases y:p D with
   |true=>rw[y] at H;cases H
   |false=>rw[y] at H;exact H
 |dO e j l=>cases j with
  |none=>exact h
  |some j=>
   simp only[cw];cases y:p j with
   |true=>
    obtain⟨xs,f,q,z⟩:=h;exact⟨xs,f,q,λ_ h=>by cases h⟩
   |false=>exact h
 |iE e j row l i=>
  obtain⟨xs,v,f,q,z,B⟩:=h;refine⟨xs,v,f,q,z,λJ H=>?_⟩;cases j with
  |none=>simp[dP] at H
  |some D=>
   simp only[dP] at H;cases y:p D with
   |true=>rw[y] at H;simp at H
   |false=>
    rw[y] at H;exact B J H
 |views e j n m sz=>
  obtain⟨xs,f,q,z⟩:=h;refine⟨xs,f,q,λJ H i I=>?_⟩;cases j with
  |none=>simp[dP] at H
  |some D=>
   simp only[dP] at H;cases y:p D with
   |true=>rw[y] at H;simp at H
   |false=>
    rw[y] at H;exact z J H i I
mutual
theorem dC(p q:Nat->Bool):∀a,aG q (aG p a)=aG (λk=>p k || q k) a
 |.own k=>by cases hk:p k<;>simp[aG,hk]
 |.pre k _|.view k _ _ _|.ref k _|.elem k _ _ _=>by cases hk:p k<;>simp[aG,hk]
 |.agg cs|.bk cs=>by simp[aG,fW p q cs]
 |.jR _ cs=>by simp[aG,fW p q cs]
 |.fn f first bl=>by simp[aG,fW p q first,fW p q bl]
 |.db|.undef|.int _ _|.bool _|.tt|.ff|.str _|.nil|.lh|.tY _ _|.nb|.sl _ _|.full _ _|.dc _ _ _|.vc _ _=>by simp[aG]
theorem fW(p q:Nat->Bool):∀as_,fV q (fV p as_)=fV (λk=>p k || q k) as_
 |[]=>rfl
 |a::as_=>by simp[fV,dC p q a,fW p q as_]
end
def nT(p q:Nat->Bool)(j:Option Nat):dP q (dP p j)=dP (λk=>p k || q k) j:=by
 cases j with
 |none=>rfl
 |some k=>cases h:p k<;>simp[dP,h]
theorem jv(p q:Nat->Bool)(b:AB):cw q (cw p b)=cw (λk=>p k || q k) b:=by
 cases b with
 |dO e j l=>cases j with
  |none=>rfl
  |some j=>cases h:p j<;>simp[cw,zD,h,dP]
 |_=>simp[cw,fW,nT]
theorem fX(p q:Nat->Bool)(b:Option AB):ca q (ca p b)=ca (λk=>p k || q k) b:=by
 cases b<;>simp[ca,jv]
mutual
theorem Tv(d:Nat):∀a,eT d a=aG (λk=>Nat.beq k d) a
 |.own k=>rfl
 |.pre k _|.view k _ _ _|.ref k _|.elem k _ _ _=>rfl
 |.agg cs|.bk cs=>by simp[eT,aG,py d cs]
 |.jR _ cs=>by simp[eT,aG,py d cs]
 |.fn f first bl=>by simp[eT,aG,py d first,py d bl]
 |.db|.undef|.int _ _|.bool _|.tt|.ff|.str _|.nil|.lh|.tY _ _|.nb|.sl _ _|.full _ _|.dc _ _ _|.vc _ _=>by simp[eT,aG]
theorem py(d:Nat):∀as_,gv d as_=fV (λk=>Nat.beq k d) as_
 |[]=>rfl
 |a::as_=>by simp[gv,fV,Tv d a,py d as_]
end
mutual
theorem ur:∀a,aG (λ_=>false) a=a
 |.own k=>rfl
 |.pre k _|.view k _ _ _|.ref k _|.elem k _ _ _=>rfl
 |.agg cs|.bk cs=>by simp[aG,kF cs]
 |.jR _ cs=>by simp[aG,kF cs]
 |.fn f first bl=>by simp[aG,kF first,kF bl]
 |.db|.undef|.int _ _|.bool _|.tt|.ff|.str _|.nil|.lh|.tY _ _|.nb|.sl _ _|.full _ _|.dc _ _ _|.vc _ _=>by simp[aG]
theorem kF:∀as_,fV (λ_=>false) as_=as_
 |[]=>rfl
 |a::as_=>by simp[fV,ur a,kF as_]
end
def SB(j:Option Nat):dP (λ_=>false) j=j:=by cases j<;>rfl
def E7(b:AB):cw (λ_=>false) b=b:=by
 cases b with
 |dO e j l=>cases j<;>rfl
 |_=>simp[cw,kF,SB]
def E8(b:Option AB):ca (λ_=>false) b=b:=by cases b<;>simp[ca,E7]
def gN:M (Nat×AB)->Nat->Bool
 |[],_=>false
 |(j,_)::r,k=>Nat.beq k j || gN r k
def rP:∀(n:M (Nat×AB)) (a:AV),mN n a=aG (gN n) a
 |[],a=>by
   have :gN []=λ_=>false:=rfl;rw[this,ur];rfl
 |(j,b)::r,a=>by
  simp only[mN];rw[rP r,Tv,dC];rfl
theorem xg(N:M (Nat×AB))(b:AB):bD N b=cw (gN N) b:=by
 induction N generalizing b with
 |nil=>
  have :gN []=λ_=>false:=rfl;rw[this,E7];rfl
 |cons x r I=>
  obtain⟨K,y⟩:=x;simp only[bD];rw[I];cases b with
  |cells cs=>simp only[mM,py,cw,fW];rfl
  |row _ _ _ _|arr _ _|bm _ _ _ _|fvar _ _|mp _ _ _=>rfl
  |dO e j l=>cases j with
   |none=>rfl
   |some j=>cases h:Nat.beq j K<;>simp[mM,zD,h,cw,dP,gN]
  |eG e j xs i=>
   have :uh K j=dP (λk=>Nat.beq k K) j:=by cases j<;>rfl
   simp only[mM,this,cw,nT];rfl
  |views e j n m sz=>
   have :uh K j=dP (λk=>Nat.beq k K) j:=by cases j<;>rfl
   simp only[mM,this,cw,nT];rfl
  |iE e j row l i=>
   have :uh K j=dP (λk=>Nat.beq k K) j:=by cases j<;>rfl
   simp only[mM,this,cw,nT];rfl
theorem zZ:∀(n:M (Nat×AB)) (k:Nat),gN n k=(ai n k).isSome
 |[],_=>rfl
 |(j,b)::r,k=>by
  simp only[gN,ai,zZ r k];cases Nat.beq k j<;>simp
structure fl (W:List Nat) (base s:St):Prop where
 rC:∃p,(∀k,p k=true->cT base.kb s.news k=true)/\(∀i,aw W i=false->s.t i=aG p (base.t i))/\
  ∀k,aw s.cm k=false->s.h k=ca p (base.h k)
 n:s.n=base.n
 kb:s.kb=base.kb
 cm:∀k,aw base.cm k=true->aw s.cm k=true
 news:∀k,cT base.kb base.news k=true->cT base.kb s.news k=true
 g:s.g=base.g
theorem dA:∀(a b:M Nat) (k:Nat),aw (a++b) k=(aw a k || aw b k)
 |[],_,_=>rfl
 |j::a,b,k=>by simp only[k?,aw,dA a b k,Bool.or_assoc]
theorem dy(kb:Nat):∀(a b:M KS) (k:Nat),cT kb (a++b) k=(cT kb a k || cT kb b k)
 |[],_,_=>rfl
 |j::a,b,k=>by simp only[k?,cT,dy kb a b k,Bool.or_assoc]
theorem fl.refl(W:M Nat)(s:St):fl W s s:=
 ⟨⟨λ_=>false,z!,λi _=>(ur _).symm,λk _=>(E8 _).symm⟩,rfl,rfl,λ_ h=>h,λ_ h=>h,rfl⟩
theorem fl.trans {W W':M Nat}{s s1 S:St}(H:fl W s s1)(f:fl W' s1 S):fl (W++W') s S:=by
 obtain⟨p,a,a2,a3⟩:=H.rC;obtain⟨q,b,B,z⟩:=f.rC;refine⟨⟨λk=>p k || q k,λk hk=>?_,λi y=>?_,λk hk=>?_⟩,f.n.trans H.n,f.kb.trans H.kb,λk h=>f.cm k (H.cm k h),λk h=>?_,f.g.trans H.g⟩;rcases Y? _ _ |>.mp hk with h|h;have:=f.news k (by rw[H.kb];exact a k h);rwa [H.kb] at this
 have:=b k h;rwa [H.kb] at this
 rw[dA,a?] at y;rw[B i y.2,a2 i y.1,dC]
 . have m:aw s1.cm k=false:=by
    cases h:aw s1.cm k with
    |false=>rfl
    |true=>rw[f.cm k h] at hk;cases hk
   rw[z k hk,a3 k m,fX]
 have:=f.news k (by rw[H.kb];exact H.news k h);rwa [H.kb] at this
theorem fl.mono{s:St}(h:fl W s s1)(H:∀i,aw W' i=false->aw W i=false):fl W' s s1:=by
 obtain⟨p,a,A,f⟩:=h.rC;exact⟨⟨p,a,λi k=>A i (H i k),f⟩,h.n,h.kb,h.cm,h.news,h.g⟩
def Tw(kb:Nat):∀(n:M (Nat×AB)) (k:Nat),cT kb (n.map λx=>KS.one x.1) k=gN n k
 |[],_=>rfl
 |(j,b)::r,k=>by simp only[G?,cT,gN,KS.has,Tw kb r k]
theorem jD:∀(l:M (Nat×AB)) (k:Nat),aw (l.map (·.1)) k=false->ai l k=none
 |[],_,_=>rfl
 |(j,b)::r,k,h=>by
  simp only[G?,aw,a?] at h;simp only[ai,h.1,N!];exact jD r k h.2
theorem fl.put(st:St)(d:Option Nat)(out:Out)(W:M Nat)(hd:∀t,d=some t->aw W t=true):fl W st (st.put d out):=by
 refine⟨⟨gN out.new,λk hk=>?_,λi H=>?_,λk hk=>?_⟩,rfl,rfl,λk hk=>?_,λk hk=>?_,rfl⟩;show cT st.kb (st.news++_) k=true;rw[dy,Tw,hk];simp
 . cases d with
   |none=>exact rP _ _
   |some t=>
    show(bif Nat.beq i t then out.res else mN out.new (st.t i))=_;have :Nat.beq i t=false:=aO (λh=>by subst h;rw[hd i rfl] at H;cases H);rw[this];exact rP _ _
 . have g:aw (out.hX.map (·.1)) k=false/\aw out.del k=false/\aw (out.new.map (·.1)) k=false:=by
    simp only[St.put,dA,a?] at hk;exact⟨hk.1,hk.2.1,hk.2.2.1⟩
   show vf st.h out k=_;simp only[vf,jD _ _ g.2.2,g.2.1,N!,jD _ _ g.1];cases st.h k with
   |none=>rfl
   |some b=>simp only[ca,xg]
 simp only[St.put,dA,hk,Bool.or_true];show cT st.kb (st.news++_) k=true;rw[dy,hk];rfl
def YP(b:Bool){k:Nat}{x y:Option AB}(h:Hp b x y=some ab):(if b then x else y).isSome/\
  ∀c,(if b then x else y)=some c->BR w A β k c->BR w A β k ab:=by
 unfold Hp at h;split at h
 . rename_i xs Y;cases z:Nat.beq xs.length Y.length with
   |false=>simp[z] at h
   |true=>
    simp only[z,K!,A!] at h;subst h;refine⟨by cases b<;>rfl,λc B H=>?_⟩;have t:c= .cells (if b then xs else Y):=by cases b<;>simp_all
    subst t;obtain⟨g,a,e,F,I,J,M,N⟩:=H;refine⟨g,a,e,F,I,J,kB b xs Y _ (D! z) ?_,N⟩;cases b<;>simpa using M
 . rename_i e r l O E X m R;split at h
   . rename_i Z f;cases q:(Nat.beq e E&&(O==R)) with
     |false=>simp[q] at h
     |true=>
      simp only[q,cond_true,Option.some.injEq] at h;subst h;simp only[Bool.and_eq_true,beq_iff_eq] at q;have U:=Nat.eq_of_beq_eq_true q.1;have V:=q.2;subst U;subst V;unfold fN at f;split at f;rename_i H;have D:=Ty.atG _ _ H;subst D;simp only[Option.some.injEq] at f;subst f;refine⟨by cases b<;>rfl,λc B H=>?_⟩;cases b<;>(simp at B;subst B;exact H);cases f
   cases h
 cases h
theorem aq.merge {b:Bool}{B q s1 s:St}{a:Act}(z:yM b W base s1 s=some m)
  (I:fl W B s1) (e:∀i,aw W i=false->B.t i=base.t i) (g1:B.h=base.h) (j:B.n=base.n) (V:B.kb=base.kb)
  (J:fl W q s) (E:∀i,aw W i=false->q.t i=base.t i) (g2:q.h=base.h) (l:q.n=base.n) (X:q.kb=base.kb) (H:aq C A β (if b then s1 else s) a w) (o:B.g=base.g:=by rfl) (r:q.g=base.g:=by rfl):aq C A β m a w:=by
 unfold yM at z;split at z
 . simp only[A!] at z;subst z
   have u:∀i,aw W i=false->∀v,aa w A β v ((if b then s1 else s).t i)->aa w A β v (aG (cT base.kb (s1.news++s.news)) (base.t i)):=by
    intro i hi v h;have h':=oN (aC:=β) (cT base.kb (s1.news++s.news)) (λ_ _=>rfl) _ _ h;obtain⟨p,N,a2,_⟩:=I.rC;obtain⟨P,c1,c2,_⟩:=J.rC;cases b with
    |true=>
     simp only[Q?,a2 i hi,e i hi,dC] at h'
     have :(λk=>p k || cT base.kb (s1.news++s.news) k)=cT base.kb (s1.news++s.news):=by
      funext k;cases f:p k with
      |false=>rfl
      |true=>rw[dy,<-V,N k f];rfl
     rwa [this] at h'
    |false=>
     simp only[c?,r?,c2 i hi,E i hi,dC] at h'
     have :(λk=>P k || cT base.kb (s1.news++s.news) k)=cT base.kb (s1.news++s.news):=by
      funext k;cases f:P k with
      |false=>rfl
      |true=>rw[dy,<-X,c1 k f];simp
     rwa [this] at h'
   have G:∀k,aw (s1.cm++s.cm) k=false->∀ab,ca (cT base.kb (s1.news++s.news)) (base.h k)=some ab->∃c,(if b then s1 else s).h k=some c/\(BR w A β k c->BR w A β k ab):=by
    intro k D ab h;rw[dA,a?] at D;obtain⟨p,N,_,a3⟩:=I.rC;obtain⟨P,c1,_,L⟩:=J.rC;cases M:base.h k with
    |none=>rw[M] at h;simp[ca] at h
    |some x=>
     rw[M] at h;simp only[ca,A!] at h;subst h;cases b with
     |true=>
      refine⟨cw p x,by simp only[Q?,a3 k D.1,g1,M,ca],λF=>?_⟩;have h':=zY (cT base.kb (s1.news++s.news)) F;rw[jv] at h'
      have :(λk=>p k || cT base.kb (s1.news++s.news) k)=cT base.kb (s1.news++s.news):=by
       funext k;cases f:p k with
       |false=>rfl
       |true=>rw[dy,<-V,N k f];rfl
      rwa [this] at h'
     |false=>
      refine⟨cw P x,by simp only[c?,r?,L k D.2,g2,M,ca],λF=>?_⟩;have h':=zY (cT base.kb (s1.news++s.news)) F;rw[jv] at h'
      have :(λk=>P k || cT base.kb (s1.news++s.news) k)=cT base.kb (s1.news++s.news):=by
       funext k;cases f:P k with
       |false=>rfl
       |true=>rw[dy,<-X,c1 k f];simp
      rwa [this] at h'
   have Y:∀k ab,(bif aw (s1.cm++s.cm) k then Hp b (s1.h k) (s.h k) else ca (cT base.kb (s1.news++s.news)) (base.h k))=some ab->
     ∃c,(if b then s1 else s).h k=some c/\(BR w A β k c->BR w A β k ab):=by
    intro k ab h;cases hd:aw (s1.cm++s.cm) k with
    |false=>rw[hd] at h;exact G k hd ab h
    |true=>
     rw[hd] at h;simp only[K!] at h;obtain⟨Q,S⟩:=YP (w:=w) (A:=A) (β:=β) (k:=k) b h;obtain⟨c,y⟩:=Z!.1 Q;refine⟨c,by cases b<;>simpa using y,S c y⟩
   have O:∀k,(bif aw (s1.cm++s.cm) k then Hp b (s1.h k) (s.h k) else ca (cT base.kb (s1.news++s.news)) (base.h k)).isSome->((if b then s1 else s).h k).isSome:=by
    intro k D;obtain⟨ab,K⟩:=Z!.1 D;obtain⟨c,y,_⟩:=Y k ab K;simp[y]
   refine⟨H.defers,?_,?_,?_,λk Z R U T=>H.apart k Z R (O k U) (O Z T),H.bound,H.frame,H.gG,H.base,λk R U=>H.om k R (O k U),λi d hd=>H.qo i d (by
    cases b;exact(congrFun (J.g.trans r) i).trans hd;exact(congrFun (I.g.trans o) i).trans hd),H.laid,H.held⟩
   rw[H.size];cases b;exact J.n.trans l;exact I.n.trans j
   . intro i;have hi:=H.tmps i;show aa w A β _ (bif aw W i then Ho b (s1.t i) (s.t i) else _);cases hW:aw W i with
     |false=>exact u i hW _ hi
     |true=>
      refine EY b _ _ ?_;cases b<;>simpa using hi
   intro k ab K;obtain⟨c,y,F⟩:=Y k ab K;exact F (H.blocks k c y)
 cases z
theorem fl.merge{s:St}(h:yM b W base s1 s=some m):fl W base m:=by
 unfold yM at h;split at h;simp only[Option.some.injEq] at h;subst h;refine⟨⟨cT base.kb (s1.news++s.news),λk hk=>?_,λi hi=>?_,λk hk=>?_⟩,rfl,rfl,λk hk=>?_,λk hk=>?_,rfl⟩;simp only[dy] at hk |-;simp[hk];simp only[hi,cond_false];simp only[dA,Bool.or_eq_false_iff] at hk;simp only[dA,hk.1.1,hk.1.2,Bool.or_self,cond_false];simp only[dA,hk,Bool.or_true];simp only[dy,hk,Bool.true_or];cases h
def iV(s r:St):Prop:=s.t=r.t/\s.h=r.h/\s.n=r.n/\s.kb=r.kb/\s.g=r.g
theorem iV.refl(s:St):iV s s:=⟨rfl,rfl,rfl,rfl,rfl⟩
theorem iV.symm {s r:St}(h:iV s r):iV r s:=⟨h.1.symm,h.2.1.symm,h.2.2.1.symm,h.2.2.2.1.symm,h.2.2.2.2.symm⟩
theorem iV.trans {s r q:St}(h:iV s r)(g:iV r q):iV s q:=⟨h.1.trans g.1,h.2.1.trans g.2.1,h.2.2.1.trans g.2.2.1,h.2.2.2.1.trans g.2.2.2.1,h.2.2.2.2.trans g.2.2.2.2⟩
def jX(g:Bool)(d:Option Nat)(st:St):St:=match d with
 |some d=>bif g then {st with t:=λi=>bif Nat.beq i d then OK (st.t i) else st.t i} else st
 |none=>st
structure kG (E:Env) (ops:List Oper) (e:Ev) (s s':St):Prop where
 op:ops[e.i]? =some e.o
 dst:fR s e.o=true
 kr:e.kr=lN E s e.o
 step:match e.out with
  |none=>OH ops s.t e.o=some false
  |some out=>OH ops s.t e.o=some true/\act E s e.o=some out/\lp s.h out.new=true/\∀p∈out.cond,p
 next :iV s' (jX (mo ops e.i) e.o.dst (s.put e.o.dst e.cn))
def yN(E:Env)(ops:M Oper):M Ev->St->St->Prop
 |[],s,s'=>iV s' s
 |e::es,s,s'=>∃s1,kG E ops e s s1/\yN E ops es s1 s'
def VL(kb:Nat)(ops:M Oper):M Ev->M Ev->Prop
 |_,[]=>True
 |t,f::es=>lO kb true ops t f=true/\f.pre=pw t f.o.after.toList/\VL kb ops (f::t) es
theorem aq.seq(H:aq C A β s a w)(h:iV r s):aq C A β r a w:=by
 have⟨h1,f,k,y,q⟩:=h;refine⟨H.defers,by rw[k];exact H.size,by rw[h1];exact H.tmps,by rw[f];exact H.blocks,by rw[f];exact H.apart,H.bound,H.frame,H.gG,H.base,by rw[f];exact H.om,by rw[q];exact H.qo,H.laid,H.held⟩
def ajW(h:aa w A β v x):aa w A β v (OK x):=by
 cases x<;>grind[bool,OK,aa]
theorem aq.lit(g:Bool)(d:Option Nat)(h:aq C A β st a w):aq C A β (jX g d st) a w:=by
 cases d with
 |none=>exact h
 |some d=>
  cases g with
  |false=>exact h
  |true=>
   refine⟨h.defers,h.size,λi=>?_,h.blocks,h.apart,h.bound,h.frame,h.gG,h.base,h.om,h.qo,h.laid,h.held⟩;show aa w A β _ (bif Nat.beq i d then OK _ else st.t i);cases Nat.beq i d with
   |false=>exact h.tmps i
   |true=>exact ajW (h.tmps i)
def iV.jX {s r:St}(h:iV s r)(g:Bool)(d:Option Nat):iV (jX g d s) (jX g d r):=by
 have⟨q,H,f,k⟩:=h;cases d with
 |none=>exact⟨q,H,f,k⟩
 |some d=>
  cases g with
  |false=>exact⟨q,H,f,k⟩
  |true=>exact⟨by simp_all[Vg.jX,K!],H,f,k⟩
theorem getD_some {a:Array Value}(h:a.getD i undef=v)(H:v≠undef):a[i]? =some v:=by
 rw[Array.getD_eq_getD_getElem?] at h;grind
def Tx(k:aq C A β st a w){x:Bool}(h:OH ops.toList st.t o=some x):Region.wanted o (yielded ops a.tmps)=x:=by
 unfold OH at h;unfold Region.wanted;cases q:o.guard with
 |none=>grind
 |some J=>
  obtain⟨j,W⟩:=J;rw[q] at h;simp only at h |-;unfold F4 at h;cases y:ops[j]? with
  |none=>grind
  |some O=>
   cases hd:O.dst with
   |none=>grind
   |some g=>
    have H:=k.tmps g;cases f:st.t g with
    |tt=>
     rw[f] at H;have:=getD_some H (by simp[undef])
     simp_all[yielded,Option.bind_some]
    |ff=>
     rw[f] at H;have:=getD_some H (by simp[undef])
     simp_all[yielded,Option.bind_some]
    |undef=>
     rw[f] at H;have :yielded ops a.tmps j=none:=by
      simp only[yielded,y,hd,Option.bind_some];cases hx:a.tmps[g]? with
      |none=>rfl
      |some v=>
       rw[H?,hx] at H;subst H;rfl
     grind
    |_=>grind
def aq.an1(h:aq C A β st a w)(H:∀t,d=some t->t<st.n):aq C A β (st.put d .skip) (a.put d undef) w:=
 h.pure H (by rfl)
def ajX(h:fR st o=true):∀t,o.dst=some t->t<st.n:=by
 intro t H;simp_all[fR,L!]
variable {e f:Ev}{x:Operand}
theorem uu(q:dU P C E)(h:kG E ops.toList e s s')(y:Rel C s a w)
  (H:∀k w',Rel C s' k w'->K k w'):wpOp P ops Q e.i K a w:=by
 have⟨A,β,hB⟩:=y;have z:ops[e.i]? =some e.o:=by have:=h.op;grind
 unfold wpOp;simp[z];have v:=h.step;have O:=h.next;unfold Ev.cn at O;cases W:e.out with
 |none=>
  rw[W] at v O;rw[Tx hB v];exact H _ _ ⟨A,β,((hB.an1 (ajX h.dst)).lit _ _).seq O⟩
 |some out=>
  rw[W] at v O;have⟨h1,B,D,F⟩:=v;rw[Tx hB h1];refine .inl (ķ q hB B h.dst D F λk w' I=>?_);have⟨A',aC,S⟩:=I;exact H _ _ ⟨A',aC,(S.lit _ _).seq O⟩
def Cm(H:dU P C E){ops:Array Oper}{Q:Exit->Act->World->Prop}:∀(es:M Ev) (s s':St) (a:Act) (w:World),yN E ops.toList es s s'->Rel C s a w->
  (∀k w',Rel C s' k w'->Q .normal k w')->wpOps P ops Q (es.map (·.i)) a w
 |[],s,s',a,w,hx,hR,h=>by
   have⟨A,β,q⟩:=hR;exact h _ _ ⟨A,β,q.seq hx⟩
 |e::es,s,s',a,w,hx,hR,h=>by
  have⟨s1,y,z⟩:=hx;exact uu H y hR λk w' B=>Cm H es s1 s' k w' z B h
theorem yO:∀(P:M Prop),LA P->∀p∈P,p
 |[],_,p,hp=>by grind
 |[q],h,p,hp=>by
   rcases List.mem_cons.1 hp with rfl|hp;exact h;grind
 |q::r::rs,h,p,hp=>by
  rcases O!.1 hp with rfl|hp;exact h.1;exact yO _ h.2 p hp
def DZ{r R:Option (M Prop×St)}(h:both b W base r R=some (cs,m)):
  ∃c s1 C s,r=some (c,s1)/\R=some (C,s)/\yM b W base s1 s=some m/\cs=Nq b c C:=by
 unfold both at h;grind
def LQ{c C:M Prop}(h:∀p∈Nq b c C,p):(b=true->∀p∈c,p)/\(b=false->∀p∈C,p):=by
 unfold Nq at h;grind[List.mem_cons_self,yO]
def aVw {c:M Prop}{r:Option (M Prop×St)}(h:DV c r=some (cs,m)):∃C,r=some (C,m)/\cs=c++C:=by
 unfold DV at h;grind
def YQ {d:Nat}(h:st.t d= .bool b):iV (st.lit d (bif b then .tt else .ff)) (jX true (some d) st):=by
 refine⟨?_,rfl,rfl,rfl,rfl⟩;funext i;simp[St.lit,jX,K!];by_cases hi:i=d;simp_all[hi,cY,K!,OK]
 simp_all[aO,hi,N!]
theorem YR {d:Nat}(h:∀b,st.t d≠ .bool b):iV st (jX true (some d) st):=by
 refine⟨?_,rfl,rfl,rfl,rfl⟩;funext i;simp[jX,K!];by_cases hi:i=d
 . subst hi;simp;cases H:st.t i with
   |bool b=>grind
   |_=>rfl
 simp_all[aO,hi,N!]
def Ĺ{W:M Nat}{cs:M Prop}{m:St}(h:fork g W d st next=some (cs,m))
  (H:∀S c s,next S=some (c,s)->fl W S s) (k:∀i,aw W' i=false->aw W i=false) (y:∀t,d=some t->aw W' t=true):fl W' st m:=by
 unfold fork at h;cases d with
 |none=>exact(H _ _ _ h).mono k
 |some d=>
  simp at h;cases g with
  |false=>exact(H _ _ _ h).mono k
  |true=>
   split at h;obtain⟨C,s1,z,B,r,R,q,rfl⟩:=DZ h;refine(fl.merge q).mono λi D=>?_;grind[aw,Bool.or_eq_false_iff,aO];exact(H _ _ _ h).mono k
def ajY{cs:M Prop}{m:St}(h:fork g W d st next=some (cs,m))(E:∀p∈cs,p)
  (q:∀S c s,next S=some (c,s)->fl W S s):
  ∃S c s,iV S (jX g d st)/\next S=some (c,s)/\(∀p∈c,p)/\(∀(C:Ctx) A β a w,aq C A β s a w->aq C A β m a w):=by
 unfold fork at h;cases d with
 |none=>exact⟨st,cs,m,iV.refl _,h,E,λ_ _ _ _ _ k=>k⟩
 |some d=>
  simp at h;cases g with
  |false=>exact⟨st,cs,m,iV.refl _,h,E,λ_ _ _ _ _ k=>k⟩
  |true=>
   split at h;rename_i b z;obtain⟨B,s1,D,F,r,R,I,rfl⟩:=DZ h;have y:=LQ E
   have e:∀x,∀i,aw (d::W) i=false->(st.lit d x).t i=st.t i:=by
    intro x i H;simp[aw,a?] at H;simp[St.lit,H.1,N!]
   refine⟨st.lit d _,if b then B else D,if b then s1 else F,YQ z,?_,?_,λC A β a w k=>?_⟩;cases b;exact R;exact r;cases b;exact y.2 rfl;exact y.1 rfl
   exact k.merge I ((q _ _ _ r).mono λi H=>by simp[aw,a?] at H;exact H.2) (e _) rfl rfl rfl
    ((q _ _ _ R).mono λi H=>by simp[aw,a?] at H;exact H.2) (e _) rfl rfl rfl
   grind[YR]
def J1:∀t,o.dst=some t->aw (eI (o::rest)) t=true:=by
 simp_all[eI,aw,cY,Bool.true_or]
theorem F6:∀i,aw (eI (o::rest)) i=false->aw (eI rest) i=false:=by
 grind[hi,eI,aw,Bool.or_eq_false_iff]
theorem pz {dr:Bool}{ops:M Oper}:∀(rest:M Oper) (i:Nat) (t:M Ev) (st:St) (cs:M Prop) (m:St),xe E dr ops i t rest st=some (cs,m)->fl (eI rest) st m
 |[],i,t,st,cs,m,h=>by
   grind[xe,Option.some.injEq,Prod.mk.injEq,fl.refl]
 |o::rest,i,t,st,cs,m,h=>by
  have a:∀W i,aw W i=false->aw (W++W) i=false:=λW i q=>by grind[dA]
  simp[xe] at h;split at h;cases h
  . cases H:(fR st o&&lO st.kb dr ops t ⟨i,o,none,lN E st o,pw t o.after.toList⟩) with
    |false=>grind
    |true=>
     simp[H,K!] at h;have:=pz rest _ _ _ _ _ h;exact((fl.put st o.dst .skip _ J1).trans (this.mono F6)).mono (a _)
  . split at h;cases h
    . rename_i out B;cases H:(fR st o&&(lp st.h out.new&&lO st.kb dr ops t ⟨i,o,some out,lN E st o,pw t o.after.toList⟩)) with
      |false=>grind
      |true=>
       simp[H,K!] at h;have⟨C,h',_⟩:=aVw h;have:=Ĺ h' (λS c s k=>pz rest _ _ _ _ _ k) F6 J1;exact((fl.put st o.dst out _ J1).trans this).mono (a _)
theorem VM:iV (jX g d (st.put d .skip)) (st.put d .skip):=by
 cases d with
 |none=>exact iV.refl _
 |some d=>
  cases g with
  |false=>exact iV.refl _
  |true=>
   refine⟨?_,rfl,rfl,rfl,rfl⟩;funext i;simp[jX,K!,St.put,Out.skip];by_cases hi:i=d;simp_all[hi,cY,K!,OK]
   simp_all[aO,hi,N!]
theorem OP{ops:M Oper}{t:M Ev}(h:lO kb dr ops t f=true)(H:dr=true):lO kb true ops t f=true:=by grind
def vE {dr:Bool}{ops:M Oper}:∀(rest:M Oper) (i:Nat) (t:M Ev) (st:St) (cs:M Prop) (m:St),xe E dr ops i t rest st=some (cs,m)->(∀p∈cs,p)->
  (∀k,rest[k]? =ops[i+k]?)->
  ∃es S,yN E ops es st S/\es.map (·.i)=List.range' i rest.length/\(dr=true->VL st.kb ops t es)/\∀(C:Ctx) A β a w,aq C A β S a w->aq C A β m a w
 |[],i,t,st,cs,m,h,e,y=>by
   simp[xe,Option.some.injEq,Prod.mk.injEq] at h;exact⟨[],st,iV.refl _,rfl,λ_=>trivial,λ_ _ _ _ _ N=>by grind⟩
 |o::rest,i,t,st,cs,m,h,e,y=>by
  have O:ops[i]? =some o:=by simpa using(y 0).symm
  have l:∀k,rest[k]? =ops[i+1+k]? :=λk=>by have:=y (k+1);grind
  simp[xe] at h;split at h;cases h
  . rename_i z;cases H:(fR st o&&lO st.kb dr ops t ⟨i,o,none,lN E st o,pw t o.after.toList⟩) with
    |false=>grind
    |true=>
     simp[H,cond_true] at h;rw[Bool.and_eq_true] at H;have⟨es,S,B,R,D,F⟩:=vE rest _ _ _ _ _ h e l;refine⟨⟨i,o,none,lN E st o,pw t o.after.toList⟩::es,S,⟨st.put o.dst .skip,⟨O,H.1,rfl,z,VM.symm⟩,B⟩,?_,λq=>⟨OP H.2 q,rfl,D q⟩,F⟩;grind[List.length_cons,List.range'_succ]
  . rename_i z;split at h;cases h
    . rename_i out b;cases H:(fR st o&&(lp st.h out.new&&lO st.kb dr ops t ⟨i,o,some out,lN E st o,pw t o.after.toList⟩)) with
      |false=>grind
      |true=>
       simp[H,K!] at h;rw[B!,B!] at H;obtain⟨d,h',rfl⟩:=aVw h;have⟨I,c,s,U,V,X,Y⟩:=ajY h' (λp J=>e p (U! _ J)) (λI c s Z=>pz rest _ _ _ _ _ Z);have⟨es,S,B,R,D,F⟩:=vE rest _ _ _ _ _ V X l;refine⟨⟨i,o,some out,lN E st o,pw t o.after.toList⟩::es,S,⟨I,⟨O,H.1,rfl,⟨z,b,H.2.1,λp J=>e p (T! _ J)⟩,U⟩,B⟩,?_,λq=>⟨OP H.2.2 q,rfl,by have:=D q;rw[show I.kb=st.kb from U.2.2.2.1.trans (by cases o.dst<;>cases mo ops i<;>rfl)] at this;exact this⟩,λC A β a w N=>Y _ _ _ _ _ (F _ _ _ _ _ N)⟩;rw[G?,R,M?,List.range'_succ]
theorem LS{i:Nat}{rest:M Nat}{o:Oper}(h:ops[i]? =some o)(H:o.guard=none)(k:o.wp P a w (wpOps P ops Q rest) Q):wpOps P ops Q (i::rest) a w:=by
 simp_all[wpOps,Q!,Region.wanted]
structure aeE (w w':World) (es:Array MapEntry) (ck:Nat):Prop where
 os:w'.os=w.os
 tape:w'.tape=w.tape
 output:w'.output=w.output
 size:w'.heap.size=w.heap.size+1
 same:∀b,b<w.heap.size->w'.heap[b]? =w.heap[b]?
 there:w'.heap[w.heap.size]? =some (.map es ck)
variable {d:Nat}
def ĺ{k:Int}(h:VG d o=some (t,k,x)):o.op= .insert t (.tmp d) (.const (.int .i64 k)) x/\o.dst=none/\o.guard=none:=by
 unfold VG at h;split at h;rename_i T D K X H q y;cases z:Nat.beq D d<;>simp_all;grind
theorem H7(st:St)(t d:Nat):∀r,(ez st t d r).2.2=r.drop (ez st t d r).1.length/\(ez st t d r).1.length<=r.length
 |[]=>⟨rfl,M! _⟩
 |o::r=>by
  simp[ez];split
  . rename_i T k x h;cases H:(Nat.beq T t&&DW d x&&decide (lo .i64<=k/\k<=hi .i64)) with
    |false=>grind
    |true=>
     simp_all[H7,K!,M?,List.drop_succ_cons]
  grind
theorem LU(st:St)(t d:Nat):∀r,(ez st t d r).2.1.length=(ez st t d r).1.length
 |[]=>rfl
 |o::r=>by
  simp only[ez];split
  . rename_i T k x h;cases H:(Nat.beq T t&&DW d x&&decide (lo .i64<=k/\k<=hi .i64)) with
    |false=>rfl
    |true=>simp_all[K!,M?,LU]
  rfl
theorem xh {T:b9}{ops:M Oper}(h:zX T st ops=some (d,ks,vs,rest)):
  ∃o r t q k e,ops=o::r/\o.op= .makeMap t none/\o.dst=some d/\o.guard=none/\T.find t=some q/\q.desc= .map k e/\cW T k xU=true/\gY ks=true/\d<st.n/\ez st t d r=(ks,vs,rest):=by
 cases ops with
 |nil=>grind[zX]
 |cons o r=>
  simp[zX] at h;split at h
  . rename_i t D y z B;split at h
    . rename_i q j;split at h
      . rename_i k e F;cases H:(cW T k xU&&gY (ez st t D r).1&&Nat.blt D st.n) with
        |false=>grind
        |true=>
         rw[H] at h;simp at h;obtain⟨rfl,h⟩:=h;simp only[Bool.and_eq_true] at H;exact⟨o,r,t,q,k,e,rfl,y,z,B,j,F,H.1.1,x!,Nat.le_of_ble_eq_true H.2,h⟩
      grind
    grind
  grind
def H9 {T:b9}{ops:M Oper}(h:zX T st ops=some (d,ks,vs,rest)):rest=ops.drop (ks.length+1):=by
 grind[xh,H7]
def YS {T:b9}{ops:M Oper}(h:zX T st ops=some (d,ks,vs,rest)):vs.length=ks.length:=by
 grind[xh,LU]
def LV {k:Int}:∀ {l:U},gY (l++[k])=true->k∉l
 |[],_=>by simp
 |j::l,h=>by
  simp[k?,gY,B!,K?] at h;rintro(_|q);have :NV k (l++[k])=true:=(uS _ _).2 z!;rw[this] at h;cases h.1;exact(LV h.2) (by assumption)
def OQ:∀ {l m:U},gY (l++m)=true->gY l=true
 |[],_,_=>rfl
 |j::l,m,h=>by
  simp[k?,gY,B!,K?] at h |-;refine⟨?_,OQ h.2⟩;cases q:NV j l with
  |false=>rfl
  |true=>rw[(uS _ _).2 (T! _ ((uS _ _).1 q))] at h;cases h.1
theorem Ia:∀(as_:M AV) (vs:M Value) (x:AV) (v:Value),ae w A β vs as_->aa w A β v x->ae w A β (vs++[v]) (as_++[x])
 |[],vs,x,v,h,hx=>by
   grind[ae]
 |a::as_,vs,x,v,h,hx=>by
  obtain⟨u,c,rfl,H,k⟩:=h;exact⟨u,c++[v],rfl,H,Ia as_ c x v k hx⟩
def ajZ(h:DW d x=true):(a.put (some d) v).eval x=a.eval x:=by
 cases x with
 |tmp i=>
  simp[DW,Bool.not_eq_true'] at h;have :i≠d:=by grind[cY]
  simp only[Act.eval,Act.put];rw[Array.getD_eq_getD_getElem?,Array.getD_eq_getD_getElem?,Array.getElem?_setIfInBounds];grind
 |_=>rfl
theorem YT {T:b9}(Z:bM T P)(H:aq C A β st a w){ops:Array Oper}{Q:Exit->Act->World->Prop}{d t y E:Nat}(f:d<st.n)(N:P.underlying t=some (.map y E))(Y:P.underlying y=some (.int .i64)):
  ∀(r:M Oper) (i:Nat) (es:Array MapEntry) (c:Nat) (w':World) (K:U) (q:M AV),(∀k,r[k]? =ops[i+k]?)->aeE w w' es c->es.toList.map (·.key)=K.map (Value.int .i64)->ae w A β (es.toList.map (·.val)) q->
   gY (K++(ez st t d r).1)=true->
   (∀V z B,aeE w V z B->z.toList.map (·.key)=(K++(ez st t d r).1).map (Value.int .i64)->ae w A β (z.toList.map (·.val)) (q++(ez st t d r).2.1)->
     wpOps P ops Q (List.range' (i+(ez st t d r).1.length) (ez st t d r).2.2.length) (a.put (some d) (.map (some w.heap.size))) V)->
   wpOps P ops Q (List.range' i r.length) (a.put (some d) (.map (some w.heap.size))) w'
 |[],i,es,c,w',K,q,_,hm,hk,g,_,D=>by
   grind[ez]
 |o::r,i,es,c,w',K,q,O,hm,hk,g,R,D=>by
  have s:ez st t d (o::r)=([],[],o::r)->wpOps P ops Q (List.range' i (o::r).length) (a.put (some d) (.map (some w.heap.size))) w':=by
   grind
  cases X:VG d o with
  |none=>grind[ez]
  |some p=>
   have⟨F,k,x⟩:=p;cases h:(Nat.beq F t&&DW d x&&decide (lo .i64<=k/\k<=hi .i64)) with
   |false=>exact s (by simp only[ez,X,h,N!])
   |true=>
    have e:ez st t d (o::r)=(k::(ez st t d r).1,ev st x::(ez st t d r).2.1,(ez st t d r).2.2):=by simp_all[ez,K!]
    have⟨j,l,u⟩:=ĺ X;simp only[B!] at h;have I:=D! h.1.1;subst I;rw[e] at R D;simp only at R D;have G:ops[i]? =some o:=by simpa using(O 0).symm
    have L:∀k,r[k]? =ops[i+1+k]? :=λk=>by have:=O (k+1);grind
    have S:k∉K:=LV (OQ (m:=(ez st F d r).1) x!);have hx:=aM H x;have eH:d<a.tmps.size:=by rw[H.size];omega
    have J:(a.put (some d) (.map (some w.heap.size))).eval (.tmp d)= .map (some w.heap.size):=by
     simp_all[Act.eval,Act.put]
    have iQ:(Instr.mapUpdate F (.map (some w.heap.size)) (.int .i64 k) (a.eval x)).run P w'= .ok () {w' with heap:=w'.heap.setIfInBounds w.heap.size (.map (es.push {key:=.int .i64 k,val:=a.eval x,born:=c}) (c+1))}:=by
     have W:(Instr.checkKey false 10000 y (.int .i64 k)).run P w'= .ok () w':=MapKept.run_checkKey Y (by rfl) false 9999;simp[Instr.mapUpdate,run_underlying N,MapKept.run_getObj_map hm.there,W,MapKept.run_findKey Y (sr k es.toList K 0 hk S),MapKept.run_setObj_map _ hm.there,Result.andThen]
    have YK:∀(v:Value) (b:Act),b.put none v=b:=λ_ _=>rfl;refine(LS G u ?_);refine pP (w':={w' with heap:=w'.heap.setIfInBounds w.heap.size (.map (es.push {key:=.int .i64 k,val:=a.eval x,born:=c}) (c+1))}) ?_ ?_;simp only[execOp,j,J,ajZ h.1.2];have :(a.put (some d) (.map (some w.heap.size))).eval (.const (.int .i64 k))= .int .i64 k:=rfl;simp_all
    rw[l,YK];refine YT Z H f N Y r (i+1) (es.push {key:=.int .i64 k,val:=a.eval x,born:=c}) (c+1) _ (K++[k]) (q++[ev st x]) L ⟨hm.os,hm.tape,hm.output,?_,?_,?_⟩ ?_ ?_ x! ?_;simp[hm.size];intro b fw;rw[(MapKept.heap_set hm.there).2 b w!];exact hm.same b fw;exact(MapKept.heap_set hm.there).1;grind;grind[Array.toList_push,Ia];grind
def YU {T:b9}(y:bM T P){rest:M Oper}{d:Nat}{ks:U}{vs:M AV}(h:zX T st ops.toList=some (d,ks,vs,rest))(R:Rel C st a w)
  (V:∀D w',Rel C (st.put (some d) {cond:=[],res:=.jR ks vs}) D w'->wpOps P ops Q (List.range' (ks.length+1) rest.length) D w'):wpOps P ops Q (List.range' 0 ops.toList.length) a w:=by
 have⟨A,β,q⟩:=R;have⟨o,r,t,X,K,E,z,Y,Z,c,j,hd,F,x,B,hi⟩:=xh h;have⟨I,_⟩:=y.ok t X j;rw[hd] at I
 have f:P.underlying K=some (.int .i64):=by
  unfold cW at F;split at F;rename_i g i;have⟨l,_⟩:=y.ok K g i<;>grind[xU];grind
 have n:ops[0]? =some o:=by rw[<-m?,z];rfl
 have L:∀k,r[k]? =ops[0+1+k]? :=λk=>by
  rw[<-m?,z,show 0+1+k=k+1 by omega];rfl
 rw[z,List.length_cons,List.range'_succ];refine LS n c ?_;refine bK (v:=.map (some w.heap.size)) (w':=w.alloc (.map #[] 0)) ?_ ?_;simp[execOp,Y,Instr.makeMap];rw[Z];have p:gY ([]++(ez st t d r).1)=true:=by grind
 refine YT y q B I f r (0+1) #[] 0 _ [] [] L ⟨rfl,rfl,rfl,z!,λb hb=>eE _ b hb,heap_alloc_new w _⟩ rfl (by rfl) p ?_;intro s es u m J N;rw[hi] at J N |-;have e:0+1+ks.length=ks.length+1:=by omega
 simp only[e];refine V _ _ ⟨λb=>A b\/b=w.heap.size,β,?_⟩;have O:bI w s A (λb=>A b\/b=w.heap.size):=λb hb=>⟨.inl hb,m.same b (q.bound b hb)⟩
 refine q.step (λt G=>by grind) (λk b H=>by grind[ai]) (λk b H=>by grind[ai]) (λ_ _=>rfl) O m.os m.tape m.output (by rw[m.size];omega)
  (λb hb _=>m.same b hb) (λb hb=>?_) (λb hb=>?_) (λk ab H=>by grind[ai]) (λk ab H=>by grind[ai]) (λk b ab H=>by grind[ai]) (λk S b H=>by grind[ai]) ?_
 rw[m.size];rcases hb with hb|hb;have:=q.bound b hb;omega;omega;grind;exact⟨w.heap.size,es,u,rfl,.inr rfl,⟨es,m.there,.refl _⟩,J,cN O _ _ N⟩
theorem VO(H:dU P C E){i:Nat}{cs:M Prop}{m:St}(h:H5 E false ops.toList st=some (cs,m))(e:∀p∈cs,p)
  (F:Rel C st a w) (I:∀q w',Rel C m q w'->Q .normal q w'):(Code.region i ops false).wp P Q a w:=by
 simp[H5,N!] at h;split at h;rename_i d ks vs rest y;refine wp_region ?_;have R:=H9 y;rw[YS y] at h
 have:=YU (Q:=Q) H.gm y F λq w' J=>by
  have⟨es,s,z,N,_,B⟩:=vE rest _ [] _ cs m h e (λk=>by grind);have:=Cm H es _ s q w' z J (λO V ⟨A,β,D⟩=>I _ _ ⟨A,β,B _ _ _ _ _ D⟩);grind
 grind[Array.length_toList,List.range_eq_range'];have⟨es,s,z,N,_,B⟩:=vE ops.toList 0 [] st cs m h e (λk=>by simp);refine wp_region ?_;have:=Cm H es st s a w z F (λq w' ⟨A,β,D⟩=>I _ _ ⟨A,β,B _ _ _ _ _ D⟩);grind[Array.length_toList,List.range_eq_range']
theorem fl.ahead(st:St)(W:M Nat):fl W st (st.ahead W):=by
 refine⟨⟨cT st.kb _,λk H=>?_,λi _=>rfl,λk _=>rfl⟩,rfl,rfl,λk h=>h,λk h=>?_,rfl⟩;simp_all[St.ahead,dy,Bool.or_true]
 simp_all[St.ahead,dy,Bool.true_or]
theorem D1 {L:M Nat}:∀(ops:M Oper),eI (ops.map (fS L))=eI ops
 |[]=>rfl
 |o::r=>by
  have :(fS L o).dst=o.dst:=by unfold fS;split<;>rfl
  simp[G?,eI,this,D1 r]
def Tz {p:Oper->Bool}{i:Nat}:∀(ops:M Oper),aw (eI ops) i=false->aw (eI (ops.filter p)) i=false
 |[],h=>h
 |o::r,h=>by
  have H:=Tz (p:=p) r (F6 i h);rw[List.filter_cons];split;unfold eI at h |-;split<;>grind[aw]
  exact H
theorem fl.cut(st:St)(W:M Nat):fl W st st.cut:=
 ⟨⟨λk=>Nat.beq k eC,λk H=>by simp_all[St.cut,dy,cT,KS.has,Bool.or_true,Bool.true_or],λ_ _=>rfl,λ_ _=>rfl⟩,rfl,rfl,λ_ h=>h,λk h=>by simp_all[St.cut,dy,Bool.true_or],rfl⟩
theorem fl.mapped {st m:St}{L:M Nat}{ops:M Oper}(h:fl (eI ops) st m):fl (eI ops) st (m.mapped L ops):=by
 have⟨p,H,q,k⟩:=h.rC;refine⟨⟨p,H,λi hi=>?_,k⟩,h.n,h.kb,h.cm,h.news,h.g⟩;simp_all[St.mapped,Tz,hi,N!]
variable {ops:List Oper}{ks:List Nat}{d:Option Nat}
theorem OR(h:H5 E dr ops st=some (cs,m)):fl (eI ops) st m:=by
 unfold H5 at h;cases dr with
 |false=>
  split at h
  . rename_i d ks vs rest k;obtain⟨o,r,t,T,K,e,rfl,_,F,_,_,_,_,_,_,y⟩:=xh k;have z:=H9 k;have H:fl [d] st (st.put (some d) {cond:=[],res:=.jR ks vs}):=fl.put st (some d) _ [d] (λt I=>by grind[aw,cY]);refine(H.trans (pz _ _ _ _ _ _ h)).mono λi g=>?_
    have J:∀(l:M Oper) (n:Nat),aw (eI l) i=false->aw (eI (l.drop n)) i=false:=by
     intro l;induction l with
     |nil=>grind
     |cons q l N=>
      intro n O;cases n<;>grind[eI,aw,Bool.or_eq_false_iff]
    grind[eI,aw,Bool.or_eq_false_iff,List.singleton_append]
  grind[pz]
 |true=>
  simp only[K!,anY] at h;split at h
  . cases B:(st.h eC).isNone with
    |false=>grind
    |true=>
    rw[B] at h;split at h;rename_i c q D;obtain⟨_,rfl⟩:=h;have H:=((fl.ahead st _).trans (fl.cut _ (eI ops))).trans (pz _ _ _ _ _ _ D);rw[D1] at H;exact(H.mono λi y=>by grind[dA]).mapped;grind
  exact((fl.ahead st _).trans (pz _ _ _ _ _ _ h)).mono (λi y=>by grind[dA])
theorem aq.ahead(H:aq C A β st a w)(W:M Nat):aq C A β (st.ahead W) a w:=by
 have y:∀k ab,(st.ahead W).h k=some ab->∃c,st.h k=some c/\ab=cw (cT st.kb (W.map .dst)) c:=by
  intro k ab h;simp[St.ahead] at h;cases F:st.h k<;>grind[ca,Option.some.injEq]
 have q:∀k,((st.ahead W).h k).isSome->(st.h k).isSome:=by
  grind[Option.isSome_iff_exists]
 refine⟨H.defers,H.size,λi=>oN _ (λ_ _=>rfl) _ _ (H.tmps i),λk ab h=>?_,λk K b z B=>H.apart k K b (q k z) (q K B),H.bound,H.frame,H.gG,H.base,λk b h=>H.om k b (q k h),H.qo,H.laid,H.held⟩;obtain⟨c,D,rfl⟩:=y k ab h;exact zY _ (H.blocks k c D)
theorem Cn:∀(x:AV),(∀k∈aA x,h' k=h k)->jA h' x=jA h x:=by
 intro x H;cases x<;>simp_all[jA,aA]
theorem LW {h h':aP}:∀(xs:M AV),(∀k∈ay xs,h' k=h k)->qj h' xs=qj h xs
 |[],_=>rfl
 |x::xs,hx=>by
  simp[ay,I!] at hx;simp[qj,Cn x (λk H=>hx k (.inl H)),LW xs (λk H=>hx k (.inr H))]
theorem vF(x:AV)(H:∀k∈aA x,h' k=h k):oG h' x=oG h x:=by
 unfold oG;grind[LW,aA,Cn]
theorem LX {h h':aP}:∀(xs:M AV),(∀k∈ay xs,h' k=h k)->ry h' xs=ry h xs
 |[],_=>rfl
 |x::xs,hx=>by
  simp[ay,I!] at hx;simp[ry,vF x (λk H=>hx k (.inl H)),LX xs (λk H=>hx k (.inr H))]
theorem LY {h h':aP}:∀(p:M (Nat×AV)),(∀k∈ay (p.map (·.2)),h' k=h k)->rz h' p=rz h p
 |[],_=>rfl
 |(i,x)::p,hx=>by
  simp[G?,ay,I!] at hx;simp[rz,vF x (λk H=>hx k (.inl H)),LY p (λk H=>hx k (.inr H))]
theorem F7(x:AV):∀k∈(jA h x).2,k∈aA x:=by
 intro k H;cases x<;>simp[jA] at H<;>grind[jA,aA,Nat.beq]
theorem OS {h:aP}:∀(xs:M AV),∀k∈(qj h xs).2,k∈ay xs
 |[],k,hk=>by grind[qj]
 |x::xs,k,hk=>by
  simp[qj,I!] at hk;simp[ay,I!];exact hk.imp (F7 x k) (OS xs k)
theorem yP(x:AV):∀k∈(oG h x).2,k∈aA x:=by
 intro k H;unfold oG at H;grind[aA,OS,F7]
theorem OT {h:aP}:∀(xs:M AV),∀k∈(ry h xs).2,k∈ay xs
 |[],k,hk=>by grind[ry]
 |x::xs,k,hk=>by
  simp[ry,I!] at hk;simp[ay,I!];exact hk.imp (yP x k) (OT xs k)
theorem OU {h:aP}:∀(p:M (Nat×AV)),∀k∈(rz h p).2,k∈ay (p.map (·.2))
 |[],k,hk=>by grind[rz]
 |(i,x)::p,k,hk=>by
  simp[rz,I!] at hk;simp[G?,ay,I!];exact hk.imp (yP x k) (OU p k)
theorem lz {h h':aP}:∀(ks:M Nat),(∀k∈ks,h' k=h k)->cG h' ks=cG h ks
 |[],_=>rfl
 |k::ks,hx=>by
  simp[cG,hx k _,lz ks (λj H=>hx j (F! _ H))]
theorem VP(x:AV)(H:∀k∈aA x,h' k=h k):JG h' x=JG h x:=by
 cases x<;>simp_all[JG,aA]
theorem ED(T:b9)(t:TypeId)(x i:AV)(H:∀k∈aA x,h' k=h k):gX T h' t x i=gX T h t x i:=by
 cases x<;>cases i<;>simp_all[gX,aA]
theorem Co(T:b9)(t:TypeId)(x:AV)(H:∀k∈aA x,h' k=h k):ql T h' t x=ql T h t x:=by
 cases x<;>simp_all[ql,aA]
theorem Bj(T:b9)(t:TypeId)(x v:AV)(H:∀k∈aA x,h' k=h k)(q:∀k∈aA v,h' k=h k):jt T h' t x v=jt T h t x v:=by
 cases x<;>grind[jt,aA,vF,lz,oG,yP]
def Ib(r:M Ty)(x:AV)(H:∀k∈aA x,h' k=h k):xS h' r x=xS h r x:=by
 have:=Cn x H;cases x<;>simp_all[xS]
theorem J2(T:b9)(d:Nat)(t q:TypeId)(s x:AV)(H:∀k∈aA s,h' k=h k)(hx:∀k∈aA x,h' k=h k):rI T h' d t q s x=rI T h d t q s x:=by
 unfold rI;split
 . split
   . rename_i row m;rw[Ib row x hx];cases s;case own k=>simp[H k (by simp[aA])]
     case pre k n=>simp[H k (by simp[aA])]
     all_goals rfl
   rfl
 rfl
theorem M4(T:b9)(t:TypeId)(x:AV)(H:∀k∈aA x,h' k=h k):uP T h' t x=uP T h t x:=by
 cases x<;>grind[uP,aA]
theorem M5(T:b9)(t:TypeId)(x:AV)(lo hi m:Option AV)(H:∀k∈aA x,h' k=h k):uO T h' t x lo hi m=uO T h t x lo hi m:=by
 unfold uO;grind[wZ,lo,hi,aA]
theorem SC(T:b9)(s d:TypeId)(k:Nat)(H:h' k=h k):DP T h' s d k=DP T h s d k:=by grind[DP]
theorem Ic(T:b9)(s d:TypeId)(x:AV)(H:∀k∈aA x,h' k=h k):pO T h' s d x=pO T h s d x:=by
 have q:=λr=>Ib r x H;grind[pO,SC,aA]
def Cp(T:b9)(d:Nat)(t:TypeId)(l:Nat)(p:M (Nat×AV))(hx:∀k∈ay (p.map (·.2)),h' k=h k):lj T h' d t l p=lj T h d t l p:=by
 unfold lj;simp[LY p hx,lz _ (λj H=>hx j (OU p j H))]
theorem OV(E:Env)(d f:Nat)(xs:M AV)(H:∀k∈ay xs,h' k=h k):qn E h' d f xs=qn E h d f xs:=by
 grind[qn,LX,lz,ry,OT]
theorem o9:∀(a b:M AV),ay (a++b)=ay a++ay b
 |[],_=>rfl
 |x::a,b=>by simp[k?,ay,o9 a b,X!]
def j8 {x:AV}:∀ {xs:M AV},x∈xs->∀k∈aA x,k∈ay xs
 |y::ys,hx,k,hk=>by
  simp[ay,I!];rcases O!.1 hx with rfl|hx;exact .inl hk;exact .inr (j8 hx k hk)
theorem YV(H:∀x∈o.op.operands.toList,ev bN x=ev st x)(F:∀k∈lN E st o,bN.h k=st.h k)(v:bN.kb=st.kb):
  dY E bN o=dY E st o:=by
 have q:∀x∈o.op.operands.toList,∀k∈aA (ev st x),bN.h k=st.h k:=by
  intro x hx k q;exact F k (F! _ (T! _ (j8 (S? hx) k q)))
 have N:∀d,o.dst=some d->bN.h (st.kb+d)=st.h (st.kb+d):=by
  grind[lN]
 have⟨dst,O,type,pos,after,I⟩:=o;simp only at H q N
 have R:∀d,dst=some d->fresh bN.h (st.kb+d)=fresh st.h (st.kb+d):=by
  grind[fresh]
 cases O with
 |move x=>grind[dY,Op.operands]
 |assign x=>grind[dY,Op.operands]
 |pick c x y=>grind[dY,Op.operands]
 |alloc t=>grind[dY]
 |box t x=>grind[dY,Op.operands]
 |build t parts=>
  grind[ev,List.map_congr_left,Op.operands,List.mem_map_of_mem,dY]
 |buildSlice t len parts=>
  have :(parts.toList.map λp=>(p.1,ev bN p.2))=parts.toList.map λp=>(p.1,ev st p.2):=by
   grind[List.map_congr_left,Op.operands,List.mem_map_of_mem]
  simp only[dY,this,v];cases dst with
  |none=>rfl
  |some d=>
   simp only[R d rfl];rw[Cp];intro k G;refine F k (F! _ (T! _ ?_));simp only[Op.operands,List.map_map] at G |-;exact G
 |load t x=>grind[dY,Op.operands,Co]
 |store t x y=>grind[dY,Op.operands,Bj]
 |nilCheck x=>grind[dY,Op.operands]
 |binOp O t x y e=>grind[dY,Op.operands]
 |unOp O t x=>grind[dY,Op.operands]
 |convert s d x=>grind[dY,Op.operands,Ic]
 |makeFunc f first bl=>
  grind[ev,List.map_congr_left,Op.operands,dY]
 |makeSlice t l c=>
  grind[dY,Op.operands]
 |slice t x l hi M=>
  have j:l.map (ev bN)=l.map (ev st):=by cases l with|none=>rfl|some y=>simp only[Option.map_some,H y (by simp[Op.operands])]
  have n:hi.map (ev bN)=hi.map (ev st):=by cases hi<;>grind[hi,Op.operands]
  have u:M.map (ev bN)=M.map (ev st):=by cases M<;>grind[Op.operands]
  grind[dY,Op.operands,M5]
 |fieldAddr s x f=>grind[dY,Op.operands]
 |field s x f=>grind[dY,Op.operands]
 |indexAddr t x i=>grind[dY,xb,Op.operands,ED]
 |index t x i=>grind[dY,Op.operands]
 |extract x i=>grind[dY,Op.operands]
 |lookup t x i ok=>grind[dY,Op.operands]
 |call c=>
  have⟨C,A,a⟩:=c
  have B:∀x∈A.toList,x∈(Op.call ⟨C,A,a⟩).operands.toList:=by
   grind[Op.operands,Call.operands,Array.toList_append]
  have U:A.toList.map (ev bN)=A.toList.map (ev st):=g? λx hx=>H x (B x hx);cases C with
  |invoke r m=>rfl
  |builtin b=>
   simp only[dY];cases w:A.toList with
   |nil=>grind
   |cons x xs=>
    have hx:ev bN x=ev st x:=H x (B x x!);have L:=q x (B x x!);cases xs with
    |nil=>
     grind[VP,M4]
    |cons y Y=>
     have V:ev bN y=ev st y:=H y (B y x!);have P:=q y (B y x!);cases Y with
     |cons z Q=>grind
     |nil=>
      cases b
      case append=>
       cases S:a.toList with
       |nil=>rfl
       |cons t ts=>cases ts with
        |nil=>rfl
        |cons t' T=>grind[J2]
      all_goals first|rfl|simp only[hx,V]
  |value f=>
   have D:f∈(Op.call ⟨.value f,A,a⟩).operands.toList:=by simp[Op.operands,Call.operands]
   have X:ev bN f=ev st f:=H f D;have K:=q f D;simp only[dY,X,U,v];cases J:ev st f with
   |fn Z first bl=>
    cases Z with
    |func g=>
     have W:∀d,qn E bN.h d g (first++A.toList.map (ev st)++bl)=qn E st.h d g (first++A.toList.map (ev st)++bl):=by
      intro d;refine OV E d g _ λk G=>?_;simp only[o9,List.mem_append] at G;rw[J] at K;simp only[aA,List.mem_append] at K;rcases G with(G|G)|G;grind;refine F k (List.mem_cons_of_mem _ (List.mem_append_left _ ?_));grind[Op.operands,Call.operands,Array.toList_append,o9];grind
     grind
    |_=>rfl
   |_=>rfl
 |_=>rfl
theorem YW(z:∀x∈o.op.operands.toList,ev bN x=ev st x)(q:∀k∈lN E st o,bN.h k=st.h k)(V:bN.kb=st.kb):
  Ou E bN o=Ou E st o:=by
 have H:∀x∈o.op.operands.toList,∀k∈aA (ev st x),bN.h k=st.h k:=by
  intro x y k H;exact q k (F! _ (T! _ (j8 (S? y) k H)))
 have⟨dst,O,type,pos,after,g⟩:=o;cases O with
 |alloc t=>simp_all[Ou]
 |load t p=>
  grind[Ou,Op.operands,ev,aA]
 |store t p v=>
  grind[Ou,Op.operands,ev,aA]
 |_=>rfl
theorem LZ(x:AV):∀k∈aA (jA h x).1,k∈aA x:=by
 cases x<;>grind[jA,aA,Nat.beq]
theorem L0 {h:aP}:∀(xs:M AV),∀k∈ay (qj h xs).1,k∈ay xs
 |[],k,hk=>hk
 |x::xs,k,hk=>by
  simp[qj,ay,I!] at hk |-;rcases hk with hk|hk;exact .inl (LZ x k hk);exact .inr (L0 xs k hk)
theorem ļ(x:AV):∀k∈aA (oG h x).1,k∈aA x:=by
 intro k H;unfold oG at H;grind[aA,L0,LZ]
def Cq {h:aP}:∀(m:M Bool) (xs:M AV),(∀k∈ay (dR h m xs).1,k∈ay xs)/\∀k∈(dR h m xs).2,k∈ay xs
 |m,[]=>⟨λk H=>H,λk H=>by cases H⟩
 |m,x::xs=>by
  have⟨g,G⟩:=Cq (h:=h) m.tail xs;cases hm:m.headD false with
  |true=>
   simp only[dR,hm,cond_true,ay,List.mem_append];grind
  |false=>
   simp only[dR,hm,cond_false,ay,List.mem_append];grind[ļ,yP]
theorem Bk {h h':aP}:∀(m:M Bool) (xs:M AV),(∀k∈ay xs,h' k=h k)->dR h' m xs=dR h m xs
 |m,[],_=>rfl
 |m,x::xs,hx=>by
  simp[dR,(Bk m.tail xs (λk H=>hx k (by simp[ay,I!];exact .inr H))),(vF x (λk H=>hx k (by simp[ay,I!];exact .inl H)))]
theorem E9 {h h':aP}:∀(ks:M Nat),(∀k∈ks,h' k=h k)->behind h' ks=behind h ks
 |[],_=>rfl
 |k::ks,hk=>by
  simp[behind,hk k _,E9 ks λj H=>hk j (F! _ H)]
def xi {h:aP}:∀(ks L:M Nat),(∀k∈ks,k∈L)->∀j∈behind h ks,j∈behind h L
 |[],L,_,j,H=>by cases H
 |k::ks,L,hk,j,H=>by
  simp[behind,I!] at H;rcases H with H|H
  . have :∀(L:M Nat),k∈L->j∈behind h L:=by
     intro L;induction L with
     |nil=>intro h;cases h
     |cons l L I=>
      intro q;simp[behind,I!];rcases O!.1 q with rfl|q;exact .inl H;exact .inr (I q)
    exact this L (hk k (G! ..))
  exact xi ks L (λi y=>hk i (F! _ y)) j H
theorem Cr(H:∀k∈ks,h' k=h k)(q:∀k∈behind h ks,h' k=h k):qy h' ks=qy h ks:=by
 grind[qy,E9]
theorem z6{l:M Nat}(H:∀k∈ks,k∈l):∀j∈qy h ks,j∈qy h l:=by
 intro j q;simp[qy,I!] at q |-;exact q.imp (xi _ _ H j) (xi _ _ (xi _ _ H) j)
theorem F8:∀(l a:M Nat) (k:Nat),k∈dedup a l->k∈a\/k∈l
 |[],a,k,h=>.inl (by grind[dedup])
 |x::l,a,k,h=>by
  simp[dedup] at h;cases hm:aw a x with
  |true=>
   rw[hm] at h;rcases F8 l a k h with h|h;exact .inl h;exact .inr (F! _ h)
  |false=>
   rw[hm] at h;rcases F8 l _ k h with h|h;rcases O!.1 h with rfl|h;exact .inr (G! ..);exact .inl h;exact .inr (F! _ h)
def Bl {h h':aP}:∀(K:M Nat),(∀k∈K,h' k=h k)->contents h' K=contents h K
 |[],_=>rfl
 |k::K,hk=>by simp[contents,hk k _,Bl K λj H=>hk j (F! _ H)]
def M6(E:Env)(d f:Nat)(xs:M AV)(H:∀k∈ay xs++qy h (ay xs),h' k=h k):nP E h' d f xs=nP E h d f xs:=by
 have S:=λk hk=>H k (List.mem_append_left _ hk);unfold nP;split;rename_i m s q;obtain⟨p,P⟩:=Cq m xs;rw[Bk m xs S,Cr (λk hk=>S k (p k hk)) (λk hk=>H k (List.mem_append_right _ (z6 p k (List.mem_append_left _ hk))))];unfold Vz
 rw[Bl (h:=h) _ (λk hk=>by
  rcases F8 _ _ k hk with hk|hk;grind;grind[List.mem_append_right,z6]),lz _ (λk hk=>S k (P k hk))]
 rfl
theorem YX(q:∀x∈o.op.operands.toList,ev bN x=ev st x)(y:∀k∈lN E st o,bN.h k=st.h k)(v:bN.kb=st.kb):
  Yv E bN o=Yv E st o:=by
 have⟨dst,O,type,pos,after,G⟩:=o;cases O with
 |call c=>
  have⟨C,A,a⟩:=c;cases C with
  |value f=>
   have b:∀x∈A.toList,x∈(Op.call ⟨.value f,A,a⟩).operands.toList:=by
    grind[Op.operands,Call.operands,Array.toList_append]
   have I:=g? λx z=>q x (b x z);have B:ev bN f=ev st f:=q f (by simp[Op.operands,Call.operands]);simp[Yv,B,I,v];cases D:ev st f with
   |fn F first bl=>
    cases F with
    |func g=>
     have T:∀k∈ay (first++A.toList.map (ev st)++bl),k∈ay ((Op.call ⟨.value f,A,a⟩).operands.toList.map (ev st)):=by
      have H:f∈(Op.call ⟨.value f,A,a⟩).operands.toList:=by simp[Op.operands,Call.operands]
      have J:=j8 (List.mem_map_of_mem (f:=ev st) H);grind[aA,o9,Op.operands,Call.operands,Array.toList_append]
     have M:∀d,nP E bN.h d g (first++A.toList.map (ev st)++bl)=nP E st.h d g (first++A.toList.map (ev st)++bl):=by
      intro d;refine M6 E d g _ λk hk=>?_;rcases I!.1 hk with hk|hk;exact y k (F! _ (T! _ (T k hk)));exact y k (F! _ (U! _ (T! _ (z6 T k hk))))
     grind
    |_=>rfl
   |_=>rfl
  |_=>rfl
 |_=>rfl
theorem qB {h:aP}{k e i j:Nat}{r:M Ty}{l:M (Row r)}(hk:h k=some (.iE e (some j) r l i)):∀ {ks:M Nat},k∈ks->j∈ib h ks
 |q::ks,hm=>by
  simp[ib];rcases O!.1 hm with rfl|hm;rw[hk];simp;split;exact F! _ (qB hk hm);exact qB hk hm
theorem Fa:∀ {cs:M AV} {xs:M AV} {k:Nat},vz cs=some (xs,k)->k∈ay cs
 |[],_,_,h=>by cases h
 |a::r,xs,k,h=>by
  unfold vz at h;simp[ay,List.mem_append];cases r with
  |nil=>
   cases a<;>first|(obtain⟨_,rfl⟩:=h;simp[aA])|cases h
  |cons b r=>
   simp at h;split at h;rename_i x K H;obtain⟨_,rfl⟩:=h;exact .inr (Fa H);cases h
theorem SD(p v:AV)(H:∀k∈aA p,h' k=h k)(q:∀k∈aA v,h' k=h k):DS E h' t p v=DS E h t p v:=by
 unfold DS;grind[aA,vz,Fa]
theorem M7(p:AV)(H:∀k∈aA p,h' k=h k)(q:∀k∈ib h (aA p),h' k=h k):uV E h' t p=uV E h t p:=by
 unfold uV;grind[aA,qB]
theorem OX(x i:AV)(H:∀k∈aA x,h' k=h k):yJ E h' t x i=yJ E h t x i:=by
 unfold yJ;grind[aA]
theorem OY{k:Nat}(hk:h' k=h k)(H:∀j∈ib h [k],h' j=h j):closing h' k=closing h k:=by
 unfold closing;rw[hk];cases q:h k with
 |none=>rfl
 |some ab=>
  cases ab with
  |iE e j row l i=>
   cases j with
   |none=>rfl
   |some K=>simp[H K (qB q _)]
  |_=>rfl
def z7 {h:aP}:∀ {a b:M Nat},(∀k∈a,k∈b)->∀j∈ib h a,j∈ib h b
 |[],_,_,j,H=>by grind[ib]
 |k::a,b,y,j,H=>by
  simp[ib] at H;split at H;rename_i B;rcases O!.1 H with rfl|H;exact qB B (y k (G! ..));exact z7 (λq z=>y q (F! _ z)) j H;exact z7 (λq z=>y q (F! _ z)) j H
theorem YY(H:∀x∈o.op.operands.toList,ev bN x=ev st x)(q:∀k∈lN E st o,bN.h k=st.h k)(v:bN.kb=st.kb):
  Tj E bN o=Tj E st o:=by
 unfold Tj aev;rw[YV H q v,YW H q v,YX H q v]
theorem YZ(H:∀x∈o.op.operands.toList,ev bN x=ev st x)(F:∀k∈lN E st o,bN.h k=st.h k)(v:bN.kb=st.kb):
  E4 E bN o=E4 E st o:=by
 have hk:∀x∈o.op.operands.toList,∀k∈aA (ev st x),bN.h k=st.h k:=λx hx k hk=>
  F k (F! _ (T! _ (j8 (S? hx) k hk)))
 have I:∀d,o.dst=some d->bN.h (st.kb+d)=st.h (st.kb+d):=λd R=>F _ (by grind[lN,List.mem_cons_self]);have⟨dst,O,type,pos,after,g⟩:=o;cases O with
 |buildSlice t len parts=>
  have J:parts.toList.map (λp=>(p.1,ev bN p.2))=parts.toList.map (λp=>(p.1,ev st p.2)):=g? λp J=>by
   rw[H p.2 (by simp only[Op.operands,Array.toList_map,List.mem_map];grind)]
  cases dst with
  |none=>rfl
  |some d=>
   have U:fresh bN.h (st.kb+d)=fresh st.h (st.kb+d):=by simp only[fresh,I d rfl]
   simp only[E4,J,v];grind
 |call c=>
  have⟨C,a,z⟩:=c;cases C with
  |builtin b=>
   have B:∀x∈a.toList,ev bN x=ev st x:=λx hx=>H x (by grind[Op.operands,Call.operands,Array.toList_append]);have D:∀x∈a.toList,∀k∈aA (ev st x),bN.h k=st.h k:=λx hx=>hk x (by grind[Op.operands,Call.operands,Array.toList_append]);have A:∀x k,x∈a.toList->ev st x= .own k->bN.h k=st.h k:=λx k hx he=>D x hx k (by rw[he];exact List.mem_cons_self ..);simp only[E4,v];split;rename_i x y t V hx M;rw[B x (by rw[hx];simp),B y (by rw[hx];simp)];split;rename_i d e T j k he X h1 q;rw[A x j (by rw[hx];simp) h1,A y k (by rw[hx];simp) q];simp only[fresh,I d rfl];rfl;rename_i x t hx M;rw[B x (by rw[hx];simp)];split;rename_i k h1;rw[A x k (by rw[hx];simp) h1];rfl;rfl
  |_=>rfl
 |store t x y=>
  simp only[E4,H x (by simp[Op.operands]),H y (by simp[Op.operands])];split;rename_i k s i j K h1 q;rw[hk x (by simp[Op.operands]) k (by rw[h1];exact G! ..),hk y (by simp[Op.operands]) K (by rw[q];exact G! ..)];rename_i k s i j f Y cs h1 q;rw[hk x (by simp[Op.operands]) k (by rw[h1];exact G! ..)];rfl
 |indexAddr t x i=>
  simp only[E4,H x (by simp[Op.operands]),H i (by simp[Op.operands])];split;rename_i k Z n h1 q;rw[hk x (by simp[Op.operands]) k (by rw[h1];exact G! ..)];rfl
 |load t x=>
  simp only[E4,H x (by simp[Op.operands])];split;rename_i k s i j T h1 q;rw[hk x (by simp[Op.operands]) k (by rw[h1];exact G! ..)];rename_i k N T h1 q;rw[hk x (by simp[Op.operands]) k (by rw[h1];exact G! ..)];rfl
 |_=>rfl
theorem Y0(z:∀x∈o.op.operands.toList,ev bN x=ev st x)(y:∀k∈lN E st o,bN.h k=st.h k)(v:bN.kb=st.kb):
  Tu E bN o=Tu E st o:=by
 have B:Oy E bN o=Oy E st o:=by grind[Oy,YY,YZ]
 have a:∀x∈o.op.operands.toList,∀k∈aA (ev st x),k∈ay (o.op.operands.toList.map (ev st)):=λx q k H=>j8 (S? q) k H
 have H:∀x∈o.op.operands.toList,∀k∈aA (ev st x),bN.h k=st.h k:=λx q k H=>
  y k (F! _ (T! _ (a x q k H)))
 have V:∀x∈o.op.operands.toList,∀k∈ib st.h (aA (ev st x)),bN.h k=st.h k:=λx q k H=>
  y k (F! _ (U! _ (U! _ (T! _ (z7 (a x q) k H)))))
 have D:∀k∈vA E st.h o,bN.h k=st.h k:=λk H=>y k (F! _ (U! _ (U! _ (U! _ H))))
 have F:YH E bN o=YH E st o:=by
  unfold YH
  have m:yK E bN.h o=yK E st.h o:=by
   grind[yK,vA,ib,OY,List.mem_cons_self,List.mem_cons_of_mem]
  grind[guard,store,Op.operands,SD,load,M7,OX]
 grind[Tu]
theorem xj {T:b9}{h h':aP}:∀(as_:M AV) (l:M (Option TypeId)),(∀k∈ay as_,h' k=h k)->qz T h' as_ l=qz T h as_ l
 |_,[],_=>by grind[qz]
 |[],o::_,_=>by cases o<;>rfl
 |x::as_,none::r,hk=>by
  exact xj as_ r λk h=>hk k (U! _ h)
 |x::as_,some ty::r,hk=>by
  unfold qz;cases x<;>simp[(xj as_ r λk h=>hk k (List.mem_append_right _ h))];rename_i k O;rw[hk k (List.mem_append_left _ (List.mem_cons_self ..))]
theorem Ľ{x:AV}(hk:∀k∈aA x,h' k=h k):zW (Bh u h') x=zW (Bh u h) x:=by
 unfold zW;cases x<;>simp;rename_i k o;have :Bh u h' k=Bh u h k:=by simp[Bh,hk k (List.mem_cons_self ..)]
 grind
theorem ľ(H:∀x∈o.op.operands.toList,ev bN x=ev st x)(D:∀k∈lN E st o,bN.h k=st.h k)(V:bN.kb=st.kb):
  act E bN o=act E st o:=by
 have U:HY E bN o=HY E st o:=by
  have z:∀x∈o.op.operands.toList,∀k∈aA (ev st x),bN.h k=st.h k:=λx hx k z=>
   D k (F! _ (T! _ (j8 (S? hx) k z)))
  obtain⟨dst,B,type,pos,after,g⟩:=o;cases dst with
  |none=>rfl
  |some d=>
  cases X:E.Hk d with
  |none=>grind[HY]
  |some l=>
  cases B with
  |makeFunc f first bl=>
   have h1:first.toList.map (ev bN)=first.toList.map (ev st):=List.map_congr_left λx hx=>H x (by grind[Op.operands])
   have F:bl.toList.map (ev bN)=bl.toList.map (ev st):=List.map_congr_left λx hx=>H x (by grind[Op.operands]);have Y:∀x∈bl.toList,∀k∈aA (ev st x),bN.h k=st.h k:=λx hx=>z x (by grind[Op.operands])
   have M:∀k∈ay (bl.toList.map (ev st)),bN.h k=st.h k:=by
    clear h1 F z H D;generalize bl.toList=l at *;induction l with
    |nil=>intro k h;cases h
    |cons y l i=>
     intro k h;rcases List.mem_append.1 h with h|h<;>grind
   have I:∀u,(bl.toList.map (ev st)).map (zW (Bh u bN.h))=(bl.toList.map (ev st)).map (zW (Bh u st.h)):=λu=>by
    grind[List.map_map,List.map_congr_left,Ľ]
   grind[HY,xj]
  |load t x=>
   grind[Op.operands,HY,xj,ev,ay,Co]
  |makeSlice t x y=>
   simp_all[fresh,lN,G!,HY,Op.operands]
  |_=>rfl
 have Z:Ts bN o=Ts st o:=by
  obtain⟨dst,B,type,pos,after,g⟩:=o;cases dst with
  |none=>cases B<;>first|rfl|(rename_i c;obtain⟨c,_,_⟩:=c;cases c<;>rfl)
  |some d=>
  have J:fresh bN.h (st.kb+d)=fresh st.h (st.kb+d):=by
   grind[fresh,lN,List.mem_cons_self]
  cases B with
  |call c=>
   obtain⟨c,a,N⟩:=c;cases c with
   |value f=>
    have h1:ev bN f=ev st f:=H f (by simp[Op.operands,Call.operands])
    have F:∀x,a.toList=[x]->ev bN x=ev st x:=λx hx=>H x (by
     have :x∈a:=by rw[<-Array.mem_toList_iff,hx];grind
     grind[Op.operands,Call.operands])
    grind[Ts]
   |_=>rfl
  |_=>rfl
 have b:Tt E bN o=Tt E st o:=by
  have z:∀x∈o.op.operands.toList,∀k∈aA (ev st x),bN.h k=st.h k:=λx hx k z=>
   D k (F! _ (T! _ (j8 (S? hx) k z)))
  obtain⟨dst,B,type,pos,after,g⟩:=o;unfold Tt;simp only;split;rename_i t s v;have h1:=H (.tmp s) (by simp[Op.operands]);have F:=H v (by simp[Op.operands]);split
  have I:∀k O,ev st (.tmp s)= .ref k O->jt E.T bN.h t (.ref k O) (ev st v)=jt E.T st.h t (.ref k O) (ev st v):=λk O e=>
   Bj (h:=st.h) E.T t _ _ (by grind[Op.operands]) (z v (by simp[Op.operands]))
  rw[h1,F];generalize ev st (.tmp s)=q at I |-;cases q<;>first|rfl|(rename_i k O;simp only[anT];grind)
  rfl;rename_i R x d;have h1:=H x (by simp[Op.operands])
  have J:fresh bN.h (st.kb+d)=fresh st.h (st.kb+d):=by
   simp only[fresh,D (st.kb+d) (by unfold lN;exact List.mem_cons_self ..)]
  unfold anU;rw[h1,V,J];grind[Op.operands,oG,ev,vF,cG,lz,yP];rfl
 grind[act,Y0]
def D3:∀(l:M Nat) (k:Nat),aw l k=true↔k∈l
 |[],k=>by simp[aw]
 |j::l,k=>by
  simp_all[aw,Y?,O!,D3]
theorem jn {l:M Nat}{k:Nat}:aw l k=false↔k∉l:=by
 rw[<-D3,Bool.not_eq_true]
theorem rQ {a b:M Nat}(h:nk a b=true):∀k∈a,k∉b:=by
 intro k H;have:=(List.all_eq_true.1 h) k H;grind[Bool.not_eq_true',jn]
mutual
theorem OZ(p:Nat->Bool):∀(a:AV),(∀k∈aA a,p k=false)->aG p a=a
 |.own k,h=>by simp[aG,h k (by simp[aA])]
 |.pre k _,h|.view k _ _ _,h|.ref k _,h|.elem k _ _ _,h=>by simp[aG,h k (by simp[aA])]
 |.agg cs,h|.bk cs,h=>by simp only[aG,nm p cs (by simpa[aA] using h)]
 |.jR _ cs,h=>by simp only[aG,nm p cs (by simpa[aA] using h)]
 |.fn f first bl,h=>by
   simp only[aA,I!] at h;simp only[aG,nm p first (λk H=>h k (.inl H)),nm p bl (λk H=>h k (.inr H))]
 |.db,_|.undef,_|.int _ _,_|.bool _,_|.tt,_|.ff,_|.str _,_|.nil,_|.lh,_|.tY _ _,_|.nb,_|.sl _ _,_|.full _ _,_|.dc _ _ _,_|.vc _ _,_=>by simp[aG]
theorem nm(p:Nat->Bool):∀(as_:M AV),(∀k∈ay as_,p k=false)->fV p as_=as_
 |[],_=>rfl
 |a::as_,h=>by
  simp only[ay,I!] at h;simp only[fV,OZ p a (λk H=>h k (.inl H)),nm p as_ (λk H=>h k (.inr H))]
end
theorem Cs(p:Nat->Bool)(b:AB)(h:∀k∈iB b,p k=false):cw p b=b:=by
 cases b with
 |cells cs=>grind[cw,nm,iB]
 |row _ _ _ _|arr _ _|bm _ _ _ _|fvar _ _|mp _ _ _=>rfl
 |dO e j l=>
  cases j with
  |none=>rfl
  |some j=>simp_all[cw,zD,iB,N!]
 |eG e j xs i=>
  cases j with
  |none=>rfl
  |some j=>simp_all[cw,dP,iB,N!]
 |views e j n m sz=>
  cases j with
  |none=>rfl
  |some j=>simp_all[cw,dP,iB,N!]
 |iE e j row l i=>
  cases j with
  |none=>rfl
  |some j=>simp_all[cw,dP,iB,N!]
def Ih {n:M (Nat×AB)}{k:Nat}(h:k∉n.map (·.1)):gN n k=false:=by
 grind[zZ,jD,jn]
def Clean(e:Ev)(s:St):Prop:=(∀i,aG (gN e.cn.new) (s.t i)=s.t i)/\∀k,ca (gN e.cn.new) (s.h k)=s.h k
def ap(ops:M Oper)(e:Ev)(s:St):St:=jX (mo ops e.i) e.o.dst (s.put e.o.dst e.cn)
def aEg(g:Bool)(a:AV):AV:=bif g then OK a else a
def F9(e:Ev)(k:Nat):Option (Option AB):=match ai e.cn.new k with
 |some b=>some (some b)
 |none=>bif aw e.cn.del k then some none else match ai e.cn.hX k with
  |some b=>some (some (w7 e.cn k b))
  |none=>none
def an6:(jX g d s).g=s.g:=by
 cases d<;>cases g<;>rfl
theorem O0:(jX g d s).h=s.h/\(jX g d s).n=s.n/\(jX g d s).kb=s.kb:=by
 cases d<;>cases g<;>exact⟨rfl,rfl,rfl⟩
theorem O1(e:Ev)(s:St):(ap ops e s).n=s.n:=O0.2.1
theorem Ga(e:Ev)(s:St):(ap ops e s).kb=s.kb:=O0.2.2
theorem O2(e:Ev)(s:St):(ap ops e s).g=s.g:=an6
theorem O3(H:Clean e s)(i:Nat):(ap ops e s).t i=if e.o.dst=some i then aEg (mo ops e.i) e.cn.res else s.t i:=by
 unfold ap;cases k:e.o.dst with
 |none=>
  simp[jX,St.put,reduceCtorEq,r?];rw[rP];exact H.1 i
 |some d=>
  by_cases hi:i=d;subst hi;cases mo ops e.i<;>simp[jX,St.put,aEg];have g:¬(some d=some i):=λh=>hi (R? h).symm;have :mN e.cn.new (s.t i)=s.t i:=by rw[rP];exact H.1 i
  cases mo ops e.i<;>simp only[jX,St.put,aO hi,N!,K!,R! g,this]
theorem L1(H:Clean e s)(k:Nat):(ap ops e s).h k=match F9 e k with
  |some v=>v
  |none=>s.h k:=by
 unfold ap;rw[O0.1];have q:=H.2 k;simp[St.put,vf,F9];cases ai e.cn.new k with
 |some b=>rfl
 |none=>
  cases aw e.cn.del k with
  |true=>rfl
  |false=>
   grind[ai,ca,Option.some.injEq,xg]
theorem pU{k:Nat}(h:k∉e.cn.wr):F9 e k=none:=by
 simp only[Out.wr,I!,not_or] at h;simp[F9,jD _ k (jn.2 h.2.2),jD _ k (jn.2 h.1),jn.2 h.2.1,N!]
theorem ye:∀(l:M (Nat×AB)) (k:Nat) (c:AB),ai l k=some c->∀j∈iB c,j∈Cf l
 |(J,b)::l,k,c,h,j,H=>by
  simp[ai] at h;simp[Cf,I!];cases q:Nat.beq k J with
  |true=>grind
  |false=>rw[q] at h;exact .inr (ye l k c h j H)
theorem VQ {g:Ev}{k:Nat}{b:AB}(q:nk e.cn.wU (g.cn.new.map (·.1))=true)(h:F9 e k=some (some b)):cw (gN g.cn.new) b=b:=by
 have a:∀j∈e.cn.wU,gN g.cn.new j=false:=λj H=>Ih (rQ q j H);unfold F9 at h;split at h;grind[Option.some.injEq,Cs,Out.wU,ye]
 . cases hd:aw e.cn.del k with
   |true=>grind
   |false=>
    rw[hd] at h;split at h
    . rename_i c y;simp at h;subst h;have m:∀j∈iB c,gN g.cn.new j=false:=λj H=>a j (by grind[Out.wU,ye]);unfold w7;cases aw e.cn.raw k with
      |true=>grind[Cs]
      |false=>
      simp;rw[xg,jv];have comm:(λk=>gN e.cn.new k || gN g.cn.new k)=λk=>gN g.cn.new k || gN e.cn.new k:=by grind
      rw[comm,<-jv,Cs _ c m]
    grind
theorem Clean.ap {g:Ev}(h:Clean g s)(he:Clean e s)(H:nk e.cn.wU (g.cn.new.map (·.1))=true):Clean g (ap ops e s):=by
 refine⟨λi=>?_,λk=>?_⟩
 . rw[O3 he];split
   . have :aG (gN g.cn.new) e.cn.res=e.cn.res:=OZ _ _ λk y=>Ih (rQ H k (by grind[Out.wU]));cases z:mo ops e.i with
     |false=>exact this
     |true=>
      cases q:e.cn.res with
      |bool b=>cases b<;>rfl
      |_=>rw[q] at this;exact this
   exact h.1 i
 . rw[L1 he];cases B:F9 e k with
   |none=>exact h.2 k
   |some v=>
    cases v with
    |none=>rfl
    |some b=>grind[ca,VQ]
theorem Ii {h h':aP}:∀(l:M (Nat×AB)),(∀k∈l.map (·.1),h' k=h k)->lp h' l=lp h l
 |[],_=>rfl
 |(k,b)::l,hx=>by
  simp[lp,hx k z!,Ii l (λj H=>hx j (by simp only[G?,O!];exact .inr H))]
theorem O4 {t T:Nat->AV}(h:∀x∈looks ops o,T x=t x):OH ops T o=OH ops t o:=by
 grind[OH,looks,F4]
theorem Ij:∀(xs:M Operand) (i:Nat),.tmp i∈xs->i∈slotsOf xs
 |x::xs,i,h=>by
  rcases O!.1 h with rfl|h;simp[slotsOf];have:=Ij xs i h;cases x<;>simp[slotsOf,this]
theorem vI {h h':aP}:∀(ks:M Nat),(∀k∈ks,h' k=h k)->ib h' ks=ib h ks
 |[],_=>rfl
 |k::ks,hk=>by simp[ib,hk k (G! ..),vI ks λj H=>hk j (F! _ H)]
def aj0(h:∀x∈looks ops o,s'.t x=s.t x)(H:s'.g=s.g):∀x∈o.op.operands.toList,ev s' x=ev s x:=by
 intro x k;cases x with
 |global i=>grind[ev]
 |tmp i=>exact h i (by grind[looks,List.mem_append_right,Ij])
 |_=>rfl
theorem kG.Ik(H:kG E ops f s s1)(F:∀x∈looks ops f.o,s'.t x=s.t x)(z:∀k,k∈f.kr\/k∈f.cn.wr->s'.h k=s.h k)(U:s'.n=s.n)(V:s'.kb=s.kb)(B:s'.g=s.g):
  kG E ops f s' (ap ops f s'):=by
 have y:=aj0 F B
 have D:lN E s' f.o=lN E s f.o:=by
  have O:∀k∈ay (f.o.op.operands.toList.map (ev s)),s'.h k=s.h k:=λk G=>z k (.inl (by rw[H.kr];exact F! _ (T! _ G)))
  have I:sS s' f.o=sS s f.o:=by
   have M:∀k∈sS s f.o,s'.h k=s.h k:=λk G=>z k (.inl (by rw[H.kr];exact List.mem_cons_of_mem _ (List.mem_append_right _ (List.mem_append_left _ G))));unfold sS at M |-;cases O5:f.o.op with
   |call c=>
    simp only[O5] at M O y |-;rw[g? y];exact Cr O λk G=>M k (T! _ G)
   |_=>rfl
  have m:vA E s'.h f.o=vA E s.h f.o:=by
   have X:∀q∈vA E s.h f.o,s'.h q=s.h q:=λq J=>z q (.inl (by
    rw[H.kr];exact F! _ (U! _ (U! _ (U! _ J)))))
   grind[vA,vI,List.mem_singleton,List.mem_cons_self]
  grind[lN,List.map_congr_left,vI]
 refine⟨H.op,?_,H.kr.trans D.symm,?_,iV.refl _⟩;have:=H.dst;grind[fR]
 . have v:=H.step;cases N:f.out with
   |none=>
    grind[O4]
   |some out=>
    rw[N] at v;obtain⟨Y,Z,a,R⟩:=v;have b:f.cn=out:=by grind[Ev.cn]
    refine⟨by grind[O4],?_,?_,R⟩;rw[ľ y (λk G=>z k (.inl (by rw[H.kr];omega))) V];omega;grind[Ii,Out.wr]
theorem kG.seq{R:St}(H:kG E ops f s s1)(h:iV r s)(q:iV R s1):kG E ops f r R:=by
 have:=H.Ik (s':=r) (λx _=>by rw[h.1]) (λk _=>by rw[h.2.1]) h.2.2.1 h.2.2.2.1 h.2.2.2.2;refine⟨this.op,this.dst,this.kr,this.step,?_⟩;refine q.trans (H.next.trans ?_);refine iV.jX ?_ _ _;obtain⟨B,D,e,y,z⟩:=h;refine⟨?_,?_,e.symm,y.symm,z.symm⟩;simp_all[St.put]
 simp_all[St.put]
theorem yN.seq:∀(es:M Ev) (s r q Q:St),yN E ops es s q->iV r s->iV Q q->yN E ops es r Q
 |[],s,r,q,Q,h,h1,H=>H.trans (iV.trans h h1.symm)
 |e::es,s,r,q,Q,⟨s1,h,hx⟩,h1,H=>⟨s1,h.seq h1 (iV.refl _),yN.seq es s1 s1 q Q hx (iV.refl _) H⟩
def apart_spec(h:uo ops e f=true):(∀d,e.o.dst=some d->d∉looks ops f.o)/\(∀d,f.o.dst=some d->d∉looks ops e.o)/\(∀d,e.o.dst=some d->f.o.dst≠some d)/\
  (∀k∈e.cn.wr,k∉f.kr)/\(∀k∈f.cn.wr,k∉e.kr)/\(∀k∈e.cn.wr,k∉f.cn.wr)/\nk e.cn.wU (f.cn.new.map (·.1))=true/\nk f.cn.wU (e.cn.new.map (·.1))=true:=by
 unfold uo at h;grind[rQ,OI,Bool.not_eq_true',jn,cY,Bool.not_true]
def swap{S:St}(y:kG E ops e s s1)(z:kG E ops f s1 S)(B:uo ops e f=true)(ce:Clean e s)(c:Clean f s):
  kG E ops f s (ap ops f s)/\kG E ops e (ap ops f s) (ap ops e (ap ops f s))/\iV (ap ops e (ap ops f s)) S:=by
 obtain⟨a,A,O,R,U,V,D,F⟩:=apart_spec B;have n:iV s1 (ap ops e s):=y.next;have C:Clean f (ap ops e s):=c.ap ce D;have I:Clean e (ap ops f s):=ce.ap c F;have H:kG E ops f (ap ops e s) S:=z.seq n.symm (iV.refl _)
 have J:kG E ops f s (ap ops f s):=by
  refine H.Ik (λx q=>?_) (λk M=>?_) (O1 _ _).symm (Ga _ _).symm (O2 _ _).symm;rw[O3 ce,if_neg (λh=>a x h q)];grind[L1,pU]
 have N:kG E ops e (ap ops f s) (ap ops e (ap ops f s)):=by
  refine y.Ik (λx q=>?_) (λk M=>?_) (O1 _ _) (Ga _ _) (O2 _ _);rw[O3 c,if_neg (λh=>A x h q)];grind[L1,pU]
 refine⟨J,N,iV.trans ?_ H.next.symm⟩;show iV (ap ops e (ap ops f s)) (ap ops f (ap ops e s));refine⟨?_,?_,by grind[O1],by grind[Ga],by grind[O2]⟩;grind[O3];grind[L1,pU]
def vJ(ops:M Oper):M Ev->Prop
 |[]=>True
 |e::es=>(∀f∈es,nk e.cn.wU (f.cn.new.map (·.1))=true/\(waits f e=true\/uo ops e f=true))/\vJ ops es
def aeF:∀(y:M Ev) (f:Ev) (S:M Ev) (s q:St),yN E ops (y++f::S) s q->(∀e∈y,uo ops e f=true)->
  vJ ops (y++f::S)->(∀g∈y++f::S,Clean g s)->kG E ops f s (ap ops f s)/\yN E ops (y++S) (ap ops f s) q
 |[],f,S,s,q,hx,B,_,z=>by
   obtain⟨s1,H,D⟩:=hx;refine⟨H.Ik (λ_ _=>rfl) (λ_ _=>rfl) rfl rfl rfl,yN.seq _ _ _ _ _ D H.next.symm (iV.refl _)⟩
 |e::y,f,S,s,q,hx,B,I,z=>by
  obtain⟨s1,H,D⟩:=hx;have c:=z e z!
  have F:∀g∈y++f::S,Clean g s1:=by
   intro g N;have h:=(z g x!).ap (ops:=ops) c (I.1 g N).1;have J:iV s1 (ap ops e s):=H.next;exact⟨λi=>by rw[J.1];exact h.1 i,λk=>by rw[J.2.1];exact h.2 k⟩
  obtain⟨b,O⟩:=aeF y f S s1 q D (λR V=>B R (F! _ V)) I.2 F;obtain⟨C,U,X⟩:=swap H b (B e z!) c (z f z!);exact⟨C,ap ops e (ap ops f s),U,yN.seq _ _ _ _ _ O X (iV.refl _)⟩
def rR {l:Array Bool}(h:i<l.size):l.getD i true=l.getD i false:=by
 grind
def vJ.sub:∀ {es1:M Ev} {f:Ev} {s:M Ev} {ops:M Oper},vJ ops (es1++f::s)->vJ ops (es1++s)
 |[],f,s,ops,h=>h.2
 |e::es1,f,s,ops,h=>by
  refine⟨λg H=>h.1 g ?_,vJ.sub (es1:=es1) h.2⟩;have H:g∈es1++s:=H;show g∈es1++f::s;rw[I!] at H |-;exact H.imp id (F! _)
def vJ.mid:∀ {es1:M Ev} {f:Ev} {s:M Ev} {ops:M Oper},vJ ops (es1++f::s)->(∀e∈es1,nk e.cn.wU (f.cn.new.map (·.1))=true/\(waits f e=true\/uo ops e f=true))/\
  ∀g∈s,nk f.cn.wU (g.cn.new.map (·.1))=true
 |[],f,s,ops,h=>⟨λe y=>x!,λg H=>(h.1 g H).1⟩
 |e::es1,f,s,ops,h=>by
  obtain⟨k,q⟩:=vJ.mid (es1:=es1) h.2;refine⟨λE V=>?_,q⟩;rcases O!.1 V with rfl|V;exact h.1 f z!;exact k E V
def aFW(a:M Ev):Prop:=∀f∈a,∀k∈f.pre,∃x∈f.o.after.toList,Region.binds .any x=true/\(x.on=k\/∃g∈a,g.i=x.on/\k∈g.pre)
def Ŀ {ops J:Array Oper}{A:M Ev}{R:Array Bool->St->Act->World->Prop}(Vv:J.size=ops.size)(V:∀(i:Nat) (o U:Oper),ops[i]? =some o->J[i]? =some U->U.after=o.after)
  (TC:∀listed s r a w,iV r s->R listed s a w->R listed r a w)
  (ŀ:∀(f:Ev) (listed:Array Bool) (s:St) (a:Act) (w:World) (K:Act->World->Prop),f∈A->kG E J.toList f s (ap J.toList f s)->Clean f s->listed.size=ops.size->listed.getD f.i true=false->
    (∀x∈f.o.after,Region.binds .any x=true->listed.getD x.on false=true)->R listed s a w->(∀D w',R (listed.setIfInBounds f.i true) (ap J.toList f s) D w'->K D w')->wpOp P ops Q f.i K a w):
  ∀(F:Nat) (listed:Array Bool) (es:M Ev) (s q:St) (a:Act) (w:World),
  es.length<=F->yN E J.toList es s q->vJ J.toList es->(∀g∈es,Clean g s)->(es.map (·.i)).Pairwise (· < ·)->(∀i,listed.getD i true=false↔∃e∈es,e.i=i)->
  (∀e∈es,∀x∈e.o.after.toList,Region.binds .any x=true->x.on<e.i)->(∀e∈es,J[e.i]? =some e.o)->(∀e∈es,e∈A)->(∀g∈A,J[g.i]? =some g.o)->aFW A->(∀g∈A,listed.getD g.i true=true->∀k∈g.pre,listed.getD k false=true)->listed.size=ops.size->R listed s a w->(∀listed D w',(∀i,listed.getD i true=true)->listed.size=ops.size->R listed q D w'->Q .normal D w')->wpAny P .any ops Q F listed a w:=by
 have Bf:∀(i:Nat) (U:Oper),J[i]? =some U->∃o:Oper,ops[i]? =some o/\U.after=o.after:=by
  intro i U h;have X:i<ops.size:=by rw[<-Vv];exact(P!.1 h).1
  exact⟨ops[i],u? X,V i _ _ (u? X) h⟩
 intro F;induction F with
 |zero=>
  intro listed es s q a w hl t u Y Z hm hb c L I qC mD B v C;have :es=[]:=P?.1 (Nat.le_zero.1 hl);subst this
  have N:∀i,listed.getD i true=true:=λi=>by
   cases h:listed.getD i true with
   |true=>rfl
   |false=>obtain⟨_,he,_⟩:=(hm i).1 h;cases he
  refine⟨?_,C _ _ _ N B (TC _ _ _ _ _ t v)⟩;rw[List.eq_nil_iff_forall_not_mem];intro j hj;rw[(mem_ready.1 hj).1.symm.trans (N j)] at *;have:=(mem_ready.1 hj).1;rw[N j] at this;cases this
 |succ F ih=>
  intro listed es s q a w hl t u Y Z hm hb c L I qC mD B v C;refine⟨λhr=>?_,λi gl=>?_⟩
  . cases es with
    |nil=>
     refine C _ _ _ (λi=>?_) B (TC _ _ _ _ _ t v);cases h:listed.getD i true with
     |true=>rfl
     |false=>obtain⟨_,he,_⟩:=(hm i).1 h;cases he
    |cons e es=>
     exfalso;have hoe:=c e z!;obtain⟨oo,VS,haf⟩:=Bf _ _ hoe;have X:e.i<ops.size:=(P!.1 VS).1
     have :e.i∈Region.ready .any ops listed:=by
      refine mem_ready.2 ⟨(hm e.i).2 ⟨e,z!,rfl⟩,oo,VS,λx Ez hbx=>?_⟩;rw[<-haf] at Ez;have hon:=hb e z! x (by simpa using Ez) hbx;rw[<-rR (by rw[B];omega)];cases hq:listed.getD x.on true with
      |true=>rfl
      |false=>
       obtain⟨g,H,d⟩:=(hm x.on).1 hq;exfalso;rcases O!.1 H with rfl|H;omega;have :e.i<g.i:=(W?.1 Z).1 g.i (S? H);omega
     rw[hr] at this;cases this
  . obtain⟨h0,o,yQ,O6⟩:=mem_ready.1 gl;obtain⟨f,hf,M8⟩:=(hm i).1 h0;obtain⟨y,S,rfl⟩:=List.append_of_mem hf;subst M8;have G:=c f z!;rw[<-V _ _ _ yQ G] at O6;obtain⟨m1,m2⟩:=u.mid
    have l:∀g∈A,J[g.i]? =some f.o->∀k∈g.pre,listed.getD k false=true:=by
     intro g H hgo k T
     have z:g.o=f.o:=by
      have:=I g H;rw[hgo] at this;exact(R? this).symm
     obtain⟨x,Sk,ł,hx3⟩:=qC g H k T;rw[z] at Sk;have W:=O6 x (by simpa using Sk) ł;rcases hx3 with rfl|⟨g',yR,d,hkg⟩;exact W
     . refine mD g' yR ?_ k hkg;rw[d];rw[H?] at W |-;cases hq:listed[x.on]? with
       |none=>rfl
       |some b=>rw[hq] at W;exact W
    have yS:∀e∈y,uo J.toList e f=true:=by
     intro e he;rcases(m1 e he).2 with hw|hw;exfalso;have hmk:e.i∈f.pre:=(D3 _ _).1 hw;have this:=l f (L f z!) G e.i hmk;have m:=(hm e.i).2 ⟨e,by simp[he],rfl⟩
     have X:e.i<listed.size:=by
      rw[B,<-Vv];exact(P!.1 (c e (by simp[he]))).1
     rw[rR X] at m;rw[m] at this;cases this;exact hw
    obtain⟨c1,c2⟩:=aeF y f S s q t yS u Y;refine ŀ f listed s a w _ (L f z!) c1 (Y f z!) B h0 O6 v λD w' qA=>?_;have cf:=Y f z!
    have n:∀e∈y++S,e∈y++f::S:=by
     intro e he;rw[I!] at he |-;exact he.imp id (F! _)
    have dS:∀e∈y++S,e.i≠f.i:=by
     intro e he;rw[X?,G?,List.pairwise_append] at Z;obtain⟨p1,p2,p3⟩:=Z;rcases I!.1 he with he|he;have :e.i<f.i:=p3 e.i (S? he) f.i z!;omega;have :f.i<e.i:=(W?.1 p2).1 e.i (S? he);omega
    have aMy:f.i<listed.size:=by rw[B,<-Vv];exact(P!.1 G).1
    refine ih (listed.setIfInBounds f.i true) (y++S) (ap J.toList f s) q D w' ?_ c2 u.sub ?_ ?_ ?_ (λe he=>hb e (n e he)) (λe he=>c e (n e he)) (λe he=>L e (n e he)) I qC ?_ (by simpa using B) qA C;simp only[J!,M?] at hl |-;omega;intro g H;refine(Y g (n g H)).ap cf ?_;rcases I!.1 H with H|H;exact(apart_spec (yS g H)).2.2.2.2.2.2.2;exact m2 g H;refine Z.sublist ?_;rw[X?,X?,G?];exact List.Sublist.append (List.Sublist.refl _) (List.sublist_cons_self _ _);intro i;by_cases O:i=f.i;subst O
    have :(listed.setIfInBounds f.i true).getD f.i true=true:=by
     rw[H?,Array.getElem?_setIfInBounds_self_of_lt aMy];rfl
    rw[this];constructor;intro h;cases h;rintro⟨e,he,h⟩;exact absurd h (dS e he);rw[getD_set_ne true (λh=>O h.symm),hm i];constructor;rintro⟨e,he,rfl⟩;refine⟨e,?_,rfl⟩;rw[I!,O!] at he;rw[I!];rcases he with he|rfl|he;exact .inl he;exact absurd rfl O;exact .inr he;rintro⟨e,he,rfl⟩;exact⟨e,n e he,rfl⟩;intro g H p k T;by_cases z:g.i=f.i;exact getD_set_true (l g H (by rw[z];exact G) k T);rw[getD_set_ne true (λh=>z h.symm)] at p;exact getD_set_true (mD g H p k T)
theorem Ct:∀(a b:M Nat) (k:Nat),k∈H2 a b->k∈a\/k∈b
 |[],b,k,h=>.inr h
 |j::a,b,k,h=>by
  simp[H2] at h;cases H:aw b j with
  |true=>
   rw[H] at h;rcases Ct a b k h with h|h;exact .inl (F! _ h);exact .inr h
  |false=>
   rw[H] at h;rcases Ct a (j::b) k h with h|h;exact .inl (F! _ h);rcases O!.1 h with rfl|h;exact .inl (G! ..);exact .inr h
theorem O7:∀(t:M Ev) (i k:Nat),k∈VF i t->∃g∈t,g.i=i/\k∈g.pre
 |e::t,i,k,h=>by
  simp[VF] at h;cases H:Nat.beq e.i i with
  |true=>rw[H] at h;exact⟨e,G! ..,D! H,h⟩
  |false=>
   rw[H] at h;obtain⟨g,q,y⟩:=O7 t i k h;exact⟨g,F! _ q,y⟩
 |[],_,_,h=>by cases h
theorem Gb:∀(t:M Ev) (xs:M Edge) (k:Nat),k∈pw t xs->∃x∈xs,Region.binds .any x=true/\(x.on=k\/∃g∈t,g.i=x.on/\k∈g.pre)
 |t,x::xs,k,h=>by
  simp[pw] at h;cases z:Region.binds .any x with
  |true=>
   rw[z] at h;rcases Ct _ _ k h with h|h;grind[List.mem_cons_self,O7];obtain⟨y,H,q⟩:=Gb t xs k h;exact⟨y,List.mem_cons_of_mem _ H,q⟩
  |false=>
   rw[z] at h;obtain⟨y,H,q⟩:=Gb t xs k h;exact⟨y,F! _ H,q⟩
 |_,[],_,h=>by cases h
def Ń(es:M Ev):∀(t:M Ev),VL kb ops t es->∀f∈es,∀k∈f.pre,∃x∈f.o.after.toList,Region.binds .any x=true/\(x.on=k\/∃g,(g∈t\/g∈es)/\g.i=x.on/\k∈g.pre):=by
 induction es with
 |nil=>grind
 |cons e es I=>
  intro t h f H k q;obtain⟨_,y,z⟩:=h;grind[Gb,List.mem_cons_self,List.mem_cons_of_mem]
def Il {kb:Nat}{ops:M Oper}:∀(es t:M Ev),VL kb ops t es->(∀e∈t,∀f∈es,nk e.cn.wU (f.cn.new.map (·.1))=true/\(waits f e=true\/uo ops e f=true))/\
  vJ ops es/\(∀f∈es,∀x∈f.o.after.toList,Region.binds .any x=true->x.on<f.i)/\(∀f∈es,∀x∈f.cn.new,cT kb ((eI ops).map .dst) x.1=true)/\
  ∀f∈es,nk (f.kr++(f.cn.wr++f.cn.wU)) [eC]=true/\JZ f=true
 |[],t,_=>⟨λ_ _ f q=>x!,trivial,λf q=>x!,λf q=>x!,λf q=>x!⟩
 |f::es,t,⟨h,_,B⟩=>by
  obtain⟨r,R,N,D,F⟩:=Il es (f::t) B;simp only[lO,cond_true,Bool.and_eq_true] at h;obtain⟨⟨⟨I,y⟩,z⟩,J⟩:=h;simp only[List.all_eq_true,Bool.or_eq_true,Bool.and_eq_true] at I y z;refine⟨λe O g H=>?_,⟨λg H=>r f z! g H,R⟩,λg H x k U=>?_,λg H x k=>?_,λg H=>?_⟩;grind;rcases List.mem_cons.1 H with rfl|H;rcases y x k with h|h;grind;simp_all
  grind;rcases List.mem_cons.1 H with rfl|H;exact z x k;exact D g H x k;rcases List.mem_cons.1 H with rfl|H;exact J;exact F g H
theorem aq.drew(H:aq C A β st a w)(n:Nat):aq C A β st a {w with drawn:=n}:=by
 have q:bI w {w with drawn:=n} A A:=λb y=>⟨y,rfl⟩;refine⟨H.defers,H.size,λi=>jh q _ _ (H.tmps i),λk ab h=>?_,H.apart,H.bound,⟨H.frame.os,H.frame.tape,H.frame.output,H.frame.size,H.frame.block⟩,H.gG,H.base,H.om,H.qo,λi d z=>(H.laid i d z).mono q,H.held⟩;have:=yD (w:=w) (aC:=β) (new:=[]) (w':={w with drawn:=n}) (λ_ _=>rfl) rfl (λb y=>⟨rfl,id⟩) q (H.blocks k ab h);rwa [show bD [] ab=ab from rfl] at this
def aj2(es:M Ev):∀(s q:St),yN E ops es s q->∀e∈es,ops[e.i]? =some e.o:=by
 induction es with
 |nil=>grind
 |cons e es I=>
  intro s q H f h;obtain⟨s1,k,y⟩:=H;rcases List.mem_cons.1 h with rfl|h;exact k.op;grind
def O8 {ops jT:Array Oper}(v:jT.size=ops.size)(J:∀(i:Nat) (o O:Oper),ops[i]? =some o->jT[i]? =some O->O.after=o.after){S m:St}{cs:M Prop}(h:xe E true jT.toList 0 [] jT.toList S=some (cs,m))(Z:∀p∈cs,p)
  (b:∀i,aG (cT S.kb ((eI jT.toList).map .dst)) (S.t i)=S.t i) (c:∀k,ca (cT S.kb ((eI jT.toList).map .dst)) (S.h k)=S.h k):
  ∃(es:M Ev) (y:St),(∀f∈es,jT[f.i]? =some f.o/\nk (f.kr++(f.cn.wr++f.cn.wU)) [eC]=true/\JZ f=true)/\(∀(C:Ctx) A β a w,aq C A β y a w->aq C A β m a w)/\
   ∀(R:Array Bool->St->Act->World->Prop) (Q:Exit->Act->World->Prop) (a:Act) (w:World),(∀listed s r a w,iV r s->R listed s a w->R listed r a w)->
   (∀(f:Ev) (listed:Array Bool) (s:St) (a:Act) (w:World) (K:Act->World->Prop),f∈es->kG E jT.toList f s (ap jT.toList f s)->Clean f s->listed.size=ops.size->listed.getD f.i true=false->
     (∀x∈f.o.after,Region.binds .any x=true->listed.getD x.on false=true)->R listed s a w->(∀z w',R (listed.setIfInBounds f.i true) (ap jT.toList f s) z w'->K z w')->wpOp P ops Q f.i K a w)->
   R (Array.replicate ops.size false) S a w->(∀listed z w',(∀i,listed.getD i true=true)->listed.size=ops.size->R listed y z w'->Q .normal z w')->wpAny P .any ops Q ops.size (Array.replicate ops.size false) a w:=by
 obtain⟨es,y,U,V,X,d⟩:=vE jT.toList 0 [] _ cs m h Z (λk=>by simp);obtain⟨_,j,l,n,u⟩:=Il es [] (X rfl)
 have Y:es.length=ops.size:=by
  have:=congrArg List.length V;grind
 have B:∀i,(∃e∈es,e.i=i)↔i<ops.size:=by
  intro i;have :(∃e∈es,e.i=i)↔i∈es.map (·.i):=by simp
  grind
 have q:∀e∈es,jT[e.i]? =some e.o:=λe G=>by
  have:=aj2 es _ _ U e G;simpa using this
 refine⟨es,y,λf I=>⟨q f I,u f I⟩,d,λR Q a w T L W hQ=>?_⟩;refine Ŀ v J T L ops.size _ es _ y _ _ w! U j (λg H=>?_) ?_ (λi=>?_) l q (λ_ h=>h) q ?_ ?_ z! W hQ
 . have hp:∀k,gN g.cn.new k=true->cT S.kb ((eI jT.toList).map .dst) k=true:=by
    intro k hk
    have :∃x∈g.cn.new,x.1=k:=by
     rw[zZ] at hk
     have :k∈g.cn.new.map (·.1):=by
      apply Classical.byContradiction;intro hn;rw[jD _ k (jn.2 hn)] at hk;cases hk
     simpa using this
    obtain⟨x,hx,rfl⟩:=this;exact n g H x hx
   have D:∀k,(cT S.kb ((eI jT.toList).map .dst) k || gN g.cn.new k)=cT S.kb ((eI jT.toList).map .dst) k:=by
    intro k;cases hk:gN g.cn.new k with
    |false=>rw[Bool.or_false]
    |true=>rw[hp k hk];rfl
   refine⟨λi=>?_,λk=>?_⟩;rw[<-b i,dC];simp only[D];rw[<-c k,fX];simp only[D]
 rw[V];exact List.pairwise_lt_range';rw[B];constructor;intro h;by_cases hi:i<ops.size;exact hi;rw[H?,Array.getElem?_eq_none (by simpa using hi)] at h;cases h;intro hi;rw[H?,Array.getElem?_replicate,Q! hi];rfl;intro f I k hk;obtain⟨x,g1,g2,g3⟩:=Ń es [] (X rfl) f I k hk;refine⟨x,g1,g2,g3.imp (λh=>h) ?_⟩;rintro⟨g,H,h⟩;rcases H with H|H;cases H;exact⟨g,H,h⟩;intro g H F;have N:g.i<ops.size:=(B g.i).1 ⟨g,H,rfl⟩;rw[H?,Array.getElem?_replicate,Q! N] at F;cases F
def J3(st:St)(W:M Nat):(∀i,aG (cT st.kb (W.map .dst)) ((st.ahead W).t i)=(st.ahead W).t i)/\∀k,ca (cT st.kb (W.map .dst)) ((st.ahead W).h k)=(st.ahead W).h k:=by
 constructor;intro i;simp only[St.ahead,dC,Bool.or_self];intro i;simp only[St.ahead,fX,Bool.or_self]
theorem SE(z:dU P C E)(B:P.follows .mixedOrders=true){I:Nat}{ops:Array Oper}{cs:M Prop}{m:St}(h:xe E true ops.toList 0 [] ops.toList (st.ahead (eI ops.toList))=some (cs,m))(e:∀p∈cs,p)
  (q:Rel C st a w) (D:∀y w',Rel C m y w'->Q .normal y w'):(Code.region I ops true).wp P Q a w:=by
 obtain⟨es,S,_,h1,k⟩:=O8 (P:=P) (ops:=ops) rfl (λi o O h1 k=>by rw[h1] at k;cases k;rfl) h e (J3 st _).1 (J3 st _).2;obtain⟨A,β,H⟩:=q;exact wp_region_any B (k (λ_ s a w=>Rel C s a w) Q _ _ (λ_ s r a w F ⟨A,β,H⟩=>⟨A,β,H.seq F⟩) (λf _ s a w K _ J _ _ _ _ q N=>uu z J q N) ⟨A,β,(H.ahead _).drew _⟩ λ_ y w' _ _ ⟨A,β,H⟩=>D _ _ ⟨A,β,h1 _ _ _ _ _ H⟩)
theorem Y1 {ops:Array Oper}{i:Nat}{o:Oper}(q:ops[i]? =some o)(h:wpOp P ops Q i K a w):
  wpOp P ops Q i (λA w'=>K A w'/\∀j,o.dst≠some j->A.tmps.getD j undef=a.tmps.getD j undef) a w:=by
 have H:∀(b:Act) (v:Value),b.tmps=a.tmps->∀j,o.dst≠some j->(b.put o.dst v).tmps.getD j undef=a.tmps.getD j undef:=by
  unfold Act.put;cases y:o.dst with
  |none=>grind
  |some d=>
   simp_all
 unfold wpOp at *;simp[q] at *;split
 . rename_i hw;rw[if_pos hw] at h;refine h.imp (λh=>?_) id;unfold Oper.wp at *;generalize (execOp a.eval o).run P w=r at *;cases r with
   |ok n w'=>
    cases n with
    |enter f args=>exact Calls.mono h λe V k=>by grind
    |row r args=>exact Rows.mono h λ_ _ k=>⟨k,H _ _ rfl⟩
    |value v=>exact⟨h,H _ _ rfl⟩
    |skip=>exact⟨h,H _ _ rfl⟩
    |defer d=>exact⟨h,H _ _ rfl⟩
    |_=>exact h
   |halt x w'=>cases x<;>exact h
 grind
def Cl(s:St):Prop:=∀o,Clean ⟨0,o,some {cond:=[],res:=.db,new:=[(eC,.cells [])]},[],[]⟩ s
def Gc {x:AB}:gN [(eC,x)]=λk=>Nat.beq k eC:=by
 grind[gN]
def VT:Cl s↔(∀i,aG (λk=>Nat.beq k eC) (s.t i)=s.t i)/\∀k,ca (λk=>Nat.beq k eC) (s.h k)=s.h k:=by
 rw[<-Gc (x:= .cells [])];exact⟨λh=>h ⟨none,OJ,0,"", #[],none⟩,λh _=>h⟩
def auq(s:St):Cl s.cut:=by
 simp_all[VT,St.cut,dC,Bool.or_self,fX]
def St.wm(s:St)(b:Nat)(es:Array MapEntry)(c:Nat):St:={s with h:=λk=>bif Nat.beq k eC then some (.mp b es c) else s.h k}
theorem Cu:(fS L o).dst=o.dst/\(fS L o).guard=o.guard/\(fS L o).after=o.after:=by
 grind[fS]
theorem ń:F4 (ops.map (fS L)) j=F4 ops j:=by
 unfold F4;rw[List.getElem?_map];cases ops[j]? with
 |none=>rfl
 |some o=>exact Cu.1
theorem VU:mo (ops.map (fS L)) j=mo ops j:=by
 grind[mo,List.any_map,Cu]
theorem L2 {L:M Nat}{ops:M Oper}{f:Ev}{s s':St}(h:kG E (ops.map (fS L)) f s s')(H:ops[f.i]? =some f.o):kG E ops f s s':=by
 have k:∀t,OH (ops.map (fS L)) t f.o=OH ops t f.o:=λt=>by grind[OH,ń]
 refine⟨H,h.dst,h.kr,?_,by have:=h.next;grind[VU]⟩;have:=h.step;grind
def TD {i0 d:Nat}{t:TypeId}:∀(ops:M Oper) (i:Nat),aey i ops=some (i0,d,t)->i<=i0/\∃o,ops[i0-i]? =some o/\o.op= .makeMap t none/\o.dst=some d
 |o::r,i,h=>by
  unfold aey at h;split at h;grind;obtain⟨H,O,k,q⟩:=TD r (i+1) h;grind
theorem z8 {L:M Nat}:∀(ops:M Oper) (i:Nat) (q:Nat×Int×Nat),q∈aQK L i ops↔∃o t,i<=q.1/\ops[q.1-i]? =some o/\role L o= .ins t q.2.1 q.2.2
 |[],i,q=>by simp[aQK]
 |o::r,i,q=>by
  have I:=z8 (L:=L) r (i+1) q;unfold aQK;grind
theorem D4{q:Nat×Int×Nat}:q∈aQK L 0 ops↔∃o t,ops[q.1]? =some o/\role L o= .ins t q.2.1 q.2.2:=by
 grind[z8]
def vK {L:M Nat}:∀(ops:M Oper) (i:Nat),((aQK L i ops).map (·.1)).Nodup
 |[],i=>by simp[aQK]
 |o::r,i=>by
  have I:=vK (L:=L) r (i+1);unfold aQK;split;rw[List.map_cons,List.nodup_cons];refine⟨λh=>?_,I⟩;obtain⟨q,H,k⟩:=List.mem_map.1 h;obtain⟨_,_,y,_⟩:=(z8 r (i+1) q).1 H;omega;exact I
def Im {α:Type}{p p':α->Bool}{x:α}:∀(l:M α),l.Nodup->x∈l->p x=false->(∀y∈l,p' y=true↔p y=true\/y=x)->(l.filter p').Perm (l.filter p++[x])
 |y::l,D,hx,hp,h=>by
  rw[List.nodup_cons] at D;have q:=h y (G! ..);by_cases k:y=x;subst k
  have e:l.filter p'=l.filter p:=List.filter_congr λz F=>by
   grind
  rw[List.filter_cons_of_pos (q.2 (.inr rfl)),List.filter_cons_of_neg x!,e];exact(List.perm_append_singleton y _).symm
  . have i:=Im l D.2 (by rcases O!.1 hx with h|h;exact absurd h.symm k;exact h) hp λz F=>h z (F! _ F);cases H:p y with
    |true=>
     rw[List.filter_cons_of_pos (q.2 (.inl H)),List.filter_cons_of_pos H];exact i.cons y
    |false=>
     have B:¬p' y=true:=λh=>by rcases q.1 h with h|h;rw[H] at h;cases h;exact k h
     rw[List.filter_cons_of_neg B,List.filter_cons_of_neg (by simp[H])];exact i
def Cv {α k:Type}{f:α->k}:∀ {l:M α},(l.map f).Nodup->∀x∈l,∀y∈l,f x=f y->x=y
 |z::l,h,x,hx,y,q,e=>by
  rw[G?,List.nodup_cons] at h;rcases O!.1 hx with h1|h1<;>rcases O!.1 q with H|H;exact h1.trans H.symm;exact absurd (U?.2 ⟨y,H,by rw[<-e,h1]⟩) h.1;exact absurd (U?.2 ⟨x,h1,by rw[e,H]⟩) h.1;exact Cv h.2 x h1 y H e
def Fb {α k:Type}{f:α->k}:∀ {l:M α},(l.map f).Nodup->l.Nodup
 |[],_=>List.nodup_nil
 |z::l,h=>by
  rw[G?,List.nodup_cons] at h;exact List.nodup_cons.2 ⟨λH=>h.1 (S? H),Fb h.2⟩
structure MI (L:List Nat) (ops:List Oper) (listed:Array Bool) (a:Act) (b:Nat) (es:Array MapEntry):Prop where
 at_:∀j o e,ops[j]? =some o->Sz L o=true->o.dst=some e->listed.getD j false=true->a.tmps.getD e undef= .map (some b)
 done :∀q∈aQK L 0 ops,listed.getD q.1 false=true->∀(j:Nat) (o:Oper),ops[j]? =some o->o.dst=some q.2.2->listed.getD j false=true
 there:(es.toList.map λx=>(x.key,x.val)).Perm (((aQK L 0 ops).filter λq=>listed.getD q.1 false).map λq=>(Value.int .i64 q.2.1,a.tmps.getD q.2.2 undef))
structure aEk (T:b9) (L:List Nat) (ops:List Oper) (i0 d:Nat) (t:TypeId):Prop where
 new:∃o,ops[i0]? =some o/\o.op= .makeMap t none/\o.dst=some d
 ty:∃te kt et,T.find t=some te/\te.desc= .map kt et/\cW T kt xU=true
 nodup:gY ((aQK L 0 ops).map (·.2.1))=true
 chk:∀(i:Nat) (o:Oper),ops[i]? =some o->aez L ops i0 t i o=true
def Y2 {T:b9}(h:VH T ops=some (i0,t,L)):∃d,aEk T L ops i0 d t:=by
 unfold VH at h;split at h;rename_i i d D k;split at h;rename_i q j;split at h;rename_i K e y;rw[cond_eq_ite] at h;split at h;rename_i H;cases h;simp at H;obtain⟨_,o,F,z,B⟩:=TD _ _ k;refine⟨d,⟨o,w!,z,B⟩,⟨q,K,e,j,y,H.1⟩,H.2.1,λi o I=>?_⟩;grind;grind;grind;grind;grind
theorem qD(h:H4 o j=true)(H:∀x∈o.after,Region.binds .any x=true->listed.getD x.on false=true):listed.getD j false=true:=by
 obtain⟨x,k,q⟩:=List.any_eq_true.1 h;grind[Nat.eq_of_beq_eq_true]
theorem fY(h:i<listed.size):(listed.setIfInBounds i true).getD j false=if i=j then true else listed.getD j false:=by
 simp;grind
theorem MI.rC {L:M Nat}{listed:Array Bool}{A:Act}{b:Nat}{i:Nat}{o:Oper}(h:MI L ops listed a b es)(hi:i<listed.size)(U:listed.getD i true=false)(I:ops[i]? =some o)
  (V:∀t k x,role L o≠ .ins t k x) (F:∀j,o.dst≠some j->A.tmps.getD j undef=a.tmps.getD j undef)
  (hd:∀j q e,ops[j]? =some q->Sz L q=true->q.dst=some e->o.dst=some e->(j=i\/listed.getD j false=true)->A.tmps.getD e undef= .map (some b)) (X:Sz L o=true->o.dst.isSome):MI L ops (listed.setIfInBounds i true) A b es:=by
 have S:listed.getD i false=false:=by
  grind
 have l:∀q∈aQK L 0 ops,listed.getD q.1 false=true->o.dst≠some q.2.2:=λq H B hd=>by
  rw[h.done q H B i o I hd] at S;grind
 have y:∀q∈aQK L 0 ops,i≠q.1:=λq H e=>by
  grind[D4]
 refine⟨λj q e H z J D=>?_,λq H B j O D s=>?_,?_⟩;rw[fY hi] at D;by_cases N:o.dst=some e;grind;rw[F e N];refine h.at_ j q e H z J ?_;grind;rw[fY hi,if_neg (y q H)] at B;rw[fY hi];split;rfl;exact h.done q H B j O D s
 have E:((aQK L 0 ops).filter λq=>(listed.setIfInBounds i true).getD q.1 false)=(aQK L 0 ops).filter λq=>listed.getD q.1 false:=
  List.filter_congr λq H=>by rw[fY hi,R! (y q H)]
 have R:(((aQK L 0 ops).filter λq=>listed.getD q.1 false).map λq=>(Value.int .i64 q.2.1,A.tmps.getD q.2.2 undef))=((aQK L 0 ops).filter λq=>listed.getD q.1 false).map λq=>(Value.int .i64 q.2.1,a.tmps.getD q.2.2 undef):=
  g? λq H=>by
   rw[List.mem_filter] at H;rw[F _ (l q H.1 H.2)]
 rw[E,R];exact h.there
def RM(C:Ctx)(L:M Nat)(ops:M Oper)(i0:Nat)(listed:Array Bool)(s:St)(a:Act)(w:World):Prop:=Cl s/\s.h eC=none/\∃A β,
 (listed.getD i0 false=false/\(∀(j:Nat) (o:Oper),ops[j]? =some o->role L o≠ .no->listed.getD j false=false)/\aq C A β s a w)\/
 ∃b es c,listed.getD i0 false=true/\aq C A β (s.wm b es c) a w/\MI L ops listed a b es
theorem Cl.seq(h:Cl s)(H:iV r s):Cl r:=by
 rw[VT] at *;rwa [H.1,H.2.1]
theorem iV.wm {s r:St}(h:iV r s)(b:Nat)(es:Array MapEntry)(c:Nat):iV (r.wm b es c) (s.wm b es c):=
 ⟨h.1,by simp[St.wm,h.2.1],h.2.2⟩
theorem RM.seq {L:M Nat}{ops:M Oper}{i0:Nat}{listed:Array Bool}{s r:St}(h:RM C L ops i0 listed s a w)(H:iV r s):RM C L ops i0 listed r a w:=by
 obtain⟨q,y,A,β,h⟩:=h;refine⟨q.seq H,by rw[H.2.1];omega,A,β,?_⟩;rcases h with⟨g,G,k⟩|⟨b,es,c,g,G,k⟩;exact .inl ⟨g,G,k.seq H⟩;exact .inr ⟨b,es,c,g,G.seq (H.wm b es c),k⟩
def aF0(h:Cl s)(k:Clean f s)(H:nk (f.kr++(f.cn.wr++f.cn.wU)) [eC]=true):Cl (ap ops f s):=λo=>
 (h o).ap k (by
   unfold nk at *;rw[List.all_append,List.all_append,Bool.and_eq_true,Bool.and_eq_true] at H;exact H.2.2)
def aus(H:Clean f s)(q:s.h eC=none)(k:nk (f.kr++(f.cn.wr++f.cn.wU)) [eC]=true):(ap ops f s).h eC=none:=by
 rw[L1 H,pU (λh=>rQ k eC x! z!)];omega
def aF1{b:Nat}{ck:Nat}(q:Clean f s)(y:nk (f.kr++(f.cn.wr++f.cn.wU)) [eC]=true):Clean f (s.wm b es ck)/\iV ((ap ops f s).wm b es ck) (ap ops f (s.wm b es ck)):=by
 have H:Clean f (s.wm b es ck):=by
  refine⟨q.1,λk=>?_⟩;simp[St.wm];cases Nat.beq k eC with
  |true=>rfl
  |false=>exact q.2 k
 refine⟨H,?_,?_,by grind[O1,St.wm],by grind[Ga,St.wm],by grind[O2,St.wm]⟩;funext i;show(ap ops f s).t i=_;rw[O3 q,O3 H];rfl
 . funext k;rw[L1 H];simp[St.wm];cases z:Nat.beq k eC with
   |true=>
    have:=Nat.eq_of_beq_eq_true z;rw[pU (λh=>rQ y eC x! z!)];rfl
   |false=>simp_all[N!,L1]
def VV(q:Clean f s)(y:f.o.op=OJ)(H:JZ f=true):f.cn.wr=[]/\(∀k,(ap ops f s).h k=s.h k)/\∀i,(ap ops f s).t i=if f.o.dst=some i then .db else s.t i:=by
 simp[JZ,y,OJ,B!,List.isEmpty_iff] at H
 have z:f.cn.res= .db:=by
  grind
 refine⟨H.2.1,λk=>?_,λi=>?_⟩;grind[L1,pU];rw[O3 q,z];cases mo ops f.i<;>rfl
variable {ops:Array Oper}{x:Nat}
def Gd{i:Nat}{o:Oper}(h:ops[i]? =some o)(H:o.guard=none)(k:o.wp P a w K Q):wpOp P ops Q i K a w:=by
 simp_all[wpOp,Q!,Region.wanted]
theorem Y3 {d:Nat}(hd:d<a.tmps.size):(a.put (some d) v).tmps.getD d undef=v:=by
 simp[Act.put,H?,hd]
def aob(h:d≠some j):(a.put d v).tmps.getD j undef=a.tmps.getD j undef:=by
 cases d with
 |none=>rfl
 |some d=>
  simp_all[Act.put,H?,Array.getElem?_setIfInBounds,R!]
theorem TF(h:J0 L o=true):∃e,o.dst=some e/\aw L e=true:=by
 grind[J0]
def aoc(h:role L o= .cp x):o.op= .move (.tmp x)\/o.op= .assign (.tmp x):=by
 grind[role]
def aj3{k:Int}(h:role L o= .ins t k x):∃s,o.op= .insert t (.tmp s) (.const (.int .i64 k)) (.tmp x):=by
 grind[role]
def aj4(hE:dU P C E){L:M Nat}{ops:Array Oper}{d:Nat}(hp:aEk E.T L ops.toList i0 d t){f:Ev}{s:St}
  (O:(ops.toList.map (fS L))[f.i]? =some f.o) (X:nk (f.kr++(f.cn.wr++f.cn.wU)) [eC]=true) (rS:JZ f=true) (hf:kG E (ops.toList.map (fS L)) f s (ap (ops.toList.map (fS L)) f s)) (S:Clean f s) (eH:listed.size=ops.size)
  (hl:listed.getD f.i true=false) (haf:∀x∈f.o.after,Region.binds .any x=true->listed.getD x.on false=true) (hR:RM C L ops.toList i0 listed s a w)
  (hK:∀a' w',RM C L ops.toList i0 (listed.setIfInBounds f.i true) (ap (ops.toList.map (fS L)) f s) a' w'->K a' w'):wpOp P ops Q f.i K a w:=by
 rw[A?] at O
 obtain⟨o,W,Ł⟩:∃o,ops.toList[f.i]? =some o/\fS L o=f.o:=by
  cases h:ops.toList[f.i]? with
  |none=>rw[h] at O;cases O
  |some o=>rw[h] at O;exact⟨o,rfl,R? O⟩
 have Z:ops[f.i]? =some o:=by grind
 have m:f.i<listed.size:=by
  grind
 have SF:listed.getD f.i false=false:=by grind
 have vu:f.o.dst=o.dst:=by grind[Cu]
 have Y4:∀x∈o.after,Region.binds .any x=true->listed.getD x.on false=true:=by grind[Cu]
 have Y:=hp.chk f.i o W;unfold aez at Y;rw[Bool.and_eq_true] at Y;obtain⟨hg,Y⟩:=Y;have hg:o.guard=none:=by simp_all
 obtain⟨mD,Ņ,A,β,hR⟩:=hR;have Y5:=aF0 (ops:=ops.toList.map (fS L)) mD S X;have Y6:=aus (ops:=ops.toList.map (fS L)) S Ņ X
 have rB:∀j,listed.getD j false=true->(listed.setIfInBounds f.i true).getD j false=true:=λj H=>by
  grind[fY]
 obtain⟨oi,yQ,aR9,aoe⟩:=hp.new;have hri:role L oi= .mk:=by grind[role]
 cases N:role L o with
 |no=>
  rw[N] at Y
  have hnd:∀e,o.dst=some e->aw L e=false:=λe he=>by
   grind[J0,Bool.not_eq_true']
  have VS:f.o=o:=by grind[fS]
  rcases hR with⟨G,g2,g⟩|⟨b,es,B,G,g2,g⟩;refine uu hE (L2 hf x!) ⟨A,β,g⟩ λa' w' ⟨A',aC,h'⟩=>hK _ _ ⟨Y5,Y6,A',aC,.inl ⟨?_,λj q D hr=>?_,h'⟩⟩;rw[fY m,if_neg];omega;grind;rw[fY m,if_neg];grind;grind
  . obtain⟨c1,c2⟩:=aF1 (ops:=ops.toList.map (fS L)) (b:=b) (es:=es) (ck:=B) S X
    have hF:=(hf.Ik (s':=s.wm b es B) (λ_ _=>rfl) (λk hk=>by
     simp only[St.wm];cases hkm:Nat.beq k eC with
     |false=>rfl
     |true=>
      have:=Nat.eq_of_beq_eq_true hkm;subst this;refine absurd ?_ (rQ X eC ?_);simp;grind) rfl rfl rfl)
    refine wpOp_mono (λa' w' h=>?_) (Y1 Z (uu hE (L2 hF x!) ⟨A,β,g2⟩ (K:=λa' w'=>Rel C _ a' w') λ_ _ h=>h));obtain⟨⟨A',aC,h1⟩,F⟩:=h;refine hK _ _ ⟨Y5,Y6,A',aC,.inr ⟨b,es,B,rB _ G,h1.seq c2,g.rC m hl W x! F (λj q e D U he hoe _=>?_) (λh=>by grind[Sz])⟩⟩;have:=hp.chk j q D;unfold aez at this;unfold Sz at U;rw[Bool.and_eq_true] at this;grind[TF]
 |mk=>
  have VS:f.o.op=OJ:=by grind[fS]
  rw[N] at Y;simp only[B!] at Y;have kQ:=D! Y.1;rw[kQ,yQ] at W;cases W;rcases hR with⟨G,g2,g⟩|⟨b,es,B,G,_⟩
  . have Ca:d<s.n:=by
     have:=hf.dst;simp_all[fR,L!]
    obtain⟨n1,n2,n3⟩:=VV (ops:=ops.toList.map (fS L)) S VS rS;refine Gd Z hg (bK (v:=.map (some w.heap.size)) (w':=w.alloc (.map #[] 0)) (by simp_all[execOp,Instr.makeMap]) ?_);rw[aoe];refine(hK _ _ ⟨Y5,Y6,A,λk=>if k=eC then .pointer (some ⟨w.heap.size,0,none⟩) else β k,.inr ⟨w.heap.size, #[],0,?_,?_,?_⟩⟩);simp_all
    . have R:∀k x,ai [(eC,AB.mp w.heap.size #[] 0)] k=some x->k=eC/\x= .mp w.heap.size #[] 0:=λk x hk=>by
       grind[ai,Nat.beq,eC,Nat.eq_of_beq_eq_true,Option.some.inj]
      have BE:bI w (w.alloc (.map #[] 0)) A A:=λb I=>⟨I,eE _ b (g.bound b I)⟩
      refine(g.step (out:={cond:=[],res:=.db,new:=[(eC,.mp w.heap.size #[] 0)]}) (A':=A) (d:=some d) (v:=.map (some w.heap.size)) (w':=w.alloc (.map #[] 0)) (λt ht=>by grind)
       (λk x hk=>?_) (λk x hk=>by cases hk) (λk hk=>?_) BE rfl rfl rfl z! (λb I _=>eE _ b I) (λb I=>?_) (λb I=>.inl I) (λk x hk=>by cases hk) (λk x hk=>?_) (λk b x hk I=>?_) (λk k' b hk gk _ _=>?_) trivial).seq ?_
      obtain⟨rfl,_⟩:=R k x hk;exact⟨Ņ,rfl⟩;refine R! λe=>?_;subst e;simp[ai] at hk;have:=g.bound b I;simp;omega
      obtain⟨rfl,rfl⟩:=R k x hk;exact⟨rfl,heap_alloc_new w _,λh=>Nat.lt_irrefl _ (g.bound _ h)⟩;obtain⟨rfl,_⟩:=R k x hk;simp[ah] at I;exact .inl w!;obtain⟨x,hx⟩:=Z!.1 hk;obtain⟨y,l⟩:=Z!.1 gk;rw[(R k x hx).1,(R k' y l).1]
      . obtain⟨V,e2⟩:=VT.1 mD;refine⟨?_,?_,by simp only[St.wm,O1,St.put],by simp only[St.wm,Ga,St.put],by simp only[St.wm,O2,St.put]⟩;funext i;show(ap _ f s).t i=_;rw[n3,vu,aoe];simp only[St.put,rP,Gc,V];by_cases hi:i=d;subst hi;simp;rw[R! λh=>hi (R? h).symm,aO hi];rfl
        . funext k;simp only[St.wm,St.put,vf,ai,n2];cases Nat.beq k eC with
          |true=>rfl
          |false=>
           simp only[N!,aw];have:=e2 k;cases hk:s.h k with
           |none=>rfl
           |some x=>
            rw[hk] at this;simp only[xg,Gc];exact this.symm
    refine⟨λj q e D U he H=>?_,λq D J=>?_,?_⟩;by_cases BI:f.i=j;rw[<-BI,kQ,yQ] at D;cases D;rw[aoe] at he;cases he;exact Y3 (by rw[g.size];exact Ca);rw[fY m,if_neg BI] at H;rw[g2 j q D (λh=>by unfold Sz at U;rw[h] at U;cases U)] at H;cases H;exfalso;obtain⟨q',t',h1,F⟩:=D4.1 D;rw[fY m] at J;split at J;rename_i e;rw[<-e,kQ,yQ] at h1;cases h1;rw[hri] at F;cases F;rw[g2 _ _ h1 (by rw[F];nofun)] at J;cases J
    have :((aQK L 0 ops.toList).filter λq=>(listed.setIfInBounds f.i true).getD q.1 false)=[]:=by
     rw[List.filter_eq_nil_iff];intro q D J;obtain⟨q',t',h1,F⟩:=D4.1 D;rw[fY m] at J;split at J;rename_i e;rw[<-e,kQ,yQ] at h1;cases h1;rw[hri] at F;cases F;rw[g2 _ _ h1 (by rw[F];nofun)] at J;cases J
    rw[this];exact .refl _
  grind
 |cp x=>
  have VS:f.o.op=OJ:=by rw[<-Ł];unfold fS;rw[N]
  rw[N] at Y;simp only[B!] at Y;have VW:=qD Y.2.1 Y4;obtain⟨e,he,heL⟩:=TF Y.1;rcases hR with⟨G,_⟩|⟨b,es,B,G,g2,g⟩;rw[VW] at G;cases G
  . have hx:a.tmps.getD x undef= .map (some b):=by
     obtain⟨j,_,H⟩:=List.any_eq_true.1 Y.2.2;split at H;rename_i q D;simp only[B!] at H;obtain⟨j1,j2,j3⟩:=H;split at j3;rename_i e' VR;have:=D! j3;subst this;exact g.at_ j q _ D j2 VR (qD j1 Y4);cases j3;cases H
    have hxe:(execOp a.eval o).run P w= .ok (.value (.map (some b))) w:=by
     rcases aoc N with h|h<;>simp[execOp,h,Act.eval,hx]
    refine Gd Z hg (bK hxe ?_);rw[he]
    have Ca:e<s.n:=by
     have:=hf.dst;unfold fR at this;rw[vu,he] at this;exact Nat.le_of_ble_eq_true this
    obtain⟨n1,n2,n3⟩:=VV (ops:=ops.toList.map (fS L)) S VS rS;refine hK _ _ ⟨Y5,Y6,A,β,.inr ⟨b,es,B,rB _ G,(g2.pure (d:=some e) (c:=[]) (r:=.db) (v:=.map (some b)) (λt ht=>by cases ht;exact Ca) trivial).seq ?_,g.rC m hl W (by rw[N];nofun) (λj H=>aob (by rw[<-he];exact H)) (λj q e' _ _ _ h _=>?_) (λ_=>by rw[he];rfl)⟩⟩
    . refine⟨?_,?_,by simp only[St.wm,O1,St.put],by simp only[St.wm,Ga,St.put],by simp only[St.wm,O2,St.put]⟩;funext i;show(ap _ f s).t i=_;rw[n3,vu,he];simp only[St.put,St.wm,mN];by_cases hi:i=e;subst hi;simp;rw[R! λh=>hi (R? h).symm,aO hi];rfl
      . funext k;simp only[St.wm,St.put,vf,ai,n2,aw,bD];cases Nat.beq k eC with
        |true=>rfl
        |false=>simp only[N!];cases s.h k<;>rfl
    rw[he] at h;cases h;exact Y3 (by rw[g2.size];exact Ca)
 |ins t' k x=>
  have VS:f.o.op=OJ:=by rw[<-Ł];unfold fS;rw[N]
  obtain⟨z,O5⟩:=aj3 N;rw[N] at Y;simp only[O5,B!,H!] at Y;obtain⟨⟨htt,hk⟩,u,VW,hD,hM⟩:=Y;have htt:=D! htt;subst htt;have u:o.dst=none:=by simpa using u
  have VW:=qD VW Y4;rcases hR with⟨G,_⟩|⟨b,es,B,G,g2,g⟩;rw[VW] at G;cases G
  . have hx:a.tmps.getD z undef= .map (some b):=by
     obtain⟨j,_,H⟩:=List.any_eq_true.1 hM;split at H;rename_i q D;simp only[B!] at H;obtain⟨j1,j2,j3⟩:=H;split at j3;rename_i e' VR;have:=D! j3;subst this;exact g.at_ j q _ D j2 VR (qD j1 Y4);cases j3;cases H
    have aw:(f.i,k,x)∈aQK L 0 ops.toList:=D4.2 ⟨o,_,W,N⟩;obtain⟨h1,F,h3⟩:=g2.blocks eC (.mp b es B) rfl;obtain⟨te,kt,et,jB,htd,yF⟩:=hp.ty;obtain⟨hu,_⟩:=hE.gm.ok _ te jB;rw[htd] at hu
    have yF:P.underlying kt=some (.int .i64):=by
     unfold cW at yF;split at yF;rename_i tk B1;obtain⟨hku,_⟩:=hE.gm.ok kt tk B1;grind[xU];cases yF
    have hpk:(es.toList.map (·.key)).Perm (((aQK L 0 ops.toList).filter λq=>listed.getD q.1 false).map λq=>Value.int .i64 q.2.1):=by
     have:=g.there.map (·.1);simpa[List.map_map,Function.comp_def] using this
    obtain⟨ks,q1,q2⟩:=FP (f:=Value.int .i64) hpk (((aQK L 0 ops.toList).filter λq=>listed.getD q.1 false).map (·.2.1)) (by simp[List.map_map,Function.comp_def])
    have hkn:k∉ks:=λhk=>by
     obtain⟨q,V,e2⟩:=U?.1 (q1.mem_iff.1 hk);rw[List.mem_filter] at V;have:=Cv ((xc _).1 hp.nodup) q V.1 _ aw e2;rw[this] at V;rw[SF] at V;cases V.2
    have hem:a.eval (.tmp z)= .map (some b):=hx;have hek:a.eval (.const (.int .i64 k))= .int .i64 k:=rfl;have hev:a.eval (.tmp x)=a.tmps.getD x undef:=rfl
    have iQ:(Instr.mapUpdate t' (.map (some b)) (.int .i64 k) (a.tmps.getD x undef)).run P w= .ok () {w with heap:=w.heap.setIfInBounds b (.map (es.push {key:=.int .i64 k,val:=a.tmps.getD x undef,born:=B}) (B+1))}:=by
     have S:(Instr.checkKey false 10000 kt (.int .i64 k)).run P w= .ok () w:=MapKept.run_checkKey yF (by rfl) false 9999;simp[Instr.mapUpdate,run_underlying hu,MapKept.run_getObj_map F,S,MapKept.run_findKey yF (sr k es.toList ks 0 q2 hkn),MapKept.run_setObj_map _ F,Result.andThen]
    refine Gd Z hg (pP (w':={w with heap:=w.heap.setIfInBounds b (.map (es.push {key:=.int .i64 k,val:=a.tmps.getD x undef,born:=B}) (B+1))}) (by simp only[execOp,O5,hem,hek,hev];generalize a.tmps.getD x undef=v at iQ |-;simp[iQ]) ?_);rw[u];have Aa:b<w.heap.size:=(P!.1 F).1;obtain⟨n1,n2,n3⟩:=VV (ops:=ops.toList.map (fS L)) S VS rS;have BE:bI w {w with heap:=w.heap.setIfInBounds b (.map (es.push {key:=.int .i64 k,val:=a.tmps.getD x undef,born:=B}) (B+1))} A A:=λy l=>⟨l,(MapKept.heap_set F).2 y λe=>h3 (e▸l)⟩;refine hK _ _ ⟨Y5,Y6,A,β,.inr ⟨b,es.push {key:=.int .i64 k,val:=a.tmps.getD x undef,born:=B},B+1,rB _ G,?_,?_⟩⟩
    . have hub:∀j y,ai [(eC,AB.mp b (es.push {key:=.int .i64 k,val:=a.tmps.getD x undef,born:=B}) (B+1))] j=some y->j=eC/\y= .mp b (es.push {key:=.int .i64 k,val:=a.tmps.getD x undef,born:=B}) (B+1):=λj y hk=>by
       simp only[ai] at hk;cases I:Nat.beq j eC with
       |true=>rw[I] at hk;exact⟨D! I,(R? hk).symm⟩
       |false=>rw[I] at hk;cases hk
      refine(g2.step (out:={cond:=[],res:=.db,hX:=[(eC,.mp b (es.push {key:=.int .i64 k,val:=a.tmps.getD x undef,born:=B}) (B+1))]}) (A':=A) (aC:=β) (d:=none) (v:=undef) (w':={w with heap:=w.heap.setIfInBounds b (.map (es.push {key:=.int .i64 k,val:=a.tmps.getD x undef,born:=B}) (B+1))}) nofun
       (λk x hk=>by cases hk) (λj y hk=>?_) (λ_ _=>rfl) BE rfl rfl rfl z! (λy l hn=>(MapKept.heap_set F).2 y λe=>?_) (λy l=>by have:=g2.bound y l;simpa using this) (λy l=>.inl l) (λj y hk _=>?_) (λk x hk=>by cases hk) (λk b x hk I=>by cases hk) (λk k' b hk gk _ _=>by cases hk) trivial).seq ?_
      obtain⟨rfl,_⟩:=hub j y hk;rfl;subst e;exact hn eC ⟨rfl,.inl rfl⟩ (by rw[h1];rfl);obtain⟨rfl,rfl⟩:=hub j y hk;exact⟨h1,(MapKept.heap_set F).1,h3⟩
      . refine⟨?_,?_,by simp only[St.wm,O1,St.put],by simp only[St.wm,Ga,St.put],by simp only[St.wm,O2,St.put]⟩;funext i;show(ap _ f s).t i=_;rw[n3,vu,u];simp only[St.put,St.wm,mN];rfl
        . funext j;simp only[St.wm,St.put,vf,ai,n2,Vg.aw,w7,bD];cases Nat.beq j eC with
          |true=>rfl
          |false=>simp only[N!];cases s.h j<;>rfl
    refine⟨λj q e D U he H=>?_,λq D J j q' H sQ=>?_,?_⟩;refine g.at_ j q e D U he ?_;rw[fY m,if_neg] at H;exact H;intro h;rw[<-h,W] at D;cases D;unfold Sz at U;rw[N] at U;cases U;rw[fY m] at J;split at J;rename_i e;obtain⟨q2,t2,V,e2⟩:=D4.1 D;rw[<-e,W] at V;cases V;rw[N] at e2;simp only[MR.ins.injEq] at e2;have O9:j<ops.toList.length:=(List.getElem?_eq_some_iff.1 H).1;have:=(List.all_eq_true.1 hD) j (List.mem_range.2 O9);simp only[H,sQ,<-e2.2.2] at this;refine rB _ (qD ?_ Y4);simpa[cY] using this;exact rB _ (g.done q D J j q' H sQ)
    have hfp:=Im (p:=λq=>listed.getD q.1 false) (p':=λq=>(listed.setIfInBounds f.i true).getD q.1 false) _ (Fb (vK (L:=L) ops.toList 0)) aw SF λq D=>by
     rw[fY m];by_cases e:f.i=q.1;rw[Q! e];exact⟨λ_=>.inr (Cv (vK ops.toList 0) q D _ aw e.symm),λ_=>rfl⟩;rw[R! e];exact⟨.inl,λh=>h.elim id λh=>(e (by simp[h])).elim⟩
    rw[Array.toList_push,X?];refine(g.there.append_right _).trans ?_;have:=(hfp.map λq=>(Value.int .i64 q.2.1,a.tmps.getD q.2.2 undef)).symm;rw[X?] at this;exact this
def filter_all{p:α->Bool}{l:M α}(h:∀x∈l,p x=true):l.filter p=l:=List.filter_eq_self.2 h
theorem Io {α:Type}{f:α->Value}{g:α->AV}:∀(l:M α),(∀x∈l,aa w A β (f x) (g x))->ae w A β (l.map f) (l.map g)
 |[],_=>rfl
 |x::l,h=>⟨_,_,rfl,h x (G! ..),Io l λy H=>h y (F! _ H)⟩
theorem Ab {p:Oper->Bool}{i:Nat}:∀(ops:M Oper),aw (eI (ops.filter p)) i=true->∃(j:Nat) (o:Oper),ops[j]? =some o/\p o=true/\o.dst=some i
 |o::r,h=>by
  have u:(∃(j:Nat) (O:Oper),r[j]? =some O/\p O=true/\O.dst=some i)->∃(j:Nat) (O:Oper),(o::r)[j]? =some O/\p O=true/\O.dst=some i:=λ⟨j,O,h⟩=>⟨j+1,O,h⟩;rw[List.filter_cons] at h;split at h;rename_i H;unfold eI at h;split at h;simp[aw,Bool.or_eq_true] at h;rcases h with h|h;exact⟨0,o,rfl,H,by simp_all⟩;exact u (Ab r h);exact u (Ab r h);exact u (Ab r h)
def J4{k:Nat}(h:(s.cut.h k).isSome):(s.h k).isSome:=by
 simp[St.cut] at h;cases hk:s.h k with
 |none=>rw[hk] at h;cases h
 |some x=>rfl
def aj5{ops:M Oper}{s:St}{b:Nat}{es:Array MapEntry}{c:Nat}(H:aq C A β (s.wm b es c) a w)(v:s.h eC=none)(O:MI L ops listed a b es)(x:∀i,listed.getD i true=true)(E:listed.size=ops.length)
  (Y:∀(C:Ctx) A β a w,aq C A β s a w->aq C A β m a w):Rel C (m.mapped L ops) a w:=by
 have S:∀i,i<ops.length->listed.getD i false=true:=λi R=>by grind
 obtain⟨h1,U,Q⟩:=H.blocks eC (.mp b es c) rfl;have J:bI w w A λy=>A y\/y=b:=λy B=>⟨.inl B,rfl⟩;have Z:b<w.heap.size:=(P!.1 U).1;have D:ah (β eC)=some b:=by rw[h1];rfl
 have g:∀k,k≠eC->(s.wm b es c).h k=s.h k:=λk F=>by simp_all[St.wm,aO,N!]
 have f:∀k,(s.h k).isSome->k≠eC/\((s.wm b es c).h k).isSome:=λk F=>by
  grind
 have l:aq C (λy=>A y\/y=b) β s a w:=by
  refine⟨H.defers,H.size,λi=>jh J _ _ (H.tmps i),λk ab F=>?_,λk K y F G=>H.apart k K y (f k F).2 (f K G).2,λy B=>B.elim (H.bound y) λe=>e▸Z,H.frame,λy B h=>h.elim (H.gG y B) λe=>?_,λy B=>.inl (H.base y B),λk y F=>H.om k y (f k F).2,H.qo,λi d hd=>(H.laid i d hd).mono J,H.held⟩;obtain⟨N,n⟩:=f k x!;have:=yD (w:=w) (w':=w) (A':=λy=>A y\/y=b) (aC:=β) (new:=[]) (λ_ _=>rfl) rfl (λy B=>⟨rfl,λr=>r.elim id λe=>absurd (H.apart k eC b n (by rfl) (e▸B) D) N⟩) J (H.blocks k ab x!);exact this;rw[e] at B |-;rcases H.om eC b (by rfl) D with h|h;omega;grind
 have z:=Y _ _ _ _ _ l;refine⟨_,β,z.defers,z.size,λi=>?_,z.blocks,z.apart,z.bound,z.frame,z.gG,z.base,z.om,z.qo,z.laid,z.held⟩;simp only[St.mapped];cases R:aw (eI (ops.filter (Sz L))) i with
 |false=>exact z.tmps i
 |true=>
  obtain⟨j,o,V,hw,hd⟩:=Ab ops R;rw[O.at_ j o i V hw hd (S j (F?.1 V).1)];have I:=O.there
  rw[filter_all λq T=>by
   grind[D4,List.getElem?_eq_some_iff]] at I
  obtain⟨t,P,p⟩:=FP I.symm es.toList rfl;have u:=congrArg (List.map Prod.fst) p;have X:=congrArg (List.map Prod.snd) p;simp only[List.map_map,Function.comp_def] at u X;refine⟨b,t.toArray,c,rfl,.inr rfl,⟨es,U,by simpa using P.symm⟩,by grind[List.map_map,Function.comp_def],?_⟩;simp only[cond_true];rw[<-X];exact Io _ λq _=>z.tmps q.2.2
theorem SG(J:dU P C E)(N:P.follows .mixedOrders=true){O:Nat}{cs:M Prop}{m:St}(h:H5 E true ops.toList st=some (cs,m))(U:∀p∈cs,p)
  (H:Rel C st a w) (V:∀B w',Rel C m B w'->Q .normal B w'):(Code.region O ops true).wp P Q a w:=by
 simp only[H5,K!,anY] at h;split at h
 . rename_i i0 t L y;obtain⟨d,y⟩:=Y2 y;rw[cond_eq_ite] at h;split at h
   . rename_i X;split at h
     . rename_i c q Y;cases h;have I:=J3 st (eI ops.toList)
       have Z:∀i,aG (cT (st.ahead (eI ops.toList)).cut.kb ((eI (ops.toList.map (fS L))).map .dst)) ((st.ahead (eI ops.toList)).cut.t i)=(st.ahead (eI ops.toList)).cut.t i:=λi=>by
        rw[D1];simp[St.cut];conv=>rhs;rw[<-I.1 i]
        simp only[dC];congr 1
        funext k;rw[Bool.or_comm];rfl
       have n:∀k,ca (cT (st.ahead (eI ops.toList)).cut.kb ((eI (ops.toList.map (fS L))).map .dst)) ((st.ahead (eI ops.toList)).cut.h k)=(st.ahead (eI ops.toList)).cut.h k:=λk=>by
        rw[D1];simp only[St.cut];conv=>rhs;rw[<-I.2 k]
        simp only[fX];congr 1
        funext k;rw[Bool.or_comm];rfl
       obtain⟨es,sl,R,u,v⟩:=O8 (P:=P) (ops:=ops) (jT:=(ops.toList.map (fS L)).toArray) z! (λi o o' h1 z=>by
        simp only[List.getElem?_toArray,A?,m?,h1,Option.map_some,A!] at z;rw[<-z];exact Cu.2.2) Y U Z n
       obtain⟨A,β,G⟩:=H;obtain⟨oi,W,_⟩:=y.new
       have VW:i0<ops.size:=by
        have:=(F?.1 W).1;simpa using this
       have T:∀j,(Array.replicate ops.size false).getD j false=false:=λj=>by
        simp[H?,Array.getElem?_replicate];split<;>rfl
       refine wp_region_any N (v (RM C L ops.toList i0) Q _ _ (λ_ s r a w hs hr=>hr.seq hs) (λf listed s a w K D hf hc e hl F H hK=>aj4 J y ?_ (R f D).2.1 (R f D).2.2 hf hc e hl F H hK) ⟨auq _,?_,A,β,.inl ⟨T i0,λj _ _ _=>T j,?_⟩⟩ λlisted B w' l e H=>?_);have:=(R f D).1;simpa using this;have :st.h eC=none:=by simpa using X
       simp[St.cut,St.ahead,this,ca]
       . have S:=(G.ahead (eI ops.toList)).drew (w.drawn+1);refine⟨S.defers,S.size,λi=>oN _ (λ_ _=>rfl) _ _ (S.tmps i),λk ab h=>?_,λk k' b h1 z=>S.apart k k' b (J4 h1) (J4 z),S.bound,S.frame,S.gG,S.base,λk b h=>S.om k b (J4 h),S.qo,S.laid,S.held⟩;simp[St.cut] at h;cases hk:(st.ahead (eI ops.toList)).h k with
         |none=>rw[hk] at h;cases h
         |some x=>
          rw[hk] at h;cases h;exact zY _ (S.blocks k x hk)
       obtain⟨_,Ņ,A',aC,H⟩:=H;rcases H with⟨g,_⟩|⟨b,es,ck,_,g2,g3⟩;rw[<-rR w!,l] at g;cases g;exact V _ _ (aj5 g2 Ņ g3 l (by simpa using e) u)
     grind
   grind
 grind[SE]
theorem aME(H:dU P C E)(k:P.follows .mixedOrders=true){i:Nat}{d:Bool}{cs:M Prop}{m:St}(h:H5 E d ops.toList st=some (cs,m))(e:∀p∈cs,p)
  (q:Rel C st a w) (y:∀A w',Rel C m A w'->Q .normal A w'):(Code.region i ops d).wp P Q a w:=by
 cases d;grind[VO];grind[SG]
theorem fl.clear(h:fl W s.clear m):fl W s.clear m:=h
theorem aq.clear(h:aq C A β st a w):aq C A β st.clear a w:=h.seq ⟨rfl,rfl,rfl,rfl,rfl⟩
theorem aoi(H:aq C A β st a w)(h:ev st c= .tt):a.eval c= .bool true:=by
 have:=aM H c;grind[aa]
theorem aoj(H:aq C A β st a w)(h:ev st c= .ff):a.eval c= .bool false:=by
 have:=aM H c;grind[aa]
theorem Y7(H:aq C A β st a w)(h:ev st c= .bool b):a.eval c= .bool b:=by
 have:=aM H c;grind[aa]
def aok(H:aq C A β st a w){r:M Ty}{l:M (Row r)}(h:ev st c= .tY r l):∃b,a.eval c= .bool b/\(b=true->l=[]):=by
 have:=aM H c;grind[aa]
def vL:∀i,aw (W++W') i=false->aw W i=false:=by
 grind[dA,Bool.or_eq_false_iff]
def Cw:∀i,aw (W++W') i=false->aw W' i=false:=by
 grind[dA,Bool.or_eq_false_iff]
def np:∀(c:Code) (st:St) (cs:M Prop) (m:St),iR E c st=some (cs,m)->fl (BF c) st m
 |.skip,st,cs,m,h=>by
   grind[iR,Option.some.injEq,Prod.mk.injEq,fl.refl]
 |.region id ops d,st,cs,m,h=>by
   exact OR h
 |.seq x y,st,cs,m,h=>by
   simp[iR] at h;split at h;rename_i c bN H;obtain⟨C,k,_⟩:=aVw h;exact(np x _ _ _ H).trans (np y _ _ _ k);cases h
 |.cond c x y,st,cs,m,h=>by
   simp[iR] at h;split at h;exact(np x _ _ _ h).mono vL;exact(np y _ _ _ h).mono Cw;obtain⟨z,s1,B,s,r,R,q,rfl⟩:=DZ h;exact fl.merge q;cases h
 |.block id b,st,cs,m,h=>by
   exact np b _ _ _ h
 |.loop _,st,cs,m,h|.rangeFunc _ _ _ _,st,cs,m,h|.exit _,st,cs,m,h|.scope _,st,cs,m,h|.label _,st,cs,m,h|.goto _,st,cs,m,h=>by grind[iR]
 |.ret,st,cs,m,h=>by grind[iR]
 |.refuse _,st,cs,m,h=>by grind[iR]
def lQ(k:dU P C E)(q:P.follows .mixedOrders=true):∀(c:Code) (st:St) (cs:M Prop) (m:St) (a:Act) (w:World) (Q:Exit->Act->World->Prop),iR E c st=some (cs,m)->(∀p∈cs,p)->Rel C st a w->
  (∀B w',Rel C m B w'->Q .normal B w')->c.wp P Q a w
 |.skip,st,cs,m,a,w,Q,h,e,hR,H=>by
   grind[iR,Option.some.injEq,Prod.mk.injEq,wp_skip]
 |.region id ops d,st,cs,m,a,w,Q,h,e,hR,H=>by
   grind[iR,aME]
 |.seq x y,st,cs,m,a,w,Q,h,e,hR,H=>by
   simp[iR] at h;split at h;rename_i c bN U;obtain⟨Y,V,rfl⟩:=aVw h
   exact wp_seq (lQ k q x st _ _ a w _ U (λp I=>e p (T! _ I)) hR λB w' X=>
    lQ k q y bN _ _ B w' Q V (λp I=>e p (U! _ I)) X H)
   cases h
 |.cond c x y,st,cs,m,a,w,Q,h,e,hR,H=>by
   obtain⟨A,β,z⟩:=hR;simp[iR] at h;split at h;rename_i D;exact wp_cond_true (aoi z D) (lQ k q x st _ _ a w Q h e ⟨A,β,z⟩ H);rename_i D;exact wp_cond_false (aoj z D) (lQ k q y st _ _ a w Q h e ⟨A,β,z⟩ H);rename_i b D;obtain⟨Z,s1,g,S,r,R,F,rfl⟩:=DZ h;have N:=LQ e;have f:=(np x _ _ _ r).mono (W':=BF x++BF y) vL;have O:=(np y _ _ _ R).mono (W':=BF x++BF y) Cw;refine wp_cond_split (Y7 z D) (λJ=>?_) (λJ=>?_);subst J
   exact lQ k q x st.clear _ _ a w Q r (N.1 rfl) ⟨A,β,z.clear⟩ λB w' ⟨A',aC,s⟩=>
    H _ _ ⟨A',aC,s.merge (b:=true) F f (λ_ _=>rfl) rfl rfl rfl O (λ_ _=>rfl) rfl rfl rfl⟩
   subst J
   exact lQ k q y st.clear _ _ a w Q R (N.2 rfl) ⟨A,β,z.clear⟩ λB w' ⟨A',aC,s⟩=>
    H _ _ ⟨A',aC,s.merge (b:=false) F f (λ_ _=>rfl) rfl rfl rfl O (λ_ _=>rfl) rfl rfl rfl⟩
   grind
 |.block id b,st,cs,m,a,w,Q,h,e,hR,H=>by
   exact wp_block (lQ k q b st _ _ a w _ h e hR H)
 |.loop _,st,cs,m,a,w,Q,h,_,_,_|.rangeFunc _ _ _ _,st,cs,m,a,w,Q,h,_,_,_|.exit _,st,cs,m,a,w,Q,h,_,_,_|.scope _,st,cs,m,a,w,Q,h,_,_,_|.label _,st,cs,m,a,w,Q,h,_,_,_|.goto _,st,cs,m,a,w,Q,h,_,_,_|.ret,st,cs,m,a,w,Q,h,_,_,_|.refuse _,st,cs,m,a,w,Q,h,_,_,_=>by grind[iR]
structure mE (W:List Nat) (base s:St):Prop where
 rC:∃p,(∀k,p k=true->cT base.kb s.news k=true)/\(∀i,aw W i=false->s.t i=aG p (base.t i))/\
  ∀k,aw s.cm k=false->cT base.kb s.news k=false->s.h k=ca p (base.h k)
 n:s.n=base.n
 kb:s.kb=base.kb
 cm:∀k,aw base.cm k=true->aw s.cm k=true
 news:∀k,cT base.kb base.news k=true->cT base.kb s.news k=true
 g:s.g=base.g
theorem fl.loose(h:fl W s m):mE W s m:=by
 obtain⟨p,H,q,y⟩:=h.rC;exact⟨⟨p,H,q,λk z _=>y k z⟩,h.n,h.kb,h.cm,h.news,h.g⟩
theorem mE.refl(W:M Nat)(s:St):mE W s s:=(fl.refl W s).loose
theorem mE.mono{s:St}(h:mE W s s1)(H:∀i,aw W' i=false->aw W i=false):mE W' s s1:=by
 obtain⟨p,a,A,k⟩:=h.rC;exact⟨⟨p,a,λi q=>A i (H i q),k⟩,h.n,h.kb,h.cm,h.news,h.g⟩
theorem mE.trans {W W':M Nat}{s s1 S:St}(H:mE W s s1)(y:mE W' s1 S):mE (W++W') s S:=by
 obtain⟨p,A,z,a3⟩:=H.rC;obtain⟨q,b,D,B⟩:=y.rC
 have a:∀k,cT s.kb s1.news k=true->cT s.kb S.news k=true:=by
  intro k h;have:=y.news k (by rw[H.kb];exact h);rwa [H.kb] at this
 refine⟨⟨λk=>p k || q k,λk hk=>?_,λi F=>?_,λk hk I=>?_⟩,y.n.trans H.n,y.kb.trans H.kb,λk h=>y.cm k (H.cm k h),λk h=>a k (H.news k h),y.g.trans H.g⟩;rcases Bool.or_eq_true _ _ |>.mp hk with h|h;grind;have:=b k h;rwa [H.kb] at this
 grind[dA,Bool.or_eq_false_iff,dC]
 . have m:aw s1.cm k=false:=by
    cases h:aw s1.cm k with
    |false=>rfl
    |true=>rw[y.cm k h] at hk;omega
   have Y:cT s.kb s1.news k=false:=by
    grind
   rw[B k hk (by rw[H.kb];omega),a3 k m Y,fX]
def ua:Value:=.slice none 0 0
def lZ(bad:Nat->Bool)(s:M (Nat×Option Nat))(β:Nat->Value)(k:Nat):Value:=bif bad k then(match cz s k with
 |some (some j)=>β j
 |some none=>ua
 |none=>β k) else β k
def aoU {r R:M Ty}{l:M (Row r)}{m:M (Row R)}(h:fN r R l=some m):∃e:r=R,m=e▸l:=by
 grind[fN,Option.some.injEq,Ty.atG]
def l6:∀ {a b:M Prop},(∀p∈a++b,p)->(∀p∈a,p)/\∀p∈b,p:=by
 intro a b h;exact⟨λp H=>h p (T! _ H),λp H=>h p (U! _ H)⟩
theorem aR {p:Prop}(h:∀q∈ [p],q):p:=h p z!
variable {s:List (Nat×Option Nat)}
structure Keyed (bad:Nat->Bool) (s:List (Nat×Option Nat)) (β aC:Nat->Value):Prop where
 src:∀K k,cz s K=some (some k)->aC K=β k
 nil:∀K,cz s K=some none->aC K=ua
 same:∀K,cz s K=none->bad K=false->aC K=β K
 aMD:∀K,bad K=false->aC K=β K
def Y8(β aC:Nat->Value):Keyed (λ_=>true) [] β aC:=⟨(λ_ _ h=>nomatch h),(λ_ h=>nomatch h),(λ_ _ h=>nomatch h),(λ_ h=>nomatch h)⟩
def qE(H:Keyed bad s β aC){k K:Nat}(h:vB s bad k K=true):aC K=β k:=by
 unfold vB at h;split at h;rename_i j q;rw[H.src K j q,Nat.eq_of_beq_eq_true h];cases h;simp only[Bool.and_eq_true,Bool.not_eq_true'] at h;have:=Nat.eq_of_beq_eq_true h.1;subst this;exact H.aMD k h.2
mutual
theorem rT {aC:Nat->Value}(hK:Keyed bad s β aC):∀(x y:AV) (v:Value),(∀p∈OL s bad x y,p)->aa w A β v x->aa w A aC v y
 |x,y,v,h,H=>by
  unfold OL at h;split at h;simp[aa];simpa only[aa] using H;rename_i k n N m;split at h;rename_i O;subst O;have:=aR h;subst this;simpa only[aa] using H;exact(aR h).elim;simpa only[aa] using H;simpa only[aa] using H;have:=aR h;subst this;simpa only[aa] using H;have:=aR h;subst this;simpa only[aa] using H;have:=aR h;subst this;simpa only[aa] using H;have:=aR h;subst this;simpa only[aa] using H;simpa only[aa] using H;simpa only[aa] using H;simpa only[aa] using H;rename_i r l;have:=aR h;subst this;simp only[aa] at H |-;subst H;simp only[Rd];exact⟨none,0,[],rfl,z!,by simp[maxLen],by simp[dZ],z!⟩;rename_i r l R L;split at h;rename_i m D;obtain⟨e,F⟩:=aoU D;subst e;have:=aR h;subst F;subst this;simpa only[aa] using H;exact(aR h).elim;rename_i r l R L;split at h;rename_i m D;obtain⟨e,F⟩:=aoU D;subst e;have:=aR h;subst F;subst this;simp only[aa] at H |-;exact H.1;exact(aR h).elim
  . rename_i k K;simp only[aa] at H |-;split at h
    . rename_i j I;cases z:Nat.beq k j with
      |false=>rw[z] at h;exact(aR h).elim
      |true=>
       have:=D! z;subst this;rw[hK.src K k I];exact H
    exact(aR h).elim
    . rename_i I;cases z:(Nat.beq k K&& !bad K) with
      |false=>rw[z] at h;exact(aR h).elim
      |true=>
       simp only[B!,K?] at z;have:=D! z.1;subst this;rw[hK.same k I z.2];exact H
  rename_i K;simp only[aa] at H |-;split at h;rename_i I;rw[hK.nil K I];subst H;exact⟨rfl,rfl⟩;exact(aR h).elim
  . rename_i k o N E;simp only[aa] at H |-;cases z:vB s bad k N with
    |false=>rw[z] at h;exact(aR h).elim
    |true=>
     rw[z] at h;have:=aR h;subst this;rw[qE hK z];exact H
  rename_i xs Y;simp only[aa] at H |-;obtain⟨a,q,B⟩:=H;exact⟨a,q,lR hK xs Y _ h B⟩;rename_i xs Y;simp only[aa] at H |-;obtain⟨a,q,B⟩:=H;exact⟨a,q,lR hK xs Y _ h B⟩;rename_i f xs u P Y vs;split at h;rename_i U;subst U;simp only[aa] at H |-;obtain⟨V,X,q,B,J⟩:=H;obtain⟨g,G⟩:=l6 h;exact⟨V,X,q,lR hK xs Y _ g B,lR hK u vs _ G J⟩;exact(aR h).elim;rename_i ks xs Z Y;split at h;rename_i d;subst d;simp only[aa] at H |-;obtain⟨b,es,C,q,B,J,i,t⟩:=H;exact⟨b,es,C,q,B,J,i,lR hK xs Y _ h t⟩;exact(aR h).elim;split at h;rename_i m D;obtain⟨e,F⟩:=aoU D;subst e;subst F;have q:=h _ (G! ..);have B:=h _ (F! _ (G! ..));simp only[List.cons.injEq,and_true] at q;subst q;subst B;simpa only[aa] using H;exact(aR h).elim;exact(aR h).elim
theorem lR {aC:Nat->Value}(hK:Keyed bad s β aC):∀(xs Y:M AV) (vs:M Value),(∀p∈Bi s bad xs Y,p)->ae w A β vs xs->ae w A aC vs Y
 |[],[],vs,_,H=>by simpa only[ae] using H
 |x::xs,y::Y,vs,h,H=>by
  simp only[Bi] at h;obtain⟨g,G⟩:=l6 h;simp only[ae] at H |-;obtain⟨v,c,q,B,J⟩:=H;exact⟨v,c,q,rT hK x y v g B,lR hK xs Y c G J⟩
 |[],_::_,vs,h,_|_::_,[],vs,h,_=>by simp only[Bi] at h;exact(aR h).elim
end
theorem Ac(U:Keyed bad s β aC){k K:Nat}{c b:AB}(hk:aC K=β k)(h:∀p∈SA s bad (some c) b,p)(I:BR w A β k c):BR w A aC K b:=by
 unfold SA at h;split at h;rename_i xs Y H;simp only[Option.some.injEq] at H;subst H;obtain⟨g,a,e,z,D,B,O,Q⟩:=I;exact⟨g,a,e,hk.trans z,D,B,lR U xs Y _ h O,Q⟩
 . rename_i e r l T E C L W H;simp only[A!] at H;subst H;split at h
   . rename_i m M;obtain⟨V,F⟩:=aoU M;subst V;subst F;cases y:(Nat.beq e E&&(T==W)) with
     |false=>rw[y] at h;exact(aR h).elim
     |true=>
      rw[y] at h;simp only[B!,beq_iff_eq] at y;have F:=D! y.1;have hf:=y.2;subst F;subst hf;have:=aR h;subst this;obtain⟨xs,z,D,B⟩:=I;simp only[BR,hk];exact⟨xs,z,D,B⟩
   exact(aR h).elim
 rename_i r l C L H;simp only[A!] at H;subst H;split at h;rename_i m M;obtain⟨V,F⟩:=aoU M;subst V;subst F;have:=aR h;subst this;obtain⟨g,a,e,z,D,B,O⟩:=I;exact⟨g,a,e,hk.trans z,D,B,O⟩;exact(aR h).elim
 . rename_i e j r l i E J C L Z H;simp only[A!] at H;subst H;split at h
   . rename_i m M;obtain⟨V,F⟩:=aoU M;subst V;subst F;cases y:(Nat.beq e E&&vB s bad j J) with
     |false=>rw[y] at h;exact(aR h).elim
     |true=>
      rw[y] at h;simp only[B!] at y;have F:=D! y.1;have X:=qE U y.2;subst F;have d:=h _ (G! ..);have R:i=Z:=h _ (F! _ (G! ..));subst d;subst R;obtain⟨xs,v0,z,D,B,O⟩:=I;simp only[BR,hk];refine⟨xs,v0,z,D,B,λq N=>?_⟩;simp only[A!] at N;subst N;rw[X];exact O j rfl
   exact(aR h).elim
 . rename_i e r l E jj n m S H;simp only[A!] at H;subst H;cases y:(Nat.beq e E&&Nat.beq r.length 1) with
   |false=>rw[y] at h;exact(aR h).elim
   |true=>
    rw[y] at h;simp only[B!] at y;have F:=D! y.1;have f:=D! y.2;subst F;have o:l.length=n:=h _ (G! ..);have M:m=0:=h _ (F! _ (G! ..));subst o;subst M;obtain⟨xs,z,D,B⟩:=I;simp only[BR,hk];rw[f] at z;exact⟨xs,z,λb y=>by simpa using B b y,λJ _ i R=>absurd R (Nat.not_lt_zero _)⟩
 . rename_i e j n m S E J t m' u H;simp only[A!] at H;subst H;cases y:(Nat.beq e E&&vB s bad j J) with
   |false=>rw[y] at h;exact(aR h).elim
   |true=>
    rw[y] at h;simp only[B!] at y;have F:=D! y.1;have X:=qE U y.2;subst F;have o:n=t:=h _ (G! ..);have M:m=m':=h _ (F! _ (G! ..));have hs:S=u:=h _ (F! _ (F! _ (G! ..)));subst o;subst M;subst hs;obtain⟨xs,z,D,B⟩:=I;simp only[BR,hk];refine⟨xs,z,D,λq N i R=>?_⟩;simp only[A!] at N;subst N;obtain⟨v,e1,P⟩:=B j rfl i R;refine⟨v,e1,?_⟩;simp only[aa] at P |-;rw[X];exact P
 . rename_i e j l E J L H;simp only[A!] at H;subst H;cases y:(Nat.beq e E&&aEe s bad j J) with
   |false=>rw[y] at h;exact(aR h).elim
   |true=>
    rw[y] at h;simp only[B!] at y;have F:=D! y.1;have d:=aR h;subst F;subst d;obtain⟨xs,z,D,B⟩:=I;simp only[BR,hk];refine⟨xs,z,D,λq N=>B q λi R=>?_⟩;subst R;have y:=y.2;cases J with
    |none=>cases y
    |some J=>exact(N J rfl).trans (qE U y)
 . rename_i e j xs i E J Vq Z H;simp only[A!] at H;subst H;cases y:(Nat.beq e E&&vB s bad j J) with
   |false=>rw[y] at h;exact(aR h).elim
   |true=>
    rw[y] at h;simp only[B!] at y;have F:=D! y.1;have X:=qE U y.2;have G:xs=Vq:=h _ (G! ..);have x:i=Z:=h _ (F! _ (G! ..));subst F;subst G;subst x;obtain⟨Y,z,D,B,O⟩:=I;simp only[BR,hk];refine⟨Y,z,D,B,λq N=>?_⟩;cases N;rw[X];exact O j rfl
 . rename_i e S n cs E u t gu H;simp only[A!] at H;subst H;cases y:(Nat.beq e E&&(Nat.beq S u&&Nat.beq n t)) with
   |false=>rw[y] at h;exact(aR h).elim
   |true=>
    rw[y] at h;simp only[B!] at y;obtain⟨z,D,B⟩:=y;have z:=D! z;have D:=D! D;have B:=D! B;subst z;subst D;subst B;obtain⟨xs,G,x,g3⟩:=I;simp only[BR,hk];exact⟨xs,G,x,λfy=>lR (Y8 β fy) cs gu xs h (g3 β)⟩
 simp_all
def VX(p:Nat->Bool)(c:∀k,p k=false->aC k=β k){k:Nat}(hk:aC k=β k)(h:BR w A β k ab):BR w A aC k (cw p ab):=by
 cases ab with
 |cells cs=>
  obtain⟨b,arr,e,H,y,z,D,N⟩:=h;exact⟨b,arr,e,hk.trans H,y,z,ig p c _ _ D,N⟩
 |row e row l fr=>
  grind[cw,BR]
 |arr row l=>
  obtain⟨b,arr,e,H,y,z,D⟩:=h;exact⟨b,arr,e,hk.trans H,y,z,D⟩
 |iE e j row l i=>
  obtain⟨xs,v,H,y,z,D⟩:=h;simp[cw,BR,hk];cases j with
  |none=>grind[dP]
  |some J=>
   grind[dP]
 |eG e j xs i=>
  obtain⟨Y,H,y,z,D⟩:=h;simp only[cw,BR,hk];refine⟨Y,H,y,z,λI B=>?_⟩;cases j with
  |none=>cases B
  |some J=>
   simp only[dP] at B;cases F:p J with
   |true=>rw[F] at B;cases B
   |false=>
    rw[F] at B;simp only[N!,A!] at B;subst B;rw[c _ F];exact D _ rfl
 |fvar row x=>
  obtain⟨b,arr,e,H,y,z,D⟩:=h;exact⟨b,arr,e,hk.trans H,y,z,D⟩
 |mp b es ck=>exact⟨hk.trans h.1,h.2⟩
 |bm e sz n cs=>
  obtain⟨xs,H,y,z⟩:=h;exact⟨xs,hk▸H,hk▸y,z⟩
 |dO e j l=>
  obtain⟨xs,H,y,z⟩:=h;cases j with
  |none=>
   simp only[cw,BR,hk];exact⟨xs,H,y,λq _=>z q (λ_ h=>by cases h)⟩
  |some j=>
   simp only[cw];cases F:p j with
   |true=>
    simp only[zD,K!,BR,hk];exact⟨xs,H,y,λ_ h=>by cases h⟩
   |false=>
    simp only[zD,N!,BR,hk];exact⟨xs,H,y,λq O=>z q λI M=>(O I M).trans (by cases M;exact c j F)⟩
 |views e j n m sz=>
  obtain⟨xs,H,y,z⟩:=h;simp[cw,BR,hk];refine⟨xs,H,y,λI B i R=>?_⟩;cases j with
  |none=>grind[dP]
  |some J=>
   simp[dP] at B;cases F:p J with
   |true=>grind
   |false=>
    grind[NX]
def oO:∀(B:M (Loc×Nat)) (s:M (Nat×Option Nat)),sources st B=some s->∀K r,cz s K=some r->∃l,(l,K)∈B
 |[],s,h,K,r,H=>by
   simp[sources,A!] at h;subst h;cases H
 |(l,y)::B,s,h,K,r,H=>by
  simp[sources] at h;split at h
  . rename_i k s' z i;simp at h;subst h;simp[cz] at H;cases q:Nat.beq K y with
    |true=>exact⟨l,by rw[D! q];exact G! ..⟩
    |false=>
     rw[q] at H;obtain⟨L,h'⟩:=oO B s' i K r H;exact⟨L,F! _ h'⟩
  . rename_i k o s' z i;simp at h;subst h;simp[cz] at H;cases q:Nat.beq K y with
    |true=>exact⟨l,by rw[D! q];exact G! ..⟩
    |false=>
     rw[q] at H;obtain⟨L,h'⟩:=oO B s' i K r H;exact⟨L,F! _ h'⟩
  . rename_i s' z i;simp at h;subst h;simp[cz] at H;cases q:Nat.beq K y with
    |true=>exact⟨l,by rw[D! q];exact G! ..⟩
    |false=>
     rw[q] at H;obtain⟨L,h'⟩:=oO B s' i K r H;exact⟨L,F! _ h'⟩
  cases h
def Y9(kb:Nat):∀(B:M (Loc×Nat)) (l:Loc) (K:Nat),(l,K)∈B->cT kb (B.map λx=>KS.one x.2) K=true
 |(L,k)::B,l,K,h=>by
  simp only[G?,cT,KS.has,Y?];rcases O!.1 h with h|h;simp at h;rw[h.2];exact .inl (cY _);exact .inr (Y9 kb B l K h)
def L3 {k:Type}{s:M (Nat×Option Nat)}{bad:Nat->Bool}{x:k}:∀(l:M (Nat×(k->AV))) (i:Nat) (f:k->AV),ic l i=some f->∀p∈OL s bad (st.t i) (f x),p∈Nr s bad st x l
 |(j,g)::r,i,f,h,p,hp=>by
  simp[ic] at h;simp[Nr,I!];cases H:Nat.beq i j with
  |true=>
   simp_all
  |false=>
   rw[H] at h;exact .inr (L3 r i f h p hp)
def aol {q:Type}(s:M (Nat×Option Nat))(bad:Nat->Bool)(st:St)(x:q)(K:Nat)(f:q->AB):M Prop:=match cz s K with
 |some (some k)=>SA s bad (st.h k) (f x)
 |some none=>match f x with
  |.row _ _ l false=>[[]=l]
  |_=>[False]
 |none=>bif bad K then [False] else SA s bad (st.h K) (f x)
def Pa {k:Type}{s:M (Nat×Option Nat)}{bad:Nat->Bool}{x:k}:∀(l:M (Nat×(k->AB))) (i:Nat) (f:k->AB),ic l i=some f->∀p∈aol s bad st x i f,p∈VJ s bad st x l
 |(j,g)::r,i,f,h,p,hp=>by
  simp[ic] at h;simp only[VJ,I!];cases H:Nat.beq i j with
  |true=>
   rw[H] at h;simp at h;have:=D! H;subst this;subst h;exact .inl hp
  |false=>
   rw[H] at h;exact .inr (Pa r i f h p hp)
def j9:∀(s:M (Nat×Option Nat)) (K k:Nat),cz s K=some (some k)->k∈eU s
 |(j,r)::s,K,k,h=>by
  simp[cz] at h;cases H:Nat.beq K j with
  |true=>
   simp_all[K!,A!,eU]
  |false=>
   rw[H] at h;have:=j9 s K k h;cases r<;>simp[eU,this]
def Ad:∀(s:M (Nat×Option Nat)),kW (eU s)=true->∀K q k,cz s K=some (some k)->cz s q=some (some k)->K=q
 |(j,r)::s,z,K,q,k,h,h'=>by
  have H:kW (eU s)=true:=by
   cases r with
   |none=>exact z
   |some J=>simp_all[eU,kW,B!]
  simp[cz] at h h';cases y:Nat.beq K j with
  |true=>
   cases f:Nat.beq q j with
   |true=>simp_all
   |false=>
    rw[f] at h';have:=j9 s q k h';simp_all[eU,kW,B!,K?,absurd,jn]
  |false=>
   cases f:Nat.beq q j with
   |true=>
    rw[y] at h;rw[f] at h';have:=j9 s K k h;simp_all[eU,kW,B!,K?,absurd,jn]
   |false=>
    rw[y] at h;rw[f] at h';exact Ad s H K q k h h'
def yT{o:Option AB}{b:AB}(h:∀p∈SA s bad o b,p):∃c,o=some c:=by
 cases o with
 |some c=>grind
 |none=>exact(aR h).elim
theorem VY{k e:Nat}{r:M Ty}{l:M (Row r)}(h:β k=ua)(H: []=l):BR w A β k (.row e r l false):=by
 subst H;refine⟨[],⟨z!,.inl ⟨h,rfl⟩⟩,by rfl,λb q=>?_⟩;grind[ua,ah]
def aj6 {L:bO}{W:M Nat}{base:St}{x:L.τ}(pR:sources st L.BG=some s)(Ge:DX L W base st s=true)(hm:∀p∈DY L W base st s x,p)(H:aq C A β st a w)
  (hT:∀i,aw W i=false->∃p,(∀k,p k=true->cT base.kb (dn L W) k=true)/\st.t i=aG p (base.t i))
  (hH:∀k,aw st.cm k=false->cT base.kb (dn L W) k=false->ic L.keys k=none->∃p,(∀k,p k=true->cT base.kb (dn L W) k=true)/\st.h k=ca p (base.h k))
  (hn:st.n=base.n) (X:st.g=base.g):aq C A (lZ (cT base.kb (dn L W)) s β) (mQ L W base x) a w:=by
 generalize P:cT base.kb (dn L W)=bad at *;simp only[DX,P,B!] at Ge;obtain⟨⟨⟨⟨⟨⟨⟨o1,o2⟩,o⟩,o3⟩,o4⟩,o5⟩,o6⟩,o7⟩:=Ge;rw[V!] at o o3 o4 o5 o6 o7
 have I:∀K r,cz s K=some r->bad K=true:=by
  intro K r h;obtain⟨l,R⟩:=oO _ _ pR K r h;rw[<-P];simp only[dn,dy,Y9 base.kb _ l K R,Bool.true_or,Bool.or_true]
 have D:∀K,bad K=false->lZ bad s β K=β K:=by
  intro K h;simp only[lZ,h,N!]
 have E:Keyed bad s β (lZ bad s β):=by
  refine⟨λK k h=>?_,λK h=>?_,λK _ h=>D K h,D⟩;simp only[lZ,I K _ h,K!,h];simp only[lZ,I K _ h,K!,h]
 have Y:∀i f,ic L.yd i=some f->∀p∈OL s bad (st.t i) (f x),p:=by
  intro i f B p J;refine hm p ?_;simp only[DY,P,I!];exact .inl (L3 _ i f B p J)
 have Z:∀K f,ic L.keys K=some f->∀p∈aol s bad st x K f,p:=by
  intro K f B p J;refine hm p ?_;simp only[DY,P,I!];exact .inr (Pa _ K f B p J)
 have fP:∀K ab,(mQ L W base x).h K=some ab->BR w A (lZ bad s β) K ab/\(lZ bad s β K=ua\/∃j,lZ bad s β K=β j/\(st.h j).isSome/\((bad K=false/\j=K)\/(bad K=true/\cz s K=some (some j)))):=by
  intro K ab h;simp only[mQ,P] at h;cases B:ic L.keys K with
  |some f=>
   rw[B] at h;simp at h;subst h;have q:=Z K f B;unfold aol at q;split at q;rename_i k F;obtain⟨c,T⟩:=yT q;rw[T] at q;exact⟨Ac E (E.src K k F) q (H.blocks k c T),.inr ⟨k,E.src K k F,by simp[T],.inr ⟨I K _ F,F⟩⟩⟩;rename_i F;refine⟨?_,.inl (E.nil K F)⟩;split at q;rename_i e row l m;rw[m];exact VY (E.nil K F) (aR q);exact(aR q).elim
   . rename_i F;cases z:bad K with
     |true=>rw[z] at q;exact(aR q).elim
     |false=>
      rw[z] at q;obtain⟨c,T⟩:=yT q;rw[T] at q;exact⟨Ac E (D K z) q (H.blocks K c T),.inr ⟨K,D K z,by simp[T],.inl ⟨rfl,rfl⟩⟩⟩
  |none=>
   rw[B] at h;cases z:bad K with
   |true=>rw[z] at h;cases h
   |false=>
    rw[z] at h;simp only[N!] at h
    have u:aw st.cm K=false:=by
     cases hq:aw st.cm K with
     |false=>rfl
     |true=>
      have:=o7 K ((D3 _ _).1 hq);rw[B,z] at this;cases this
    obtain⟨p,v,O⟩:=hH K u z B;cases FM:base.h K with
    |none=>rw[FM] at h;cases h
    |some b0=>
     rw[FM] at h O;simp only[ca,A!] at h O;subst h;have Q:=VX (aC:=lZ bad s β) bad D (D K z) (H.blocks K _ O);rw[jv] at Q
     have N:(λk=>p k || bad k)=bad:=by
      funext k;cases J:p k with
      |false=>rfl
      |true=>rw[v k J];rfl
     rw[N] at Q;exact⟨Q,.inr ⟨K,D K z,by simp[O],.inl ⟨rfl,rfl⟩⟩⟩
 have S:∀K,((mQ L W base x).h K).isSome->∀b,ah (lZ bad s β K)=some b->∃j,lZ bad s β K=β j/\(st.h j).isSome/\((bad K=false/\j=K)\/(bad K=true/\cz s K=some (some j))):=by
  intro K V b z;obtain⟨ab,kO⟩:=Z!.1 V;rcases(fP K ab kO).2 with h|h;rw[h] at z;simp[ua,ah] at z;exact h
 have U:∀K j,cz s K=some (some j)->bad j=true:=λK j h=>o6 j (j9 s K j h)
 refine⟨H.defers,H.size.trans hn,λi=>?_,λK ab h=>(fP K ab h).1,λK K' b h1 h2 G g2=>?_,H.bound,H.frame,H.gG,H.base,λK b h1 G=>?_,λi d u=>H.qo i d ((congrFun X i).trans u),H.laid,λK V=>by
  have :lZ bad s β K=β K:=by
   unfold lZ;cases bad K with
   |false=>rfl
   |true=>
    cases R:cz s K with
    |none=>rfl
    |some y=>
     obtain⟨l,R⟩:=oO _ _ pR K y R;have:=o _ R;rw[V] at this;cases this
  exact this.trans (H.held K V)⟩
 . have hi:=H.tmps i
   show aa w A _ _ (match ic L.yd i with
    |some f=>f x
    |none=>bif aw W i then .db else aG (cT base.kb (dn L W)) (base.t i))
   rw[P];cases B:ic L.yd i with
   |some f=>exact rT E _ _ _ (Y i f B) hi
   |none=>
    simp only;cases hW:aw W i with
    |true=>simp[aa]
    |false=>
     obtain⟨p,v,O⟩:=hT i hW;rw[O] at hi;have:=oN (aC:=lZ bad s β) bad D _ _ hi;rw[dC] at this
     have N:(λk=>p k || bad k)=bad:=by
      funext k;cases J:p k with
      |false=>rfl
      |true=>rw[v k J];rfl
     rwa [N] at this
 obtain⟨j,e1,l1,c1⟩:=S K h1 b G;obtain⟨j',e2,l2,c2⟩:=S K' h2 b g2;rw[e1] at G;rw[e2] at g2;have hj:j=j':=H.apart j j' b l1 l2 G g2;subst hj;rcases c1 with⟨b1,rfl⟩|⟨b1,k1⟩<;>rcases c2 with⟨b2,h⟩|⟨b2,k2⟩;exact h;rw[U K' _ k2] at b1;cases b1;subst h;rw[U K _ k1] at b2;cases b2;exact Ad s o2 K K' j k1 k2;obtain⟨j,e1,l1,c1⟩:=S K h1 b G;rw[e1] at G;exact H.om j b l1 G
def Fe {L:bO}{W:M Nat}{base:St}{P:L.τ->Prop}(h:H6 L W base st P)(q:Rel C st a w)
  (y:∀i,aw W i=false->∃p,(∀k,p k=true->cT base.kb (dn L W) k=true)/\st.t i=aG p (base.t i))
  (z:∀k,aw st.cm k=false->cT base.kb (dn L W) k=false->ic L.keys k=none->∃p,(∀k,p k=true->cT base.kb (dn L W) k=true)/\st.h k=ca p (base.h k))
  (B:st.n=base.n) (H:st.g=base.g):∃x,P x/\Rel C (mQ L W base x) a w:=by
 obtain⟨A,β,D⟩:=q;unfold H6 at h;split at h;grind
 . rename_i s F;cases hk:DX L W base st s with
   |false=>grind
   |true=>
    rw[hk] at h;obtain⟨x,I,J⟩:=h;exact⟨x,J,A,_,aj6 F hk (yO _ I) D y z B H⟩
def aon:Ex->Exit
 |.norm=>.normal
 |.exit i=>.exit i
 |.ret=>.ret
def Gf:∀ {cs:M Prop} {k:Prop},VI cs k->(∀p∈cs,p)/\k
 |[],k,h=>⟨λp B=>x!,h⟩
 |p::ps,k,h=>by
  obtain⟨y,z⟩:=Gf (cs:=ps) h.2;refine⟨λq H=>?_,z⟩;rcases O!.1 H with rfl|H;exact h.1;exact y q H
theorem aj7(kb:Nat){d k:Nat}(h:(KS.dst d).has kb k=true):aw W d=true->cT kb (W.map .dst) k=true:=by
 induction W with
 |nil=>intro H;cases H
 |cons j W i=>
  intro H;simp[aw,Bool.or_eq_true] at H;simp[List.map_cons,cT,Bool.or_eq_true];grind[Nat.eq_of_beq_eq_true]
def Ip {L:bO}{W:M Nat}{base:St}:∀ {news:M KS},Ns L W base news=true->∀k,cT base.kb news k=true->cT base.kb (dn L W) k=true
 |[],_,k,hk=>by cases hk
 |x::news,h,k,hk=>by
  simp only[Ns,List.all_cons,B!] at h;simp[cT,Y?] at hk;rcases hk with hk|hk
  . cases x with
    |one j=>
     grind[KS.has,Nat.eq_of_beq_eq_true]
    |dst d=>
     simp[dn,dy,Bool.or_eq_true];grind[aj7]
  exact Ip (news:=news) h.2 k hk
theorem mE.back {L:bO}{W:M Nat}{base:St}{x:L.τ}{m:St}(h:mE W (mQ L W base x) m)(B:∀y∈L.yd,aw W y.1=true):mE W base (St.back L W base m):=by
 obtain⟨p,a,a2,a3⟩:=h.rC;have v:(mQ L W base x).kb=base.kb:=rfl;refine⟨⟨λk=>cT base.kb (dn L W) k || p k,λk H=>?_,λi hi=>?_,λk H O=>?_⟩,h.n,h.kb,λk H=>?_,λk H=>?_,h.g⟩;simp only[St.back,dy,Bool.or_eq_true] at H |-;grind
 . show m.t i=_;rw[a2 i hi,<-dC]
   have :(mQ L W base x).t i=aG (cT base.kb (dn L W)) (base.t i):=by
    show(match ic L.yd i with
     |some f=>f x
     |none=>bif aw W i then .db else aG (cT base.kb (dn L W)) (base.t i))=_
    have q:∀(l:M (Nat×(L.τ->AV))),(∀y∈l,aw W y.1=true)->ic l i=none:=by
     intro l;induction l with
     |nil=>intro _;rfl
     |cons y l I=>
      grind[g,ic,Nat.beq,aO,hi,List.mem_cons_of_mem]
    grind
   grind
 . have G:aw m.cm k=false/\aw (L.keys.map (·.1)) k=false:=by
    grind[St.back,dA,Bool.or_eq_false_iff]
   have z:cT base.kb (dn L W) k=false/\cT base.kb m.news k=false:=by
    grind[St.back,dy,Bool.or_eq_false_iff]
   show m.h k=_;rw[a3 k G.1 z.2,<-fX]
   have :(mQ L W base x).h k=ca (cT base.kb (dn L W)) (base.h k):=by
    show(match ic L.keys k with
     |some f=>some (f x)
     |none=>bif cT base.kb (dn L W) k then none else ca (cT base.kb (dn L W)) (base.h k))=_
    have q:∀(l:M (Nat×(L.τ->AB))),aw (l.map (·.1)) k=false->ic l k=none:=by
     intro l;induction l with
     |nil=>intro _;rfl
     |cons y l I=>
      simp_all[g,G?,aw,a?,ic,N!]
    grind
   grind
 simp_all[St.back,dA,Bool.or_true]
 simp_all[St.back,dy,Bool.true_or]
abbrev ņ(C:Ctx)(W:M Nat)(st:St)(K:Ex->St->Prop)(Q:Exit->Act->World->Prop):Prop:=
 ∀e bN a w',K e bN->mE W st bN->Rel C bN a w'->Q (aon e) a w'
variable {K:Ex->St->Prop}
def Za {L:bO}{b:Code}{V:(Ex->St->Prop)->St->Prop}
  (m:∀X bN B w' Y,V X bN->Rel C bN B w'->ņ C W bN X Y->b.wp P Y B w')
  (h:aeA L W K V st) (o:Rel C st a w) (Z:ņ C W st K Q):(Code.loop b).wp P Q a w:=by
 obtain⟨D,F⟩:=h
 have I:∀y∈L.yd,aw W y.1=true:=by
  unfold H6 at D;split at D;grind
  . rename_i s hs;cases H:DX L W st st.clear s with
    |false=>grind
    |true=>
     simp only[DX,Bool.and_eq_true] at H;grind
 have J:Rel C st.clear a w:=by
  obtain⟨A,β,z⟩:=o;exact⟨A,β,z.clear⟩
 obtain⟨c,v,N⟩:=Fe D J (λi _=>⟨λ_=>false,z!,(ur _).symm⟩) (λk _ _ _=>⟨λ_=>false,z!,(E8 _).symm⟩) rfl rfl;refine wp_loop_ghost (λn a w=>∃x,L.inv x/\L.af x=n/\Rel C (mQ L W st x) a w) (L.af c) ⟨c,v,rfl,N⟩ ?_;intro n a w r;obtain⟨x,u,rfl,O⟩:=r;refine m _ _ _ _ _ (F x u) O ?_;intro e bN B w' H q R;cases e with
 |norm=>
  simp only[YN] at H;cases d:Ns L W st bN.news with
  |false=>grind
  |true=>
   rw[d] at H;obtain⟨p,G,a2,S⟩:=q.rC;have T:(mQ L W st x).kb=st.kb:=rfl;rw[T] at G S;have Pb:∀k,cT st.kb bN.news k=true->cT st.kb (dn L W) k=true:=Ip d;have hb:=q.back I
   obtain⟨j,E,qq⟩:=Fe H R (λi hi=>by
     refine⟨λk=>cT st.kb (dn L W) k || p k,λk H=>?_,?_⟩;grind
     . rw[a2 i hi,<-dC]
       have :(mQ L W st x).t i=aG (cT st.kb (dn L W)) (st.t i):=by
        show(match ic L.yd i with
         |some f=>f x
         |none=>bif aw W i then .db else aG (cT st.kb (dn L W)) (st.t i))=_
        have U:∀(l:M (Nat×(L.τ->AV))),(∀y∈l,aw W y.1=true)->ic l i=none:=by
         intro l;induction l with
         |nil=>intro _;rfl
         |cons y l ih=>
          grind[ic,Nat.beq,aO,hi,List.mem_cons_of_mem]
        grind
       grind)
    (λk hd Vd U=>by
      grind[cT,dn,fX,mQ,ca,ic]) q.n q.g
   exact⟨L.af j,E.2,j,E.1,rfl,qq⟩
 |exit i=>
  obtain⟨A,β,z⟩:=R;exact Z _ _ _ _ H (q.back I) ⟨A,β,z.seq ⟨rfl,rfl,rfl,rfl,rfl⟩⟩
 |ret=>
  obtain⟨A,β,z⟩:=R;exact Z _ _ _ _ H (q.back I) ⟨A,β,z.seq ⟨rfl,rfl,rfl,rfl,rfl⟩⟩
def Pc(i:Nat)(H:ņ C W st K Q):ņ C W st (YM i K) (Exit.inBlock i Q):=by
 intro e bN a w' h k q;cases e with
 |norm=>exact H .norm _ _ _ h k q
 |ret=>exact H .ret _ _ _ h k q
 |exit j=>
  simp only[YM] at h;by_cases y:j=i;subst y;simp at h;simp[aon,Exit.inBlock,Q?];exact H .norm _ _ _ h k q;simp[aO y,N!] at h;simp[aon,Exit.inBlock,R! y];exact H (.exit j) _ _ _ h k q
def Zb(n:Int)(ks:U)(f:Nat->Prop)(h:Nt n ks f 0 ks):∃j,f j:=by
 have :∀(r:U) (i:Nat),Nt n ks f i r->(∃j,f j)\/(n∉r/\(zH n ks->∃j,f j)):=by
  intro r;induction r with
  |nil=>intro i h;exact .inr ⟨z!,λq=>⟨i,h q⟩⟩
  |cons k r I=>
   intro i h;by_cases H:n=k;exact .inl ⟨i,h.1 H⟩;rcases I (i+1) h.2 with g|⟨G,y⟩;grind;grind
 grind[BZ]
theorem gO(k:dU P C E)(z:P.follows .mixedOrders=true){L:Nat->Option bO}:∀(c:Code) (K:Ex->St->Prop) (st:St) (a:Act) (w:World) (Q:Exit->Act->World->Prop),
  tu E L c K st->Rel C st a w->ņ C (BF c) st K Q->c.wp P Q a w
 |.skip,K,st,a,w,Q,h,hR,H=>by
   exact wp_skip (H .norm _ _ _ h (mE.refl _ _) hR)
 |.region id ops d,K,st,a,w,Q,h,hR,H=>by
   have f:∀O,dU P C O->VK O K st ops.toList d->(Code.region id ops d).wp P Q a w:=by
    intro O R h;unfold VK at h;split at h;rename_i cs m M;obtain⟨U,V⟩:=Gf h;exact aME R z M U hR λD w' q=>H .norm _ _ _ V (OR M).loose q;grind
   simp only[tu] at h;split at h;rename_i n ks hw;obtain⟨i,r⟩:=Zb n ks _ h;exact f {E with JI:=i} ⟨⟨k.ok.gm,k.ok.sig,k.ok.rA,k.ok.hp,k.ok.cn⟩,k.g⟩ r;grind
 |.seq x y,K,st,a,w,Q,h,hR,H=>by
   refine wp_seq (gO k z x _ st a w _ h hR λe bN D w' F I q=>?_);cases e with
   |norm=>
    exact gO k z y K bN D w' Q F q λe s t Vc G X Y=>H e _ _ _ G (I.trans X) Y
   |exit i=>exact H (.exit i) _ _ _ F (I.mono vL) q
   |ret=>exact H .ret _ _ _ F (I.mono vL) q
 |.cond c x y,K,st,a,w,Q,h,hR,H=>by
   simp only[tu] at h;have Z:ņ C (BF x) st K Q:=λe bN D w' F I q=>H e _ _ _ F (I.mono vL) q;have j:ņ C (BF y) st K Q:=λe bN D w' F I q=>H e _ _ _ F (I.mono Cw) q;split at h
   . rename_i cs m M;obtain⟨U,V⟩:=Gf h;unfold aEf at M;cases u:(!aeB E c&&(nR x&&nR y)) with
     |false=>grind
     |true=>
      rw[u] at M;exact lQ k z _ st _ _ a w Q M U hR λD w' q=>H .norm _ _ _ V (np _ _ _ _ M).loose q
   obtain⟨A,β,B⟩:=hR;split at h;rename_i J;exact wp_cond_true (aoi B J) (gO k z x K st a w Q h ⟨A,β,B⟩ Z);rename_i J;exact wp_cond_false (aoj B J) (gO k z y K st a w Q h ⟨A,β,B⟩ j);rename_i b J;exact wp_cond_split (Y7 B J) (λN=>gO k z x K st a w Q (h.1 N) ⟨A,β,B⟩ Z) (λN=>gO k z y K st a w Q (h.2 N) ⟨A,β,B⟩ j);rename_i v l J;obtain⟨b,N,S⟩:=aok B J;exact wp_cond_split N (λT=>gO k z x K st a w Q (h.1 (S T)) ⟨A,β,B⟩ Z) (λ_=>gO k z y K st a w Q h.2 ⟨A,β,B⟩ j);grind
 |.block id b,K,st,a,w,Q,h,hR,H=>by
   have o:tu E L b (YM id K) st->(Code.block id b).wp P Q a w:=λh=>wp_block (gO k z b _ st a w _ h hR (Pc id H));cases b with
   |loop b=>
    simp only[tu] at h;split at h;rename_i An hA;exact wp_block (Za (λW bN D w' Q' J q p=>gO k z b W bN D w' Q' J q p) h hR (Pc id H));exact h.elim
   |_=>exact o (by first|exact h|(simp only[tu] at h |-))
 |.exit i,K,st,a,w,Q,h,hR,H=>by
   exact wp_exit (H (.exit i) _ _ _ h (mE.refl _ _) hR)
 |.ret,K,st,a,w,Q,h,hR,H=>by
   exact wp_ret (H .ret _ _ _ h (mE.refl _ _) hR)
 |.loop _,K,st,a,w,Q,h,_,_|.rangeFunc _ _ _ _,K,st,a,w,Q,h,_,_=>by grind[tu]
 |.scope c,K,st,a,w,Q,h,hR,H=>by
   simp only[tu] at h;refine wp_scope_straight (gO k z c K st a w _ h hR λe bN D w' F I q=>?_);have:=H e bN D w' F I q;cases e<;>exact this
 |.label _,K,st,a,w,Q,h,hR,H=>by
   simp only[tu] at h;exact wp_label (H .norm _ _ _ h (mE.refl _ _) hR)
 |.goto _,K,st,a,w,Q,h,_,_|.refuse _,K,st,a,w,Q,h,_,_=>by grind[tu]
termination_by c=>SizeOf.sizeOf c
def Pd:Keyed (λ_=>true) [] β aC:=⟨λK k h=>(by cases h),λK h=>(by cases h),λK _ h=>(by cases h),λK h=>(by cases h)⟩
def Nv(T:Array Value):ResultVar->Sem Value
 |.tmp t=>pure (T.getD t undef)
 |.cell x t=>do loadVar t (<-asAddr (T.getD x undef))
theorem L4(f:Func)(t:Array Value):results f t=(do
  let vs <-f.results.mapM (Nv t)
  pure (if h:vs.size=1 then vs[0] else .tuple vs)):=by
 rfl
def uv(q:bM T P)(H:aq C A β st a w):∀(r:M ResultVar) (as_:M AV),nS T st r=some as_->
  ∃vs,(r.mapM (Nv a.tmps)).run P w= .ok vs w/\ae w A β vs as_
 |[],as_,h=>by
   simp_all[nS,A!,ae]
 |.tmp t::r,as_,h=>by
   simp[nS] at h;split at h;rename_i l y;simp at h;subst h;obtain⟨vs,h1,B⟩:=uv q H r l y;refine⟨a.tmps.getD t undef::vs,?_,?_⟩;simp[List.mapM_cons,Nv,Sem.run_bind,Sem.run_pure,Result.andThen_ok,h1];exact⟨_,_,rfl,H.tmps t,B⟩;cases h
 |.cell x t::r,as_,h=>by
   simp[nS] at h;split at h;rename_i k o hk;split at h;rename_i out l D y;obtain⟨vs,h1,B⟩:=uv q H r l y;have z:=H.tmps x;rw[hk] at z
   have F:out.cond=[]:=by
    grind[ql,Option.some.injEq]
   obtain⟨_,v,g,G⟩:=BV q H z D x!;obtain⟨b,f,m⟩:=z;refine⟨v::vs,?_,?_⟩;simp only[Instr.loadAt,Instr.sureAddr,Sem.run_bind,Sem.run_pure,Result.andThen_ok] at g;grind[asAddr,undef,Sem.run_pure,Nv,Sem.run_bind,Result.andThen_ok];grind[ae];grind;grind
def Zc {α:Type}{R:M Value->α->Prop}:∀(xs:M Value) (l:M α),xs.length=l.length->(∀(i:Nat) (v:Value) (x:α),xs[i]? =some v->l[i]? =some x->R [v] x)->dZ R xs l
 |[],[],_,_=>by rfl
 |v::xs,x::l,H,h=>by
  exact⟨[v],xs,rfl,h 0 v x rfl rfl,Zc xs l (by simpa using H) λi v x k q=>h (i+1) v x (by simpa using k) (by simpa using q)⟩
 |[],_::_,H,_|_::_,[],H,_=>by grind
theorem Iq(F:aq C A β st a w)(Z:∀b,A b->A' b)(r:M Ty)(l:M (Row r))(k:Nat)(v:Value)(h:∀p∈(F5 st.h r l k).1,p)(z:∀K∈(F5 st.h r l k).2,∀b,ah (β K)=some b->A' b)
  (D:aa w A β v (.own k)):aa w A' aC v (.sl r l)/\∀K∈(F5 st.h r l k).2,(st.h K).isSome:=by
 generalize H:F5 st.h r l k=g at h z |-;unfold F5 at H;split at H
 . rename_i e j n m s hk;split at H
   . rename_i e2 I B t d;cases J:Nat.beq I.length 1 with
     |false=>rw[J] at H;subst H;exact(aR h).elim
     |true=>
      rw[J] at H;have N:=D! J;split at H;rename_i g' L;subst H;obtain⟨P,Q⟩:=aoU L;subst P;subst Q;have S:m=n:=h _ (G! ..);have O:xf s n B=l:=h _ (F! _ (G! ..));subst S;subst O;have R:∀b,ah (β k)=some b->A' b:=z k z!;have U:∀b,ah (β j)=some b->A' b:=z j z!;refine⟨?_,λK G=>?_⟩;obtain⟨rfl,_⟩:=D;have hlen:(xf s m B).length=m:=by simp[xf]
      rcases Į F hk with⟨h1,V⟩|⟨b,c,X,h1,V,T,W,h5,h6,h7⟩;subst V;exact⟨none,0,[],by rw[h1];simp[xf],by simp[xf],z!,by simp[xf,dZ],z!⟩;refine⟨_,c,X.toList.take m,by rw[h1,hlen],by rw[hlen];exact T,W,?_,λ_=>⟨b,0,rfl,R b (by rw[h1];rfl),?_⟩⟩;refine Zc _ _ (by simp;omega) λi u x hu Y=>?_
      have hi:i<m:=by
       have:=(F?.1 Y).1;omega
      obtain⟨v',E,e3⟩:=h7 j rfl i hi;rw[hu] at E;simp at E;subst E
      have Ez:x=(B.drop (i*s)).take s:=by
       simp[xf,A?,List.getElem?_range hi,Option.map_some,A!] at Y;exact Y.symm
      have f:=(uU (A':=A') F e3 Z (λq y=>by
       have o:=F7 _ q y;simp[aA,s?] at o;subst o;exact U)).1
      simp[jA,d,N,cY,K!,aa] at f;refine⟨u,[],rfl,?_,rfl⟩;rw[Ez];exact f;intro q u y;rw[List.getElem?_take] at y;split at y;simp[World.cell?,V];simpa using y;cases y;simp at G;rcases G with rfl|rfl;simp[hk];simp[d];subst H;exact(aR h).elim
   subst H;exact(aR h).elim
 subst H;obtain⟨g1,g2⟩:=uU F D Z z;exact⟨rT Pd _ _ _ h g1,λk hk=>by obtain⟨e,row,l,t,D⟩:=g2 k hk;simp[D]⟩
mutual
theorem L5(hB:aq C A β st a w){s:M (Nat×Option Nat)}(B:∀b,A b->A' b)(h1:∀i k,cz s i=some (some k)->aC i=β k)(F:∀i,cz s i=some none->aC i=ua):∀(x y:AV) (v:Value),
  (∀p∈(Ck st.h s x y).1,p)->(∀k∈(Ck st.h s x y).2,∀b,ah (β k)=some b->A' b)->aa w A β v y->aa w A' aC v x/\∀k∈(Ck st.h s x y).2,(st.h k).isSome
 |x,y,v,h,q,H=>by
  generalize z:Ck st.h s x y=r at h q |-;unfold Ck at z;split at z
  . rename_i i k;subst z;simp only at h q |-;refine⟨?_,λk hk=>(by cases hk)⟩;simp only[aa] at H |-;split at h
    . rename_i j I;cases N:Nat.beq k j with
      |false=>rw[N] at h;exact(aR h).elim
      |true=>
       have:=D! N;subst this;rw[h1 i k I];exact H
    exact(aR h).elim
  rename_i i;subst z;simp only at h q |-;refine⟨?_,λk hk=>(by cases hk)⟩;simp only[aa] at H |-;split at h;rename_i I;rw[F i I];subst H;exact⟨rfl,rfl⟩;exact(aR h).elim;rename_i R L k;subst z;exact Iq hB B R L k v h q H;rename_i xs Y;subst z;simp only[aa] at H |-;obtain⟨D,E,J⟩:=H;obtain⟨g,G⟩:=Ae hB B h1 F xs Y _ h q J;exact⟨⟨D,E,g⟩,G⟩;rename_i xs Y;subst z;simp only[aa] at H |-;obtain⟨D,E,J⟩:=H;obtain⟨g,G⟩:=Ae hB B h1 F xs Y _ h q J;exact⟨⟨D,E,g⟩,G⟩;subst z;obtain⟨g,G⟩:=uU hB H B q;exact⟨rT Pd _ _ _ h g,λk hk=>by obtain⟨e,O,l,f,H⟩:=G k hk;simp[H]⟩
theorem Ae(hB:aq C A β st a w){s:M (Nat×Option Nat)}(B:∀b,A b->A' b)(h1:∀i k,cz s i=some (some k)->aC i=β k)(F:∀i,cz s i=some none->aC i=ua):∀(xs Y:M AV) (vs:M Value),
  (∀p∈(vD st.h s xs Y).1,p)->(∀k∈(vD st.h s xs Y).2,∀b,ah (β k)=some b->A' b)->ae w A β vs Y->ae w A' aC vs xs/\∀k∈(vD st.h s xs Y).2,(st.h k).isSome
 |[],[],vs,_,_,H=>by
   simp only[ae] at H |-;exact⟨H,λk hk=>by simp[vD] at hk⟩
 |x::xs,y::Y,vs,h,q,H=>by
  simp only[vD] at h q |-;obtain⟨g,G⟩:=l6 h;simp only[ae] at H |-;obtain⟨v,c,e,U,V⟩:=H;obtain⟨Q,X⟩:=L5 hB B h1 F x y v g (λk hk=>q k (T! _ hk)) U;obtain⟨Z,d⟩:=Ae hB B h1 F xs Y c G (λk hk=>q k (U! _ hk)) V;refine⟨⟨v,c,e,Q,Z⟩,λk hk=>?_⟩;rcases I!.1 hk with hk|hk;exact X k hk;exact d k hk
 |[],_::_,vs,h,_,_|_::_,[],vs,h,_,_=>by simp only[vD] at h;exact(aR h).elim
end
def yU(h:aP)(s:M (Nat×Option Nat))(i:Nat)(b:AB):M Prop:=match cz s i with
 |some (some k)=>SA s (λ_=>true) (h k) b
 |some none=>match b with
  |.row _ _ l false=>[[]=l]
  |_=>[False]
 |none=>[False]
theorem Pe {h:aP}{s:M (Nat×Option Nat)}:∀(B:M AB) (i j:Nat) (b:AB),B[j]? =some b->∀p∈yU h s (i+j) b,p∈OM h s i B
 |k::B,i,0,b,hb,p,hp=>by
  simp at hb;subst hb;simp only[OM,I!];exact .inl hp
 |k::B,i,j+1,b,hb,p,hp=>by
  simp[OM,I!];refine .inr (Pe B (i+1) j b (by simpa using hb) p ?_);rw[show i+1+j=i+(j+1) by omega];exact hp
theorem aq.init {G:Nat->Option GD}{a:M Value}{B:M AV}{n:Nat}(q:∀b,A b->b<w.heap.size)(y:∀i d,G i=some d->auo w A i d)(z:ae w A β a B)(D:B.length<=n):
  aq ⟨w,A,λ_=>False,G,β⟩ A β (St.init G n B) {tmps:=a.toArray++Array.replicate (n-a.toArray.size) undef,defers:=[]} w:=by
 have H:=ajO B a z
 have F:∀(as_:M AV) (vs:M Value) (i:Nat),ae w A β vs as_->aa w A β (vs.getD i undef) (as_.getD i .undef):=by
  intro as_;induction as_ with
  |nil=>grind[ae,aa]
  |cons x as_ I=>
   intro vs i h;obtain⟨v,c,rfl,J,N⟩:=h;cases i with
   |zero=>grind
   |succ i=>simp_all
 refine⟨rfl,?_,λi=>?_,λk ab h=>(by cases h),λk K b h=>(by cases h),q,⟨rfl,rfl,rfl,Nat.le_refl _,λb _ _=>rfl⟩,λb _ h=>.inl h,λb h=>h,λk b h=>(by cases h),λi d h=>h,y,λk _=>rfl⟩;grind[St.init];show aa w A β _ (B.getD i .undef)
 have e:(a.toArray++Array.replicate (n-a.toArray.size) undef).getD i undef=a.getD i undef:=by
  rw[Array.getD_eq_getD_getElem?];grind
 grind
def Ň(hT:bM T P){O:Func}{w0:World}{A0:Nat->Prop}{Hu:Nat->Value}(q:aq ⟨w0,A0,λ_=>False,G,Hu⟩ A β st a w){W:AV}{B:M AB}(h:YO T st O.results.toList W B):
  ∃v,(results O a.tmps).run P w= .ok v w/\∃A' aC,nO w0 A0 w v W B A' aC:=by
 unfold YO at h;split at h;grind
 . rename_i as_ U;cases V:(kW (eU (uq st.h W (ie as_) B))&&((Ck st.h (uq st.h W (ie as_) B) W (ie as_)).2.all λk=>!aw (eU (uq st.h W (ie as_) B)) k)&&ly B.length B) with
   |false=>grind
   |true=>
    rw[V] at h;simp only[K!] at h;simp only[B!,V!] at V;obtain⟨⟨q1,q2⟩,q3⟩:=V;obtain⟨c1,c2⟩:=l6 (yO _ h);generalize hs:uq st.h W (ie as_) B=s at *;obtain⟨vs,p1,J⟩:=uv hT q O.results.toList as_ U
    have hv:∃v,(results O a.tmps).run P w= .ok v w/\aa w A β v (ie as_):=by
     have hl:=ajO as_ vs J;refine⟨if h:vs.toArray.size=1 then vs.toArray[0] else .tuple vs.toArray,?_,?_⟩;grind[L4,Array.mapM_eq_mapM_toList,Sem.run_bind,map_eq_pure_bind,Result.andThen_ok,Sem.run_pure]
     . match as_,vs,hl,J with
       |[x],[v],_,J=>
         grind[ae,List.cons.injEq,ie]
       |[],[],_,J=>
         grind[ie,aa,ae]
       |x::y::l,v::u::m,_,J=>
        have dS:¬(v::u::m).toArray.size=1:=by simp
        rw[dif_neg dS];simp only[ie,aa];grind
    obtain⟨v,YG,HX⟩:=hv;let F:=(Ck st.h s W (ie as_)).2
    let f:Nat->Value:=λi=>match cz s i with
     |some (some k)=>β k
     |_=>ua
    obtain⟨r1,r⟩:=L5 (A':=cd A β F) (aC:=f) q (λb H=>.inl H) (λi k hk=>by grind) (λi hk=>by grind) W (ie as_) v c1 (λk hk b H=>.inr ⟨k,hk,H⟩) HX;have hK:bI w w A (cd A β F):=λb H=>⟨.inl H,rfl⟩
    have mO:∀i ab,B[i]? =some ab->BR w (cd A β F) f i ab/\(f i=ua\/∃k,cz s i=some (some k)/\f i=β k/\(st.h k).isSome):=by
     intro i ab z;have D:∀p∈yU st.h s i ab,p:=λp hp=>c2 p (Pe B 0 i ab z p (by rw[Nat.zero_add];exact hp));unfold yU at D;have X:Keyed (λ_=>true) s β f:=⟨λK k h=>by simp only[f,h],λK h=>by simp only[f,h],λK _ h=>(by cases h),λK h=>(by cases h)⟩
     have Y:∀k c,cz s i=some (some k)->st.h k=some c->BR w A f i ab->BR w (cd A β F) f i ab:=by
      intro k c hk t R;have L:f i=β k:=by simp only[f,hk]
      have rS:∀b,ah (f i)=some b->¬A b->¬cd A β F b:=by
       rintro b H ml (Na|⟨j,I,N⟩);exact ml Na;rw[L] at H;have :j=k:=q.apart j k b (r j I) (by simp[t]) N H;subst this;have OB:=q2 j I;rw[K?] at OB;exact jn.1 OB (j9 s i j hk)
      rcases zS B i ab q3 z with⟨e,Z,l,rfl⟩|⟨e,j,n,m,sz,rfl,_⟩;obtain⟨xs,d,g,o⟩:=R;refine⟨xs,d,bR (λc x C=>bE hK Z c x C) l xs g,λb H=>?_⟩;have:=o b H;exact rS b H this;obtain⟨xs,d,g,o⟩:=R;refine⟨xs,d,λb H=>rS b H (g b H),λj' hY i' gl=>?_⟩;obtain⟨v,e1,e2⟩:=o j' hY i' gl;exact⟨v,e1,NX rfl e2⟩
     split at D;rename_i k hk;obtain⟨c,t⟩:=yT D;rw[t] at D;have L:f i=β k:=by simp only[f,hk]
     have R:=Ac (aC:=f) X L D (q.blocks k c t);exact⟨Y k c hk t R,.inr ⟨k,hk,L,by simp[t]⟩⟩;rename_i hk;have L:f i=ua:=by simp only[f,hk]
     split at D;exact⟨VY L (aR D),.inl L⟩;exact(aR D).elim;exact(aR D).elim
    have E:∀i ab b,B[i]? =some ab->ah (f i)=some b->∃k,cz s i=some (some k)/\ah (β k)=some b/\(st.h k).isSome:=by
     intro i ab b z H;rcases(mO i ab z).2 with hn|⟨k,h1,h2,h3⟩;rw[hn] at H;simp[ua,ah] at H;exact⟨k,h1,by rw[<-h2];exact H,h3⟩
    refine⟨v,YG,cd A β F,f,⟨q.frame.os,q.frame.tape,q.frame.output,q.frame.size,λb H=>q.frame.block b H (λh=>h),λb H=>.inl (q.base b H),λb H Q=>?_,λb H=>?_,r1,λi ab z=>⟨(mO i ab z).1,λb H=>?_⟩,λi j b z I H fw=>?_⟩⟩;rcases Q with Q|⟨j,I,N⟩;rcases q.gG b H Q with h|h;exact h;exact h.elim;rcases q.om j b (r j I) N with h|h;exact absurd H (Nat.not_lt.2 h);exact h.elim;rcases H with H|⟨j,I,N⟩;exact q.bound b H;exact oK q (r j I) N;obtain⟨k,_,S,g3⟩:=E i ab b z H;rcases q.om k b g3 S with h|h;exact h;exact h.elim;obtain⟨x,C⟩:∃x,B[i]? =some x:=⟨_,C! z⟩;obtain⟨y,hy⟩:∃y,B[j]? =some y:=⟨_,C! I⟩;obtain⟨k,g1,S,g3⟩:=E i x b C H;obtain⟨k',g1',Ķ,g3'⟩:=E j y b hy fw;have :k=k':=q.apart k k' b g3 g3' S Ķ;subst this;exact Ad s q1 i j k g1 g1'
theorem VZ(q:ba P E)(D:P.follows .mixedOrders=true){f:FuncId}{F:Func}{c:Code}{s:Va}(L:M AV->Nat->Option bO)(I:P.funcs[f]? =some F)(J:F.body=some c)
  (h:∀b p res B,s b=some (p,res,B)->p->LP E (L b) c F.ntmps F.results.toList b res B):Valid P E.lM f s:=by
 intro w A β a b p res B N O R U X;have V:=h b p res B U X;unfold LP at V;cases y:Nat.ble b.length F.ntmps with
 |false=>grind
 |true=>
  rw[y] at V;refine calls_of_wp I J (gO (C:=⟨w,A,λ_=>False,E.lM,β⟩) ⟨q,rfl⟩ D c _ _ _ w _ V ⟨A,β,aq.init N O R (L! y)⟩ ?_);intro e bN Y w' H _ Z;obtain⟨A',aC,z⟩:=Z
  have k:YO E.T bN F.results.toList res B->bodyPost P F (λe w'=>∃v,e= .returned v/\∃A' aC,nO w A w' v res B A' aC) .ret Y w':=by
   intro H;obtain⟨v,d,g,j,l⟩:=Ň q.gm z H;exact⟨z.defers,v,d,v,rfl,g,j,l⟩
  cases e with
  |norm=>exact k H
  |ret=>exact k H
  |exit i=>exact H.elim
@[reducible] def pV (α:Type):M α:=[]
mutual
def D.ok:(t:Ty)->D t->Prop
 |.int k,x=>lo k<=DI.toInt k x/\DI.toInt k x<=hi k
 |.bool,_=>True
 |.str,s=>s.length<=9223372036854775807
 |.slice row,l=>l.length<=9223372036854775807/\∀x,x∈l->Row.ok row x
def Row.ok:(ts:M Ty)->Row ts->Prop
 |[],_=>True
 |t::ts,x=>D.ok t (Row.hd x)/\Row.ok ts (Row.tl x)
end
theorem V1 {α:Type}{R:M Value->α->Prop}{p:α->Prop}(h:∀c x,R c x->p x):∀(l:M α) (cs:M Value),dZ R cs l->∀x,x∈l->p x
 |[],_,_,x,hx=>by grind
 |y::l,_,⟨c1,c2,k,h1,H⟩,x,hx=>by
  rcases List.mem_cons.1 hx with rfl|hx;grind;exact V1 h l c2 H x hx
mutual
theorem aF5:∀(t:Ty) (v:Value) (x:D t),Rd w A t v x->D.ok t x
 |.int k,v,x,h=>by simp only[Rd] at h;simp only[D.ok];exact h.2
 |.bool,v,x,h=>by simp only[D.ok]
 |.str,v,s,h=>by simp only[Rd] at h;simp only[D.ok];exact h.2
 |.slice row,v,l,h=>by
   simp only[Rd] at h;obtain⟨a,C,cs,y,H,q,z,I⟩:=h;simp only[D.ok];exact⟨b? H q,V1 (λc x B=>Ir row c x B) l cs z⟩
theorem Ir:∀(T:M Ty) (vs:M Value) (x:Row T),bJ w A T vs x->Row.ok T x
 |[],vs,x,h=>by simp only[Row.ok]
 |t::T,vs,x,h=>by
  simp only[bJ] at h;obtain⟨v,F,y,H,q⟩:=h;simp only[Row.ok];exact⟨aF5 t v _ H,Ir T F _ q⟩
end
def b9.Ok(P:Program):b9->Prop
 |.leaf=>True
 |.node l k v r=>l.Ok P/\r.Ok P/\P.underlying k=some v.desc/\Ĝ P k v.desc/\∃i,P.info? k=some i/\i.size=v.size/\i.bytes=v.bytes/\i.zero=some v.zero
theorem b9.Ok.at {P:Program}{T:b9}(h:T.Ok P):∀t q,T.find t=some q->(P.underlying t=some q.desc/\∃i,P.info? t=some i/\i.size=q.size/\i.bytes=q.bytes/\i.zero=some q.zero)/\Ĝ P t q.desc:=by
 induction T with
 |leaf=>intro t q H;cases H
 |node l k v r I y=>
  obtain⟨z,B,D,F,J⟩:=h;intro t q H;simp[b9.find] at H;cases M:Nat.beq t k with
  |true=>
   simp_all
  |false=>
   grind
theorem bM.of{T:b9}(h:T.Ok P):bM T P:=⟨λt k H=>(h.at t k H).1,λt k H=>(h.at t k H).2⟩
end Go.Vg
namespace Go.Vg
open Go
end Go.Vg
namespace Go.Vg
open Go
variable [HP]
inductive PS where
 |one (t:Ty)
 |agg (ts:List Ty)
 |var (ts:List Ty)
@[reducible] def PS.flat:M PS->M Ty
  |[]=>[]
  |.one t::ps=>t::PS.flat ps
  |.agg ts::ps|.var ts::ps=>ts++PS.flat ps
def PS.cells:M PS->M AV->Option (M AV)
 |[],[]=>some []
 |.one _::ps,a::as_=>match PS.cells ps as_ with
   |some l=>some (a::l)
   |none=>none
 |.agg ts::ps,.agg cs::as_=>bif Nat.beq cs.length ts.length then match PS.cells ps as_ with
   |some l=>some (cs++l)
   |none=>none
   else none
 |.var ts::ps,.dc I x 0::as_=>match fN I ts [x],PS.cells ps as_ with
   |some (y::_),some l=>some (ax ts y++l)
   |_,_=>none
 |_,_=>none
def Af(t:M Ty)(c:M AV):AV:=match kA t c with
 |some x=>.dc t x 0
 |none=>.db
def PS.group:M PS->M AV->M AV
 |[],_=>[]
 |.one _::ps,cs=>cs.headD .db::PS.group ps cs.tail
 |.agg ts::ps,cs=>.agg (cs.take ts.length)::PS.group ps (cs.drop ts.length)
 |.var ts::ps,cs=>Af ts (cs.take ts.length)::PS.group ps (cs.drop ts.length)
def J5(p:M PS)(b:M AV):Option (Row (PS.flat p)):=match PS.cells p b with
 |some cs=>kA (PS.flat p) cs
 |none=>none
def rU(p:M PS)(x:Row (PS.flat p)):M AV:=PS.group p (ax (PS.flat p) x)
def fo(p:M PS)(f:Row (PS.flat p)->Prop×AV×M AB):Va:=λb=>match J5 p b with
 |some x=>some (f x)
 |none=>none
def rV(p:M PS)(a:Row (PS.flat p)->Nat)(m:Nat)(f:Row (PS.flat p)->Prop×AV×M AB):Va:=
 fo p λx=>(a x<m/\(f x).1,(f x).2)
variable {A:Nat->Prop}{w:World}{β:Nat->Value}{E:Env}{P:Program}{c:Code}{T:b9}{H:Type}{held:Bool}{sp:Nat->Bool}{enc:TypeId×Value->H}
theorem lA:∀(b B:M AV) (V:M Value),ae w A β V (b++B)->∃u W,V=u++W/\ae w A β u b/\ae w A β W B
 |[],B,V,h=>⟨[],V,rfl,by rfl,h⟩
 |a::b,B,V,h=>by
  obtain⟨v,c,rfl,H,d⟩:=h;obtain⟨u,W,rfl,e,f⟩:=lA b B c d;exact⟨v::u,W,rfl,by exact⟨v,u,rfl,H,e⟩,f⟩
theorem xk(a:M AV)(v:M Value)(h:ae w A β v a):v.length=a.length:=(ajO a v h).symm▸rfl
def uw:∀(p:M PS) (B C:M AV) (d:M Value),PS.cells p B=some C->ae w A β d B->
  C.length=(PS.flat p).length/\∃V,ae w A β V C/\∀g,g.length=C.length->ae w A β V g->ae w A β d (PS.group p g)
 |[],[],C,d,h,H=>by
   simp only[PS.cells,Option.some.injEq] at h;subst h;exact⟨rfl,[],by rfl,λg _ _=>by grind[PS.group]⟩
 |.one t::p,a::as_,C,d,h,H=>by
   simp only[PS.cells] at h;split at h
   . rename_i l i;simp only[Option.some.injEq] at h;subst h;simp only[ae] at H;obtain⟨v,J,rfl,f,j⟩:=H;obtain⟨g1,V,G,s⟩:=uw p as_ l J i j;refine⟨x!,v::V,by simp only[ae];grind,λg L q=>?_⟩;cases g with
     |nil=>grind
     |cons c g=>
      simp only[ae] at q;obtain⟨v',cr,e,r1,r2⟩:=q;simp only[List.cons.injEq] at e;obtain⟨rfl,rfl⟩:=e;simp only[PS.group,List.headD,List.tail,ae];grind
   grind
 |.agg ts::p,a::as_,C,d,h,H=>by
   cases a with
   |agg k=>
    simp only[PS.cells] at h;cases D:Nat.beq k.length ts.length with
    |false=>grind
    |true=>
     rw[D] at h;have m:=Nat.eq_of_beq_eq_true D;simp only[cond_true] at h;split at h;rename_i l i;simp only[Option.some.injEq] at h;subst h;simp only[ae] at H;obtain⟨v,J,rfl,f,j⟩:=H;simp only[aa] at f;obtain⟨u,rfl,f⟩:=f;obtain⟨g1,V,G,s⟩:=uw p as_ l J i j;refine⟨x!,u.toList++V,gy _ _ _ _ f G,λg L q=>?_⟩;grind[lA,List.take_append_drop,xk,List.append_inj,PS.group,ae,aa];grind
   |_=>grind[PS.cells]
 |.var ts::p,a::as_,C,d,h,H=>by
   obtain⟨v,J,rfl,f,j⟩:=H;unfold PS.cells at h;split at h;rename_i E _;cases E;rename_i E _;cases E;rename_i E _;cases E;rename_i T P I x N E n;simp only[List.cons.injEq,PS.var.injEq] at E n;obtain⟨E,O⟩:=E;obtain⟨n,R⟩:=n;subst E n O R;split at h;rename_i y r l S i;simp only[Option.some.injEq] at h;subst h;obtain⟨b,o,k,U,W,X,F⟩:=f;obtain⟨e,K⟩:=ju S;subst e;simp only[List.cons.injEq] at K;obtain⟨rfl,z⟩:=K;subst z;obtain⟨g1,V,G,s⟩:=uw p as_ l J i j;refine⟨by simp[fA,g1,PS.flat],k++V,gy _ _ _ _ (hZ _ _ _ F) G,λg L q=>?_⟩
   have m:k.length=I.length:=by
    have:=xk _ _ (hZ (β:=β) _ _ _ F);rw[this,fA]
   rw[<-O? I.length g] at q;obtain⟨us,ws,e,Q,Y⟩:=lA _ _ _ q
   have iT:(g.take I.length).length=I.length:=by
    rw[C?,L,J!,fA];omega
   have:=xk _ _ Q;obtain⟨rfl,rfl⟩:=List.append_inj e w!;refine⟨v,J,rfl,?_,s _ (by rw[List.length_drop,L,List.length_append,fA];omega) Y⟩;unfold Af;split;rename_i x Z;exact⟨b,o,k,U,W,X,lY _ _ _ _ Q Z⟩;trivial;cases h;cases h
 |.var _::_,[],C,d,h,_|[],_::_,C,d,h,_|.one _::_,[],C,d,h,_|.agg _::_,[],C,d,h,_=>by grind[PS.cells]
def vM(p:M PS){b:M AV}{a:M Value}{x:Row (PS.flat p)}(h:J5 p b=some x)(d:ae w A β a b):
  ae w A β a (rU p x)/\Row.ok (PS.flat p) x:=by
 unfold J5 at h;split at h;rename_i c e;obtain⟨g1,v,g,G⟩:=uw p b c a e d;have H:=lY _ _ _ _ g h;exact⟨G _ (by rw[fA,g1]) (hZ _ _ _ H),Ir _ _ _ H⟩;grind
def Is(e:ba P E)(g:P.follows .mixedOrders=true){f:FuncId}{b:Func}(p:M PS){F:Row (PS.flat p)->Prop×AV×M AB}
  (L:Row (PS.flat p)->Nat->Option bO) (i:P.funcs[f]? =some b) (j:b.body=some c)
  (h:∀x,(F x).1->Row.ok (PS.flat p) x->LP E (L x) c b.ntmps b.results.toList (rU p x) (F x).2.1 (F x).2.2):Valid P E.lM f (fo p F):=by
 intro w A β a v d r B k l m H n;unfold fo at H;split at H;rename_i x o;obtain⟨G,y⟩:=vM p o m
 have q:Valid P E.lM f (λT=>open Classical in if T=rU p x then some (F x) else none):=by
  refine VZ e g (λ_=>L x) i j λT s t u I z=>?_;grind
 exact q w A β a (rU p x) d r B k l G x! n;grind
def ň {G:Nat->Option GD}{f:FuncId}(p:M PS)(b:Row (PS.flat p)->Nat){F:Row (PS.flat p)->Prop×AV×M AB}
  (h:∀m,Valid P G f (rV p b m F)->Valid P G f (rV p b (m+1) F)):Valid P G f (fo p F):=by
 have l:∀m,Valid P G f (rV p b m F):=by
  intro m;induction m with
  |zero=>
   intro w A β a B d r e g i j H k;unfold rV fo at H;grind
  |succ m I=>grind
 intro w A β a B d r e g i j H k;unfold fo at H;split at H;rename_i x n;refine l (b x+1) w A β a B (b x<b x+1/\d) r e g i j ?_ ⟨Nat.lt_succ_self _,k⟩;simp_all[rV,fo]
 grind
theorem aMw.of {f:FuncId} {F:Func}(h:P.funcs[f]? =some F)(H:F.body=some c)(b:(F.name== "runtime.NumGoroutine")=false):aMw P f:=by
 intro a w;simp_all[callFunc,Sem.run_bind,Result.andThen_ok,Option.isNone_some]
def Env.cons(f:Nat)(s:Va)(E:Env):Env:={E with sig:=λg=>bif Nat.beq g f then some s else E.sig g}
theorem ba.cons(a:ba P E){f:FuncId}{s:Va}(h:Valid P E.lM f s)(d:aMw P f):ba P (E.cons f s):=by
 refine⟨a.gm,λg t H=>?_,a.rA,a.hp,a.cn⟩;simp[Env.cons] at H;cases b:Nat.beq g f with
 |true=>
  rw[b] at H;simp at H;have:=D! b;subst this;subst H;exact⟨h,d⟩
 |false=>
  rw[b] at H;exact a.sig g t H
theorem ba.none {T:b9}(G:Nat->Option GD)(h:bM T P)(H:∀Q,HP.is Q↔Q=P:=by exact λ_=>Iff.rfl):ba P {T:=T,sig:=λ_=>none,lM:=G}:=⟨h,nofun,nofun,H,nofun⟩
def It(T:b9)(o:Nat):M Field->Bool
 |[]=>true
 |f::fs=>Nat.beq f.offset o&&(match T.find f.type with
  |some te=>It T (o+te.size) fs
  |none=>false)
def Zd(T:b9):M Field->Nat
 |[]=>0
 |f::fs=>(match T.find f.type with
  |some te=>te.size
  |none=>0)+Zd T fs
def Ag(T:b9):Nat->TypeId->Bool
 |0,_=>false
 |n+1,t=>match T.find t with
  |none=>false
  |some te=>match te.desc with
   |.slice e=>Ag T n e&&(match T.find e with
     |some E=>Nat.blt 0 E.size
     |none=>false)
   |.struct F=>It T 0 F.toList&&Nat.beq te.size (Zd T F.toList)&&F.toList.all (λf=>Ag T n f.type)
   |.array k e=>Ag T n e&&(match T.find e with
     |some E=>Nat.beq te.size (k*E.size)
     |none=>false)
   |_=>true
theorem bM.cells(H:bM T P){t:TypeId}{a:TE}(h:T.find t=some a):P.cellsOf t=a.size:=by
 obtain⟨_,i,b,d,_⟩:=H.ok t a h;grind[Program.cellsOf]
def vN:∀(R r:M Ty) (C c:M Value) (x:Row R) (y:Row r),bJ w A R C x->bJ w A r c y->∃z:Row (R++r),bJ w A (R++r) (C++c) z
 |[],r,C,c,x,y,h1,h=>by
   grind[bJ]
 |t::ts,r,C,c,x,y,h1,h=>by
  obtain⟨v,V,rfl,G,g⟩:=h1;obtain⟨z,H⟩:=vN ts r V c _ y g h;refine⟨Row.mk (Row.hd x) z,?_⟩;show bJ w A (t::(ts++r)) (v::(V++c)) (Row.mk (Row.hd x) z);grind[bJ,xW,B5]
def TI {row:M Ty}{s:Nat}{a:Addr}(e:0<s):∀(k:Nat),(∀i,i<k->∃g r,g.length=s/\(∀j,j<s->w.cell? ((a.add (i*s)).add j)=g[j]?)/\bJ w A row g r)->
  ∃(l:M (Row row)) (c:M Value),l.length=k/\c.length=k*s/\dZ (bJ w A row) c l/\(∀j,j<k*s->w.cell? (a.add j)=c[j]?)
 |0,_=>⟨[],[],rfl,z!,by rfl,λj H=>by omega⟩
 |k+1,h=>by
  obtain⟨l,c,d,f,b,m⟩:=TI e k λi n=>h i w!;obtain⟨g,r,o,p,G⟩:=h k w!;refine⟨l++[r],c++g,x!,x!,j5 l [r] c g b ⟨g,[],z!,G,by rfl⟩,λj H=>?_⟩;grind[List.getElem?_append_right,Addr.add]
def Ph(d:bM T P){n m:Nat}(c:M Value)
  (i:∀t R (c:M Value) x,rowOf T n t=some R->Ag T n t=true->DataW.trod enc P w 0 sp held m t c=some x->∃r:Row R,bJ w A R c r):
  ∀(F:M Field) (o:Nat) (R:M Ty),F.foldr (λf a=>ES (rowOf T n f.type) a) (some [])=some R->It T o F=true->(F.all λf=>Ag T n f.type)=true->
   (∀f∈F,∃x,DataW.trod enc P w 0 sp held m f.type ((c.drop f.offset).take (P.cellsOf f.type))=some x)->c.length=o+Zd T F->
   ∃r:Row R,bJ w A R (c.drop o) r
 |[],o,R,h,_,_,_,e=>by
   simp at h;subst h;simp_all[bJ,Zd,V?]
 |f::F,o,R,h,j,H,hx,e=>by
  simp at h;generalize b:F.foldr (λf a=>ES (rowOf T n f.type) a) (some [])=k at h;unfold ES at h;split at h;rename_i G p q;simp at h;subst h;simp only[It,Bool.and_eq_true] at j;obtain⟨s,l⟩:=j;have I:=Nat.eq_of_beq_eq_true s;simp only[List.all_cons,Bool.and_eq_true] at H;split at l;rename_i v J;have K:=d.cells J;obtain⟨x,S⟩:=hx f (List.mem_cons_self ..);obtain⟨y,B⟩:=i _ _ _ _ q H.1 S;simp only[Zd,J] at e;obtain⟨z,C⟩:=Ph d c i F (o+v.size) p b l H.2 (λg D=>hx g (List.mem_cons_of_mem _ D)) w!;obtain⟨u,L⟩:=vN _ _ _ _ _ _ B C;grind[List.drop_drop,List.take_append_drop];grind;grind
def TJ {r:M Ty}(c:M Value)(s:Nat):∀(k o:Nat),(∀i,i<k->∃x:Row r,bJ w A r ((c.drop (o+i*s)).take s) x)->c.length=o+k*s->
  ∃x:Row ((List.replicate k r).flatten),bJ w A ((List.replicate k r).flatten) (c.drop o) x
 |0,o,_,H=>⟨(),by
  grind[bJ,List.drop_eq_nil_of_le]⟩
 |k+1,o,h,H=>by
  obtain⟨x,a⟩:=h 0 w!
  obtain⟨y,b⟩:=TJ c s k (o+s) (λi d=>by
   obtain⟨z,e⟩:=h (i+1) w!;refine⟨z,?_⟩;grind) x!
  obtain⟨u,f⟩:=vN _ _ _ _ _ _ a b;grind[List.drop_drop,List.take_append_drop]
def sU {t:Ty}{v:Value}{x:D t}(h:Rd w A t v x):bJ w A [t] [v] (Row.mk x ()):=by
 grind[bJ,xW]
def D5(u:bM T P)(I:∀b,b<w.heap.size->A b):∀(n m:Nat) (t:TypeId) (R:M Ty) (c:M Value) (x:DataW H×M MemPlace),rowOf T n t=some R->Ag T n t=true->
  DataW.trod enc P w 0 sp held m t c=some x->∃r:Row R,bJ w A R c r
 |0,m,t,R,c,x,d,_,_=>by grind[rowOf]
 |n+1,m,t,R,c,x,d,g,h=>by
  unfold rowOf at d;unfold Ag at g;split at d;grind
  . rename_i te K;rw[K] at g;obtain⟨p,_⟩:=u.ok t te K;have eY:=u.cells K;simp only at g;split at d;rename_i k hd;simp only[A!] at d;subst d;rw[hd] at p;obtain⟨z,rfl,_,hw⟩:=DataW.trod_int p h
    have hz:lo k<=z/\z<=hi k:=by
     cases k<;>simpa[Lit.wf,IntKind.min,IntKind.max,IntKind.signed,IntKind.bits,lo,hi] using hw
    refine⟨Row.mk (DI.ofInt k z:D (.int k)) (),sU ?_⟩;simp_all[Rd,Tb,trivial]
    rename_i hd;simp only[A!] at d;subst d;rw[hd] at p;obtain⟨b,rfl,_⟩:=DataW.trod_bool p h;exact⟨Row.mk (b:D .bool) (),sU (by rfl)⟩;rename_i hd;simp only[A!] at d;subst d;rw[hd] at p;obtain⟨s,rfl,_,S⟩:=DataW.trod_string p h;refine⟨Row.mk (s.data.toList:D .str) (),sU ?_⟩;simp_all[Rd,trivial]
    . rename_i e hd;split at d
      . rename_i r B;simp only[A!] at d;subst d;rw[hd] at p g;simp only[B!] at g;obtain⟨F,J⟩:=g;split at J
        . rename_i E X;have eH:0<E.size:=by simp_all
          have V:=u.cells X;rcases DataW.trod_slice p h with⟨rfl,_⟩|⟨a,L,N,O,U,G,_,rfl,_,hb,W,hm,Y,Z,_⟩;refine⟨Row.mk (([]:M (Row r)):D (.slice r)) (),sU ?_⟩;simp only[Rd];exact⟨none,0,[],rfl,z!,z!,by rfl,z!⟩
          . rw[V] at Z
            obtain⟨l,c,g1,g2,g3,g4⟩:=TI (w:=w) (A:=A) (row:=r) (a:=a) eH L λi hi=>by
             have C:=Z i hi;rw[List.getElem?_eq_getElem w!,Option.bind_eq_some_iff] at C;obtain⟨gu,c1,c2⟩:=C;obtain⟨_,d1,d2⟩:=World.cells?_some c1;obtain⟨y,hy⟩:=D5 u I n G e r gu _ B F c2;grind
            refine⟨Row.mk (l:D (.slice r)) (),sU ?_⟩;simp only[Rd];refine⟨some a,N,c,by rw[g1],w!,hm,g3,λdS=>?_⟩
            have pQ:0<L*E.size:=by
             grind
            have h0:=g4 0 pQ;obtain⟨b,o,s⟩:=a;simp only[Addr.add,Q?,World.cell?] at h0
            have S:s=none:=by
             cases s with
             |none=>rfl
             |some q=>grind
            subst S;refine⟨b,o,rfl,I b ?_,λj v hj=>?_⟩;grind;grind[List.getElem?_eq_some_iff,Addr.add]
        grind
      grind
    rename_i fs hd;rw[hd] at p g;simp only[B!] at g;obtain⟨⟨F,J⟩,Q⟩:=g;obtain⟨xs,G,_,_,W,M9,hx⟩:=DataW.trod_struct p h
    have:=Ph (A:=A) u c (λt R c x C h2 h3=>D5 u I n G t R c x C h2 h3) fs.toList 0 R d F Q (λf g=>by
     grind[List.getElem?_of_mem,List.getElem?_eq_some_iff,List.getElem?_eq_getElem]) (by simp_all)
    grind;rename_i k e hd;rw[hd] at p g;split at d;rename_i r B;simp only[Option.some.injEq] at d;subst d;simp only[Bool.and_eq_true] at g;obtain⟨F,J⟩:=g;split at J;rename_i E X;have V:=u.cells X;obtain⟨xs,G,_,_,W,M9,hx⟩:=DataW.trod_array p h
    have:=TJ (w:=w) (A:=A) (r:=r) c E.size k 0 (λi hi=>by
     have C:=hx i hi;rw[List.getElem?_eq_getElem w!,V] at C;obtain⟨y,hy⟩:=D5 u I n G e r _ _ B F C;grind) (by simp_all)
    grind;grind;grind;grind
end Go.Vg
namespace Go.Vg
open Go Go.ChangeShapes Go.WideShapes Go.ChangeAt Go.RowKit
variable [HP]
def PS.of(T:b9)(t:TypeId):Option PS:=match T.find t,rowOf T qm t with
 |some te,some row=>bif Ag T qm t then(bif te.desc.o0 then some (.agg row) else match row with
  |[u]=>some (.one u)
  |_=>none) else none
 |_,_=>none
def PS.ofs(T:b9):M TypeId->Option (M PS)
 |[]=>some []
 |t::ts=>match PS.of T t,PS.ofs T ts with
  |some p,some P=>some (p::P)
  |_,_=>none
def aoo:∀(t:Ty) (x:D t),∃y,X8 t (Hh t x)=some y
 |.int k,x=>⟨_,by simp[Hh,X8];rfl⟩
 |.bool,b=>⟨b,rfl⟩
 |.str,s=>⟨s,rfl⟩
 |.slice row,l=>by
   simp only[Hh,X8,fN]
   have :Ty.BM row row=true:=by
    have :∀(r:M Ty),Ty.BM r r=true:=λr=>Cy r;exact this row
   rw[dif_pos this];exact⟨_,rfl⟩
where
 ŋ:∀(t:Ty),Ty.beq t t=true
  |.int k=>by simp[Ty.beq]
  |.bool|.str=>rfl
  |.slice r=>by simp only[Ty.beq];exact Cy r
 Cy:∀(r:M Ty),Ty.BM r r=true
  |[]=>rfl
  |t::ts=>by simp only[Ty.BM,ŋ t,Cy ts,Bool.and_self]
def yf:∀(T:M Ty) (x:Row T) (u:M Ty) (a:M AV) (z:Row u),kA u a=some z->∃y,kA (T++u) (ax T x++a)=some y
 |[],x,u,a,z,h=>⟨z,h⟩
 |t::T,x,u,a,z,h=>by
  obtain⟨d,hd⟩:=aoo t (Row.hd x);obtain⟨y,H⟩:=yf T (Row.tl x) u a z h;refine⟨Row.mk d y,?_⟩;show kA (t::(T++u)) (Hh t (Row.hd x)::(ax T (Row.tl x)++a))=_;simp only[kA,hd,H]
variable {A:Nat->Prop}{H:Type}{P:Program}{T:b9}{held:Bool}{sp:Nat->Bool}{w:World}{β:Nat->Value}{enc:TypeId×Value->H}
def Pj(x:bM T P)(G:∀b,b<w.heap.size->A b):∀(l:M TypeId) (n:M PS) (V:M Value) (D:M (DataW H)) (q:M MemPlace),PS.ofs T l=some n->
  (∀(j:Nat) t v,l[j]? =some t->V[j]? =some v->∃b,Value.okWide P w .any b t v)->
  DataW.TrodAll enc P w 0 sp held l V D q->D.length=l.length/\∃B C z,ae w A β V B/\PS.cells n B=some C/\kA (PS.flat n) C=some z
 |[],n,V,D,q,hp,_,h=>by
   simp only[PS.ofs,A!] at hp;subst hp;cases V with
   |nil=>
    cases D with
    |nil=>exact⟨rfl,[],[],(),by simp only[ae],rfl,rfl⟩
    |cons _ _=>simp[DataW.TrodAll] at h
   |cons _ _=>simp[DataW.TrodAll] at h
 |t::l,n,V,D,q,hp,I,h=>by
  simp only[PS.ofs] at hp;split at hp
  . rename_i p E c O;simp only[A!] at hp;subst hp;match V,D,h with
    |v::V,d::D,h=>
     simp only[DataW.TrodAll] at h;obtain⟨q1,Q,S,U,_⟩:=h;obtain⟨W,B,C,z,K,J,L⟩:=Pj x G l E V D Q O (λj X N Y g=>I (j+1) X N (by simpa using Y) (by simpa using g)) U;refine⟨by simp[W],?_⟩;obtain⟨b,g⟩:=I 0 t v rfl rfl;obtain⟨m,Z⟩:=S;unfold PS.of at c;split at c
     . rename_i s R jB mO;cases i:Ag T qm t with
       |false=>rw[i] at c;cases c
       |true=>
        rw[i] at c;simp only[K!] at c;obtain⟨hu,_⟩:=x.ok t s jB;obtain⟨r,hr⟩:=D5 (A:=A) x G qm m t R _ _ mO i Z;have f:=hZ (β:=β) _ _ _ hr;cases o:s.desc.o0 with
        |true=>
         rw[o] at c;simp only[K!,A!] at c;subst c
         have :∃a:Array Value,v= .agg a:=by
          unfold Value.okWide at g;rw[hu] at g;cases hd:s.desc with
          |struct fs=>rw[hd] at g;obtain⟨a,e,_⟩:=g;exact⟨a,e⟩
          |array k e=>rw[hd] at g;obtain⟨a,e,_⟩:=g;exact⟨a,e⟩
          |_=>rw[hd] at o;cases o
         obtain⟨a,rfl⟩:=this;obtain⟨y,F⟩:=yf R r _ _ z L;refine⟨.agg (ax R r)::B,ax R r++C,y,?_,?_,F⟩;simp only[ae,aa];exact⟨_,V,rfl,⟨a,rfl,f⟩,K⟩;simp only[PS.cells,fA,J,cY,K!]
        |false=>
         rw[o] at c;simp only[N!] at c;split at c
         . rename_i u;simp only[A!] at c;subst c;obtain⟨y,F⟩:=yf [u] r _ _ z L
           have hc:v.cells.toList=[v]:=by
            unfold Value.okWide at g;rw[hu] at g;cases v with
            |agg a=>
             exfalso;cases hd:s.desc<;>rw[hd] at hu g o<;>simp_all[Cell.okWide,Cell.ok,TypeDesc.o0]
            |_=>rfl
           rw[hc] at f;simp only[ax,ae] at f;obtain⟨N,cr,e,e1,_⟩:=f;simp only[List.cons.injEq] at e;obtain⟨rfl,_⟩:=e;refine⟨Hh u (Row.hd r)::B,Hh u (Row.hd r)::C,y,?_,?_,F⟩;simp only[ae];exact⟨_,V,rfl,e1,K⟩;simp only[PS.cells,J]
         cases c
     cases c
    |[],_::_,h=>simp[DataW.TrodAll] at h
    |[],[],h=>simp[DataW.TrodAll] at h
    |_::_,[],h=>simp[DataW.TrodAll] at h
  cases hp
def Pl(e:laidOutB P=true){W w:World}(f:Below W.heap.size W w):∀(T:M TypeId) (V:M Value) (D:M (DataW H)) (q:M MemPlace),(∀t∈T,P.readableRec t=true/\t<P.types.size)->
  DataW.TrodAll enc P W 0 (λ_=>true) true T V D q->(∀x∈q,x.block<W.heap.size)->DataW.TrodAll enc P w 0 (λb=>decide (b<W.heap.size)) true T V D q
 |[],[],[],q,_,h,_=>h
 |t::T,v::V,d::D,q,a,h,g=>by
  simp only[DataW.TrodAll] at h |-;obtain⟨i,Q,G,j,rfl⟩:=h
  exact⟨i,Q,Below.trod e (a t (G! ..)).1 (a t (G! ..)).2 G f (λx c=>g x (T! _ c)),
   Pl e f T V D Q (λu k=>a u (F! _ k)) j (λx c=>g x (U! _ c)),rfl⟩
 |[],_::_,_,_,_,h,_|[],[],_::_,_,_,h,_|_::_,[],_,_,_,h,_|_::_,_::_,[],_,_,h,_=>by simp[DataW.TrodAll] at h
def SH(S:bM T P)(U:laidOutB P=true){G:Nat->Option GD}{f:FuncId}{F:Func}{s:ChangeSpec}{u:M PS}(y:Valid P G f (fo u λ_=>(True,.bool true,[])))
  (C:PS.ofs T F.params.toList=some u) (m:(F.params.toList.all λt=>P.readableRec t&&decide (t<P.types.size))=true) {N:TypeId} (V:F.resultTypes= #[N]) (E:P.underlying N=some .bool)
  (n:s.vars=[]) (X:∀(H:Type) (D:M (DataW H)),D.length=F.params.toList.length->s.fn H D= {results:=[.lit (.bool true)],args:=D})
  {W:World} {a:Nat} {args:Array Value} {D I:M (DataW H)} {B:M MemPlace} (Y:∀i d,G i=some d->auo W (λb=>b<W.heap.size) i d)
  (Z:∀(j:Nat) t v,F.params[j]? =some t->args[j]? =some v->Value.okWide P W .any a t v)
  (O:DataW.Whole enc P F.params.toList s.vars false W args.toList D I B):
  Calls P f args W λe w=>∃v,e= .returned v/\s.post enc P F false true false false W args v w:=by
 have c:=O;obtain⟨p,q,Q,J,rfl,BD,hnd⟩:=O;rw[n] at J
 have K:I=[]/\q=[]:=by
  cases I with
  |nil=>exact⟨rfl,by simpa[DataW.TrodVars] using J⟩
  |cons _ _=>simp[DataW.TrodVars] at J
 obtain⟨rfl,rfl⟩:=K;simp only[B?] at c;obtain⟨o,bm,cs,z,k1,k2,k3⟩:=Pj (β:=λ_=>undef) (A:=λb=>b<W.heap.size) S (λb g=>g) _ u _ _ _ C (λj t v hj y=>⟨a,Z j t v (by simpa using hj) (by simpa using y)⟩) Q;have R:=y W (λb=>b<W.heap.size) (λ_=>undef) args.toList bm True (.bool true) [] (λb g=>g) Y k1 (by simp only[fo,J5,k2,k3]) trivial;rw[Array.toArray_toList] at R;refine R.mono ?_;rintro e w ⟨v,rfl,A',aC,l⟩;have r:=l.res;simp only[aa] at r;subst r;have g:Below W.heap.size W w:=⟨l.os,l.tape,l.output,l.size,λk hk=>l.same k hk⟩;have iT:∀x∈p,x.block<W.heap.size:=λx hx=>by simpa using c.lt x hx
 rw[V!] at m
 have bQ:=Pl U g F.params.toList args.toList D p (λt ht=>by
  have:=m t ht;simp only[B!,H!] at this;exact this) Q iT
 have L:=X H D o;refine⟨_,rfl,D,[],p,[],p,[],c,?_,?_,?_,g.frame _,λh=>by cases h⟩;rw[V];simp only[B?,L,Value.resultList];exact trodAll_mk1 (shut_bool E true);simp only[B?,L];exact bQ;rw[n];simp only[B?,L];rfl
end Go.Vg
namespace Go.V
variable {a b:Bool}
theorem Nb:((bif a then true else b)=true)=(a=true\/b=true):=by grind
theorem qF:((bif a then true else b)=false)=(a=false/\b=false):=by grind
theorem aEl:((bif a then b else false)=true)=(a=true/\b=true):=by grind
theorem V3:((bif a then b else false)=false)=(a=false\/b=false):=by grind
theorem dI {p A B:Prop}[Decidable p](H:p->A)(c:¬p->B):(decide p=true->A)/\(decide p=false->B):=⟨λh=>H (of_decide_eq_true h),λh=>c (of_decide_eq_false h)⟩
end Go.V
namespace Go.S
variable {α:Type}
theorem an(l:M α)(n:Nat)(d:α)(h:n<l.length):l.take (n+1)=l.take n++[l.getD n d]:=by
 simp_all
theorem aU(l:M α)(n:Nat)(d:α)(h:n<l.length):l.getD n d∈l:=by
 grind
theorem aj9(l:M α)(z x:α)(n m:Nat)(h:l.length=n)(H:n<m):(l++List.replicate (m-n) z).set n x=l++[x]++List.replicate (m-(n+1)) z:=by
 rw[List.set_append_right _ _ w!,h,Nat.sub_self,show m-n=(m-(n+1))+1 by omega,List.replicate_succ,List.set_cons_zero];simp
end Go.S
