import Derived.Test.YtimebdkngdbpkaaGreatDoorPartA
import Derived.Orders
import Derived.Deep.LoopGhost
import Derived.Scope
set_option linter.unusedVariables false
set_option linter.unusedSimpArgs false
set_option linter.unusedSectionVars false
set_option linter.defProp false
namespace Go.Vg
open Go
variable [HP]
def Zs(E:Env):AV->Option (Option Nat×CF)
 |.fn (.func f) [] aW=>match E.cq f with
   |some t=>t aW
   |none=>match E.sig f with
    |some s=>match s aW with
     |some (pre,res,bs)=>bif bs.isEmpty&&(au res).isEmpty then some (none,λz=>(pre,res,z)) else none
     |none=>none
    |none=>none
 |_=>none
def Tz:Option Nat->Option Nat->Option (Option Nat)
 |none,k=>some k
 |some j,none=>some (some j)
 |some j,some k=>bif Nat.beq j k then some (some j) else none
def LB(E:Env):M AV->Option (Option Nat×M CF)
 |[]=>some (none,[])
 |a::r=>match Zs E a,LB E r with
  |some (k,F),some (k',l)=>match Tz k k' with
   |some k=>some (k,F::l)
   |none=>none
  |_,_=>none
def Rg:Option Nat->Nat->Bool
 |some j,d=>!Nat.beq j d
 |none,_=>true
abbrev bk.A4(xs:M Value):Nat:=xs.length
abbrev bk.cat(l m:M CF):M CF:=l++m
abbrev bk.len(l:M CF):Nat:=l.length
def DN(E:Env)(st:St)(o:Oper):Option Out:=match o.op with
 |.buildSlice t len parts=>match o.dst,o9 E.T t,mN E.T t with
   |some d,some e,some te=>bif fresh st.h (st.kb+d)&&(Nat.blt 0 te.size&&(Nat.beq (ofConst te.zero).cells.length te.size&&Nat.ble (len*te.size) 16777216)) then
    match yA (λi=>some (i*te.size,te.size)) ((List.replicate len (ofConst te.zero).cells).flatten) (parts.toList.map λp=>(p.1,ev st p.2)) with
    |some cs=>bif cs.all AV.one&&Nat.beq cs.length (len*te.size) then match bif Nat.beq te.size 1 then LB E cs else none with
     |some (k,l)=>bif Rg k (st.kb+d) then some {cond:=[],res:=.own (st.kb+d),new:=[(st.kb+d,.fo e k l)]} else none
     |none=>bif (aA cs).isEmpty then some {cond:=[],res:=.own (st.kb+d),new:=[(st.kb+d,.bc e te.size len cs)]} else none
     else none
    |none=>none
    else none
   |_,_,_=>none
 |.call c=>match c.callee with
   |.builtin b=>match b,c.args.toList,c.argTypes.toList with
     |.append,[x,y],[t,t']=>match o.dst,o9 E.T t,mN E.T t,ev st x,ev st y with
       |some d,some e,some te,.own j,.own k=>match st.h j,st.h k with
        |some (.fo e1 q l),some (.fo _ q' m)=>
         bif fresh st.h (st.kb+d)&&(Nat.beq e e1&&(Nat.beq te.size 1&&(Nat.beq (ofConst te.zero).cells.length te.size&&cU E.T t' Cz))) then match Tz q q' with
         |some r=>bif Rg r (st.kb+d) then some {cond:=[bk.len l+m.length<=140737488355328/te.bytes],res:=.own (st.kb+d),del:=[j],new:=[(st.kb+d,.fo e r (bk.cat l m))]} else none
         |none=>none
         else none
        |_,_=>none
       |_,_,_,_,_=>none
     |.len,[x],[t]=>match ev st x with
       |.own k=>match st.h k with
         |some (.bc _ _ n _)=>bif cU E.T t gG then some {cond:=[],res:=.int .i64 (n:Int)} else none
         |_=>none
       |_=>none
     |_,_,_=>none
   |_=>none
 |.store t x y=>match ev st x,ev st y with
   |.elem k sz i j,.own k5=>match st.h k,st.h k5 with
     |some (.eF e _ xs i0),some (.row _ _ _ _)=>bif Nat.beq sz 1&&(Nat.beq j 0&&(iW E.T t 1&& !Nat.beq k5 k)) then
       some {cond:=[i<bk.A4 xs,i=i0],res:=.undef,gz:=[(k,.eF e (some k5) xs i0)]} else none
     |_,_=>none
   |_,_=>none
 |.indexAddr t x i=>match ev st x,ev st i with
   |.own k,.int _ i=>match st.h k with
     |some (.bc _ sz n _)=>bif bh E.T t sz&&Nat.blt E.H6 n then some {cond:=[i=(E.H6:Int)],res:=.elem k sz E.H6 0} else none
     |some (.eF _ _ xs _)=>bif bh E.T t 1 then some {cond:=[0<=i/\i<(bk.A4 xs:Int)],res:=.elem k 1 i.toNat 0} else none
     |_=>none
   |_,_=>none
 |.load t x=>match ev st x,E.T.find t with
   |.elem k sz i j,some te=>match st.h k with
     |some (.bc _ s2 _ cs)=>bif Nat.beq sz s2 then match pick te cs (i*sz+j) with
      |some a=>some {cond:=[],res:=a}
      |none=>none
      else none
     |some (.eF _ (some k5) xs i0)=>bif Nat.beq sz 1&&Nat.beq j 0 then match pick te [.own k5] 0 with
      |some a=>some {cond:=[i<bk.A4 xs,i=i0],res:=a}
      |none=>none
      else none
     |_=>none
   |.ref k off,some te=>match st.h k with
     |some (.fvar r y)=>match pick te (aB r y) off with
      |some a=>some {cond:=[],res:=a}
      |none=>none
     |_=>none
   |_,_=>none
 |_=>none
def MM(E:Env)(st:St)(o:Oper):Option Out:=match Rf E st o with
 |some out=>some out
 |none=>DN E st o
variable {a:Act}{A S A':Nat->Prop}{az β:Nat->Value}{v p vp vx:Value}{w w':World}{x:AV}{G:Nat->Option GD}{P:Program}{bc as_ vs:List AV}{C:Ctx}{E:Env}{st r s aX s1 base m s':St}{dst:Option Nat}{e n d j i kb i0:Nat}{xs:List Value}{T:b9}{t:TypeId}{K:Act->World->Prop}{Q:Exit->Act->World->Prop}{o:Oper}{out:Out}{l:List (Option TypeId)}{u:List (Nat×AB)}{α:Type}{ab:AB}{W W' L:List Nat}{b g dr:Bool}{ops:Array Oper}{cs:List Prop}{next:St->Option (List Prop×St)}{rest:List Oper}{ks:List Int}{h h':aQ}{listed:Array Bool}{es:Array MapEntry}{c:Operand}{bad:Nat->Bool}
mutual
theorem Rh:∀a:AV,eU (λk=>k) a=a
 |.agg cs|.bf cs=>by simp only [eU,pv cs]
 |.fn _ l m=>by simp only [eU,pv l,pv m]
 |.iz _ cs=>by simp only [eU,pv cs]
 |.own _|.pre _ _|.view _ _ _ _|.ref _ _|.elem _ _ _ _|.cF|.undef|.int _ _|.bool _|.tt|.ff|.str _|.nil|.lb|.pW _ _|.mi|.sl _ _|.full _ _|.cQ _ _ _|.qW _ _=>rfl
theorem pv:∀l:M AV,mS (λk=>k) l=l
 |[]=>rfl
 |a::l=>by simp only [mS,Rh a,pv l]
end
def Ri(h:au x=[])(hr:aa w A β v x):aa w A az v x:=by
 have:=yQ (az:=az) (λk=>k) x v x! hr;grind[Rh]
def MN {x:M AV}{v:M Value}(h:aA x=[])(hr:ae w A β v x):ae w A az v x:=by
 have:=ke (az:=az) (λk=>k) x v x! hr;grind[pv]
def Gm {S:Nat->Prop}{e:Nat}(h:∀b,S b->w'.heap[b]? =w.heap[b]?):∀ {xs:M Value} {l:M U},pa w S e xs l->pa w' S e xs l
 |[],[],_=>trivial
 |_::_,_::_,⟨h1,h2,h3,h4⟩=>⟨c9 h1 (λb hb=>h b (h3 b hb).1),h2,h3,Gm h h4⟩
theorem ZR.refl(h:∀b,S b->w'.heap[b]? =w.heap[b]?):∀ {z:Z},HB w S p z->ZR w p w' z z
 |.n,_|.s _,_=>trivial
 |.g _ _ _,⟨b,e0,v,xs,h1,h2,h3,_⟩=>⟨rfl,rfl,λu ⟨b',e',g1,g2⟩=>by
   rw [h1] at g1;simp at g1;subst g1;exact⟨b,e',h1,(h b h3).trans g2⟩⟩
def ajx(h:∀b,S b->w'.heap[b]? =w.heap[b]?):∀ {z:Z},HB w S p z->HB w' S p z
 |.n,_=>trivial
 |.s _,⟨b,e,h1,h2,h3,h4⟩=>⟨b,e,h1,(h b h4).trans h2,h3,h4⟩
 |.g _ _ _,⟨b,e0,v,xs,h1,h2,h3,h4,h5,h6,h7,h8⟩=>⟨b,e0,v,xs,h1,(h b h3).trans h2,h3,h4,c9 h5 (λg hg=>h g (h6 g hg).1),h6,h7,Gm h h8⟩
def Wg(hP:∀Q,HP.is Q->Q=P){f:FuncId}{s:Qj}(hv:Valid P G f s)(hf:cV P f)(hG:∀i d,G i=some d->oB w A i d){aW:Array Value}(hr:ae w A β aW.toList bc)
  {pre:Prop} {res:AV} (hs:s bc=some (pre,res,[])) (hk:au res=[]) (p:Value):JM w A p (.func (.func f) #[] aW) λz=>(pre,res,z):=by
 refine⟨rfl,f,aW,rfl,λQ hQ=>?_⟩;have:=hP Q hQ;subst this;refine⟨hf,λw' A' z S hK hb hS hH hp=>?_⟩;refine(hv w' A' β aW.toList bc pre res [] hb (λi d h=>(hG i d h).mono hK) (cJ hK _ _ hr) hs hp).mono λe w2 ⟨v,he,A2,fa,q⟩=>?_
 exact⟨v,he,A2,S,ZR.refl (λb hb=>q.same b (hS b hb).2) hH,q.os,q.tape,q.output,q.size,λb hb _=>q.same b hb,q.mono,q.iP,q.bound,
  λb hb=>⟨.inl hb,λhA=>(hS b hb).1 (q.iP b (hS b hb).2 hA),I? (hS b hb).2 q.size⟩,λQw=>Ri hk q.res,ajx (λb hb=>q.same b (hS b hb).2) hH⟩
def TC(hE:dq P C E)(hB:aw C A β st a w){k:Option Nat}{F:CF}(h:Zs E x=some (k,F))(hr:aa w A β v x)(p:Value)(hp:∀j,k=some j->p=β j):JM w A p v F:=by
 have hG:∀i d,E.gP i=some d->oB w A i d:=λi d h=>hB.laid i d (by rw [hE.g];exact h);unfold Zs at h;split at h
 . rename_i f aW;obtain⟨a1,a2,rfl,h1,h2⟩:=hr;have e1:a1= #[]:=by grind[Array.ext',ae]
   subst e1;split at h
   . rename_i t ht;exact hE.ok.cq f t ht w A β a2 aW k F hG h2 h p hp
   . split at h
     . rename_i s hs;split at h
       . rename_i pre res bs hq;cases hb:(bs.isEmpty&&(au res).isEmpty) with
         |false=>grind
         |true=>
          rw [hb] at h;obtain⟨rfl,rfl⟩:=h;simp at hb;obtain⟨rfl,hk⟩:=hb;obtain⟨g1,g2⟩:=hE.sig f s hs;exact Wg (λQ h=>(hE.ok.hp Q).1 h) g1 g2 hG h2 hq hk p
       grind
     grind
 grind
def JY {k k' r:Option Nat}(h:Tz k k'=some r)(p:Value)(hp:∀j,r=some j->p=β j):(∀j,k=some j->p=β j)/\∀j,k'=some j->p=β j:=by
 unfold Tz at h;split at h
 . grind
 . grind
 . rename_i j k;cases hb:Nat.beq j k with
   |false=>grind
   |true=>
    rw [hb] at h;simp at h;simp_all
def DO(hE:dq P C E)(hB:aw C A β st a w):∀ {cs:M AV} {vs:M Value} {k:Option Nat} {l:M CF},LB E cs=some (k,l)->ae w A β vs cs->l.length=cs.length/\∀p,(∀j,k=some j->p=β j)->tS w A p vs l
 |[],vs,k,l,h,hr=>by
   obtain⟨rfl,rfl⟩:=h;subst hr;exact⟨rfl,λ_ _=>trivial⟩
 |c::cs,vs,k,l,h,hr=>by
  obtain⟨v,b7,rfl,h1,h2⟩:=hr;simp [LB] at h;split at h
  . rename_i k1 F k2 l2 e1 e2;split at h
    . rename_i r hj;obtain⟨rfl,rfl⟩:=h;obtain⟨g1,g2⟩:=DO hE hB e2 h2;refine⟨x!,λp hp=>?_⟩;obtain⟨q1,q2⟩:=JY (β:=β) hj p hp;exact⟨TC hE hB e1 h1 p q1,g2 p q2⟩
    grind
  grind
def aw.Zt(hB:aw C A β st a w)(hd:∀t,dst=some t->t<st.n){d:Nat}{ab:AB}{cond:M Prop}{del:M Nat}{v':Value}{rw :Option Nat}
  (gJ:st.h d=none/\rl d=false) (hg:w.grownBy w' rw) (mP:∀b,rw=some b->∃k,ay del k=true/\(st.h k).isSome/\ai (β k)=some b) (lR:∀b,rw=some b->¬A b)
  (lQ:BR w' A (bl β d v') d ab) (hv:v'.oneCell'=true) (hblk:∀b,ai v'=some b->rw=some b\/w.heap.size<=b):
  aw C A (bl β d v') (st.put dst {cond:=cond,res:=.own d,del:=del,new:=[(d,ab)]}) (a.put dst v') w':=by
 have hK:cg w w' A A:=λb hb=>⟨hb,hg.block b (hB.bound b hb) (λh=>lR b h.symm hb)⟩
 have hf:∀k b,al [(d,ab)] k=some b->k=d/\b=ab:=by
  grind[al,aP]
 refine hB.step (out:={cond:=cond,res:=.own d,del:=del,new:=[(d,ab)]}) hd ?_ (by simp [al]) ?_ hK hg.os hg.tape hg.output hg.size ?_ (λb hb=>I? (hB.bound b hb) hg.size) (λb hb=>.inl hb) (by simp [al]) ?_ ?_ ?_ ?_
 . grind
 . intro k h;have :k≠d:=by rintro rfl;simp [al] at h
   grind[bl]
 . intro b hb ht;refine hg.block b hb (λh=>?_);obtain⟨k,h1,h2,h3⟩:=mP b h.symm;exact ht k ⟨h2,.inr h1⟩ h3
 . grind
 . intro k b x h hb;simp [bl,if_true] at hb;grind
 . grind[Option.isSome_iff_exists]
 grind[aa,bl]
def Rj {p:Value}:∀ {xs:M Value} {l:M CF},tS w A p xs l->xs.length=l.length/\∀u∈xs,u.oneCell'=true
 |[],[],_=>⟨rfl,z!⟩
 |x::xs,_::l,h=>by
  obtain⟨g1,g2⟩:=Rj h.2;exact⟨by simp [g1],λu hu=>(P!.1 hu).elim (λe=>e▸h.1.1) (g2 u)⟩
def Gn {p:Value}:∀ {xs ys:M Value} {l m:M CF},tS w A p xs l->tS w A p ys m->tS w A p (xs++ys) (l++m)
 |[],_,[],_,_,h=>h
 |_::_,_,_::_,_,h,h'=>⟨h.1,Gn h.2 h'⟩
def kg {sz:Nat}(h:w.ownsRow 0 e sz v n xs):(v= .slice none 0 0/\n=0)\/∃b cap,v= .slice (some ⟨b,0,none⟩) n cap/\n<=cap/\cap<=maxLen/\w.rangeAt b 0 xs:=by
 rcases h.2 with h|⟨g,cap,cur,rfl,_,hg,h4,h5,h6,h7⟩
 . grind
 . refine .inr ⟨g,cap,rfl,h4,h5,λj u hj=>?_⟩;grind[World.cell?]
def Wh(h:w.ownsRow 0 e 1 v n xs):∀w':World,w'.heap=w.heap->(Builtin.firstCells 1 n v).run P w'= .ok xs.toArray w':=by
 intro w' hw;have hl:=h.1;rcases kg h with⟨rfl,rfl⟩|⟨b,cap,rfl,_,_,hr⟩
 . simp_all[V!,Builtin.firstCells]
 . have:=run_loadCells_list (P:=P) w' ⟨b,0,none⟩ xs (λj u hj=>by
    rw [Addr.add_mid,Eu hw];exact hr j u hj)
   grind[Builtin.firstCells]
def TD(hT:bA T P){e:TypeId}{te:TE}{len:Nat}(he:o9 T t=some e)(jv:mN T t=some te)(q2:1<=te.size)(q3:(ofConst te.zero).cells.length=te.size)(q4:len*te.size<=16777216)
  {parts:M (Nat×AV)} {vparts:Array (Nat×Value)} (hk:vparts.toList.map (·.1)=parts.map (·.1)) (hv:ae w A β (vparts.toList.map (·.2)) (parts.map (·.2))) {cs:M AV}
  (hf:yA (λi=>some (i*te.size,te.size)) ((List.replicate len (ofConst te.zero).cells).flatten) parts=some cs):
  ∃ka,(Instr.buildSlice t len vparts).run P w= .ok (.slice (some ⟨w.heap.size,0,none⟩) len len) (w.alloc (.cells ka e))/\ae w A β ka.toList cs:=by
 obtain⟨hu,Dh,i,hi,si,My,Im⟩:=tU hT he jv;have hzs:te.zero.cells.size=te.size:=by grind[qb]
 have aTX:(((Array.range (len*i.size)).map (te.zero.cells[· %te.zero.cells.size]!)).toList)=(List.replicate len te.zero.cells.toList).flatten:=by
  have:=qc te.zero.cells w! len;simp_all
 obtain⟨ka,g1,g2⟩:=xJ (w:=w) (A:=A) (β:=β) (λi=>some (i*te.size,te.size)) _ vparts.toList _ ((Array.range (len*i.size)).map (te.zero.cells[· %te.zero.cells.size]!)) cs
  (by grind[qd,lq]) hk hv hf
 refine⟨ka,?_,g2⟩;have h24:¬(16777216<len*i.size):=by grind
 by_cases hz:len*i.size=0
 . simp [Instr.buildSlice,run_underlying hu,sizeOf,typeInfo,hi,si,newRow];simp_all[Array.range,Array.eq_empty_of_size_eq_zero]
 . rw [<-si] at g1;simp [Instr.buildSlice,run_underlying hu,sizeOf,typeInfo,zeroValue,hi,Im,h24,hz,g1,newRow]
def af4 {arr:Array Value}{sz len:Nat}(hl:arr.size=len*sz)(h1:1<=sz)(h2:len*sz<=16777216):(w.alloc (.cells arr e)).ownsRow 0 e sz (.slice (some ⟨w.heap.size,0,none⟩) len len) len arr.toList:=by
 have h3:len<=len*sz:=Nat.le_mul_of_pos_right _ w!;exact⟨w!,.inr ⟨w.heap.size,len,arr,rfl,w!,heap_alloc_new w _,Nat.le_refl _,by grind[maxLen],hl,by rw [<-hl];exact List.take_length⟩⟩
def Iw(hB:aw C A β st a w){c b:Nat}(hb:ai (bl β d (.slice (some ⟨w.heap.size,0,none⟩) n c) d)=some b):¬A b:=by
 intro hA;have:=hB.bound b hA;simp_all[bl,Q?,ai,A!]
def ajy(hB:aw C A β st a w){d t len:Nat}{parts:Array (Nat×Operand)}{type:TypeId}{pos:String}{after:Array Edge}{guard:Option (Nat×Bool)}(hd:∀t,some d=some t->t<st.n){k e:Nat}(gJ:st.h k=none/\rl k=false){ka:Array Value}
  (gf:(Instr.buildSlice t len (parts.map λ(i,x)=>(i,a.eval x))).run P w= .ok (.slice (some ⟨w.heap.size,0,none⟩) len len) (w.alloc (.cells ka e))) {ab:AB}
  (lQ:BR (w.alloc (.cells ka e)) A (bl β k (.slice (some ⟨w.heap.size,0,none⟩) len len)) k ab)
  (hK:∀a' w',Rel C (st.put (some d) {cond:=[],res:=.own k,new:=[(k,ab)]}) a' w'->K a' w'):
  Oper.wp P ⟨some d,.buildSlice t len parts,type,pos,after,guard⟩ a w K Q:=by
 have hgr:w.grownBy (w.alloc (.cells ka e)) none:=by
  refine⟨rfl,rfl,rfl,?_,?_⟩
  . simp
  grind[jz]
 have hblk:∀b,ai (.slice (some ⟨w.heap.size,0,none⟩) len len)=some b->none=some b\/w.heap.size<=b:=λb hb=>by
  grind[ai,Option.some.injEq,Nat.le_of_eq]
 have hrel:Rel C (st.put (some d) {cond:=[],res:=.own k,new:=[(k,ab)]}) (a.put (some d) (.slice (some ⟨w.heap.size,0,none⟩) len len)) (w.alloc (.cells ka e)):=
  Rel.jP (hB.Zt (cond:=[]) (del:=[]) (rw:=none) hd gJ hgr nofun nofun lQ rfl hblk)
 refine bB (v:=.slice (some ⟨w.heap.size,0,none⟩) len len) (w':=w.alloc (.cells ka e)) ?_ (hK _ _ hrel);grind[execOp,Sem.run_bind,Result.andThen_ok,Sem.run_pure]
def Wi {k:Option Nat}(h:Rg k d=true)(hj:k=some j):bl β d v j=β j:=by
 grind[Rg,Bool.not_eq_true',cT,bl]
def af5 {cur:M Value}{idx:Nat}(h:cur.take n=xs)(hi:idx<n)(hn:n<=cur.length):(cur.take idx++[v]++cur.drop (idx+1)).take n=xs.set idx v:=by
 have :cur.take idx++[v]++cur.drop (idx+1)=cur.set idx v:=by
  rw [h?,M! w!];simp
 grind[List.take_set]
def Qy(hT:bA T P)(hB:aw C A β st a w)(hd:∀t,dst=some t->t<st.n){k i k5 e:Nat}{j:Option Nat}{xs:M Value}(hp:aa w A β vp (.elem k 1 i 0))(hx:aa w A β vx (.own k5))
  (hk:st.h k=some (.eF e j xs i)) (q3:iW T t 1=true) (hi:i<xs.length) {cond:M Prop}:
  ∃w',(Instr.storeAt t vp vx).run P w= .ok () w'/\Rel C (st.put dst {cond:=cond,res:=.undef,gz:=[(k,.eF e (some k5) xs i)]}) (a.put dst undef) w':=by
 obtain⟨ii,jx,si⟩:=pt hT q3;obtain⟨b,m,cap,bJ,rfl⟩:=hp;obtain⟨rfl,h1⟩:=hx;obtain⟨ys,o1,o2,o3,_⟩:=hB.blocks k _ hk;rcases o1.2 with⟨g,_⟩|⟨g,j7,cur,hv,_,hg,g4,g5,g6,g7⟩
 . omega
 . rw [bJ] at hv;obtain⟨rfl,rfl,rfl⟩:=hv
   have aTX:(β k5).cells= #[β k5]:=by
    cases hv:β k5<;>rw [hv] at h1<;>first|rfl|cases h1
   have hb:ai (β k)=some b:=by rw [bJ];rfl
   have lR:=o2 b hb;have jU:i*1+0<xs.length*1:=by omega
   have Wj:xs.length*1<=cur.toList.length:=by
    grind
   have sE:=lS (P:=P) (w:=w) jx (v:=β k5) x! x! hg (off:=i*1+0) x!;refine⟨_,sE,?_⟩;rw [aTX];refine hB.write hd (k:=k) (fz:=[]) (ab:=.eF e (some k5) xs i) x! hb lR hg ⟨rfl,rfl,rfl⟩ z! ?_ (by rfl);intro A2 a1 a2 a3;have Zl:∀b',A2 b'->A b':=λb' h=>(a2 b' h).elim id λ⟨j,hj,_⟩=>by grind
   have sk:=af5 (v:=β k5) g7 jU Wj;refine⟨ys.set (i*1+0) (β k5),⟨x!,.inr ⟨b,cap,_,bJ,w!,setRow_heap w b cur _ e _ hg,g4,g5,?_,?_⟩⟩,λb' fb hA=>o2 b' fb (Zl b' hA),λm hm=>?_,λj' gn=>?_⟩
   . grind
   . omega
   . grind
   grind
theorem Wk(hE:dq P C E)(hB:aw C A β st a w)(h:DN E st o=some out)(qY:fw st o=true)(fp:ju st.h out.new=true)(hc:∀p∈out.cond,p)
  (hK:∀a' w',Rel C (st.put o.dst out) a' w'->K a' w'):o.wp P a w K Q:=by
 have hd:∀t,o.dst=some t->t<st.n:=by
  intro t ht;simp_all[fw,N!]
 obtain⟨dst,op,type,pos,after,guard⟩:=o;unfold DN at h;simp at h;split at h
 . rename_i t len parts;split at h
   . rename_i d e te he jv;cases hq:(fresh st.h (st.kb+d)&&(Nat.blt 0 te.size&&(Nat.beq (ofConst te.zero).cells.length te.size&&Nat.ble (len*te.size) 16777216))) with
     |false=>grind
     |true=>
      rw [hq] at h;simp only [L!] at h;simp only [B!] at hq;obtain⟨q0,q2,q3,q4⟩:=hq;have q2:=N! q2;have q3:=C! q3;have q4:=N! q4;have gJ:=rp q0;split at h
      . rename_i cs hf;cases hq5:(cs.all AV.one&&Nat.beq cs.length (len*te.size)) with
        |false=>grind
        |true=>
        rw [hq5] at h;simp only [L!] at h;simp only [B!] at hq5
        have apA:ae w A β ((parts.map λ(i,x)=>(i,a.eval x)).toList.map (·.2)) ((parts.toList.map λp=>(p.1,ev st p.2)).map (·.2)):=by
         have:=nm hB (parts.toList.map (·.2));simp_all[Function.comp_def]
        obtain⟨ka,gf,g2⟩:=TD hE.fc (w:=w) (A:=A) (β:=β) he jv q2 q3 q4 (vparts:=parts.map λ(i,x)=>(i,a.eval x)) z! apA hf
        have hlen:ka.size=len*te.size:=by
         have:=dZ cs ka.toList g2;simp_all
        have kT:∀u∈ka.toList,u.oneCell'=true:=Mz cs _ hq5.1 g2;have j9:=af4 (w:=w) (e:=e) hlen q2 q4;have Ql:cg w (w.alloc (.cells ka e)) A A:=λb hb=>⟨hb,jz _ b (hB.bound b hb)⟩;split at h
        . rename_i k l oO;cases MO:Rg k (st.kb+d) with
          |false=>grind
          |true=>
          rw [MO] at h;simp only [L!,A!] at h;cases K2:Nat.beq te.size 1 with
          |false=>grind
          |true=>
           rw [K2] at oO;simp only [L!] at oO;have K2:=C! K2;obtain⟨r1,r2⟩:=DO hE hB oO g2
           have aLx:cs.length=len:=by
            simp_all
           subst h;refine ajy (ab:=.fo e k l) hB hd gJ gf ⟨ka.toList,?_,λb hb=>Iw hB hb,λp hp=>(r2 p λj hj=>(hp j hj).trans (Wi MO hj)).mono Ql⟩ hK;simp_all[bl,Q?]
        . cases hk:(aA cs).isEmpty with
          |false=>grind
          |true=>
           rw [hk] at h;simp only [L!,A!] at h;subst h;exact ajy (ab:=.bc e te.size len cs) hB hd gJ gf ⟨ka.toList,by simp_all[bl,Q?],λb hb=>Iw hB hb,λfa=>cJ Ql _ _ (MN (List.isEmpty_iff.1 hk) g2)⟩ hK
      grind
   grind
 . rename_i c;obtain⟨callee,args,argTypes⟩:=c;simp only at h;split at h
   . rename_i b;split at h
     . rename_i x y t t' bm Is;split at h
       . rename_i d e te j k he jv hx hy;split at h
         . rename_i e1 q l e2 q' m hj hk;cases hq:(fresh st.h (st.kb+d)&&(Nat.beq e e1&&(Nat.beq te.size 1&&(Nat.beq (ofConst te.zero).cells.length te.size&&cU E.T t' Cz)))) with
           |false=>grind
           |true=>
           rw [hq] at h;simp only [L!] at h;simp only [B!] at hq;obtain⟨q0,q1,q2,q3,q4⟩:=hq;have q1:=C! q1;have q2:=C! q2;have q3:=C! q3;subst q1;split at h
           . rename_i r hr;cases MO:Rg r (st.kb+d) with
             |false=>grind
             |true=>
             rw [MO] at h;simp only [cond_true,Option.some.injEq] at h;subst h;have pr:=eT hc;change l.length+m.length<=_ at pr;have ea:args= #[x,y]:=by grind
             have et:argTypes= #[t,t']:=by grind
             subst ea;subst et;obtain⟨hu,Dh,i,hi,si,My,Im⟩:=tU hE.fc he jv;obtain⟨d',ni,po⟩:=pq hE.fc q4;have hEl:V0 P t t' e 1 te.bytes te.zero:=⟨hu,⟨d',ni,Mw po⟩,⟨i,hi,w!,My,Im⟩,by grind[qb],w!⟩;obtain⟨xs,o1,o2,o3⟩:=hB.blocks j _ hj;obtain⟨ys,p1,p2,p3⟩:=hB.blocks k _ hk;have mj:=aG hB x;rw [hx] at mj;have hyr:=aG hB y;rw [hy] at hyr;have hxe:a.eval x=β j:=mj.1;have hye:a.eval y=β k:=hyr.1;obtain⟨ad,lk,ck,Gk⟩:=jy p1
             have hlen:(Builtin.lenOf (β k)).run P w= .ok m.length w:=by
              rcases kg p1 with⟨g1,g2⟩|⟨b,cap,g1,_⟩
              . rw [g1,g2];rfl
              . rw [g1];rfl
             have hm:l.length+m.length<=maxLen:=by have:=Nat.le_trans pr (Nat.div_le_self _ _);grind[maxLen]
             obtain⟨s1,s2⟩:=Rj (p3 (q'.elim (β 0) β) (λj hj=>by grind));obtain⟨v',w',g1,g2,g3,g4⟩:=nX (ty:=type) hEl o1 hlen (λw' hw=>Wh p1 w' hw) w! s2 hm (tV pr);rw [yK (jy o1)] at g3;have Qs:cg w w' A A:=λb hb=>⟨hb,g3.block b (hB.bound b hb) (λh=>o2 b h.symm hb)⟩
             have fi:BR w' A (bl β (st.kb+d) v') (st.kb+d) (.fo e r (l++m)):=by
              refine⟨xs++ys,?_,λb hb hA=>?_,λp hp=>?_⟩
              . simp_all[bl,Q?,K!]
              . simp only [bl,Q?] at hb;rcases g4 b hb with h|h
                . grind
                . have:=hB.bound b hA;omega
              . obtain⟨u1,u2⟩:=JY (β:=β) hr p (λj hj=>(hp j hj).trans (Wi MO hj));exact Gn ((o3 p u1).mono Qs) ((p3 p u2).mono Qs)
             obtain⟨ad2,l2,c2,K6⟩:=jy g2;have hrel:Rel C (st.put (some d) _) (a.put (some d) v') w':=Rel.jP (hB.Zt (cond:=[l.length+m.length<=140737488355328/te.bytes]) (del:=[j]) (rw:=ai (β j)) hd (rp q0) g3 (λb hb=>⟨j,by simp [ay],x!,hb⟩) (λb hb=>o2 b hb) fi (by rw [K6];rfl) g4);refine bB (v:=v') (w':=w') ?_ (hK _ _ hrel);simp_all[execOp,resolve,invoke,builtin]
           grind
         grind
       grind
     . rename_i x t bm Is;split at h
       . rename_i k hx;split at h
         . rename_i e sz n cs hk;cases hq:cU E.T t gG with
           |false=>grind
           |true=>
            rw [hq] at h;simp only [cond_true,Option.some.injEq] at h;subst h;have ea:args= #[x]:=by grind
            have et:argTypes= #[t]:=by grind
            subst ea;subst et;obtain⟨dd,hu,Er⟩:=pq hE.fc hq;obtain⟨e',rfl⟩:∃e',dd= .slice e':=by cases dd<;>simp_all [gG]
            have mj:=aG hB x;rw [hx] at mj;obtain⟨xs,o1,o2,o3⟩:=hB.blocks k _ hk
            have DL:∃ad cap,a.eval x= .slice ad n cap/\n<=maxLen:=by
             rcases kg o1 with⟨h1,h2⟩|⟨b,cap,hv,h3,h4,_⟩
             . exact⟨none,0,by rw [mj.1,h1,h2],w!⟩
             . exact⟨_,cap,by rw [mj.1,hv],w!⟩
            obtain⟨ad,cap,DL,hn⟩:=DL;refine bB (v:=.int .i64 (n:Int)) (w':=w) ?_ (hK _ _ (Rel.jP (hB.quiet hd ⟨rfl,rfl,rfl⟩ (xK n hn))));simp_all[execOp,resolve,invoke,builtin,Builtin.len_,run_underlying,goInt]
         grind
       grind
     grind
   grind
 . rename_i t x y;split at h
   . rename_i k sz i j k5 hx hy;split at h
     . rename_i e j0 xs i0 e5 ua l5 fr5 hk Dk;cases hq:(Nat.beq sz 1&&(Nat.beq j 0&&(iW E.T t 1&& !Nat.beq k5 k))) with
       |false=>grind
       |true=>
       rw [hq] at h;simp only [cond_true,Option.some.injEq] at h;subst h;simp only [Bool.and_eq_true] at hq;obtain⟨q1,q2,q3,_⟩:=hq;have q1:=Nat.eq_of_beq_eq_true q1;have q2:=Nat.eq_of_beq_eq_true q2;subst q1;subst q2;have hi:i<xs.length:=hc _ (List.mem_cons_self ..);have he:i=i0:=hc _ (List.mem_cons_of_mem _ (List.mem_cons_self ..));subst he;obtain⟨w',g1,g2⟩:=Qy hE.fc hB hd (hx▸aG hB x) (hy▸aG hB y) hk q3 hi;refine nU (w':=w') ?_ (hK _ _ g2);grind[execOp,Sem.run_bind,Result.andThen_ok,Sem.run_pure]
     grind
   grind
 . rename_i t x i;split at h
   . rename_i k ki i0 hx hi;split at h
     . rename_i e sz n cs hk;cases hs:(bh E.T t sz&&Nat.blt E.H6 n) with
       |false=>grind
       |true=>
        rw [hs] at h;simp only [L!,A!] at h;subst h;have hc1:=eT hc;simp only [B!] at hs;have hw:=N! hs.2;obtain⟨e',ii,hu,jx,dQ,mQ⟩:=fk hE.fc hs.1;have mj:=aG hB x;rw [hx] at mj;have Wc:=aG hB i;rw [hi] at Wc;obtain⟨xs,o1,o2,o3⟩:=hB.blocks k _ hk;rcases kg o1 with⟨_,hn⟩|⟨b,cap,hv,_⟩
        . omega
        . have h0:0<=i0:=by omega
          have h1:i0<(n:Int):=by omega
          refine bB (v:=.pointer (some ⟨b,0+i0.toNat*sz,none⟩)) (w':=w) ?_ (hK _ _ (Rel.jP (hB.quiet hd ⟨rfl,rfl,rfl⟩ ?_)))
          . have:=iX (P:=P) (w:=w) hu jx b 0 n cap ki i0 h0 h1;simp only [execOp,mj.1,hv,Wc.1,Sem.run_bind,this,dQ,Result.andThen_ok,Sem.run_pure]
          grind[aa]
     . rename_i e j xs j0 hk;cases hs:bh E.T t 1 with
       |false=>grind
       |true=>
        rw [hs] at h;simp only [L!,A!] at h;subst h;obtain⟨h0,h1⟩:=eT hc;change i0<(xs.length:Int) at h1;obtain⟨e',ii,hu,jx,dQ,mQ⟩:=fk hE.fc hs;have mj:=aG hB x;rw [hx] at mj;have Wc:=aG hB i;rw [hi] at Wc;obtain⟨ys,o1,_⟩:=hB.blocks k _ hk;rcases kg o1 with⟨_,hn⟩|⟨b,cap,hv,_⟩
        . omega
        . refine bB (v:=.pointer (some ⟨b,0+i0.toNat*1,none⟩)) (w':=w) ?_ (hK _ _ (Rel.jP (hB.quiet hd ⟨rfl,rfl,rfl⟩ ?_)))
          . have:=iX (P:=P) (w:=w) hu jx b 0 xs.length cap ki i0 h0 h1;simp only [execOp,mj.1,hv,Wc.1,Sem.run_bind,this,dQ,Result.andThen_ok,Sem.run_pure]
          grind[aa]
     grind
   grind
 . rename_i t x;split at h
   . rename_i k sz i j te hx ht;split at h
     . rename_i e s2 n cs hk;cases hs:Nat.beq sz s2 with
       |false=>grind
       |true=>
        rw [hs] at h;have hs:=C! hs;subst hs;simp only [L!] at h;split at h
        . rename_i r hp;simp only [A!] at h;subst h;have mj:=aG hB x;rw [hx] at mj;obtain⟨b,m,cap,bJ,hv⟩:=mj;obtain⟨xs,o1,o2,o3⟩:=hB.blocks k _ hk;rcases kg o1 with⟨g1,_⟩|⟨b',j7,g1,_,_,hr⟩
          . grind
          . rw [g1] at bJ;simp only [Value.slice.injEq,Option.some.injEq,Addr.mk.injEq,and_true] at bJ;obtain⟨rfl,_,_⟩:=bJ;obtain⟨v,e1,e2⟩:=kF (β:=β) (A:=A) hE.fc ht (o3 β) hp hr;rw [Nat.zero_add] at e1;refine bB (v:=v) (w':=w) ?_ (hK _ _ (Rel.jP (hB.quiet hd ⟨rfl,rfl,rfl⟩ e2)));grind[execOp,Sem.run_bind,Result.andThen_ok,Sem.run_pure]
        grind
     . rename_i e k5 xs i0 hk;cases hs:(Nat.beq sz 1&&Nat.beq j 0) with
       |false=>grind
       |true=>
        rw [hs] at h;simp only [B!] at hs;have q1:=C! hs.1;have q2:=C! hs.2;subst q1;subst q2;simp only [L!] at h;split at h
        . rename_i r hp;simp only [A!] at h;subst h;have hi:i<xs.length:=hc _ (I! ..);have he:i=i0:=hc _ (E! _ (I! ..));subst he;have mj:=aG hB x;rw [hx] at mj;obtain⟨b,m,cap,bJ,hv⟩:=mj;obtain⟨ys,o1,o2,o3,o4⟩:=hB.blocks k _ hk;obtain⟨o5,o6⟩:=o4 k5 rfl;rcases kg o1 with⟨g1,_⟩|⟨b',j7,g1,_,_,hr⟩
          . omega
          . rw [g1] at bJ;simp only [Value.slice.injEq,A!,Addr.mk.injEq,z?] at bJ;obtain⟨rfl,_,_⟩:=bJ
            have hr2:w.rangeAt b' (i*1) [β k5]:=λq u hq=>by
             match q,hq with
             |0,hq=>
              simp only [c?,A!] at hq;subst hq;have:=hr i _ o5;omega
             |_+1,hq=>grind
            obtain⟨v,e1,e2⟩:=kF (β:=β) (A:=A) hE.fc ht (cs:=[β k5]) (as_:=[.own k5]) ⟨_,[],rfl,⟨rfl,o6⟩,rfl⟩ hp hr2;refine bB (v:=v) (w':=w) ?_ (hK _ _ (Rel.jP (hB.quiet hd ⟨rfl,rfl,rfl⟩ e2)));grind[execOp,Sem.run_bind,Result.andThen_ok,Sem.run_pure]
        grind
     grind
   . rename_i k off te hx ht;split at h
     . rename_i r y hk;split at h
       . rename_i q hp;simp only [Option.some.injEq] at h;subst h;have mj:=aG hB x;rw [hx] at mj;obtain⟨b',bJ,hv⟩:=mj;obtain⟨b,arr,e,g1,g2,g3,g4⟩:=hB.blocks k _ hk;rw [g1] at bJ;simp only [Value.pointer.injEq,Option.some.injEq,Addr.mk.injEq,and_true] at bJ;subst bJ;obtain⟨v,e1,e2⟩:=kF (β:=β) (A:=A) hE.fc ht (gZ _ _ _ g4) hp (b:=b) (o:=0) (λj u hj=>by grind[World.cell?]);rw [Nat.zero_add] at e1;refine bB (v:=v) (w':=w) ?_ (hK _ _ (Rel.jP (hB.quiet hd ⟨rfl,rfl,rfl⟩ e2)));grind[execOp,Sem.run_bind,Result.andThen_ok,Sem.run_pure]
       grind
     grind
   grind
 grind
theorem JZ(hE:dq P C E)(hB:aw C A β st a w)(h:MM E st o=some out)(qY:fw st o=true)(fp:ju st.h out.new=true)(hc:∀p∈out.cond,p)
  (hK:∀a' w',Rel C (st.put o.dst out) a' w'->K a' w'):o.wp P a w K Q:=by
 grind[MM,Option.some.injEq,Wf,Wk]
def qZ(T:b9)(h:aQ):M AV->M (Option TypeId)->Option (M (Nat×AB))
 |_,[]=>some []
 |_::as_,none::r=>qZ T h as_ r
 |.ref k _::as_,some ty::r=>match h k,rowOf T rR ty,qZ T h as_ r with
   |some (.cells cs),some ts,some u=>match lf ts cs with
    |some x=>some ((k,.fvar ts x)::u)
    |none=>none
   |_,_,_=>none
 |_,_=>none
def zR(u:M (Nat×AB))(h:aQ):aQ:=λk=>match al u k with
 |some b=>some b
 |none=>h k
def yT(h:aQ):AV->AV
 |.ref k off=>match h k with
   |some (.fvar r x)=>.cQ r x off
   |_=>.ref k off
 |a=>a
def aa3(te:TE):Bool:=Nat.beq te.size 1&&(match te.zero with
 |.slice none 0 0=>true
 |_=>false)
abbrev bk.MP(n:Nat):M AV:=List.replicate n .nil
def DP(E:Env)(st:St)(o:Oper):Option Out:=match o.dst with
 |some d=>match E.Mh d with
  |some l=>match o.op with
   |.makeFunc f first aW=>match qZ E.T st.h (aW.toList.map (ev st)) l with
     |some u=>some {cond:=[],res:=.fn f (first.toList.map (ev st)) ((aW.toList.map (ev st)).map (yT (zR u st.h))),gz:=u}
     |none=>none
   |.load t x=>match pY E.T st.h t (ev st x),qZ E.T st.h [ev st x] l with
     |some out,some u=>some {cond:=out.cond,res:=out.res,gz:=u}
     |_,_=>none
   |.makeSlice t x y=>match o9 E.T t,mN E.T t,ev st x,ev st y with
     |some e,some te,.int _ n,.int _ c=>bif fresh st.h (st.kb+d)&&aa3 te then
      some {cond:=[0<=n/\n<=c/\c<=140737488355328/te.bytes],res:=.own (st.kb+d),new:=[(st.kb+d,.bc e 1 n.toNat (bk.MP n.toNat))]} else none
     |_,_,_,_=>none
   |_=>none
  |none=>none
 |none=>none
theorem ub:∀ {as_:M AV} {l:M (Option TypeId)} {u:M (Nat×AB)} {k:Nat} {ab:AB},qZ T st.h as_ l=some u->al u k=some ab->∃ts x cs,ab= .fvar ts x/\st.h k=some (.cells cs)/\lf ts cs=some x
 |as_,[],u,k,ab,h,hf=>by
  simp [qZ,A!] at h;subst h;cases hf
 |[],o::r,u,k,ab,h,hf=>by grind[qZ]
 |x::as_,none::r,u,k,ab,h,hf=>ub (as_:=as_) (l:=r) (by grind[qZ]) hf
 |x::as_,some ty::r,u,k,ab,h,hf=>by
  unfold qZ at h;split at h
  . grind
  . grind
  . rename_i j off as' ty' r' e1 e2;obtain⟨rfl,rfl⟩:=e2;split at h
    . rename_i cs ts u' h1 h2 h3;split at h
      . simp at h;subst h;simp [al] at hf;cases hb:Nat.beq k j with
        |true=>
         have:=Nat.eq_of_beq_eq_true hb;grind
        |false=>
         rw [hb] at hf;exact ub h3 hf
      grind
    grind
  grind
def Wl(A:Nat->Prop)(β:Nat->Value)(u:M (Nat×AB))(b:Nat):Prop:=A b\/∃k,(al u k).isSome/\ai (β k)=some b
theorem af7 {k off:Nat}{r:M Ty}{x:Row r}(hb:BR w A β k (.fvar r x))(h:aa w A β v (.ref k off)):aa w A β v (.cQ r x off):=by
 obtain⟨b,arr,e,h1,h2,h3,h4⟩:=hb;obtain⟨b',g1,g2⟩:=h;rw [h1] at g1;refine⟨b,0,arr.toList,x!,h3,λj u hj=>?_,h4⟩;grind[World.cell?]
theorem aa4(hB:aw C A β st a w)(hu:qZ T st.h as_ l=some u){k:Nat}{r:M Ty}{x:Row r}(h:zR u st.h k=some (.fvar r x)):BR w (Wl A β u) β k (.fvar r x):=by
 have hK:cg w w A (Wl A β u):=λb hb=>⟨.inl hb,rfl⟩;unfold zR at h;split at h
 . rename_i b hf;simp at h;subst h;obtain⟨ts,y,cs,e,h1,h2⟩:=ub hu hf;cases e;obtain⟨b,arr,e,g1,g2,g3,g4,g5⟩:=hB.blocks k _ h1;exact⟨b,arr,e,g1,g2,.inr ⟨k,x!,by rw [g1];rfl⟩,bz hK _ _ _ (nj _ _ _ _ g4 h2)⟩
 . obtain⟨b,arr,e,h1,h2,h3,h4⟩:=hB.blocks k _ h;exact⟨b,arr,e,h1,h2,.inl h3,bz hK _ _ _ h4⟩
def ajz(h:aQ)(hb:∀k r (x:Row r),h k=some (.fvar r x)->BR w A β k (.fvar r x)){x:AV}(hr:aa w A β v x):aa w A β v (yT h x):=by
 unfold yT;grind[af7]
def Rk(h:aQ)(hb:∀k r (x:Row r),h k=some (.fvar r x)->BR w A β k (.fvar r x)):∀ {xs:M AV} {vs:M Value},ae w A β vs xs->ae w A β vs (xs.map (yT h))
 |[],vs,hr=>hr
 |x::xs,vs,hr=>by
  obtain⟨v,b7,rfl,h1,h2⟩:=hr;exact⟨v,b7,rfl,ajz h hb h1,Rk h hb h2⟩
theorem aw.Mh(hB:aw C A β st a w)(hd:∀t,dst=some t->t<st.n)(hu:qZ T st.h as_ l=some u){cond:M Prop}{res:AV}
  (hr:aa w (Wl A β u) β v res):aw C (Wl A β u) β (st.put dst {cond:=cond,res:=res,gz:=u}) (a.put dst v) w:=by
 have hl:∀k,(al u k).isSome->(st.h k).isSome:=λk hk=>by
  grind[Option.isSome_iff_exists,ub]
 refine hB.step (out:={cond:=cond,res:=res,gz:=u}) hd nofun (λk b h=>hl k x!) (λ_ _=>rfl) (λb hb=>⟨.inl hb,rfl⟩) rfl rfl rfl (Nat.le_refl _) (λ_ _ _=>rfl) (λb hb=>?_) (λb hb=>?_) (λk ab h _=>?_) nofun nofun (λk _ _ h=>by cases h) hr
 . rcases hb with hb|⟨k,hk,hb⟩
   . exact hB.bound b hb
   . exact nk hB (hl k hk) hb
 . rcases hb with hb|⟨k,hk,hb⟩
   . grind
   . exact .inr (.inr ⟨k,⟨hl k hk,.inl hk⟩,hb⟩)
 . obtain⟨ts,x,cs,rfl,_,_⟩:=ub hu h;exact aa4 hB hu (by grind[zR])
def Rl:∀n,ae w A β (List.replicate n (.slice none 0 0)) (List.replicate n .nil)
 |0=>rfl
 |n+1=>⟨_,_,rfl,rfl,Rl n⟩
def MQ(hT:bA T P)(hB:aw C A β st a w)(hd:∀t,dst=some t->t<st.n)(gJ:st.h d=none/\rl d=false){e:TypeId}{te:TE}(he:o9 T t=some e)(jv:mN T t=some te)(hz:aa3 te=true)
  {k k':IntKind} {n c:Int} {vy:Value} (hx:aa w A β vx (.int k n)) (hy:aa w A β vy (.int k' c)) (hc:0<=n/\n<=c/\c<=140737488355328/te.bytes) {cond:M Prop}:
  ∃v' w',(Instr.makeSlice t vx vy).run P w= .ok v' w'/\Rel C (st.put dst {cond:=cond,res:=.own d,new:=[(d,.bc e 1 n.toNat (List.replicate n.toNat .nil))]}) (a.put dst v') w':=by
 obtain⟨c0,c1,c2⟩:=hc;obtain⟨hu,Dh,i,hi,si,My,Im⟩:=tU hT he jv;simp only [aa3,Bool.and_eq_true] at hz;have q1:=Nat.eq_of_beq_eq_true hz.1;have hzero:te.zero= .slice none 0 0:=by grind
 obtain⟨rfl,_⟩:=hx;obtain⟨rfl,K5⟩:=hy
 have aFL:(te.bytes:Int)*c<=281474976710656:=by
  grind[Nat.eq_zero_or_pos,Int.le_ediv_iff_mul_le,Int.mul_comm]
 have Ey:c<=9223372036854775807:=by
  have:=Int.ediv_le_self (te.bytes:Int) (show(0:Int)<=140737488355328 by omega);omega
 have hr:=run_make (P:=P) w t e i te.zero hu hi Im k k' n c c0 c1 x! Ey
 have aTX:(madeCells te.zero.cells (c.toNat*i.size)).toList=List.replicate c.toNat (.slice none 0 0):=by
  rw [hzero,show i.size=1 by omega,List.eq_replicate_iff];grind[madeCells,Value.cells]
 have dQ:(madeCells te.zero.cells (c.toNat*i.size)).size=c.toNat:=by
  grind[Array.length_toList,List.length_replicate]
 refine⟨_,_,hr,Rel.jP (hB.Zt (del:=[]) (rw:=none) hd gJ ⟨rfl,rfl,rfl,z!,λk hk _=>jz _ k hk⟩ nofun nofun ⟨List.replicate n.toNat (.slice none 0 0),?_,λb hb=>Iw hB hb,λfa=>Rl _⟩ rfl (λb hb=>?_))⟩
 . simp [bl,if_true];refine⟨z!,.inr ⟨w.heap.size,c.toNat,_,rfl,w!,heap_alloc_new w _,w!,by grind[maxLen],w!,?_⟩⟩;grind
 grind[ai,Option.some.injEq,Nat.le_of_eq]
def Wm(hE:dq P C E)(hB:aw C A β st a w)(h:DP E st o=some out)(qY:fw st o=true)(hc:∀p∈out.cond,p)
  (hK:∀a' w',Rel C (st.put o.dst out) a' w'->K a' w'):o.wp P a w K Q:=by
 have hd:∀t,o.dst=some t->t<st.n:=by
  intro t ht;simp_all[fw,N!]
 have Ad:∀u:M (Nat×AB),cg w w A (Wl A β u):=λu b hb=>⟨.inl hb,rfl⟩;obtain⟨dst,op,type,pos,after,guard⟩:=o;unfold DP at h;simp only at h;split at h
 . rename_i d;split at h
   . split at h
     . rename_i f first aW
       split at h
       . rename_i u hu;simp at h;subst h;refine bB (v:=.func f (first.map a.eval) (aW.map a.eval)) (by rfl) (hK _ _ (Rel.jP (hB.Mh hd hu ?_)));have h1:=cJ (Ad u) _ _ (nm hB first.toList);have h2:=Rk (zR u st.h) (λk r x h=>aa4 hB hu h) (cJ (Ad u) _ _ (nm hB aW.toList));exact⟨_,_,rfl,by simp_all,by simp_all⟩
       grind
     . rename_i t x;split at h
       . rename_i o2 u ho hu;simp at h;subst h;obtain⟨_,v,h1,h2⟩:=Ax hE.fc hB (aG hB x) ho hc;refine bB (v:=v) (w':=w) ?_ (hK _ _ (Rel.jP (hB.Mh hd hu (jf (Ad u) _ _ h2))));grind[execOp,Sem.run_bind,Result.andThen_ok,Sem.run_pure]
       grind
     . rename_i t x y;split at h
       . rename_i e te k n k' c he jv hx hy;cases hq:(fresh st.h (st.kb+d)&&aa3 te) with
         |false=>grind
         |true=>
         rw [hq] at h;simp at h;subst h;simp at hq;obtain⟨v',w',g1,g2⟩:=MQ hE.fc hB hd (rp hq.1) he jv hq.2 (hx▸aG hB x) (hy▸aG hB y) (eT hc);refine bB (v:=v') (w':=w') ?_ (hK _ _ g2);grind[execOp,Sem.run_bind,Result.andThen_ok,Sem.run_pure]
       grind
     grind
   grind
 grind
def Rm(st:St)(o:Oper):Option Out:=match o.op,o.dst with
 |.call ⟨.value f,args,_⟩,some d=>match args.toList,ev st f with
   |[x],.fn (.func f) [] [.ref k 0]=>match HP.nx f,ev st x with
     |some g,.fn (.func y) [] []=>bif fresh st.h (st.kb+d)&& !(Nat.beq k (st.kb+d)) then
       some {cond:=[],res:=.fn (.func g) [] [.ref k 0,.ref (st.kb+d) 0],new:=[(st.kb+d,.cells [.fn (.func y) [] []])]} else none
     |_,_=>none
   |_,_=>none
 |_,_=>none
variable {d:Option Nat}
def ajA{u:Value}:(a.put d u).put d v=a.put d v:=by
 cases d with
 |none=>rfl
 |some d=>simp [Act.put]
def aw.ayo(hB:aw C A β s a w)(h1:s.t=r.t)(h2:s.h=r.h)(h3:s.n=r.n)(h4:s.g=r.g):aw C A β r a w:=by
 obtain⟨t,h,_,_,_,n,_,g⟩:=s;subst h1 h2 h3 h4;exact⟨hB.defers,hB.size,hB.tmps,hB.blocks,hB.apart,hB.bound,hB.frame,hB.iP,hB.base,hB.mO,hB.pj,hB.laid,hB.held⟩
def Wn(hE:dq P C E)(hB:aw C A β st a w)(h:Rm st o=some out)(qY:fw st o=true)
  (hK:∀a' w',Rel C (st.put o.dst out) a' w'->K a' w'):o.wp P a w K Q:=by
 have hd:∀t,o.dst=some t->t<st.n:=by
  intro t ht;simp_all[fw,N!]
 obtain⟨dst,op,type,pos,after,guard⟩:=o;unfold Rm at h;simp only at h;split at h
 . rename_i f args at_ d;split at h
   . rename_i x f' k hxs hf;split at h
     . rename_i g y hg hx;cases hq:(fresh st.h (st.kb+d)&& !(Nat.beq k (st.kb+d))) with
       |false=>grind
       |true=>
       rw [hq] at h;simp at h;subst h;simp at hq;have hkd:k≠st.kb+d:=λe=>by simp_all
       obtain⟨Tq,hmk⟩:=HP.S8 P ((hE.ok.hp P).2 rfl) f' g hg;have Zj:=aG hB f;rw [hf] at Zj;obtain⟨a1,a2,Dh,r1,r2⟩:=Zj;obtain⟨p,ps,qg,⟨b,TF,hp3⟩,hp4⟩:=r2;simp only [ae] at r1 hp4;subst hp4;have ha1:a1= #[]:=by grind
       have ha2:a2= #[p]:=by grind
       subst ha1;subst ha2;have mj:=aG hB x;rw [hx] at mj;obtain⟨b1,b2,hxe,q1,q2⟩:=mj;simp only [ae] at q1 q2;have MS:b1= #[]:=by grind
       have K7:b2= #[]:=by grind
       subst MS;subst K7;have bm:args= #[x]:=by grind
       subst bm
       have gf:(execOp a.eval {dst:=some d,op:=.call {callee:=.value f,args:= #[x],argTypes:=at_},type,pos,after,guard}).run P w= .ok (.enter f' #[a.eval x,p]) w:=by
        have:=Tq (#[a.eval x,p]) w;simp_all[execOp,resolve,Deferred.ofValue,Sem.run_bind,Sem.run_pure,Result.andThen_ok,invoke]
       unfold Oper.wp;rw [gf];rw [hxe];refine(hmk w y p).mono λe w' ⟨ty,he,hw⟩=>?_;subst he;subst hw;have h1:=hB.Ip (dst:=some d) (e:=ty) (cs:=[.fn (.func y) [] []]) (arr:= #[.func (.func y) #[] #[]]) (cond:=[]) hd (rp hq.1) ⟨_,[],rfl,⟨#[], #[],rfl,rfl,rfl⟩,rfl⟩ (by simp [Value.oneCell'])
       have h2:=h1.pure (d:=some d) (c:=[]) (r:=.fn (.func g) [] [.ref k 0,.ref (st.kb+d) 0]) (v:=.func (.func g) #[] #[p,.pointer (some ⟨w.heap.size,0,none⟩)]) hd
        ⟨#[],_,rfl,rfl,_,_,rfl,⟨b,by simp_all[bl,J!],hp3⟩,_,[],rfl,⟨w.heap.size,by simp [bl],rfl⟩,rfl⟩
       rw [ajA] at h2;refine hK _ _ (Rel.jP (h2.ayo ?_ ?_ rfl rfl))
       . simp only [St.put,nS];grind
       . funext j;simp only [St.put,xD,al,ay,bH,cond_false,gx,eH];grind
     grind
   grind
 grind
def ajC(T:b9)(h:aQ)(t ty:TypeId):AV->AV->Option Out
 |.ref k off,v=>match iA T h t (.ref k off) v with
   |some out=>match out.gz,rowOf T rR ty with
    |[(_,.cells cs)],some ts=>match lf ts cs with
      |some x=>some {cond:=[],res:=.undef,gz:=[(k,.fvar ts x)]}
      |none=>none
    |_,_=>none
   |none=>none
 |_,_=>none
def Rn(E:Env)(st:St)(o:Oper):Option Out:=match o.op,o.dst with
 |.store t (.tmp s) v,none=>match E.Mh (100000+s) with
   |some [some ty]=>ajC E.T st.h t ty (ev st (.tmp s)) (ev st v)
   |_=>none
 |_,_=>none
def Wo(hE:dq P C E)(hB:aw C A β st a w)(h:Rn E st o=some out)
  (hK:∀a' w',Rel C (st.put o.dst out) a' w'->K a' w'):o.wp P a w K Q:=by
 obtain⟨dst,op,type,pos,after,guard⟩:=o;unfold Rn at h;simp at h;split at h
 . rename_i t s v;split at h
   . rename_i ty hty;have hp:=aG hB (.tmp s);have hv:=aG hB v;generalize ev st (.tmp s)=p at h hp;unfold ajC at h;split at h
     . rename_i k off;split at h
       . rename_i aF0 h1;split at h
         . rename_i k' cs ts hu Is;split at h
           . rename_i y hy;simp at h;subst h;obtain⟨w',g1,A',az,ry⟩:=xI hE.fc hB (dst:=none) nofun hp hv h1
             have ho:aF0= {cond:=[],res:=.undef,gz:=[(k,.cells cs)]}/\(st.h k).isSome:=by
              grind[iA]
             obtain⟨rfl,oN⟩:=ho
             have hh:(st.put none {cond:=[],res:=.undef,gz:=[(k,.cells cs)]}).h k=some (.cells cs):=by
              simp_all[St.put,xD,al,ay,xC,bH,cT]
             have Di:qZ E.T (st.put none {cond:=[],res:=.undef,gz:=[(k,.cells cs)]}).h [.ref k 0] [some ty]=some [(k,.fvar ts y)]:=by
              grind[qZ]
             have h2:=ry.Mh (dst:=none) nofun Di (cond:=[]) (res:=.undef) (v:=undef) rfl
             refine nU (w':=w') ?_ (hK _ _ (Rel.jP (h2.ayo ?_ ?_ rfl rfl)))
             . grind[execOp,Sem.run_bind,Result.andThen_ok,Sem.run_pure]
             . rfl
             . funext j;simp [St.put,xD,al,ay,xC,bH,cond_false];grind
           grind
         grind
       grind
     grind
   grind
 grind
def uc:M AV->Option (M AV×Nat)
 |[]=>none
 |a::r=>match r with
  |[]=>match a with
    |.own k=>some ([],k)
    |_=>none
  |_::_=>match uc r with
   |some (x,k)=>some (a::x,k)
   |none=>none
def CC(E:Env)(h:aQ)(t:TypeId):AV->AV->Option Out
 |.elem k sz i j,.agg cs=>match h k,uc cs with
   |some (.row e row l false),some (xs,k5)=>match h k5 with
    |some (.row _ _ _ false)=>bif E.iu t&&Nat.beq j 0&&Nat.beq sz row.length&&iW E.T t row.length&&Nat.blt 0 row.length&& !(Nat.beq k5 k) then
      match lf row (xs++[.nil]) with
       |some x=>some {cond:=[i<l.length],res:=.undef,gz:=[(k,.iu e (some k5) row (l.set i x) i)]}
       |none=>none
     else none
    |_=>none
   |_,_=>none
 |_,_=>none
def tL(E:Env)(h:aQ)(t:TypeId):AV->Option Out
 |.elem k sz i j=>match E.T.find t,h k with
   |some te,some (.iu _ (some k5) row l i0)=>match h k5 with
    |some (.row _ _ _ _)=>bif Nat.beq sz row.length&&Nat.beq j (row.length-1)&&Nat.blt 0 row.length then
      match pick te [.own k5] 0 with
       |some a=>some {cond:=[i<l.length,i=i0],res:=a}
       |none=>none
     else none
    |_=>none
   |_,_=>none
 |_=>none
def xL(E:Env)(h:aQ)(t:TypeId):AV->AV->Option Out
 |.own k,.int _ i=>match h k with
   |some (.iu _ _ row l _)=>bif bh E.T t row.length then some {cond:=[0<=i/\i<(l.length:Int)],res:=.elem k row.length i.toNat 0} else none
   |_=>none
 |_,_=>none
def closing(h:aQ)(k:Nat):Option (Prop×M (Nat×AB)):=match h k with
 |some (.iu e (some k5) row l i)=>match h k5 with
  |some (.row e5 ua l5 false)=>bif Nat.blt 0 row.length&& !(Nat.beq k5 k) then match oK row (l.getD i (Row.zero row)) (row.length-1) [.sl ua l5] with
    |some y=>some (i<l.length,[(k,.row e row (l.set i y) false),(k5,.row e5 ua l5 true)])
    |none=>none
   else none
  |_=>none
 |_=>none
def isNil:M α->Bool
 |[]=>true
 |_::_=>false
def xM(E:Env)(h:aQ)(o:Oper):Option (Prop×M (Nat×AB)):=match o.dst with
 |some d=>match E.cls d with
  |some k=>closing h k
  |none=>none
 |none=>none
def Wq(E:Env)(st:St)(o:Oper):Option Out:=match xM E st.h o with
 |some (c,u)=>match MM E st o with
  |some out=>bif isNil out.gz&&isNil out.del&&isNil out.new&&isNil out.raw then some {out with cond:=c::out.cond,gz:=u} else none
  |none=>none
 |none=>match o.op with
  |.store t p v=>CC E st.h t (ev st p) (ev st v)
  |.load t p=>tL E st.h t (ev st p)
  |.indexAddr t x i=>xL E st.h t (ev st x) (ev st i)
  |_=>none
def Ro(E:Env)(st:St)(o:Oper):Option Out:=match Wq E st o with
 |some out=>some out
 |none=>MM E st o
def act(E:Env)(st:St)(o:Oper):Option Out:=match DP E st o with
 |some out=>some out
 |none=>match Rm st o with
  |some out=>some out
  |none=>match Rn E st o with
   |some out=>some out
   |none=>Ro E st o
def Gp:∀(cs:M AV) (vs:M Value) (xs:M AV) (k:Nat),uc cs=some (xs,k)->ae w A β vs cs->∃us,vs=us++[β k]/\ae w A β us xs/\(β k).oneCell'=true
 |[],vs,xs,k,h,_=>by cases h
 |a::r,vs,xs,k,h,hr=>by
  obtain⟨v,b7,rfl,h1,h2⟩:=hr;unfold uc at h;cases r with
  |nil=>
   subst h2;cases a with
   |own k'=>
    obtain⟨rfl,rfl⟩:=h;exact⟨[],by rw [h1.1];rfl,by simp [ae],by rw [<-h1.1];exact h1.2⟩
   |_=>cases h
  |cons b r=>
   simp at h;split at h
   . rename_i x k' hl;simp at h;obtain⟨rfl,rfl⟩:=h;obtain⟨us,e1,e2,e3⟩:=Gp (b::r) b7 x k' hl h2;refine⟨v::us,by rw [e1];rfl,?_,e3⟩;exact⟨v,us,rfl,h1,e2⟩
   . cases h
def ajD(p s:M α)(x y:α):(p++x::s).set p.length y=p++y::s:=by
 grind
theorem CD {α:Type}:∀(l:M α) (i:Nat) (x:α),l[i]? =some x->l.set i x=l
 |[],_,_,h=>by rfl
 |a::l,0,x,h=>by grind
 |a::l,i+1,x,h=>by
  rw [List.set_cons_succ,CD l i x (by simpa using h)]
def ED(hB:aw C A β st a w){k:Nat}{j:Option Nat}{row:M Ty}{l:M (Row row)}(h:st.h k=some (.iu e j row l i)):
  (β k= .slice none 0 0/\l=[])\/∃b cap cur v0,β k= .slice (some ⟨b,0,none⟩) l.length cap/\w.heap[b]? =some (.cells cur e (0,0))/\l.length<=cap/\cap<=maxLen/\cur.size=cap*row.length/\¬A b/\
    dJ (bx w A row) ((cur.toList.take (l.length*row.length)).set (i*row.length+(row.length-1)) v0) l/\
    ∀j',j=some j'->(cur.toList.take (l.length*row.length))[i*row.length+(row.length-1)]? =some (β j'):=by
 obtain⟨xs,v0,h1,h2,h3,h4⟩:=hB.blocks k _ h;rcases h1.2 with⟨hv,hn⟩|⟨g,cap,cur,hv,_,hg,g4,g5,g6,g7⟩
 . grind
 . exact .inr ⟨g,cap,cur,v0,hv,hg,g4,g5,g6,h2 g (by rw [hv];rfl),x!,x!⟩
def MT(hB:aw C A β st a w){k:Nat}{row:M Ty}{l:M (Row row)}{fr:Bool}(h:st.h k=some (.row e row l fr)):(β k).oneCell'=true:=by
 rcases gI hB h with⟨h1,_⟩|⟨b,cap,cur,h1,_⟩<;>rw [h1]<;>rfl
def K8(hT:bA E.T P)(hB:aw C A β st a w)(hx:aa w A β vx x)(h:tL E st.h t x=some out)(hc:∀p∈out.cond,p):
  Reads P A β w (Instr.loadAt t vx) out:=by
 unfold tL at h;split at h
 . rename_i k sz i j;split at h
   . rename_i te e k5 row l i0 ht hk;split at h
     . rename_i e5 ua l5 fr5 Dk;cases hq:(Nat.beq sz row.length&&Nat.beq j (row.length-1)&&Nat.blt 0 row.length) with
       |false=>grind
       |true=>
        simp [hq,L!] at h;simp only [B!] at hq;obtain⟨⟨q1,q2⟩,q3⟩:=hq;have q1:=C! q1;have q2:=C! q2;subst q1;subst q2;split at h
        . rename_i av Zq;simp at h;subst h;have jx:i=i0:=hc _ z!;subst jx;obtain⟨b,m,cap,bJ,rfl⟩:=hx;rcases ED hB hk with⟨_,hl⟩|⟨b',j7,cur,v0,hv,hg,hle,Ac,dX,lR,hL,xN⟩
          . grind
          . rw [bJ] at hv;obtain⟨rfl,rfl,rfl⟩:=hv;have qh:=xN k5 rfl;rw [o?] at qh;split at qh
            . have hr:w.rangeAt b (i*row.length+(row.length-1)) [β k5]:=by
               intro jj u hj;cases jj with
               |zero=>
                simp at hj;subst hj;simp [World.cell?,hg];simpa using qh
               |succ jj=>simp at hj
              have Tu:ae w A β [β k5] [.own k5]:=by
               exact⟨_,[],rfl,⟨rfl,MT hB Dk⟩,rfl⟩
              obtain⟨v',g1,g2⟩:=kF (β:=β) hT ht Tu Zq hr;exact⟨⟨rfl,rfl,rfl⟩,v',g1,g2⟩
            grind
        grind
     grind
   grind
 grind
def MU(hT:bA E.T P)(hB:aw C A β st a w){i:AV}{vi:Value}(hx:aa w A β vx x)(hi:aa w A β vi i)
  (h:xL E st.h t x i=some out) (hc:∀p∈out.cond,p):Reads P A β w (Instr.indexAt t vx vi) out:=by
 unfold xL at h;split at h
 . rename_i k kk n;split at h
   . rename_i e' j row l i0 hk;cases hs:bh E.T t row.length with
     |false=>grind
     |true=>
      simp [hs,L!,A!] at h;subst h;obtain⟨h0,h1⟩:=eT hc;obtain⟨e,ii,hu,jx,dQ,mQ⟩:=fk hT hs;simp [aa] at hx hi;rcases ED hB hk with⟨_,hl⟩|⟨b,cap,cur,v0,hv,_⟩
      . grind
      . refine⟨⟨rfl,rfl,rfl⟩,.pointer (some ⟨b,0+n.toNat*row.length,none⟩),?_,?_⟩
        . simp_all[hi,iX]
        grind[aa]
   grind
 grind
def Qz(hT:bA E.T P)(hB:aw C A β st a w)(hd:∀t,dst=some t->t<st.n){p:AV}(hp:aa w A β vp p)(hx:aa w A β vx x)
  (h:CC E st.h t p x=some out) (hc:∀p∈out.cond,p):∃w',(Instr.storeAt t vp vx).run P w= .ok () w'/\Rel C (st.put dst out) (a.put dst undef) w':=by
 unfold CC at h;split at h
 . rename_i k sz i j cs;split at h
   . rename_i e row l xs k5 hk Zu;split at h
     . rename_i e5 ua l5 Dk;cases hq:(E.iu t&&Nat.beq j 0&&Nat.beq sz row.length&&iW E.T t row.length&&Nat.blt 0 row.length&& !(Nat.beq k5 k)) with
       |false=>grind
       |true=>
        simp only [hq,L!] at h;simp only [B!] at hq;obtain⟨⟨⟨⟨⟨_,q0⟩,q1⟩,q2⟩,q3⟩,q4⟩:=hq;have q0:=C! q0;have q1:=C! q1;subst q0;subst q1;have q3:=N! q3;split at h
        . rename_i y hy;simp only [A!] at h;subst h;have hi:i<l.length:=eT hc;simp only [aa] at hp hx;obtain⟨b,m,cap,bJ,rfl⟩:=hp;obtain⟨arr,rfl,hx⟩:=hx;obtain⟨us,e1,e2,e3⟩:=Gp cs arr.toList xs k5 Zu hx;rcases gI hB hk with⟨_,hl⟩|⟨b',j7,cur,hv,hg,hle,Ac,dX,hL,lR⟩
          . grind
          . rw [bJ] at hv;simp only [Value.slice.injEq,A!,Addr.mk.injEq,z?] at hv;obtain⟨rfl,rfl,rfl⟩:=hv;simp only [L?,n?] at lR;have hb:ai (β k)=some b:=by rw [bJ];rfl
            obtain⟨ii,jx,si⟩:=pt hT q2
            have hyr:bx w A row (us++[Value.slice none 0 0]) y:=by
             refine nj (β:=β) row (xs++[.nil]) _ y ?_ hy;grind[Aw,ae,aa]
            have hlen:us.length+1=row.length:=by
             have:=jh row _ y hyr;grind
            have oC:arr.size=ii.size:=by
             have :arr.toList.length=arr.size:=by simp
             grind
            have kT:∀u∈arr.toList,u.oneCell'=true:=by
             grind[AG,List.mem_append_left,List.mem_singleton]
            have tW:l.length*row.length<=cur.size:=by simp_all[F?]
            have hyy:∀c,bx w A row c l[i]->bx w A row (c.take 0++(us++[Value.slice none 0 0])++c.drop (0+(us++[Value.slice none 0 0]).length)) y/\((us++[Value.slice none 0 0])≠ []->0+(us++[Value.slice none 0 0]).length<=c.length):=λc sF=>by
             have oO:=jh row c _ sF;simp_all[r?,s?,List.take_zero,k?,H?]
            rcases Gf hi hL hyy tW with⟨g1,g2,g3⟩|yO
            . have hul:(us++[Value.slice none 0 0]).length=row.length:=by grind
              have hal:arr.toList.length=row.length:=by grind
              rw [hul] at g3
              have JQ:i*row.length+0+arr.size<=cur.size:=by
               omega
              have aTX:(Value.agg arr).cells=arr:=rfl;refine⟨_,lS jx (v:=.agg arr) x! x! hg x!,?_⟩;rw [aTX];refine hB.write hd (k:=k) (fz:=[]) (ab:=.iu e (some k5) row (l.set i y) i) x! hb lR hg ⟨rfl,rfl,rfl⟩ z! ?_ (by rfl);intro A2 h1 h2 h3
              have Zl:∀b',A2 b'->A b':=λb' h=>by
               grind
              have Ad:cg w (w.setRow b (cur.toList.take (i*row.length+0)++arr.toList++cur.toList.drop (i*row.length+0+arr.toList.length)).toArray) A A2:=λb' h=>⟨h1 b' h,setRow_other w b b' _ (λh'=>lR (h'▸h))⟩
              have hP:cur.toList.take (i*row.length+0)++arr.toList++cur.toList.drop (i*row.length+0+arr.toList.length)=(cur.toList.take (i*row.length)++us)++β k5::cur.toList.drop (i*row.length+row.length):=by
               grind
              have hPl:(cur.toList.take (i*row.length)++us).length=i*row.length+(row.length-1):=by
               grind
              have jU:i*row.length+row.length<=l.length*row.length:=by
               have :(i+1)*row.length<=l.length*row.length:=Nat.mul_le_mul_right _ hi;grind
              refine⟨_,.slice none 0 0,⟨?_,.inr ⟨b,cap,_,x!,w!,setRow_heap w b cur _ e _ hg,x!,Ac,?_,rfl⟩⟩,λb' fb=>?_,?_,λj' gn=>?_⟩
              . grind
              . grind
              . grind
              . simp only [m?]
                have Dl:(cur.toList.take (i*row.length+0)++(us++[Value.slice none 0 0])++cur.toList.drop (i*row.length+0+(us++[Value.slice none 0 0]).length))=(cur.toList.take (i*row.length)++us)++Value.slice none 0 0::cur.toList.drop (i*row.length+row.length):=by
                 simp only [Nat.add_zero,hul,W!,List.singleton_append]
                have Zv:=g2;simp only [Dl] at Zv;simp only [hP] at Ad |-;rw [<-List.take_set,<-hPl,ajD];exact br (λc x hx=>bz Ad row c x hx) _ _ Zv
              . simp only [A!] at gn;subst gn;simp only [m?,hP];rw [o?,M! w!,<-hPl,List.getElem?_append_right (S! _),Nat.sub_self];rfl
            grind
        grind
     grind
   grind
 grind
def aw.close(hB:aw C A β st a w){k e k5 e5 i:Nat}{row ua:M Ty}{l:M (Row row)}{l5:M (Row ua)}{y:Row row}
  (hk:st.h k=some (.iu e (some k5) row l i)) (Dk:st.h k5=some (.row e5 ua l5 false)) (fh:k5≠k) (mQ:0<row.length) (hi:i<l.length)
  (hy:oK row (l.getD i (Row.zero row)) (row.length-1) [.sl ua l5]=some y) (hn:aX.n=st.n) (ht:aX.t=st.t) (hg:aX.g=st.g)
  (hh:∀q,aX.h q=if q=k then some (.row e row (l.set i y) false) else if q=k5 then some (.row e5 ua l5 true) else st.h q):Rel C aX a w:=by
 let A1:Nat->Prop:=λb=>A b\/ai (β k5)=some b
 have hK:cg w w A A1:=λb h=>⟨.inl h,rfl⟩
 have ajE:∀q,(aX.h q).isSome↔(st.h q).isSome:=by
  grind
 have aLy:(qT st.h (.own k5))=(.sl ua l5,[k5]):=by grind[qT,je]
 have Gk:aa w A1 β (β k5) (.sl ua l5):=by
  have:=(AL (A':=A1) hB (λb h=>.inl h) (.own k5) (β k5) (by simp only [aa];exact⟨trivial,MT hB Dk⟩) (λq hq b hb=>by
   grind)).1
  grind
 refine⟨A1,β,?_⟩;refine⟨hB.defers,by rw [hn];exact hB.size,λq=>by rw [ht];exact jf hK _ _ (hB.tmps q),λq ab hq=>?_,λq q' b h1 h2=>hB.apart q q' b ((ajE q).1 h1) ((ajE q').1 h2),λb hb=>?_,hB.frame,λb hb hA=>?_,λb hb=>.inl (hB.base b hb),λq b hq hb=>hB.mO q b ((ajE q).1 hq) hb,λq d hq=>hB.pj q d x!,λq d hd=>(hB.laid q d hd).mono hK,hB.held⟩
 . rw [hh] at hq;by_cases h1:q=k
   . subst h1;rw [M! rfl] at hq;simp only [A!] at hq;subst hq;rcases ED hB hk with⟨_,hl⟩|⟨b,cap,cur,v0,hv,hgc,hle,Ac,dX,lR,hL,xN⟩
     . grind
     . have hN:(cur.toList.take (l.length*row.length)).length=l.length*row.length:=by
        simp_all
       have qh:=xN k5 rfl;have hL1:=br (λc x hx=>bz hK row c x hx) l _ hL;rw [getD_eq l _ _ hi] at hy
       have sk:=Gf (A:=A1) (w:=w) (i:=i) (j:=row.length-1) (cur:=((cur.toList.take (l.length*row.length)).set (i*row.length+(row.length-1)) v0).toArray) (us:=[β k5]) (y:=y) hi (by
        grind[List.take_of_length_le,List.length_set]) (λc hc=>by
        have:=yM (β:=β) row [.sl ua l5] l[i] (row.length-1) c [β k5] y hc (by grind[ae]) hy;omega) x!
       rcases sk with⟨g1,g2,g3⟩|yO
       . refine⟨cur.toList.take (l.length*row.length),⟨x!,.inr ⟨b,cap,cur,x!,w!,hgc,x!,Ac,dX,x!⟩⟩,?_,λb' fb=>?_⟩
         . have hp:i*row.length+(row.length-1)<l.length*row.length:=by
            have :(i+1)*row.length<=l.length*row.length:=F? _ hi;rw [u?,Nat.one_mul] at this;omega
           have fp:((cur.toList.take (l.length*row.length)).set (i*row.length+(row.length-1)) v0).take (i*row.length+(row.length-1))++[β k5]++((cur.toList.take (l.length*row.length)).set (i*row.length+(row.length-1)) v0).drop (i*row.length+(row.length-1)+[β k5].length)=cur.toList.take (l.length*row.length):=by
            have h2:((cur.toList.take (l.length*row.length)).set (i*row.length+(row.length-1)) v0).set (i*row.length+(row.length-1)) (β k5)=cur.toList.take (l.length*row.length):=by
             rw [List.set_set];exact CD _ _ _ qh
            rw [h?,M! (by rw [m?,hN];exact hp)] at h2;simpa using h2
           simp only [fp] at g2;rw [t? w!] at g2;exact g2
         . rw [hv] at fb;simp only [ai,A!] at fb;subst fb;simp only [L?,n?];rintro(h|h)
           . exact lR h
           . exact fh (hB.apart k5 q b (by simp [Dk]) (by simp [hk]) h (by rw [hv];rfl))
       grind
   . rw [J! h1] at hq;by_cases h2:q=k5
     . subst h2;rw [M! rfl] at hq;simp only [A!] at hq;subst hq;obtain⟨xs,g1,g2,g3⟩:=hB.blocks q _ Dk;refine⟨xs,g1,br (λc x hx=>bz hK ua c x hx) _ _ g2,λb hb=>?_⟩;simp only [Q?];exact .inr hb
     . rw [J! h2] at hq
       have:=xE (w':=w) (A':=A1) (az:=β) (new:=[]) (k:=q) (λ_ _=>rfl) rfl (λb hb=>⟨rfl,λh=>by
        rcases h with h|h
        . exact h
        . exact absurd (hB.apart q k5 b (by simp [hq]) (by simp [Dk]) hb h) h2⟩) hK (hB.blocks q ab hq)
       simpa [bH] using this
 . rcases hb with hb|hb
   . exact hB.bound b hb
   . exact nk hB (by simp [Dk]) hb
 . rcases hA with hA|hA
   . exact hB.iP b hb hA
   . rcases hB.mO k5 b (by simp [Dk]) hA with h|h
     . omega
     . exact .inr h
def CE:∀ {l:M α},isNil l=true->l=[]
 |[],_=>rfl
 |_::_,h=>by cases h
def Wr(hE:dq P C E)(hB:aw C A β st a w)(h:Ro E st o=some out)(qY:fw st o=true)(fp:ju st.h out.new=true)(hc:∀p∈out.cond,p)
  (hK:∀a' w',Rel C (st.put o.dst out) a' w'->K a' w'):o.wp P a w K Q:=by
 unfold Ro at h;split at h
 . rename_i ajF h0;simp only [A!] at h;subst h
   have hd:∀t,o.dst=some t->t<st.n:=by
    intro t ht;simp_all[fw,N!]
   unfold Wq at h0;split at h0
   . rename_i c u oO;split at h0
     . rename_i Ws h1;cases hq:(isNil Ws.gz&&isNil Ws.del&&isNil Ws.new&&isNil Ws.raw) with
       |false=>grind
       |true=>
        simp only [hq,cond_true,Option.some.injEq] at h0;subst h0;simp only [Bool.and_eq_true] at hq;obtain⟨⟨⟨q1,q2⟩,q3⟩,q4⟩:=hq;have q1:=CE q1;have q2:=CE q2;have q3:=CE q3;have q4:=CE q4;have hcc:c:=hc c z!;refine JZ hE hB h1 qY w! (λp hp=>hc p x!) (λa' w' hr=>hK a' w' ?_);obtain⟨A',az,ry⟩:=hr
        have Wt:∀q,(st.put o.dst Ws).h q=st.h q:=by
         intro q;simp only [St.put,xD,q1,q2,q3,al,ay];grind[bH]
        have :∃k,closing st.h k=some (c,u):=by
         grind[xM]
        obtain⟨k,oO⟩:=this;unfold closing at oO;split at oO
        . rename_i e k5 row l i hk;split at oO
          . rename_i e5 ua l5 Dk;cases hqq:(Nat.blt 0 row.length&& !(Nat.beq k5 k)) with
            |false=>grind
            |true=>
             simp only [hqq,L!] at oO;simp only [B!,M?] at hqq;split at oO
             . rename_i y hy;obtain⟨rfl,rfl⟩:=oO;have fh:k5≠k:=λh=>by grind
               refine aw.close ry (k:=k) (k5:=k5) (by rw [Wt];exact hk) (by rw [Wt];exact Dk) fh (N! hqq.1) hcc hy rfl ?_ rfl (λq=>?_)
               . rfl
               . rw [Wt];simp only [St.put,xD,q2,q3,al,ay,xC,q4];by_cases e1:q=k
                 . subst e1;simp [bH]
                 . by_cases e2:q=k5
                   . subst e2;simp [e1,aP e1,bH]
                   . simp only [aP e1,aP e2,O!,J! e1,J! e2];cases st.h q with
                     |none=>rfl
                     |some ab=>simp [bH]
             grind
          grind
        grind
     grind
   . rename_i rv;clear rv;obtain⟨dst,op,type,pos,after,guard⟩:=o;simp only at hd hK h0;split at h0
     . rename_i t p v;obtain⟨w',g1,g2⟩:=Qz hE.fc hB hd (aG hB p) (aG hB v) h0 hc;refine nU (w':=w') ?_ (hK _ _ g2);simp only [execOp,Sem.run_bind,g1,Result.andThen_ok,Sem.run_pure]
     . rename_i t p;exact cW (s:=Instr.loadAt t (a.eval p)) (λw=>by simp [execOp]) (Reads.tY hB hd (K8 hE.fc hB (aG hB p) h0 hc)) hK
     . rename_i t x i;exact cW (s:=Instr.indexAt t (a.eval x) (a.eval i)) (λw=>by simp [execOp]) (Reads.tY hB hd (MU hE.fc hB (aG hB x) (aG hB i) h0 hc)) hK
     . cases h0
 grind[JZ]
def Zw(hE:dq P C E)(hB:aw C A β st a w)(h:act E st o=some out)(qY:fw st o=true)(fp:ju st.h out.new=true)(hc:∀p∈out.cond,p)
  (hK:∀a' w',Rel C (st.put o.dst out) a' w'->K a' w'):o.wp P a w K Q:=by
 unfold act at h;split at h
 . rename_i ajF ho;simp only [A!] at h;subst h;exact Wm hE hB ho qY hc hK
 . split at h
   . rename_i ajF ho;simp only [A!] at h;subst h;exact Wn hE hB ho qY hK
   . split at h
     . rename_i ajF ho;simp only [A!] at h;subst h;exact Wo hE hB ho hK
     . exact Wr hE hB h qY fp hc hK
mutual
def aJ(p:Nat->Bool):AV->AV
 |.own k=>bif p k then .cF else .own k
 |.pre k n=>bif p k then .cF else .pre k n
 |.view k sz off n=>bif p k then .cF else .view k sz off n
 |.ref k off=>bif p k then .cF else .ref k off
 |.elem k sz i j=>bif p k then .cF else .elem k sz i j
 |.agg cs=>.agg (fO p cs)
 |.bf vs=>.bf (fO p vs)
 |.fn f first aW=>.fn f (fO p first) (fO p aW)
 |.iz ks cs=>.iz ks (fO p cs)
 |a=>a
def fO(p:Nat->Bool):M AV->M AV
 |[]=>[]
 |a::as_=>aJ p a::fO p as_
end
def dK(p:Nat->Bool):Option Nat->Option Nat
 |some k=>bif p k then none else some k
 |none=>none
def cu(p:Nat->Bool):AB->AB
 |.cells cs=>.cells (fO p cs)
 |.views e j n m sz=>.views e (dK p j) n m sz
 |.iu e j row l i=>.iu e (dK p j) row l i
 |.fo e (some k) l=>yy (p k) e k l
 |.eF e j xs i=>.eF e (dK p j) xs i
 |b=>b
def ca(p:Nat->Bool):Option AB->Option AB
 |some b=>some (cu p b)
 |none=>none
def KS.has(kb:Nat):KS->Nat->Bool
 |.one j,k=>Nat.beq k j
 |.dst d,k=>Nat.beq k (kb+d) || (Nat.ble (aj2 (kb+d)) k&&Nat.blt k (aj2 (kb+d)+100))
def cN(kb:Nat):M KS->Nat->Bool
 |[],_=>false
 |x::r,k=>x.has kb k || cN kb r k
def EE(ops:M Oper)(j:Nat):Option Nat:=match ops[j]? with
 |some o=>o.dst
 |none=>none
def aMa(ops:M Oper)(i:Nat):Bool:=ops.any λo=>match o.guard with
 |some (j,_)=>Nat.beq j i
 |none=>false
def MV(ops:M Oper)(t:Nat->AV)(o:Oper):Option Bool:=match o.guard with
 |none=>some true
 |some (j,want)=>match EE ops j with
  |none=>none
  |some g=>match t g with
   |.tt=>some want
   |.ff=>some (!want)
   |.undef=>some false
   |_=>none
def eB:M Oper->M Nat
 |[]=>[]
 |o::r=>match o.dst with
  |some d=>d::eB r
  |none=>eB r
def Out.wr(o:Out):M Nat:=o.gz.map (·.1)++(o.del++o.new.map (·.1))
def Out.vq(o:Out):M Nat:=au o.res++(AX o.gz++AX o.new)
def Out.skip:Out:={cond:=[],res:=.undef}
def nq(a b:M Nat):Bool:=a.all λk=>!ay b k
structure Ev where
 i:Nat
 o:Oper
 out:Option Out
 kr:List Nat
 pre:List Nat
def Ev.cq(e:Ev):Out:=match e.out with
 |some out=>out
 |none=>.skip
def sn(st:St)(o:Oper):M Nat:=match o.op with
 |.call _=>qf st.h (aA (o.op.operands.toList.map (ev st)))
 |_=>[]
def hU(h:aQ):M Nat->M Nat
 |[]=>[]
 |k::r=>match h k with
  |some (.iu _ (some j) _ _ _)=>j::hU h r
  |_=>hU h r
def ud(E:Env)(h:aQ)(o:Oper):M Nat:=match o.dst with
 |some d=>match E.cls d with
  |some k=>k::hU h [k]
  |none=>[]
 |none=>[]
def jQ(E:Env)(st:St)(o:Oper):M Nat:=(match o.dst with
 |some d=>st.kb+d
 |none=>st.kb)::(aA (o.op.operands.toList.map (ev st))++(sn st o++(hU st.h (aA (o.op.operands.toList.map (ev st)))++ud E st.h o)))
def slotsOf:M Operand->M Nat
 |[]=>[]
 |.tmp i::r=>i::slotsOf r
 |_::r=>slotsOf r
def looks(ops:M Oper)(o:Oper):M Nat:=(match o.guard with
 |some (j,_)=>match EE ops j with
  |some g=>[g]
  |none=>[]
 |none=>[])++slotsOf o.op.operands.toList
def waits(f e:Ev):Bool:=ay f.pre e.i
def Gq:M Nat->M Nat->M Nat
 |[],b=>b
 |k::r,b=>bif ay b k then Gq r b else Gq r (k::b)
def TG(k:Nat):M Ev->M Nat
 |[]=>[]
 |e::r=>bif Nat.beq e.i k then e.pre else TG k r
def lT(tr:M Ev):M Edge->M Nat
 |[]=>[]
 |x::r=>bif Region.binds .any x then Gq (x.on::TG x.on tr) (lT tr r) else lT tr r
def MW(l:M Nat):Option Nat->Bool
 |some d=>!ay l d
 |none=>true
def th(ops:M Oper)(e f:Ev):Bool:=
 MW (looks ops f.o) e.o.dst&&MW (looks ops e.o) f.o.dst&&
 (match e.o.dst,f.o.dst with
   |some d,some d'=>!Nat.beq d d'
   |_,_=>true)&&
 nq e.cq.wr f.kr&&nq f.cq.wr e.kr&&nq e.cq.wr f.cq.wr&&nq e.cq.vq (f.cq.new.map (·.1))&&nq f.cq.vq (e.cq.new.map (·.1))
def eC:Nat:=49999
def MX:Op:=.move (.const (.map none))
def Ix(f:Ev):Bool:=match f.o.op with
 |.move (.const (.map none))=>(match f.cq.res with
   |.cF=>true
   |_=>false)&&(f.cq.wr.isEmpty&&f.cq.raw.isEmpty)
 |_=>true
def mT(kb:Nat)(dr:Bool)(ops:M Oper)(tr:M Ev)(f:Ev):Bool:=
 bif dr then(tr.all λe=>nq e.cq.vq (f.cq.new.map (·.1))&&(waits f e || th ops e f))&&(f.o.after.toList.all λx=>!Region.binds .any x || Nat.blt x.on f.i)&&
  (f.cq.new.all λx=>cN kb ((eB ops).map .dst) x.1)&&(nq (f.kr++(f.cq.wr++f.cq.vq)) [eC]&&Ix f) else true
def MY:AV->AV
 |.bool b=>bif b then .tt else .ff
 |a=>a
def St.lit(st:St)(d:Nat)(a:AV):St:={st with t:=λi=>bif Nat.beq i d then a else st.t i,cn:=[],news:=[],JJ:=[]}
def St.clear(st:St):St:={st with cn:=[],news:=[],JJ:=[]}
def xO(b:Bool)(W:M Nat)(base s1 s2:St):Option St:=
 match s1.JJ,s2.JJ with
 |[],[]=>some {base with
     t:=λi=>bif ay W i then FW b (s1.t i) (s2.t i) else aJ (cN base.kb (s1.news++s2.news)) (base.t i)
     h:=λk=>bif ay (s1.cn++s2.cn) k then FX b (s1.h k) (s2.h k) else ca (cN base.kb (s1.news++s2.news)) (base.h k)
     cn:=(s1.cn++s2.cn)++base.cn
     news:=base.news++(s1.news++s2.news)}
 |_,_=>none
def LC(b:Bool)(c1 c2:M Prop):M Prop:=match c1,c2 with
 |[],[]=>[]
 |_,_=>[(b=true->JL c1)/\(b=false->JL c2)]
def both(b:Bool)(W:M Nat)(base:St)(r1 r2:Option (M Prop×St)):Option (M Prop×St):=match r1,r2 with
 |some (c1,s1),some (c2,s2)=>match xO b W base s1 s2 with
  |some s=>some (LC b c1 c2,s)
  |none=>none
 |_,_=>none
def CG(c:M Prop):Option (M Prop×St)->Option (M Prop×St)
 |some (c',s)=>some (c++c',s)
 |none=>none
def fork(g:Bool)(W:M Nat)(d:Option Nat)(st:St)(next :St->Option (M Prop×St)):Option (M Prop×St):=match d with
 |some d=>bif g then(match st.t d with
  |.bool b=>both b (d::W) st (next (st.lit d .tt)) (next (st.lit d .ff))
  |_=>next st) else next st
 |none=>next st
def q8(E:Env)(dr:Bool)(ops:M Oper):Nat->M Ev->M Oper->St->Option (M Prop×St)
 |_,_,[],st=>some ([],st)
 |i,tr,o::rest,st=>match MV ops st.t o with
  |none=>none
  |some false=>bif fw st o&&mT st.kb dr ops tr ⟨i,o,none,jQ E st o,lT tr o.after.toList⟩ then
    q8 E dr ops (i+1) (⟨i,o,none,jQ E st o,lT tr o.after.toList⟩::tr) rest (st.put o.dst .skip) else none
  |some true=>match act E st o with
   |none=>none
   |some out=>bif fw st o&&(ju st.h out.new&&mT st.kb dr ops tr ⟨i,o,some out,jQ E st o,lT tr o.after.toList⟩) then
     CG out.cond (fork (aMa ops i) (eB rest) o.dst (st.put o.dst out) (q8 E dr ops (i+1) (⟨i,o,some out,jQ E st o,lT tr o.after.toList⟩::tr) rest)) else none
def St.ahead(st:St)(W:M Nat):St:={st with
 t:=λi=>aJ (cN st.kb (W.map .dst)) (st.t i)
 h:=λk=>ca (cN st.kb (W.map .dst)) (st.h k)
 news:=st.news++W.map .dst}
def TH(d:Nat)(o:Oper):Option (TypeId×Int×Operand):=match o.op,o.dst,o.guard with
 |.insert t (.tmp d') (.const (.int .i64 k)) x,none,none=>bif Nat.beq d' d then some (t,k,x) else none
 |_,_,_=>none
def CH(d:Nat):Operand->Bool
 |.tmp i=>!Nat.beq i d
 |_=>true
def ej(st:St)(t:TypeId)(d:Nat):M Oper->U×M AV×M Oper
 |[]=>([],[],[])
 |o::r=>match TH d o with
  |some (t',k,x)=>bif Nat.beq t' t&&CH d x&&decide (lo .i64<=k/\k<=hi .i64) then(k::(ej st t d r).1,ev st x::(ej st t d r).2.1,(ej st t d r).2.2) else([],[],o::r)
  |none=>([],[],o::r)
def yU(T:b9)(st:St):M Oper->Option (Nat×U×M AV×M Oper)
 |[]=>none
 |o::r=>match o.op,o.dst,o.guard with
  |.makeMap t none,some d,none=>match T.find t with
    |some te=>match te.desc with
     |.map kt _=>bif cU T kt wP&&gT (ej st t d r).1&&Nat.blt d st.n then some (d,ej st t d r) else none
     |_=>none
    |none=>none
  |_,_,_=>none
inductive MR where
 |no
 |mk
 |ins (t:TypeId) (k:Int) (x:Nat)
 |cp (s:Nat)
def role(L:M Nat)(o:Oper):MR:=match o.op with
 |.makeMap _ _=>.mk
 |.insert t (.tmp s) (.const (.int .i64 k)) (.tmp x)=>bif ay L s then .ins t k x else .no
 |.move (.tmp s)|.assign (.tmp s)=>bif ay L s then .cp s else .no
 |_=>.no
def QA(L:M Nat)(o:Oper):Bool:=match role L o with
 |.mk=>true
 |.cp _=>true
 |_=>false
def fK(L:M Nat)(o:Oper):Oper:=match role L o with
 |.no=>o
 |_=>{o with op:=MX}
def aa5:Nat->M Oper->Option (Nat×Nat×TypeId)
 |_,[]=>none
 |i,o::r=>match o.op,o.dst with
  |.makeMap t none,some d=>some (i,d,t)
  |_,_=>aa5 (i+1) r
def Gr:M Nat->M Oper->M Nat
 |L,[]=>L
 |L,o::r=>match role L o,o.dst with
  |.cp _,some e=>Gr (e::L) r
  |_,_=>Gr L r
def eb(L:M Nat):Nat->M Oper->M (Nat×Int×Nat)
 |_,[]=>[]
 |i,o::r=>match role L o with
  |.ins _ k x=>(i,k,x)::eb L (i+1) r
  |_=>eb L (i+1) r
def Gs(o:Oper)(j:Nat):Bool:=o.after.toList.any λx=>Region.binds .any x&&Nat.beq x.on j
def ajG(ops:M Oper)(o:Oper)(x:Nat):Bool:=(List.range ops.length).all λj=>match ops[j]? with
 |some q=>(match q.dst with
  |some e=>!(Nat.beq e x) || Gs o j
  |none=>true)
 |none=>true
def Wu(L:M Nat)(ops:M Oper)(o:Oper)(s:Nat):Bool:=(List.range ops.length).any λj=>match ops[j]? with
 |some q=>Gs o j&&(QA L q&&(match q.dst with
  |some e=>Nat.beq e s
  |none=>false))
 |none=>false
def Iy(L:M Nat)(o:Oper):Bool:=match o.dst with
 |some e=>ay L e
 |none=>false
def aa6(L:M Nat)(ops:M Oper)(i0:Nat)(t:TypeId)(i:Nat)(o:Oper):Bool:=o.guard.isNone&&match role L o with
 |.no=>!(Iy L o)
 |.mk=>Nat.beq i i0&&Iy L o
 |.ins t' k x=>Nat.beq t' t&&decide (lo .i64<=k/\k<=hi .i64)&&(o.dst.isNone&&(Gs o i0&&(ajG ops o x&&(match o.op with
   |.insert _ (.tmp s) _ _=>Wu L ops o s
   |_=>false))))
 |.cp s=>Iy L o&&(Gs o i0&&Wu L ops o s)
def TI(T:b9)(ops:M Oper):Option (Nat×TypeId×M Nat):=match aa5 0 ops with
 |some (i0,d,t)=>match T.find t with
  |some te=>match te.desc with
   |.map kt _=>bif cU T kt wP&&(gT ((eb (Gr [d] ops) 0 ops).map (·.2.1))&&
       (List.range ops.length).all λi=>match ops[i]? with
         |some o=>aa6 (Gr [d] ops) ops i0 t i o
         |none=>true) then some (i0,t,Gr [d] ops) else none
   |_=>none
  |none=>none
 |none=>none
def St.cut(st:St):St:={st with
 t:=λi=>aJ (λk=>Nat.beq k eC) (st.t i)
 h:=λk=>ca (λk=>Nat.beq k eC) (st.h k)
 news:=st.news++[.one eC]}
def St.mapped(st:St)(L:M Nat)(ops:M Oper):St:={st with
 t:=λi=>bif ay (eB (ops.filter (QA L))) i then .iz ((eb L 0 ops).map (·.2.1)) ((eb L 0 ops).map λq=>st.t q.2.2) else st.t i}
def ajH(E:Env)(ops:M Oper)(st:St):Option (M Prop×St):=match TI E.T ops with
 |some (_,_,L)=>bif (st.h eC).isNone then(match q8 E true (ops.map (fK L)) 0 [] (ops.map (fK L)) (st.ahead (eB ops)).cut with
  |some (c,m)=>some (c,m.mapped L ops)
  |none=>none) else none
 |none=>q8 E true ops 0 [] ops (st.ahead (eB ops))
def DQ(E:Env)(dr:Bool)(ops:M Oper)(st:St):Option (M Prop×St):=
 bif dr then ajH E ops st else match yU E.T st ops with
  |some (d,ks,cs,rest)=>q8 E false ops (cs.length+1) [] rest (st.put (some d) {cond:=[],res:=.iz ks cs})
  |none=>q8 E false ops 0 [] ops st
inductive Ex where
 |norm
 |exit (i:Nat)
 |ret
def Ae:Code->M Nat
 |.region _ ops _=>eB ops.toList
 |.seq x y=>Ae x++Ae y
 |.cond _ x y=>Ae x++Ae y
 |.block _ b=>Ae b
 |.loop b|.scope b=>Ae b
 |_=>[]
def lv:Code->Bool
 |.skip=>true
 |.region _ _ _=>true
 |.seq x y=>lv x&&lv y
 |.cond _ x y=>lv x&&lv y
 |.block _ b=>lv b
 |_=>false
def iS(E:Env):Code->St->Option (M Prop×St)
 |.skip,st=>some ([],st)
 |.region _ ops d,st=>DQ E d ops.toList st
 |.seq x y,st=>match iS E x st with
   |some (c,aX)=>CG c (iS E y aX)
   |none=>none
 |.cond c x y,st=>match ev st c with
   |.tt=>iS E x st
   |.ff=>iS E y st
   |.bool b=>both b (Ae x++Ae y) st (iS E x st.clear) (iS E y st.clear)
   |_=>none
 |.block _ b,st=>iS E b st
 |_,_=>none
def A5:M Prop->Prop->Prop
 |[],k=>k
 |p::ps,k=>p/\A5 ps k
inductive Loc where
 |slot (i:Nat)
 |cell (k off:Nat)
structure bq where
 τ:Type
 wX:List (Nat×(τ->AV))
 keys:List (Nat×(τ->AB)):=[]
 Af:List (Loc×Nat):=[]
 drop:List Nat:=[]
 ayp:List (Nat×(τ->AV)):=[]
 inv:τ->Prop
 ag:τ->Nat
def hX {α β:Type}(l:M (Nat×(α->β)))(k:Nat):Option (α->β):=match l with
 |[]=>none
 |(j,a)::r=>bif Nat.beq k j then some a else hX r k
def az8(st:St):Loc->AV
 |.slot i=>st.t i
 |.cell k off=>match st.h k with
   |some (.cells cs)=>cs.getD off .cF
   |_=>.cF
def sources(st:St):M (Loc×Nat)->Option (M (Nat×Option Nat))
 |[]=>some []
 |(l,K)::r=>match az8 st l,sources st r with
  |.own k,some s=>some ((K,some k)::s)
  |.ref k _,some s=>some ((K,some k)::s)
  |.nil,some s=>some ((K,none)::s)
  |_,_=>none
def eR:M (Nat×Option Nat)->M Nat
 |[]=>[]
 |(_,some k)::r=>k::eR r
 |(_,none)::r=>eR r
def cz(s:M (Nat×Option Nat))(k:Nat):Option (Option Nat):=match s with
 |[]=>none
 |(j,a)::r=>bif Nat.beq k j then some a else cz r k
def dg(L:bq)(W:M Nat):M KS:=W.map .dst++(L.Af.map (λx=>.one x.2)++L.drop.map .one)
def mU(L:bq)(W:M Nat)(base:St)(x:L.τ):St:=
 {base with
  t:=λi=>match hX L.wX i with
   |some f=>f x
   |none=>bif ay W i then .cF else aJ (cN base.kb (dg L W)) (base.t i)
  h:=λk=>match hX L.keys k with
   |some f=>some (f x)
   |none=>bif cN base.kb (dg L W) k then none else ca (cN base.kb (dg L W)) (base.h k)
  cn:=[],news:=[],JJ:=[]}
def ue(s:M (Nat×Option Nat))(bad:Nat->Bool)(k K:Nat):Bool:=match cz s K with
 |some (some j)=>Nat.beq k j
 |some none=>false
 |none=>Nat.beq k K&& !bad K
mutual
def MZ(s:M (Nat×Option Nat))(bad:Nat->Bool):AV->AV->M Prop
 |_,.cF=>[]
 |.undef,.undef=>[]
 |.int k n,.int k' m=>if k=k' then [n=m] else [False]
 |.tt,.tt|.ff,.ff=>[]
 |.tt,.bool b=>[true=b]
 |.ff,.bool b=>[false=b]
 |.bool b,.bool c=>[b=c]
 |.str a,.str b=>[a=b]
 |.nil,.nil|.lb,.lb|.mi,.mi=>[]
 |.nil,.sl r l=>[([]:M (Row r))=l]
 |.sl r l,.sl r' l'=>match fG r r' l with
   |some m=>[m=l']
   |none=>[False]
 |.full r l,.sl r' l'=>match fG r r' l with
   |some m=>[m=l']
   |none=>[False]
 |.own k,.own K=>match cz s K with
   |some (some j)=>bif Nat.beq k j then [] else [False]
   |some none=>[False]
   |none=>bif Nat.beq k K&& !(bad K) then [] else [False]
 |.nil,.own K=>match cz s K with
   |some none=>[]
   |_=>[False]
 |.ref k o,.ref k' o'=>bif ue s bad k k' then [o=o'] else [False]
 |.agg xs,.agg ys|.bf xs,.bf ys=>zS s bad xs ys
 |.fn f xs us,.fn f' ys vs=>if f=f' then zS s bad xs ys++zS s bad us vs else [False]
 |.iz ks xs,.iz ks' ys=>if ks=ks' then zS s bad xs ys else [False]
 |.cQ r x j,.cQ r' y j'=>match fG r r' [x] with
   |some m=>[m=[y],j=j']
   |none=>[False]
 |_,_=>[False]
def zS(s:M (Nat×Option Nat))(bad:Nat->Bool):M AV->M AV->M Prop
 |[],[]=>[]
 |x::xs,y::ys=>MZ s bad x y++zS s bad xs ys
 |_,_=>[False]
end
def ayq(s:M (Nat×Option Nat))(bad:Nat->Bool):Option Nat->Option Nat->Bool
 |none,_=>true
 |some j,some j'=>ue s bad j j'
 |_,_=>false
def QB(s:M (Nat×Option Nat))(bad:Nat->Bool):Option AB->AB->M Prop
 |some (.cells xs),.cells ys=>zS s bad xs ys
 |some (.row e r l fr),.row e' r' l' H7=>match fG r r' l with
  |some m=>bif Nat.beq e e'&&(fr==H7) then [m=l'] else [False]
  |none=>[False]
 |some (.arr r l),.arr r' l'=>match fG r r' l with
  |some m=>[m=l']
  |none=>[False]
 |some (.iu e (some j) r l i),.iu e' (some j') r' l' i'=>match fG r r' l with
  |some m=>bif Nat.beq e e'&&ue s bad j j' then [m=l',i=i'] else [False]
  |none=>[False]
 |some (.row e r l false),.views e' _ n m _=>bif Nat.beq e e'&&Nat.beq r.length 1 then [l.length=n,m=0] else [False]
 |some (.views e (some j) n m sz),.views e' (some j') n' m' Zx=>bif Nat.beq e e'&&ue s bad j j' then [n=n',m=m',sz=Zx] else [False]
 |some (.fo e j l),.fo e' j' l'=>bif Nat.beq e e'&&ayq s bad j j' then [l=l'] else [False]
 |some (.eF e (some j) xs i),.eF e' (some j') xs' i'=>bif Nat.beq e e'&&ue s bad j j' then [xs=xs',i=i'] else [False]
 |some (.bc e sz n cs),.bc e' Zx n' fZ=>bif Nat.beq e e'&&(Nat.beq sz Zx&&Nat.beq n n') then zS [] (λ_=>true) cs fZ else [False]
 |_,_=>[False]
def LD {τ:Type}(s:M (Nat×Option Nat))(bad:Nat->Bool)(st:St)(x:τ):M (Nat×(τ->AV))->M Prop
 |[]=>[]
 |(i,f)::r=>MZ s bad (st.t i) (f x)++LD s bad st x r
def TJ {τ:Type}(s:M (Nat×Option Nat))(bad:Nat->Bool)(st:St)(x:τ):M (Nat×(τ->AB))->M Prop
 |[]=>[]
 |(K,f)::r=>(match cz s K with
  |some (some k)=>QB s bad (st.h k) (f x)
  |some none=>match f x with
   |.row _ _ l false=>[[]=l]
   |_=>[False]
  |none=>bif bad K then [False] else QB s bad (st.h K) (f x))++TJ s bad st x r
def CI(L:bq)(W:M Nat)(base st:St)(s:M (Nat×Option Nat)):Bool:=
 kZ (L.Af.map (·.2))&&kZ (eR s)&&
 (L.Af.all λx=>!(rl x.2))&&
 (L.wX.all λx=>ay W x.1)&&
 (L.Af.all λx=>(hX L.keys x.2).isSome)&&
 (L.keys.all λx=>(cz s x.1).isSome || !(cN base.kb (dg L W) x.1))&&
 ((eR s).all λk=>cN base.kb (dg L W) k)&&
 (st.cn.all λk=>(hX L.keys k).isSome || cN base.kb (dg L W) k)
def LF(L:bq)(W:M Nat)(base:St)(news:M KS):Bool:=
 news.all λx=>match x with
  |.one k=>cN base.kb (dg L W) k
  |.dst d=>ay W d
def az9(st:St):AV->AV
 |.own k=>match st.h k with
   |some (.row _ r l _)=>.sl r l
   |_=>.undef
 |v=>v
def ajI {τ:Type}(st:St)(x:τ):M (Nat×(τ->AV))->M Prop
 |[]=>[]
 |(i,f)::r=>MZ [] (λ_=>true) (az9 st (st.t i)) (f x)++ajI st x r
def bq.tied(L:bq)(st:St):bq:=match L.ayp with
 |[]=>L
 |t::ts=>{L with inv:=λx=>L.inv x/\JL (ajI st x (t::ts)),ayp:=[]}
def J0(id:Nat)(K:Ex->St->Prop)(e:Ex)(st:St):Prop:=match e with
 |.exit j=>bif Nat.beq j id then K .norm st else K (.exit j) st
 |e=>K e st
def CJ(L:bq)(W:M Nat)(base st:St)(s:M (Nat×Option Nat))(x:L.τ):M Prop:=
 LD s (cN base.kb (dg L W)) st x L.wX++TJ s (cN base.kb (dg L W)) st x L.keys
def Gt(L:bq)(W:M Nat)(base st:St)(P:L.τ->Prop):Prop:=match sources st L.Af with
 |none=>False
 |some s=>bif CI L W base st s then ∃x,JL (CJ L W base st s x)/\P x else False
def St.back(L:bq)(W:M Nat)(base st:St):St:=
 {st with cn:=st.cn++(L.keys.map (·.1)++base.cn),news:=base.news++(dg L W++st.news)}
def Wv(L:bq)(W:M Nat)(base:St)(x:L.τ)(K:Ex->St->Prop)(e:Ex)(st:St):Prop:=match e with
 |.norm=>bif LF L W base st.news then Gt L W base st λx'=>L.inv x'/\L.ag x'<L.ag x else False
 |e=>K e (St.back L W base st)
def aa7(L:bq)(W:M Nat)(K:Ex->St->Prop)(body:(Ex->St->Prop)->St->Prop)(st:St):Prop:=
 Gt L W st st.clear L.inv/\∀x,L.inv x->body (Wv L W st x K) (mU L W st x)
def ajJ(E:Ex->St->Prop)(next :St->Prop)(e:Ex)(st:St):Prop:=match e with
 |.norm=>next st
 |e=>E e st
def TK(E:Env):Operand->Bool
 |.tmp i=>E.K1 i
 |_=>false
def aa8(E:Env)(c:Operand)(x y:Code)(st:St):Option (M Prop×St):=
 bif !TK E c&&(lv x&&lv y) then iS E (.cond c x y) st else none
def apC:Op->Bool
 |.lookup _ _ _ _=>true
 |_=>false
def aa9(E:Env)(o:Oper):Bool:=match o.op,o.dst with
 |.indexAddr _ _ _,some d=>E.K1 d
 |_,_=>false
def upto:Nat->Nat->U
 |_,0=>[]
 |i,n+1=>(i:Int)::upto (i+1) n
def ixO(st:St):Op->Option (Int×U)
 |.indexAddr _ x i=>match ev st x,ev st i with
   |.own k,.int _ n=>match st.h k with
     |some (.bc _ _ m _)=>some (n,upto 0 m)
     |_=>none
   |_,_=>none
 |_=>none
def ajK(E:Env):M Oper->St->Option (Int×U)
 |[],_=>none
 |o::r,st=>match o.op with
  |.lookup _ m x _=>match ev st m,ev st x with
    |.iz ks _,.int .i64 n=>some (n,ks)
    |_,_=>none
  |_=>match bif aa9 E o then ixO st o.op else none with
  |some r=>some r
  |none=>match act E st o with
   |some out=>ajK E r (st.put o.dst out)
   |none=>none
def aba(E:Env)(st:St)(ops:M Oper):Option (Int×U):=
 bif ops.any λo=>apC o.op || aa9 E o then ajK E ops st else none
def TL(E:Env)(K:Ex->St->Prop)(st:St)(ops:M Oper)(d:Bool):Prop:=match DQ E d ops st with
 |some (c,aX)=>A5 c (K .norm aX)
 |none=>False
def LG(n:Int)(ks:U)(f:Nat->Prop):Nat->U->Prop
 |i,[]=>yC n ks->f i
 |i,k::r=>(n=k->f i)/\LG n ks f (i+1) r
def qU(E:Env)(L:Nat->Option bq):Code->(Ex->St->Prop)->St->Prop
 |.skip,K,st=>K .norm st
 |.region _ ops d,K,st=>match aba E st ops.toList with
   |some (n,ks)=>LG n ks (λi=>TL {E with H6:=i} K st ops.toList d) 0 ks
   |none=>TL E K st ops.toList d
 |.seq x y,K,st=>qU E L x (ajJ K (qU E L y K)) st
 |.cond c x y,K,st=>match aa8 E c x y st with
   |some (cs,aX)=>A5 cs (K .norm aX)
   |none=>match ev st c with
    |.tt=>qU E L x K st
    |.ff=>qU E L y K st
    |.bool b=>(b=true->qU E L x K st)/\(b=false->qU E L y K st)
    |.pW _ l=>(l=[]->qU E L x K st)/\qU E L y K st
    |_=>False
 |.block id (.loop b),K,st=>match L id with
   |some A=>aa7 (A.tied st) (Ae b) (J0 id K) (qU E L b) st
   |none=>False
 |.block id b,K,st=>qU E L b (J0 id K) st
 |.exit i,K,st=>K (.exit i) st
 |.ret,K,st=>K .ret st
 |.scope c,K,st=>qU E L c K st
 |.label _,K,st=>K .norm st
 |_,_,_=>False
def St.init(G:Nat->Option GD)(n:Nat)(bc:M AV):St:={t:=λi=>bc.getD i .undef,h:=λ_=>none,cn:=[],news:=[],JJ:=[],n:=n,kb:=0,g:=G}
def n4(T:b9)(st:St):M ResultVar->Option (M AV)
 |[]=>some []
 |.tmp t::r=>match n4 T st r with
   |some l=>some (st.t t::l)
   |none=>none
 |.cell a ty::r=>match st.t a with
   |.ref k off=>match pY T st.h ty (.ref k off),n4 T st r with
     |some out,some l=>some (out.res::l)
     |_,_=>none
   |_=>none
def hY:M AV->AV
 |[a]=>a
 |as_=>.bf as_
def vN(sz n:Nat)(l:M α):M (M α):=(List.range n).map λi=>(l.drop (i*sz)).take sz
def EF(h:aQ)(r:M Ty)(l:M (Row r))(k:Nat):M Prop×M Nat:=match h k with
 |some (.views _ (some j) n m sz)=>match h j with
  |some (.row _ abb bytes _)=>bif Nat.beq abb.length 1 then(match fG [.slice abb] r (vN sz n bytes) with
   |some g=>([m=n,g=l],[k,j])
   |none=>([False],[])) else([False],[])
  |_=>([False],[])
 |_=>(MZ [] (λ_=>true) (je h (.own k)).1 (.sl r l),(je h (.own k)).2)
mutual
def LH:AV->AV->M (Nat×Option Nat)
 |.own i,.own k=>[(i,some k)]
 |.own i,.nil=>[(i,none)]
 |.ref i _,.ref k _=>[(i,some k)]
 |.fn _ xs us,.fn _ ys vs=>uf xs ys++uf us vs
 |.agg xs,.agg ys|.bf xs,.bf ys=>uf xs ys
 |_,_=>[]
def uf:M AV->M AV->M (Nat×Option Nat)
 |x::xs,y::ys=>LH x y++uf xs ys
 |_,_=>[]
end
mutual
def A6(h:aQ)(s:M (Nat×Option Nat)):AV->AV->M Prop×M Nat
 |.own i,.own k=>(match cz s i with
   |some (some j)=>bif Nat.beq k j then [] else [False]
   |_=>[False],[])
 |.own i,.nil=>(match cz s i with
   |some none=>[]
   |_=>[False],[])
 |.sl r l,.own k=>EF h r l k
 |.agg xs,.agg ys|.bf xs,.bf ys=>ug h s xs ys
 |x,y=>(MZ [] (λ_=>true) (je h y).1 x,(je h y).2)
def ug(h:aQ)(s:M (Nat×Option Nat)):M AV->M AV->M Prop×M Nat
 |[],[]=>([],[])
 |x::xs,y::ys=>((A6 h s x y).1++(ug h s xs ys).1,(A6 h s x y).2++(ug h s xs ys).2)
 |_,_=>([False],[])
end
def M1(h:aQ)(s:M (Nat×Option Nat)):Nat->M AB->M Prop
 |_,[]=>[]
 |i,b::bs=>(match cz s i with
  |some (some k)=>QB s (λ_=>true) (h k) b
  |some none=>match b with
   |.row _ _ l false=>[[]=l]
   |_=>[False]
  |none=>[False])++M1 h s (i+1) bs
def M3(h:aQ)(s:M (Nat×Option Nat)):Nat->M AB->M (Nat×Option Nat)
 |_,[]=>[]
 |i,.views _ (some j) _ _ _::bs=>(match cz s i with
  |some (some k)=>match h k with
   |some (.views _ (some j') _ _ _)=>[(j,some j')]
   |_=>[]
  |_=>[])++M3 h s (i+1) bs
 |i,_::bs=>M3 h s (i+1) bs
def ti(h:aQ)(want r:AV)(bs:M AB):M (Nat×Option Nat):=LH want r++M3 h (LH want r) 0 bs
def Rp(T:b9)(st:St)(rs:M ResultVar)(want:AV)(bs:M AB):Prop:=match n4 T st rs with
 |none=>False
 |some as_=>bif kZ (eR (ti st.h want (hY as_) bs))&&((A6 st.h (ti st.h want (hY as_) bs) want (hY as_)).2.all λk=>!ay (eR (ti st.h want (hY as_) bs)) k)&&iR bs.length bs then
   JL ((A6 st.h (ti st.h want (hY as_) bs) want (hY as_)).1++M1 st.h (ti st.h want (hY as_) bs) 0 bs) else False
def ajL(T:b9)(rs:M ResultVar)(want:AV)(bs:M AB)(e:Ex)(st:St):Prop:=match e with
 |.norm|.ret=>Rp T st rs want bs
 |_=>False
def J1(E:Env)(L:Nat->Option bq)(c:Code)(n:Nat)(rs:M ResultVar)(bc:M AV)(want:AV)(bs:M AB):Prop:=
 bif Nat.ble bc.length n then qU E L c (ajL E.T rs want bs) (St.init E.gP n bc) else False
mutual
theorem oQ(p:Nat->Bool){az:Nat->Value}(bJ:∀k,p k=false->az k=β k):∀(a:AV) (v:Value),aa w A β v a->aa w A az v (aJ p a)
 |.cF,_,hr=>by simp [aJ,aa]
 |.undef,_,hr|.int _ _,_,hr|.bool _,_,hr|.tt,_,hr|.ff,_,hr|.str _,_,hr|.nil,_,hr|.lb,_,hr|.pW _ _,_,hr|.mi,_,hr|.sl _ _,_,hr|.full _ _,_,hr|.cQ _ _ _,_,hr|.qW _ _,_,hr=>by simpa only [aJ,aa] using hr
 |.own k,v,hr=>by
   simp only [aJ];cases hk:p k with
   |true=>simp [aa]
   |false=>simp only [O!];simpa only [aa,bJ k hk] using hr
 |.pre k n,v,hr=>by
   simp only [aJ];cases hk:p k with
   |true=>simp [aa]
   |false=>simp only [O!];simpa only [aa,bJ k hk] using hr
 |.view k sz off n,v,hr=>by
   simp only [aJ];cases hk:p k with
   |true=>simp [aa]
   |false=>simp only [O!];simpa only [aa,bJ k hk] using hr
 |.ref k off,v,hr=>by
   simp only [aJ];cases hk:p k with
   |true=>simp [aa]
   |false=>simp only [O!];simpa only [aa,bJ k hk] using hr
 |.elem k sz i j,v,hr=>by
   simp only [aJ];cases hk:p k with
   |true=>simp [aa]
   |false=>simp only [O!];simpa only [aa,bJ k hk] using hr
 |.agg cs,v,hr=>by
   simp only [aJ,aa] at hr |-;obtain⟨arr,h1,h2⟩:=hr;exact⟨arr,h1,hZ p bJ cs _ h2⟩
 |.iz ks cs,v,hr=>by
   simp only [aJ,aa] at hr |-;obtain⟨b,es,ck,h1,h2,h3,h4,h5⟩:=hr;exact⟨b,es,ck,h1,h2,h3,h4,hZ p bJ cs _ h5⟩
 |.bf cs,v,hr=>by
   simp only [aJ,aa] at hr |-;obtain⟨arr,h1,h2⟩:=hr;exact⟨arr,h1,hZ p bJ cs _ h2⟩
 |.fn f first aW,v,hr=>by
   simp only [aJ,aa] at hr |-;obtain⟨a1,a2,h1,h2,h3⟩:=hr;exact⟨a1,a2,h1,hZ p bJ first _ h2,hZ p bJ aW _ h3⟩
theorem hZ(p:Nat->Bool){az:Nat->Value}(bJ:∀k,p k=false->az k=β k):∀(as_:M AV) (vs:M Value),ae w A β vs as_->ae w A az vs (fO p as_)
 |[],_,hr=>by simpa only [fO,ae] using hr
 |a::as_,vs,hr=>by
  simp only [fO,ae] at hr |-;obtain⟨v,b7,h1,h2,h3⟩:=hr;exact⟨v,b7,h1,oQ p bJ a v h2,hZ p bJ as_ b7 h3⟩
end
def yV(p:Nat->Bool){k:Nat}(h:BR w A β k ab):BR w A β k (cu p ab):=by
 cases ab with
 |cells cs=>
  obtain⟨b,arr,e,h1,h2,h3,h4,h5⟩:=h;exact⟨b,arr,e,h1,h2,h3,hZ p (λ_ _=>rfl) _ _ h4,h5⟩
 |row e row l fr=>exact h
 |arr row l=>exact h
 |bc _ _ _ _=>exact h
 |mp _ _ _=>exact h
 |fvar _ _=>exact h
 |eF e j xs i=>
  obtain⟨ys,h1,h2,h3,h4⟩:=h;refine⟨ys,h1,h2,h3,λj' gn=>h4 j' ?_⟩;cases j with
  |none=>cases gn
  |some j0=>
   simp only [dK] at gn;cases hp:p j0 with
   |true=>rw [hp] at gn;cases gn
   |false=>rw [hp] at gn;exact gn
 |fo e j l=>cases j with
  |none=>exact h
  |some j=>
   simp only [cu];cases hp:p j with
   |true=>
    obtain⟨xs,h1,h2,h3⟩:=h;exact⟨xs,h1,h2,λ_ h=>by cases h⟩
   |false=>exact h
 |iu e j row l i=>
  obtain⟨xs,v0,h1,h2,h3,h4⟩:=h;refine⟨xs,v0,h1,h2,h3,λj' gn=>?_⟩;cases j with
  |none=>simp [dK] at gn
  |some j0=>
   simp only [dK] at gn;cases hp:p j0 with
   |true=>rw [hp] at gn;simp at gn
   |false=>
    rw [hp] at gn;exact h4 j' gn
 |views e j n m sz=>
  obtain⟨xs,h1,h2,h3⟩:=h;refine⟨xs,h1,h2,λj' gn i hi=>?_⟩;cases j with
  |none=>simp [dK] at gn
  |some j0=>
   simp only [dK] at gn;cases hp:p j0 with
   |true=>rw [hp] at gn;simp at gn
   |false=>
    rw [hp] at gn;exact h3 j' gn i hi
mutual
theorem dx(p q:Nat->Bool):∀a,aJ q (aJ p a)=aJ (λk=>p k || q k) a
 |.own k=>by cases hk:p k<;>simp [aJ,hk]
 |.pre k _|.view k _ _ _|.ref k _|.elem k _ _ _=>by cases hk:p k<;>simp [aJ,hk]
 |.agg cs|.bf cs=>by simp [aJ,fP p q cs]
 |.iz _ cs=>by simp [aJ,fP p q cs]
 |.fn f first aW=>by simp [aJ,fP p q first,fP p q aW]
 |.cF|.undef|.int _ _|.bool _|.tt|.ff|.str _|.nil|.lb|.pW _ _|.mi|.sl _ _|.full _ _|.cQ _ _ _|.qW _ _=>by simp [aJ]
theorem fP(p q:Nat->Bool):∀as_,fO q (fO p as_)=fO (λk=>p k || q k) as_
 |[]=>rfl
 |a::as_=>by simp [fO,dx p q a,fP p q as_]
end
def oa(p q:Nat->Bool)(j:Option Nat):dK q (dK p j)=dK (λk=>p k || q k) j:=by
 cases j with
 |none=>rfl
 |some k=>cases hp:p k<;>simp [dK,hp]
theorem jo(p q:Nat->Bool)(b:AB):cu q (cu p b)=cu (λk=>p k || q k) b:=by
 cases b with
 |fo e j l=>cases j with
  |none=>rfl
  |some j=>cases h:p j<;>simp [cu,yy,h,dK]
 |_=>simp [cu,fP,oa]
theorem fQ(p q:Nat->Bool)(b:Option AB):ca q (ca p b)=ca (λk=>p k || q k) b:=by
 cases b<;>simp [ca,jo]
mutual
theorem Rq(d:Nat):∀a,eH d a=aJ (λk=>Nat.beq k d) a
 |.own k=>rfl
 |.pre k _|.view k _ _ _|.ref k _|.elem k _ _ _=>rfl
 |.agg cs|.bf cs=>by simp [eH,aJ,pw d cs]
 |.iz _ cs=>by simp [eH,aJ,pw d cs]
 |.fn f first aW=>by simp [eH,aJ,pw d first,pw d aW]
 |.cF|.undef|.int _ _|.bool _|.tt|.ff|.str _|.nil|.lb|.pW _ _|.mi|.sl _ _|.full _ _|.cQ _ _ _|.qW _ _=>by simp [eH,aJ]
theorem pw(d:Nat):∀as_,gx d as_=fO (λk=>Nat.beq k d) as_
 |[]=>rfl
 |a::as_=>by simp [gx,fO,Rq d a,pw d as_]
end
mutual
theorem tj:∀a,aJ (λ_=>false) a=a
 |.own k=>rfl
 |.pre k _|.view k _ _ _|.ref k _|.elem k _ _ _=>rfl
 |.agg cs|.bf cs=>by simp [aJ,kI cs]
 |.iz _ cs=>by simp [aJ,kI cs]
 |.fn f first aW=>by simp [aJ,kI first,kI aW]
 |.cF|.undef|.int _ _|.bool _|.tt|.ff|.str _|.nil|.lb|.pW _ _|.mi|.sl _ _|.full _ _|.cQ _ _ _|.qW _ _=>by simp [aJ]
theorem kI:∀as_,fO (λ_=>false) as_=as_
 |[]=>rfl
 |a::as_=>by simp [fO,tj a,kI as_]
end
def QC(j:Option Nat):dK (λ_=>false) j=j:=by cases j<;>rfl
def DR(b:AB):cu (λ_=>false) b=b:=by
 cases b with
 |fo e j l=>cases j<;>rfl
 |_=>simp [cu,kI,QC]
def DS(b:Option AB):ca (λ_=>false) b=b:=by cases b<;>simp [ca,DR]
def gK:M (Nat×AB)->Nat->Bool
 |[],_=>false
 |(j,_)::r,k=>Nat.beq k j || gK r k
def rz:∀(new:M (Nat×AB)) (a:AV),nS new a=aJ (gK new) a
 |[],a=>by
   have :gK []=λ_=>false:=rfl;rw [this,tj];rfl
 |(j,b)::r,a=>by
  simp only [nS];rw [rz r,Rq,dx];rfl
theorem vO(new:M (Nat×AB))(b:AB):bH new b=cu (gK new) b:=by
 induction new generalizing b with
 |nil=>
  have :gK []=λ_=>false:=rfl;rw [this,DR];rfl
 |cons x r ih=>
  obtain⟨k0,y⟩:=x;simp only [bH];rw [ih];cases b with
  |cells cs=>simp only [mM,pw,cu,fP];rfl
  |row _ _ _ _|arr _ _|bc _ _ _ _|fvar _ _|mp _ _ _=>rfl
  |fo e j l=>cases j with
   |none=>rfl
   |some j=>cases h:Nat.beq j k0<;>simp [mM,yy,h,cu,dK,gK]
  |eF e j xs i=>
   have :rQ k0 j=dK (λk=>Nat.beq k k0) j:=by cases j<;>rfl
   simp only [mM,this,cu,oa];rfl
  |views e j n m sz=>
   have :rQ k0 j=dK (λk=>Nat.beq k k0) j:=by cases j<;>rfl
   simp only [mM,this,cu,oa];rfl
  |iu e j row l i=>
   have :rQ k0 j=dK (λk=>Nat.beq k k0) j:=by cases j<;>rfl
   simp only [mM,this,cu,oa];rfl
theorem yW:∀(new:M (Nat×AB)) (k:Nat),gK new k=(al new k).isSome
 |[],_=>rfl
 |(j,b)::r,k=>by
  simp only [gK,al,yW r k];cases Nat.beq k j<;>simp
structure fe (W:List Nat) (base s:St):Prop where
 q9:∃p,(∀k,p k=true->cN base.kb s.news k=true)/\(∀i,ay W i=false->s.t i=aJ p (base.t i))/\
  ∀k,ay s.cn k=false->s.h k=ca p (base.h k)
 n:s.n=base.n
 kb:s.kb=base.kb
 cn:∀k,ay base.cn k=true->ay s.cn k=true
 news:∀k,cN base.kb base.news k=true->cN base.kb s.news k=true
 g:s.g=base.g
theorem du:∀(a b:M Nat) (k:Nat),ay (a++b) k=(ay a k || ay b k)
 |[],_,_=>rfl
 |j::a,b,k=>by simp only [e?,ay,du a b k,Bool.or_assoc]
theorem dn(kb:Nat):∀(a b:M KS) (k:Nat),cN kb (a++b) k=(cN kb a k || cN kb b k)
 |[],_,_=>rfl
 |j::a,b,k=>by simp only [e?,cN,dn kb a b k,Bool.or_assoc]
theorem fe.refl(W:M Nat)(s:St):fe W s s:=
 ⟨⟨λ_=>false,z!,λi _=>(tj _).symm,λk _=>(DS _).symm⟩,rfl,rfl,λ_ h=>h,λ_ h=>h,rfl⟩
theorem fe.trans {W W':M Nat}{s0 s1 s2:St}(h1:fe W s0 s1)(h2:fe W' s1 s2):fe (W++W') s0 s2:=by
 obtain⟨p,a1,a2,a3⟩:=h1.q9;obtain⟨q,b1,b2,b3⟩:=h2.q9;refine⟨⟨λk=>p k || q k,λk hk=>?_,λi hi=>?_,λk hk=>?_⟩,h2.n.trans h1.n,h2.kb.trans h1.kb,λk h=>h2.cn k (h1.cn k h),λk h=>?_,h2.g.trans h1.g⟩
 . rcases Z? _ _ |>.mp hk with h|h
   . have:=h2.news k (by rw [h1.kb];exact a1 k h);rwa [h1.kb] at this
   . have:=b1 k h;rwa [h1.kb] at this
 . rw [du,g?] at hi;rw [b2 i hi.2,a2 i hi.1,dx]
 . have K4:ay s1.cn k=false:=by
    cases h:ay s1.cn k with
    |false=>rfl
    |true=>rw [h2.cn k h] at hk;cases hk
   rw [b3 k hk,a3 k K4,fQ]
 . have:=h2.news k (by rw [h1.kb];exact h1.news k h);rwa [h1.kb] at this
theorem fe.mono{s0:St}(h:fe W s0 s1)(hw:∀i,ay W' i=false->ay W i=false):fe W' s0 s1:=by
 obtain⟨p,a1,a2,a3⟩:=h.q9;exact⟨⟨p,a1,λi hi=>a2 i (hw i hi),a3⟩,h.n,h.kb,h.cn,h.news,h.g⟩
def Rr(kb:Nat):∀(new:M (Nat×AB)) (k:Nat),cN kb (new.map λx=>KS.one x.1) k=gK new k
 |[],_=>rfl
 |(j,b)::r,k=>by simp only [G?,cN,gK,KS.has,Rr kb r k]
theorem jB:∀(l:M (Nat×AB)) (k:Nat),ay (l.map (·.1)) k=false->al l k=none
 |[],_,_=>rfl
 |(j,b)::r,k,h=>by
  simp only [G?,ay,g?] at h;simp only [al,h.1,O!];exact jB r k h.2
theorem fe.put(st:St)(d:Option Nat)(out:Out)(W:M Nat)(hd:∀t,d=some t->ay W t=true):fe W st (st.put d out):=by
 refine⟨⟨gK out.new,λk hk=>?_,λi hi=>?_,λk hk=>?_⟩,rfl,rfl,λk hk=>?_,λk hk=>?_,rfl⟩
 . show cN st.kb (st.news++_) k=true;rw [dn,Rr,hk];simp
 . cases d with
   |none=>exact rz _ _
   |some t=>
    show(bif Nat.beq i t then out.res else nS out.new (st.t i))=_;have :Nat.beq i t=false:=aP (λh=>by subst h;rw [hd i rfl] at hi;cases hi);rw [this];exact rz _ _
 . have fj:ay (out.gz.map (·.1)) k=false/\ay out.del k=false/\ay (out.new.map (·.1)) k=false:=by
    simp only [St.put,du,g?] at hk;exact⟨hk.1,hk.2.1,hk.2.2.1⟩
   show xD st.h out k=_;simp only [xD,jB _ _ fj.2.2,fj.2.1,O!,jB _ _ fj.1];cases st.h k with
   |none=>rfl
   |some b=>simp only [ca,vO]
 . simp only [St.put,du,hk,x?]
 . show cN st.kb (st.news++_) k=true;rw [dn,hk];rfl
def Ww(b:Bool){k:Nat}{x y:Option AB}(h:FX b x y=some ab):(if b then x else y).isSome/\
  ∀c,(if b then x else y)=some c->BR w A β k c->BR w A β k ab:=by
 unfold FX at h;split at h
 . rename_i xs ys;cases hl:Nat.beq xs.length ys.length with
   |false=>simp [hl] at h
   |true=>
    simp only [hl,L!,A!] at h;subst h;refine⟨by cases b<;>rfl,λc hc hr=>?_⟩;have sF:c= .cells (if b then xs else ys):=by cases b<;>simp_all
    subst sF;obtain⟨g,arr,e,h1,h2,h3,h4,h5⟩:=hr;refine⟨g,arr,e,h1,h2,h3,kC b xs ys _ (C! hl) ?_,h5⟩;cases b<;>simpa using h4
 . rename_i e r l fr e' r' m H7;split at h
   . rename_i m' hm;cases hq:(Nat.beq e e'&&(fr==H7)) with
     |false=>simp [hq] at h
     |true=>
      simp only [hq,cond_true,Option.some.injEq] at h;subst h;simp only [Bool.and_eq_true,beq_iff_eq] at hq;have he:=Nat.eq_of_beq_eq_true hq.1;have hf:=hq.2;subst he;subst hf;unfold fG at hm;split at hm
      . rename_i hr;have hrr:=Ty.nc _ _ hr;subst hrr;simp only [A!] at hm;subst hm;refine⟨by cases b<;>rfl,λc hc hr=>?_⟩;cases b<;>(simp at hc;subst hc;exact hr)
      . cases hm
   . cases h
 . cases h
theorem aw.merge {b:Bool}{b1 b2 s1 s2:St}{a:Act}(hm:xO b W base s1 s2=some m)
  (f1:fe W b1 s1) (e1:∀i,ay W i=false->b1.t i=base.t i) (g1:b1.h=base.h) (n1:b1.n=base.n) (k1:b1.kb=base.kb)
  (f2:fe W b2 s2) (e2:∀i,ay W i=false->b2.t i=base.t i) (g2:b2.h=base.h) (n2:b2.n=base.n) (k2:b2.kb=base.kb) (hB:aw C A β (if b then s1 else s2) a w) (y1:b1.g=base.g:=by rfl) (y2:b2.g=base.g:=by rfl):aw C A β m a w:=by
 unfold xO at hm;split at hm
 . simp only [A!] at hm;subst hm
   have ht:∀i,ay W i=false->∀v,aa w A β v ((if b then s1 else s2).t i)->aa w A β v (aJ (cN base.kb (s1.news++s2.news)) (base.t i)):=by
    intro i hi v h;have h':=oQ (az:=β) (cN base.kb (s1.news++s2.news)) (λ_ _=>rfl) _ _ h;obtain⟨p1,a1,a2,_⟩:=f1.q9;obtain⟨p2,c1,c2,_⟩:=f2.q9;cases b with
    |true=>
     simp only [Q?,a2 i hi,e1 i hi,dx] at h'
     have :(λk=>p1 k || cN base.kb (s1.news++s2.news) k)=cN base.kb (s1.news++s2.news):=by
      funext k;cases hp:p1 k with
      |false=>rfl
      |true=>rw [dn,<-k1,a1 k hp];rfl
     rwa [this] at h'
    |false=>
     simp only [L?,n?,c2 i hi,e2 i hi,dx] at h'
     have :(λk=>p2 k || cN base.kb (s1.news++s2.news) k)=cN base.kb (s1.news++s2.news):=by
      funext k;cases hp:p2 k with
      |false=>rfl
      |true=>rw [dn,<-k2,c1 k hp];simp
     rwa [this] at h'
   have hh:∀k,ay (s1.cn++s2.cn) k=false->∀ab,ca (cN base.kb (s1.news++s2.news)) (base.h k)=some ab->∃c,(if b then s1 else s2).h k=some c/\(BR w A β k c->BR w A β k ab):=by
    intro k hk ab h;rw [du,g?] at hk;obtain⟨p1,a1,_,a3⟩:=f1.q9;obtain⟨p2,c1,_,c3⟩:=f2.q9;cases hb:base.h k with
    |none=>rw [hb] at h;simp [ca] at h
    |some x=>
     rw [hb] at h;simp only [ca,A!] at h;subst h;cases b with
     |true=>
      refine⟨cu p1 x,by simp only [Q?,a3 k hk.1,g1,hb,ca],λhr=>?_⟩;have h':=yV (cN base.kb (s1.news++s2.news)) hr;rw [jo] at h'
      have :(λk=>p1 k || cN base.kb (s1.news++s2.news) k)=cN base.kb (s1.news++s2.news):=by
       funext k;cases hp:p1 k with
       |false=>rfl
       |true=>rw [dn,<-k1,a1 k hp];rfl
      rwa [this] at h'
     |false=>
      refine⟨cu p2 x,by simp only [L?,n?,c3 k hk.2,g2,hb,ca],λhr=>?_⟩;have h':=yV (cN base.kb (s1.news++s2.news)) hr;rw [jo] at h'
      have :(λk=>p2 k || cN base.kb (s1.news++s2.news) k)=cN base.kb (s1.news++s2.news):=by
       funext k;cases hp:p2 k with
       |false=>rfl
       |true=>rw [dn,<-k2,c1 k hp];simp
      rwa [this] at h'
   have hl:∀k ab,(bif ay (s1.cn++s2.cn) k then FX b (s1.h k) (s2.h k) else ca (cN base.kb (s1.news++s2.news)) (base.h k))=some ab->
     ∃c,(if b then s1 else s2).h k=some c/\(BR w A β k c->BR w A β k ab):=by
    intro k ab h;cases hd:ay (s1.cn++s2.cn) k with
    |false=>rw [hd] at h;exact hh k hd ab h
    |true=>
     rw [hd] at h;simp only [L!] at h;obtain⟨x1,x2⟩:=Ww (w:=w) (A:=A) (β:=β) (k:=k) b h;obtain⟨c,hc⟩:=R!.1 x1;refine⟨c,by cases b<;>simpa using hc,x2 c hc⟩
   have fH:∀k,(bif ay (s1.cn++s2.cn) k then FX b (s1.h k) (s2.h k) else ca (cN base.kb (s1.news++s2.news)) (base.h k)).isSome->((if b then s1 else s2).h k).isSome:=by
    intro k hk;obtain⟨ab,lQ⟩:=R!.1 hk;obtain⟨c,hc,_⟩:=hl k ab lQ;simp [hc]
   refine⟨hB.defers,?_,?_,?_,λk k' b' h1 h2=>hB.apart k k' b' (fH k h1) (fH k' h2),hB.bound,hB.frame,hB.iP,hB.base,λk b' h1=>hB.mO k b' (fH k h1),λi d hd=>hB.pj i d (by
    cases b
    . exact(congrFun (f2.g.trans y2) i).trans hd
    . exact(congrFun (f1.g.trans y1) i).trans hd),hB.laid,hB.held⟩
   . rw [hB.size];cases b
     . exact f2.n.trans n2
     . exact f1.n.trans n1
   . intro i;have hi:=hB.tmps i;show aa w A β _ (bif ay W i then FW b (s1.t i) (s2.t i) else _);cases hW:ay W i with
     |false=>exact ht i hW _ hi
     |true=>
      refine DC b _ _ ?_;cases b<;>simpa using hi
   . intro k ab lQ;obtain⟨c,hc,hr⟩:=hl k ab lQ;exact hr (hB.blocks k c hc)
 . cases hm
theorem fe.merge{s2:St}(hm:xO b W base s1 s2=some m):fe W base m:=by
 unfold xO at hm;split at hm
 . simp only [A!] at hm;subst hm;refine⟨⟨cN base.kb (s1.news++s2.news),λk hk=>?_,λi hi=>?_,λk hk=>?_⟩,rfl,rfl,λk hk=>?_,λk hk=>?_,rfl⟩
   . simp only [dn] at hk |-;simp [hk]
   . simp only [hi,O!]
   . simp only [du,g?] at hk;simp only [du,hk.1.1,hk.1.2,Bool.or_self,O!]
   . simp only [du,hk,x?]
   . simp only [dn,hk,Bool.true_or]
 . cases hm
def iT(s r:St):Prop:=s.t=r.t/\s.h=r.h/\s.n=r.n/\s.kb=r.kb/\s.g=r.g
theorem iT.refl(s:St):iT s s:=⟨rfl,rfl,rfl,rfl,rfl⟩
theorem iT.symm {s r:St}(h:iT s r):iT r s:=⟨h.1.symm,h.2.1.symm,h.2.2.1.symm,h.2.2.2.1.symm,h.2.2.2.2.symm⟩
theorem iT.trans {s r q:St}(h:iT s r)(g:iT r q):iT s q:=⟨h.1.trans g.1,h.2.1.trans g.2.1,h.2.2.1.trans g.2.2.1,h.2.2.2.1.trans g.2.2.2.1,h.2.2.2.2.trans g.2.2.2.2⟩
def jV(g:Bool)(d:Option Nat)(st:St):St:=match d with
 |some d=>bif g then {st with t:=λi=>bif Nat.beq i d then MY (st.t i) else st.t i} else st
 |none=>st
structure kJ (E:Env) (ops:List Oper) (e:Ev) (s s':St):Prop where
 op:ops[e.i]? =some e.o
 dst:fw s e.o=true
 kr:e.kr=jQ E s e.o
 step:match e.out with
  |none=>MV ops s.t e.o=some false
  |some out=>MV ops s.t e.o=some true/\act E s e.o=some out/\ju s.h out.new=true/\∀p∈out.cond,p
 next :iT s' (jV (aMa ops e.i) e.o.dst (s.put e.o.dst e.cq))
def uh(E:Env)(ops:M Oper):M Ev->St->St->Prop
 |[],s,s'=>iT s' s
 |e::es,s,s'=>∃s1,kJ E ops e s s1/\uh E ops es s1 s'
def TM(kb:Nat)(ops:M Oper):M Ev->M Ev->Prop
 |_,[]=>True
 |tr,f::es=>mT kb true ops tr f=true/\f.pre=lT tr f.o.after.toList/\TM kb ops (f::tr) es
theorem aw.seq(hB:aw C A β s a w)(h:iT r s):aw C A β r a w:=by
 obtain⟨h1,h2,h3,h4,h5⟩:=h;refine⟨hB.defers,by rw [h3];exact hB.size,by rw [h1];exact hB.tmps,by rw [h2];exact hB.blocks,by rw [h2];exact hB.apart,hB.bound,hB.frame,hB.iP,hB.base,by rw [h2];exact hB.mO,by rw [h5];exact hB.pj,hB.laid,hB.held⟩
def af8(h:aa w A β v x):aa w A β v (MY x):=by
 cases x with
 |bool b=>grind[MY,aa]
 |_=>exact h
def aw.lit(g:Bool)(d:Option Nat)(hB:aw C A β st a w):aw C A β (jV g d st) a w:=by
 cases d with
 |none=>exact hB
 |some d=>
  cases g with
  |false=>exact hB
  |true=>
   refine⟨hB.defers,hB.size,λi=>?_,hB.blocks,hB.apart,hB.bound,hB.frame,hB.iP,hB.base,hB.mO,hB.pj,hB.laid,hB.held⟩;show aa w A β _ (bif Nat.beq i d then MY (st.t i) else st.t i);cases Nat.beq i d with
   |false=>exact hB.tmps i
   |true=>exact af8 (hB.tmps i)
def iT.jV {s r:St}(h:iT s r)(g:Bool)(d:Option Nat):iT (jV g d s) (jV g d r):=by
 obtain⟨h1,h2,h3,h4⟩:=h;cases d with
 |none=>exact⟨h1,h2,h3,h4⟩
 |some d=>
  cases g with
  |false=>exact⟨h1,h2,h3,h4⟩
  |true=>exact⟨by simp_all[Vg.jV,L!],h2,h3,h4⟩
theorem getD_some {a:Array Value}(h:a.getD i undef=v)(hv:v≠undef):a[i]? =some v:=by
 rw [Array.getD_eq_getD_getElem?] at h;grind
def Rt(hB:aw C A β st a w){x:Bool}(h:MV ops.toList st.t o=some x):Region.wanted o (yielded ops a.tmps)=x:=by
 unfold MV at h;unfold Region.wanted;cases hg:o.guard with
 |none=>grind
 |some jw=>
  obtain⟨j,want⟩:=jw;rw [hg] at h;simp only at h |-;unfold EE at h;cases ho:ops[j]? with
  |none=>grind
  |some oj=>
   simp only [U?,ho] at h;cases hd:oj.dst with
   |none=>grind
   |some g=>
    have ht:=hB.tmps g;cases hv:st.t g with
    |tt=>
     rw [hv] at ht;have:=getD_some ht (by simp [undef])
     simp_all[yielded,Option.bind_some]
    |ff=>
     rw [hv] at ht;have:=getD_some ht (by simp [undef])
     simp_all[yielded,Option.bind_some]
    |undef=>
     rw [hv] at ht;have :yielded ops a.tmps j=none:=by
      simp only [yielded,ho,hd,Option.bind_some];cases hx:a.tmps[g]? with
      |none=>rfl
      |some v=>
       rw [A?,hx] at ht;subst ht;rfl
     grind
    |_=>grind
def aw.ajM(hB:aw C A β st a w)(hd:∀t,d=some t->t<st.n):aw C A β (st.put d .skip) (a.put d undef) w:=
 hB.pure hd (c:=[]) (r:=.undef) (by rfl)
def af9(h:fw st o=true):∀t,o.dst=some t->t<st.n:=by
 intro t ht;simp_all[fw,N!]
variable {e f:Ev}{x:Operand}
theorem qi(hE:dq P C E)(hf:kJ E ops.toList e s s')(hR:Rel C s a w)
  (hK:∀a' w',Rel C s' a' w'->K a' w'):wpOp P ops Q e.i K a w:=by
 obtain⟨A,β,hB⟩:=hR;have ho:ops[e.i]? =some e.o:=by have:=hf.op;grind
 unfold wpOp;simp [ho];have sE:=hf.step;have M4:=hf.next;unfold Ev.cq at M4;cases vG:e.out with
 |none=>
  rw [vG] at sE M4;rw [Rt hB sE];exact hK _ _ ⟨A,β,((hB.ajM (af9 hf.dst)).lit _ _).seq M4⟩
 |some out=>
  rw [vG] at sE M4;obtain⟨h1,h2,h3,h4⟩:=sE;rw [Rt hB h1];refine .inl (Zw hE hB h2 hf.dst h3 h4 λa' w' ga=>?_);obtain⟨A',az,ry⟩:=ga;exact hK _ _ ⟨A',az,(ry.lit _ _).seq M4⟩
def A7(hE:dq P C E){ops:Array Oper}{Q:Exit->Act->World->Prop}:∀(es:M Ev) (s s':St) (a:Act) (w:World),uh E ops.toList es s s'->Rel C s a w->
  (∀a' w',Rel C s' a' w'->Q .normal a' w')->wpOps P ops Q (es.map (·.i)) a w
 |[],s,s',a,w,hx,hR,hQ=>by
   obtain⟨A,β,hB⟩:=hR;exact hQ _ _ ⟨A,β,hB.seq hx⟩
 |e::es,s,s',a,w,hx,hR,hQ=>by
  obtain⟨s1,h1,h2⟩:=hx;exact qi hE h1 hR λa' w' ga=>A7 hE es s1 s' a' w' h2 ga hQ
theorem xP:∀(ps:M Prop),JL ps->∀p∈ps,p
 |[],_,p,hp=>by grind
 |[q],h,p,hp=>by
   rcases P!.1 hp with rfl|hp
   . exact h
   grind
 |q::r::rs,h,p,hp=>by
  rcases P!.1 hp with rfl|hp
  . exact h.1
  . exact xP (r::rs) h.2 p hp
def CK{r1 r2:Option (M Prop×St)}(h:both b W base r1 r2=some (cs,m)):
  ∃c1 s1 c2 s2,r1=some (c1,s1)/\r2=some (c2,s2)/\xO b W base s1 s2=some m/\cs=LC b c1 c2:=by
 unfold both at h;grind
def J2{c1 c2:M Prop}(h:∀p∈LC b c1 c2,p):(b=true->∀p∈c1,p)/\(b=false->∀p∈c2,p):=by
 unfold LC at h;grind[List.mem_cons_self,xP]
def oR {c:M Prop}{r:Option (M Prop×St)}(h:CG c r=some (cs,m)):∃c',r=some (c',m)/\cs=c++c':=by
 unfold CG at h;grind
def Wx {d:Nat}(hv:st.t d= .bool b):iT (st.lit d (bif b then .tt else .ff)) (jV true (some d) st):=by
 refine⟨?_,rfl,rfl,rfl,rfl⟩;funext i;simp [St.lit,jV,L!];by_cases hi:i=d
 . simp_all[hi,cT,L!,MY]
 simp_all[aP,hi,O!]
theorem Wy {d:Nat}(hv:∀b,st.t d≠ .bool b):iT st (jV true (some d) st):=by
 refine⟨?_,rfl,rfl,rfl,rfl⟩;funext i;simp [jV,L!];by_cases hi:i=d
 . subst hi;simp;cases hx:st.t i with
   |bool b=>grind
   |_=>rfl
 simp_all[aP,hi,O!]
def Zy{W:M Nat}{cs:M Prop}{m:St}(h:fork g W d st next=some (cs,m))
  (hF:∀s0 c s,next s0=some (c,s)->fe W s0 s) (hW:∀i,ay W' i=false->ay W i=false) (ht:∀t,d=some t->ay W' t=true):fe W' st m:=by
 unfold fork at h;cases d with
 |none=>exact(hF _ _ _ h).mono hW
 |some d=>
  simp at h;cases g with
  |false=>exact(hF _ _ _ h).mono hW
  |true=>
   split at h
   . obtain⟨c1,s1,c2,s2,r1,r2,hm,rfl⟩:=CK h;refine(fe.merge hm).mono λi hi=>?_;grind[ay,Bool.or_eq_false_iff,aP]
   . exact(hF _ _ _ h).mono hW
def Ru{cs:M Prop}{m:St}(h:fork g W d st next=some (cs,m))(dX:∀p∈cs,p)
  (hF:∀s0 c s,next s0=some (c,s)->fe W s0 s):
  ∃s0 c s,iT s0 (jV g d st)/\next s0=some (c,s)/\(∀p∈c,p)/\(∀(C:Ctx) A β a w,aw C A β s a w->aw C A β m a w):=by
 unfold fork at h;cases d with
 |none=>exact⟨st,cs,m,iT.refl _,h,dX,λ_ _ _ _ _ hB=>hB⟩
 |some d=>
  simp at h;cases g with
  |false=>exact⟨st,cs,m,iT.refl _,h,dX,λ_ _ _ _ _ hB=>hB⟩
  |true=>
   split at h
   . rename_i b hv;obtain⟨c1,s1,c2,s2,r1,r2,hm,rfl⟩:=CK h;have hc:=J2 dX
     have e:∀x,∀i,ay (d::W) i=false->(st.lit d x).t i=st.t i:=by
      intro x i hi;simp [ay,g?] at hi;simp [St.lit,hi.1,O!]
     refine⟨st.lit d (bif b then .tt else .ff),if b then c1 else c2,if b then s1 else s2,Wx hv,?_,?_,λC A β a w hB=>?_⟩
     . cases b
       . exact r2
       . exact r1
     . cases b
       . exact hc.2 rfl
       . exact hc.1 rfl
     . have f1:=hF _ _ _ r1;have f2:=hF _ _ _ r2
       exact hB.merge hm (f1.mono λi hi=>by simp [ay,g?] at hi;exact hi.2) (e _) rfl rfl rfl
        (f2.mono λi hi=>by simp [ay,g?] at hi;exact hi.2) (e _) rfl rfl rfl
   grind[Wy]
def Iz:∀t,o.dst=some t->ay (eB (o::rest)) t=true:=by
 simp_all[eB,ay,cT,Bool.true_or]
def EG:∀i,ay (eB (o::rest)) i=false->ay (eB rest) i=false:=by
 grind[hi,eB,ay,Bool.or_eq_false_iff]
theorem nr {dr:Bool}{ops:M Oper}:∀(rest:M Oper) (i:Nat) (tr:M Ev) (st:St) (cs:M Prop) (m:St),q8 E dr ops i tr rest st=some (cs,m)->fe (eB rest) st m
 |[],i,tr,st,cs,m,h=>by
   grind[q8,Option.some.injEq,Prod.mk.injEq,fe.refl]
 |o::rest,i,tr,st,cs,m,h=>by
  have ajN:∀W i,ay W i=false->ay (W++W) i=false:=λW i hi=>by grind[du]
  simp [q8] at h;split at h
  . cases h
  . cases hq:(fw st o&&mT st.kb dr ops tr ⟨i,o,none,jQ E st o,lT tr o.after.toList⟩) with
    |false=>grind
    |true=>
     simp [hq,L!] at h;have:=nr rest _ _ _ _ _ h;exact((fe.put st o.dst .skip _ Iz).trans (this.mono EG)).mono (ajN _)
  . split at h
    . cases h
    . rename_i out np;cases hq:(fw st o&&(ju st.h out.new&&mT st.kb dr ops tr ⟨i,o,some out,jQ E st o,lT tr o.after.toList⟩)) with
      |false=>grind
      |true=>
       simp [hq,L!] at h;obtain⟨c',h',_⟩:=oR h;have:=Zy h' (λs0 c s hn=>nr rest _ _ _ _ _ hn) EG Iz;exact((fe.put st o.dst out _ Iz).trans this).mono (ajN _)
theorem Gu:iT (jV g d (st.put d .skip)) (st.put d .skip):=by
 cases d with
 |none=>exact iT.refl _
 |some d=>
  cases g with
  |false=>exact iT.refl _
  |true=>
   refine⟨?_,rfl,rfl,rfl,rfl⟩;funext i;simp [jV,L!,St.put,Out.skip];by_cases hi:i=d
   . simp_all[hi,cT,L!,MY]
   simp_all[aP,hi,O!]
theorem M5{ops:M Oper}{tr:M Ev}(h:mT kb dr ops tr f=true)(hd:dr=true):mT kb true ops tr f=true:=by grind
def ui {dr:Bool}{ops:M Oper}:∀(rest:M Oper) (i:Nat) (tr:M Ev) (st:St) (cs:M Prop) (m:St),q8 E dr ops i tr rest st=some (cs,m)->(∀p∈cs,p)->
  (∀k,rest[k]? =ops[i+k]?)->
  ∃es sl,uh E ops es st sl/\es.map (·.i)=List.range' i rest.length/\(dr=true->TM st.kb ops tr es)/\∀(C:Ctx) A β a w,aw C A β sl a w->aw C A β m a w
 |[],i,tr,st,cs,m,h,dX,hl=>by
   simp [q8,Option.some.injEq,Prod.mk.injEq] at h;exact⟨[],st,iT.refl _,rfl,λ_=>trivial,λ_ _ _ _ _ hB=>by grind⟩
 |o::rest,i,tr,st,cs,m,h,dX,hl=>by
  have h0:ops[i]? =some o:=by simpa using(hl 0).symm
  have lp:∀k,rest[k]? =ops[i+1+k]? :=λk=>by have:=hl (k+1);grind
  simp [q8] at h;split at h
  . cases h
  . rename_i hg;cases hq:(fw st o&&mT st.kb dr ops tr ⟨i,o,none,jQ E st o,lT tr o.after.toList⟩) with
    |false=>grind
    |true=>
     simp [hq,cond_true] at h;rw [Bool.and_eq_true] at hq;obtain⟨es,sl,h1,h2,h3,h4⟩:=ui rest _ _ _ _ _ h dX lp;refine⟨⟨i,o,none,jQ E st o,lT tr o.after.toList⟩::es,sl,⟨st.put o.dst .skip,⟨h0,hq.1,rfl,hg,Gu.symm⟩,h1⟩,?_,λhd=>⟨M5 hq.2 hd,rfl,h3 hd⟩,h4⟩;grind[List.length_cons,List.range'_succ]
  . rename_i hg;split at h
    . cases h
    . rename_i out np;cases hq:(fw st o&&(ju st.h out.new&&mT st.kb dr ops tr ⟨i,o,some out,jQ E st o,lT tr o.after.toList⟩)) with
      |false=>grind
      |true=>
       simp [hq,L!] at h;rw [B!,B!] at hq;obtain⟨c',h',rfl⟩:=oR h;obtain⟨s0,c,s,e1,e2,e3,e4⟩:=Ru h' (λp hp=>dX p (Y! _ hp)) (λs0 c s hn=>nr rest _ _ _ _ _ hn);obtain⟨es,sl,h1,h2,h3,h4⟩:=ui rest _ _ _ _ _ e2 e3 lp;refine⟨⟨i,o,some out,jQ E st o,lT tr o.after.toList⟩::es,sl,⟨s0,⟨h0,hq.1,rfl,⟨hg,np,hq.2.1,λp hp=>dX p (T! _ hp)⟩,e1⟩,h1⟩,?_,λhd=>⟨M5 hq.2.2 hd,rfl,by have:=h3 hd;rw [show s0.kb=st.kb from e1.2.2.2.1.trans (by cases o.dst<;>cases aMa ops i<;>rfl)] at this;exact this⟩,λC A β a w hB=>e4 _ _ _ _ _ (h4 _ _ _ _ _ hB)⟩;rw [G?,h2,O?,List.range'_succ]
def A8{i:Nat}{rest:M Nat}{o:Oper}(h:ops[i]? =some o)(hg:o.guard=none)(hw:o.wp P a w (wpOps P ops Q rest) Q):wpOps P ops Q (i::rest) a w:=by
 simp_all[wpOps,M!,Region.wanted]
structure abc (w w':World) (es:Array MapEntry) (ck:Nat):Prop where
 os:w'.os=w.os
 tape:w'.tape=w.tape
 output:w'.output=w.output
 size:w'.heap.size=w.heap.size+1
 same:∀b,b<w.heap.size->w'.heap[b]? =w.heap[b]?
 there:w'.heap[w.heap.size]? =some (.map es ck)
variable {d:Nat}
def Zz{k:Int}(h:TH d o=some (t,k,x)):o.op= .insert t (.tmp d) (.const (.int .i64 k)) x/\o.dst=none/\o.guard=none:=by
 unfold TH at h;split at h
 . rename_i t' d' k' x' h1 h2 h3;cases hb:Nat.beq d' d with
   |false=>grind
   |true=>
    simp_all
 grind
theorem Gv(st:St)(t d:Nat):∀r,(ej st t d r).2.2=r.drop (ej st t d r).1.length/\(ej st t d r).1.length<=r.length
 |[]=>⟨rfl,S! _⟩
 |o::r=>by
  simp [ej];split
  . rename_i t' k x hx;cases hb:(Nat.beq t' t&&CH d x&&decide (lo .i64<=k/\k<=hi .i64)) with
    |false=>grind
    |true=>
     simp_all[Gv,L!,O?,List.drop_succ_cons]
  grind
theorem J3(st:St)(t d:Nat):∀r,(ej st t d r).2.1.length=(ej st t d r).1.length
 |[]=>rfl
 |o::r=>by
  simp only [ej];split
  . rename_i t' k x hx;cases hb:(Nat.beq t' t&&CH d x&&decide (lo .i64<=k/\k<=hi .i64)) with
    |false=>rfl
    |true=>simp_all[L!,O?,J3]
  . rfl
theorem vQ {T:b9}{ops:M Oper}(h:yU T st ops=some (d,ks,vs,rest)):
  ∃o r t te kt et,ops=o::r/\o.op= .makeMap t none/\o.dst=some d/\o.guard=none/\T.find t=some te/\te.desc= .map kt et/\cU T kt wP=true/\gT ks=true/\d<st.n/\ej st t d r=(ks,vs,rest):=by
 cases ops with
 |nil=>grind[yU]
 |cons o r=>
  simp [yU] at h;split at h
  . rename_i t d' h1 h2 h3;split at h
    . rename_i te jv;split at h
      . rename_i kt et hd;cases hb:(cU T kt wP&&gT (ej st t d' r).1&&Nat.blt d' st.n) with
        |false=>grind
        |true=>
         rw [hb] at h;simp at h;obtain⟨rfl,h⟩:=h;simp only [Bool.and_eq_true] at hb;exact⟨o,r,t,te,kt,et,rfl,h1,h2,h3,jv,hd,hb.1.1,x!,Nat.le_of_ble_eq_true hb.2,h⟩
      grind
    grind
  grind
def Gw {T:b9}{ops:M Oper}(h:yU T st ops=some (d,ks,vs,rest)):rest=ops.drop (ks.length+1):=by
 grind[vQ,Gv]
def Wz {T:b9}{ops:M Oper}(h:yU T st ops=some (d,ks,vs,rest)):vs.length=ks.length:=by
 grind[vQ,J3]
def J4 {k:Int}:∀ {l:U},gT (l++[k])=true->k∉l
 |[],_=>by simp
 |j::l,h=>by
  simp [e?,gT,B!,M?] at h;have h1:=J4 h.2;rintro(_|q)
  . have :Mk k (l++[k])=true:=(tJ _ _).2 z!;rw [this] at h;cases h.1
  . exact h1 (by assumption)
def M6:∀ {l m:U},gT (l++m)=true->gT l=true
 |[],_,_=>rfl
 |j::l,m,h=>by
  simp [e?,gT,B!,M?] at h |-;refine⟨?_,M6 h.2⟩;cases q:Mk j l with
  |false=>rfl
  |true=>rw [(tJ _ _).2 (T! _ ((tJ _ _).1 q))] at h;cases h.1
theorem Gx:∀(as_:M AV) (vs:M Value) (x:AV) (v:Value),ae w A β vs as_->aa w A β v x->ae w A β (vs++[v]) (as_++[x])
 |[],vs,x,v,h,hx=>by
   grind[ae]
 |a::as_,vs,x,v,h,hx=>by
  obtain⟨u,b7,rfl,h1,h2⟩:=h;exact⟨u,b7++[v],rfl,h1,Gx as_ b7 x v h2 hx⟩
def aga(h:CH d x=true):(a.put (some d) v).eval x=a.eval x:=by
 cases x with
 |tmp i=>
  simp [CH,Bool.not_eq_true'] at h;have :i≠d:=by grind[cT]
  simp only [Act.eval,Act.put];rw [Array.getD_eq_getD_getElem?,Array.getD_eq_getD_getElem?,Array.getElem?_setIfInBounds];grind
 |_=>rfl
def WA {T:b9}(hT:bA T P)(hB:aw C A β st a w){ops:Array Oper}{Q:Exit->Act->World->Prop}{d t kt et:Nat}(hd:d<st.n)(ht:P.underlying t=some (.map kt et))(xH:P.underlying kt=some (.int .i64)):
  ∀(r:M Oper) (i:Nat) (es:Array MapEntry) (ck:Nat) (w':World) (k0:U) (c0:M AV),(∀k,r[k]? =ops[i+k]?)->abc w w' es ck->es.toList.map (·.key)=k0.map (Value.int .i64)->ae w A β (es.toList.map (·.val)) c0->
   gT (k0++(ej st t d r).1)=true->
   (∀Qk ZA ck',abc w Qk ZA ck'->ZA.toList.map (·.key)=(k0++(ej st t d r).1).map (Value.int .i64)->ae w A β (ZA.toList.map (·.val)) (c0++(ej st t d r).2.1)->
     wpOps P ops Q (List.range' (i+(ej st t d r).1.length) (ej st t d r).2.2.length) (a.put (some d) (.map (some w.heap.size))) Qk)->
   wpOps P ops Q (List.range' i r.length) (a.put (some d) (.map (some w.heap.size))) w'
 |[],i,es,ck,w',k0,c0,_,hm,hk,hv,_,hK=>by
   grind[ej]
 |o::r,i,es,ck,w',k0,c0,hl,hm,hk,hv,hn,hK=>by
  have stop:ej st t d (o::r)=([],[],o::r)->wpOps P ops Q (List.range' i (o::r).length) (a.put (some d) (.map (some w.heap.size))) w':=by
   grind
  cases ho:TH d o with
  |none=>grind[ej]
  |some p=>
   obtain⟨t',k,x⟩:=p;cases hb:(Nat.beq t' t&&CH d x&&decide (lo .i64<=k/\k<=hi .i64)) with
   |false=>exact stop (by simp only [ej,ho,hb,O!])
   |true=>
    have e:ej st t d (o::r)=(k::(ej st t d r).1,ev st x::(ej st t d r).2.1,(ej st t d r).2.2):=by simp_all[ej,L!]
    obtain⟨o1,o2,o3⟩:=Zz ho;simp only [B!] at hb;have htt:=C! hb.1.1;subst htt;rw [e] at hn hK;simp only at hn hK;have h0:ops[i]? =some o:=by simpa using(hl 0).symm
    have lp:∀k,r[k]? =ops[i+1+k]? :=λk=>by have:=hl (k+1);grind
    have MO:k∉k0:=J4 (M6 (m:=(ej st t' d r).1) x!);have hx:=aG hB x;have dQ:d<a.tmps.size:=by rw [hB.size];omega
    have hem:(a.put (some d) (.map (some w.heap.size))).eval (.tmp d)= .map (some w.heap.size):=by
     simp_all[Act.eval,Act.put]
    have gf:(Instr.mapUpdate t' (.map (some w.heap.size)) (.int .i64 k) (a.eval x)).run P w'= .ok () {w' with heap:=w'.heap.setIfInBounds w.heap.size (.map (es.push {key:=.int .i64 k,val:=a.eval x,born:=ck}) (ck+1))}:=by
     have hc:(Instr.checkKey false 10000 kt (.int .i64 k)).run P w'= .ok () w':=MapKept.run_checkKey xH (by rfl) false 9999;simp [Instr.mapUpdate,run_underlying ht,MapKept.run_getObj_map hm.there,hc,MapKept.run_findKey xH (rW k es.toList k0 0 hk MO),MapKept.run_setObj_map _ hm.there,Result.andThen]
    have Wt:∀(v:Value) (b:Act),b.put none v=b:=λ_ _=>rfl;refine(A8 h0 o3 ?_);refine nU (w':={w' with heap:=w'.heap.setIfInBounds w.heap.size (.map (es.push {key:=.int .i64 k,val:=a.eval x,born:=ck}) (ck+1))}) ?_ ?_
    . simp only [execOp,o1,hem,aga hb.1.2];have :(a.put (some d) (.map (some w.heap.size))).eval (.const (.int .i64 k))= .int .i64 k:=rfl;simp_all
    . rw [o2,Wt];refine WA hT hB hd ht xH r (i+1) (es.push {key:=.int .i64 k,val:=a.eval x,born:=ck}) (ck+1) _ (k0++[k]) (c0++[ev st x]) lp ⟨hm.os,hm.tape,hm.output,?_,?_,?_⟩ ?_ ?_ x! ?_
      . simp [hm.size]
      . intro b fb;rw [(MapKept.heap_set hm.there).2 b w!];exact hm.same b fb
      . exact(MapKept.heap_set hm.there).1
      . grind
      . grind[Array.toList_push,Gx]
      grind
def WB {T:b9}(hT:bA T P){rest:M Oper}{d:Nat}{ks:U}{vs:M AV}(h:yU T st ops.toList=some (d,ks,vs,rest))(hR:Rel C st a w)
  (hK:∀a' w',Rel C (st.put (some d) {cond:=[],res:=.iz ks vs}) a' w'->wpOps P ops Q (List.range' (ks.length+1) rest.length) a' w'):wpOps P ops Q (List.range' 0 ops.toList.length) a w:=by
 obtain⟨A,β,hB⟩:=hR;obtain⟨o,r,t,te,kt,et,ho,o1,o2,o3,jv,hd,K4,hk2,hdn,hi⟩:=vQ h;obtain⟨hu,_⟩:=hT.ok t te jv;rw [hd] at hu
 have xH:P.underlying kt=some (.int .i64):=by
  unfold cU at K4;split at K4
  . rename_i tk AF;obtain⟨hku,_⟩:=hT.ok kt tk AF;grind[wP]
  grind
 have h0:ops[0]? =some o:=by rw [<-U?,ho];rfl
 have lp:∀k,r[k]? =ops[0+1+k]? :=λk=>by
  rw [<-U?,ho,show 0+1+k=k+1 by omega];rfl
 rw [ho,O?,List.range'_succ];refine A8 h0 o3 ?_;refine bB (v:=.map (some w.heap.size)) (w':=w.alloc (.map #[] 0)) ?_ ?_
 . simp [execOp,o1,Instr.makeMap]
 . rw [o2];have hn:gT ([]++(ej st t d r).1)=true:=by grind
   refine WA hT hB hdn hu xH r (0+1) #[] 0 _ [] [] lp ⟨rfl,rfl,rfl,z!,λb hb=>jz _ b hb,heap_alloc_new w _⟩ rfl (by rfl) hn ?_;intro Qk es ck m1 m2 m3;rw [hi] at m2 m3 |-;have e:0+1+ks.length=ks.length+1:=by omega
   simp only [e];refine hK _ _ ⟨λb=>A b\/b=w.heap.size,β,?_⟩;have Ad:cg w Qk A (λb=>A b\/b=w.heap.size):=λb hb=>⟨.inl hb,m1.same b (hB.bound b hb)⟩
   refine hB.step (out:={cond:=[],res:=.iz ks vs}) (λt ht=>by grind) (λk b hk=>by grind[al]) (λk b hk=>by grind[al]) (λ_ _=>rfl) Ad m1.os m1.tape m1.output (by rw [m1.size];omega)
    (λb hb _=>m1.same b hb) (λb hb=>?_) (λb hb=>?_) (λk ab hk=>by grind[al]) (λk ab hk=>by grind[al]) (λk b ab hk=>by grind[al]) (λk k' b hk=>by grind[al]) ?_
   . rw [m1.size];rcases hb with hb|hb
     . have:=hB.bound b hb;omega
     omega
   . grind
   . exact⟨w.heap.size,es,ck,rfl,.inr rfl,⟨es,m1.there,.refl _⟩,m2,cJ Ad _ _ m3⟩
theorem TN(hE:dq P C E){id:Nat}{cs:M Prop}{m:St}(h:DQ E false ops.toList st=some (cs,m))(dX:∀p∈cs,p)
  (hR:Rel C st a w) (hQ:∀a' w',Rel C m a' w'->Q .normal a' w'):(Code.region id ops false).wp P Q a w:=by
 simp [DQ,O!] at h;split at h
 . rename_i d ks vs rest hp;refine wp_region ?_;have hl:=Gw hp;rw [Wz hp] at h
   have:=WB (Q:=Q) hE.fc hp hR λa' w' ga=>by
    obtain⟨es,sl,h1,h2,_,h4⟩:=ui rest (ks.length+1) [] _ cs m h dX (λk=>by grind);have:=A7 (Q:=Q) hE es _ sl a' w' h1 ga (λa'' Qk ⟨A,β,hB⟩=>hQ _ _ ⟨A,β,h4 _ _ _ _ _ hB⟩);grind
   grind[Array.length_toList,List.range_eq_range']
 obtain⟨es,sl,h1,h2,_,h4⟩:=ui ops.toList 0 [] st cs m h dX (λk=>by simp);refine wp_region ?_;have:=A7 (Q:=Q) hE es st sl a w h1 hR (λa' w' ⟨A,β,hB⟩=>hQ _ _ ⟨A,β,h4 _ _ _ _ _ hB⟩);grind[Array.length_toList,List.range_eq_range']
theorem fe.ahead(st:St)(W:M Nat):fe W st (st.ahead W):=by
 refine⟨⟨cN st.kb (W.map .dst),λk hk=>?_,λi _=>rfl,λk _=>rfl⟩,rfl,rfl,λk h=>h,λk h=>?_,rfl⟩
 . simp_all[St.ahead,dn,x?]
 simp_all[St.ahead,dn,Bool.true_or]
theorem CL {L:M Nat}:∀(ops:M Oper),eB (ops.map (fK L))=eB ops
 |[]=>rfl
 |o::r=>by
  have :(fK L o).dst=o.dst:=by unfold fK;split<;>rfl
  simp only [G?,eB,this,CL r]
def Rv {p:Oper->Bool}{i:Nat}:∀(ops:M Oper),ay (eB ops) i=false->ay (eB (ops.filter p)) i=false
 |[],h=>h
 |o::r,h=>by
  have h2:=Rv (p:=p) r (EG i h);rw [List.filter_cons];split
  . unfold eB at h |-;split<;>grind[ay]
  . exact h2
theorem fe.cut(st:St)(W:M Nat):fe W st st.cut:=
 ⟨⟨λk=>Nat.beq k eC,λk hk=>by simp only [St.cut,dn,cN,KS.has,hk,x?,Bool.true_or],λ_ _=>rfl,λ_ _=>rfl⟩,rfl,rfl,λ_ h=>h,λk h=>by simp only [St.cut,dn,h,Bool.true_or],rfl⟩
theorem fe.mapped {st m:St}{L:M Nat}{ops:M Oper}(h:fe (eB ops) st m):fe (eB ops) st (m.mapped L ops):=by
 obtain⟨p,h1,h2,h3⟩:=h.q9;refine⟨⟨p,h1,λi hi=>?_,h3⟩,h.n,h.kb,h.cn,h.news,h.g⟩;simp only [St.mapped,Rv ops hi,O!];exact h2 i hi
variable {ops:List Oper}{ks:List Nat}{d:Option Nat}
def M7(h:DQ E dr ops st=some (cs,m)):fe (eB ops) st m:=by
 unfold DQ at h;cases dr with
 |false=>
  split at h
  . rename_i d ks vs rest hp;obtain⟨o,r,t,te,kt,et,rfl,_,h2,_,_,_,_,_,_,hi⟩:=vQ hp;have hdr:=Gw hp;have h1:fe [d] st (st.put (some d) {cond:=[],res:=.iz ks vs}):=fe.put st (some d) _ [d] (λt ht=>by grind[ay,cT]);refine(h1.trans (nr _ _ _ _ _ _ h)).mono λi fN=>?_
    have Re:∀(l:M Oper) (n:Nat),ay (eB l) i=false->ay (eB (l.drop n)) i=false:=by
     intro l;induction l with
     |nil=>grind
     |cons q l ih=>
      intro n hh;cases n with
      |zero=>grind
      |succ n=>
       grind[eB,ay,Bool.or_eq_false_iff]
    grind[eB,ay,Bool.or_eq_false_iff,List.singleton_append]
  grind[nr]
 |true=>
  simp only [L!,ajH] at h;split at h
  . rename_i i0 t L hp;cases hn:(st.h eC).isNone with
    |false=>rw [hn] at h;cases h
    |true=>
    rw [hn] at h;simp only [L!] at h;split at h
    . rename_i c q hq;simp only [Option.some.injEq,Prod.mk.injEq] at h;obtain⟨_,rfl⟩:=h;have h1:=((fe.ahead st (eB ops)).trans (fe.cut _ (eB ops))).trans (nr _ _ _ _ _ _ hq);rw [CL] at h1;exact(h1.mono λi hi=>by grind[du]).mapped
    . cases h
  . exact((fe.ahead st _).trans (nr _ _ _ _ _ _ h)).mono (λi hi=>by grind[du])
theorem aw.ahead(hB:aw C A β st a w)(W:M Nat):aw C A β (st.ahead W) a w:=by
 have hl:∀k ab,(st.ahead W).h k=some ab->∃c,st.h k=some c/\ab=cu (cN st.kb (W.map .dst)) c:=by
  intro k ab h;simp [St.ahead] at h;cases hk:st.h k with
  |none=>rw [hk] at h;cases h
  |some c=>grind[ca,Option.some.injEq]
 have hs:∀k,((st.ahead W).h k).isSome->(st.h k).isSome:=by
  grind[Option.isSome_iff_exists]
 refine⟨hB.defers,hB.size,λi=>oQ _ (λ_ _=>rfl) _ _ (hB.tmps i),λk ab h=>?_,λk k' b h1 h2=>hB.apart k k' b (hs k h1) (hs k' h2),hB.bound,hB.frame,hB.iP,hB.base,λk b h=>hB.mO k b (hs k h),hB.pj,hB.laid,hB.held⟩;obtain⟨c,hc,rfl⟩:=hl k ab h;exact yV _ (hB.blocks k c hc)
theorem A9:∀(x:AV),(∀k∈au x,h' k=h k)->je h' x=je h x:=by
 intro x hx;cases x<;>simp_all [je,au]
theorem J5 {h h':aQ}:∀(xs:M AV),(∀k∈aA xs,h' k=h k)->pX h' xs=pX h xs
 |[],_=>rfl
 |x::xs,hx=>by
  simp [aA,F!] at hx;simp [pX,A9 x (λk hk=>hx k (.inl hk)),J5 xs (λk hk=>hx k (.inr hk))]
theorem yX(x:AV)(hx:∀k∈au x,h' k=h k):qT h' x=qT h x:=by
 unfold qT;grind[J5,au,A9]
theorem Ba {h h':aQ}:∀(xs:M AV),(∀k∈aA xs,h' k=h k)->nd h' xs=nd h xs
 |[],_=>rfl
 |x::xs,hx=>by
  simp [aA,F!] at hx;simp [nd,yX x (λk hk=>hx k (.inl hk)),Ba xs (λk hk=>hx k (.inr hk))]
theorem J6 {h h':aQ}:∀(ps:M (Nat×AV)),(∀k∈aA (ps.map (·.2)),h' k=h k)->pZ h' ps=pZ h ps
 |[],_=>rfl
 |(i,x)::ps,hx=>by
  simp [G?,aA,F!] at hx;simp [pZ,yX x (λk hk=>hx k (.inl hk)),J6 ps (λk hk=>hx k (.inr hk))]
theorem EH(x:AV):∀k∈(je h x).2,k∈au x:=by
 intro k hk;cases x<;>simp [je] at hk;case own j=>grind[au]
 case pre j n=>grind[au]
 case view j sz off n=>
  grind[Nat.beq,au]
theorem M8 {h:aQ}:∀(xs:M AV),∀k∈(pX h xs).2,k∈aA xs
 |[],k,hk=>by grind[pX]
 |x::xs,k,hk=>by
  simp [pX,F!] at hk;simp [aA,F!];exact hk.imp (EH x k) (M8 xs k)
theorem CM(x:AV):∀k∈(qT h x).2,k∈au x:=by
 intro k hk;unfold qT at hk;grind[au,M8,EH]
theorem EI {h:aQ}:∀(xs:M AV),∀k∈(nd h xs).2,k∈aA xs
 |[],k,hk=>by grind[nd]
 |x::xs,k,hk=>by
  simp [nd,F!] at hk;simp [aA,F!];exact hk.imp (CM x k) (EI xs k)
theorem M9 {h:aQ}:∀(ps:M (Nat×AV)),∀k∈(pZ h ps).2,k∈aA (ps.map (·.2))
 |[],k,hk=>by grind[pZ]
 |(i,x)::ps,k,hk=>by
  simp [pZ,F!] at hk;simp [G?,aA,F!];exact hk.imp (CM x k) (M9 ps k)
theorem lx {h h':aQ}:∀(ks:M Nat),(∀k∈ks,h' k=h k)->cM h' ks=cM h ks
 |[],_=>rfl
 |k::ks,hx=>by
  simp [cM,hx k (I! ..),lx ks (λj hj=>hx j (E! _ hj))]
def TO(x:AV)(hx:∀k∈au x,h' k=h k):H4 h' x=H4 h x:=by
 cases x<;>simp_all [H4,au]
def Dm(T:b9)(t:TypeId)(x i:AV)(hx:∀k∈au x,h' k=h k):gS T h' t x i=gS T h t x i:=by
 cases x<;>cases i<;>simp_all [gS,au]
def Bb(T:b9)(t:TypeId)(x:AV)(hx:∀k∈au x,h' k=h k):pY T h' t x=pY T h t x:=by
 cases x<;>simp_all [pY,au]
def zT(T:b9)(t:TypeId)(x v:AV)(hx:∀k∈au x,h' k=h k)(hv:∀k∈au v,h' k=h k):iA T h' t x v=iA T h t x v:=by
 cases x;case ref k off=>grind[iA,au]
 case elem k sz i j=>
  grind[iA,au,yX,lx,qT,CM]
 all_goals rfl
def yY(row:M Ty)(x:AV)(hx:∀k∈au x,h' k=h k):oA h' row x=oA h row x:=by
 have:=A9 x hx;cases x<;>simp_all [oA]
theorem IA(T:b9)(d:Nat)(t t':TypeId)(s x:AV)(hs:∀k∈au s,h' k=h k)(hx:∀k∈au x,h' k=h k):rk T h' d t t' s x=rk T h d t t' s x:=by
 unfold rk;split
 . split
   . rename_i row mP;rw [yY row x hx];cases s;case own k=>simp [hs k (by simp [au])]
     case pre k n=>simp [hs k (by simp [au])]
     all_goals rfl
   . rfl
 . rfl
theorem Na(T:b9)(t t':TypeId)(s x:AV)(hs:∀k∈au s,h' k=h k)(hx:∀k∈au x,h' k=h k):tR T h' t t' s x=tR T h t t' s x:=by
 have iQ:∀row,oA h' row x=oA h row x:=λrow=>yY row x hx;cases s;case own k=>grind[tR,au]
 case view k sz off n=>grind[tR,au]
 all_goals rfl
def K9(T:b9)(t:TypeId)(x:AV)(hx:∀k∈au x,h' k=h k):tG T h' t x=tG T h t x:=by
 cases x;case view k sz off n=>grind[tG,au]
 all_goals rfl
theorem La(T:b9)(t:TypeId)(x:AV)(lo hi mx:Option AV)(hx:∀k∈au x,h' k=h k):tF T h' t x lo hi mx=tF T h t x lo hi mx:=by
 unfold tF;grind[vF,lo,hi,au]
theorem QD(T:b9)(s d:TypeId)(k:Nat)(hx:h' k=h k):CA T h' s d k=CA T h s d k:=by grind[CA]
theorem Gy(T:b9)(s d:TypeId)(x:AV)(hx:∀k∈au x,h' k=h k):pK T h' s d x=pK T h s d x:=by
 have hs:∀row,oA h' row x=oA h row x:=λrow=>yY row x hx;grind[pK,QD,au]
def Bc(T:b9)(d:Nat)(t:TypeId)(len:Nat)(ps:M (Nat×AV))(hx:∀k∈aA (ps.map (·.2)),h' k=h k):lh T h' d t len ps=lh T h d t len ps:=by
 unfold lh;simp [J6 ps hx,lx (pZ h ps).2 (λj hj=>hx j (M9 ps j hj))]
def Nb(E:Env)(d f:Nat)(xs:M AV)(hx:∀k∈aA xs,h' k=h k):p0 E h' d f xs=p0 E h d f xs:=by
 grind[p0,Ba,lx,nd,EI]
theorem j4:∀(a b:M AV),aA (a++b)=aA a++aA b
 |[],_=>rfl
 |x::a,b=>by simp [e?,aA,j4 a b,W!]
def iZ {x:AV}:∀ {xs:M AV},x∈xs->∀k∈au x,k∈aA xs
 |y::ys,hx,k,hk=>by
  simp [aA,F!];rcases P!.1 hx with rfl|hx
  . exact .inl hk
  . exact .inr (iZ hx k hk)
theorem WC(ht:∀x∈o.op.operands.toList,ev aX x=ev st x)(hh:∀k∈jQ E st o,aX.h k=st.h k)(oD:aX.kb=st.kb):
  dV E aX o=dV E st o:=by
 have hk:∀x∈o.op.operands.toList,∀k∈au (ev st x),aX.h k=st.h k:=by
  intro x hx k hk;exact hh k (E! _ (T! _ (iZ (S? hx) k hk)))
 have hd:∀d,o.dst=some d->aX.h (st.kb+d)=st.h (st.kb+d):=by
  intro d hd;exact hh _ (by simp [jQ,hd])
 obtain⟨dst,op,type,pos,after,guard⟩:=o;simp only at ht hk hd
 have Zj:∀d,dst=some d->fresh aX.h (st.kb+d)=fresh st.h (st.kb+d):=by
  intro d h;simp only [fresh,hd d h]
 cases op with
 |move x=>simp only [dV,ht x (by simp [Op.operands])]
 |assign x=>simp only [dV,ht x (by simp [Op.operands])]
 |pick c x y=>simp only [dV,ht c (by simp [Op.operands]),ht x (by simp [Op.operands]),ht y (by simp [Op.operands])]
 |alloc t=>simp only [dV,oD]
 |box t x=>simp only [dV,ht x (by simp [Op.operands]),oD]
 |build t parts=>
  have :(parts.toList.map λp=>(p.1,ev aX p.2))=parts.toList.map λp=>(p.1,ev st p.2):=by
   apply R?;intro p hp;rw [ht p.2 (by simp only [Op.operands];exact S? hp)]
  simp only [dV,this]
 |buildSlice t len parts=>
  have :(parts.toList.map λp=>(p.1,ev aX p.2))=parts.toList.map λp=>(p.1,ev st p.2):=by
   apply R?;intro p hp;rw [ht p.2 (by simp only [Op.operands];exact S? hp)]
  simp only [dV,this,oD];cases dst with
  |none=>rfl
  |some d=>
   simp only [Zj d rfl];rw [Bc];intro k fj;refine hh k (E! _ (T! _ ?_));simp only [Op.operands,List.map_map] at fj |-;exact fj
 |load t x=>simp only [dV,ht x (by simp [Op.operands]),Bb _ t _ (hk x (by simp [Op.operands]))]
 |store t x y=>simp only [dV,ht x (by simp [Op.operands]),ht y (by simp [Op.operands]),zT _ t _ _ (hk x (by simp [Op.operands])) (hk y (by simp [Op.operands]))]
 |nilCheck x=>simp only [dV,ht x (by simp [Op.operands])]
 |binOp op t x y yt=>simp only [dV,ht x (by simp [Op.operands]),ht y (by simp [Op.operands])]
 |unOp op t x=>simp only [dV,ht x (by simp [Op.operands])]
 |convert s d x=>grind[dV,Op.operands,Gy]
 |makeFunc f first aW=>
  grind[ev,List.map_congr_left,Op.operands,dV]
 |makeSlice t l c=>
  simp only [dV,ht l (by simp [Op.operands]),ht c (by simp [Op.operands]),oD];grind
 |slice t x l hi mx=>
  have h1:l.map (ev aX)=l.map (ev st):=by cases l with|none=>rfl|some y=>simp only [Option.map_some,ht y (by simp [Op.operands])]
  have h2:hi.map (ev aX)=hi.map (ev st):=by cases hi with|none=>rfl|some y=>grind[Op.operands]
  have h3:mx.map (ev aX)=mx.map (ev st):=by cases mx with|none=>rfl|some y=>grind[Op.operands]
  grind[dV,Op.operands,La]
 |fieldAddr s x f=>simp only [dV,ht x (by simp [Op.operands])]
 |field s x f=>simp only [dV,ht x (by simp [Op.operands])]
 |indexAddr t x i=>simp only [dV,vJ,ht x (by simp [Op.operands]),ht i (by simp [Op.operands]),Dm _ t _ _ (hk x (by simp [Op.operands]))]
 |index t x i=>simp only [dV,ht x (by simp [Op.operands]),ht i (by simp [Op.operands])]
 |extract x i=>simp only [dV,ht x (by simp [Op.operands])]
 |lookup t x i ok=>simp only [dV,ht x (by simp [Op.operands]),ht i (by simp [Op.operands])]
 |call c=>
  obtain⟨callee,args,argTypes⟩:=c
  have bm:∀x∈args.toList,x∈(Op.call ⟨callee,args,argTypes⟩).operands.toList:=by
   grind[Op.operands,Call.operands,Array.toList_append]
  have Bd:args.toList.map (ev aX)=args.toList.map (ev st):=R? λx hx=>ht x (bm x hx);cases callee with
  |invoke r m=>rfl
  |builtin b=>
   simp only [dV];cases hl:args.toList with
   |nil=>grind
   |cons x xs=>
    have hx:ev aX x=ev st x:=ht x (bm x x!);have kx:=hk x (bm x x!);cases xs with
    |nil=>
     cases b<;>first|rfl|(cases argTypes.toList with
      |nil=>rfl
      |cons t ts=>cases ts with
       |nil=>first|(simp only [hx,TO _ kx];done)|(simp only [hx,K9 _ t _ kx];done)
       |cons _ _=>rfl)
    |cons y ys=>
     have hy:ev aX y=ev st y:=ht y (bm y x!);have ky:=hk y (bm y x!);cases ys with
     |cons z zs=>cases b<;>rfl
     |nil=>
      cases b
      case append=>
       cases Is:argTypes.toList with
       |nil=>rfl
       |cons t ts=>cases ts with
        |nil=>rfl
        |cons t' Gz=>grind[IA]
      case copy=>
       grind[Na]
      all_goals first|rfl|simp only [hx,hy]
  |value f=>
   have ZB:f∈(Op.call ⟨.value f,args,argTypes⟩).operands.toList:=by simp [Op.operands,Call.operands]
   have hf:ev aX f=ev st f:=ht f ZB;have kf:=hk f ZB;simp only [dV,hf,Bd,oD];cases Gl:ev st f with
   |fn rq first aW=>
    cases rq with
    |func g=>
     have J7:∀d,p0 E aX.h d g (first++args.toList.map (ev st)++aW)=p0 E st.h d g (first++args.toList.map (ev st)++aW):=by
      intro d;refine Nb E d g _ λk fj=>?_;simp only [j4,F!] at fj;rw [Gl] at kf;simp only [au,F!] at kf;rcases fj with(fj|fj)|fj
      . grind
      . refine hh k (List.mem_cons_of_mem _ (List.mem_append_left _ ?_));grind[Op.operands,Call.operands,Array.toList_append,j4]
      grind
     grind
    |_=>rfl
   |_=>rfl
 |_=>rfl
def Lb(E:Env)(d f:Nat)(xs:M AV)(hx:∀k∈aA xs,h' k=h k):nY E h' d f xs=nY E h d f xs:=by
 grind[nY,Ba,lx,nd,EI]
theorem WD(ht:∀x∈o.op.operands.toList,ev aX x=ev st x)(hh:∀k∈jQ E st o,aX.h k=st.h k)(oD:aX.kb=st.kb):
  DK E aX o=DK E st o:=by
 have hk:∀x∈o.op.operands.toList,∀k∈au (ev st x),aX.h k=st.h k:=by
  intro x hx k hk;exact hh k (E! _ (T! _ (iZ (S? hx) k hk)))
 obtain⟨dst,op,type,pos,after,guard⟩:=o;cases op with
 |load t p=>
  grind[DK,Op.operands,ev,au]
 |store t p v=>
  grind[DK,Op.operands,ev,au]
 |slice t x l hi mx=>
  cases l with
  |none=>rfl
  |some l=>
   cases hi with
   |none=>rfl
   |some hi=>
    cases mx with
    |none=>rfl
    |some mx=>
     grind[DK,Op.operands,hi,ev,au]
 |indexAddr t x i=>
  grind[DK,Op.operands,ev,au]
 |call c=>
  obtain⟨callee,args,argTypes⟩:=c
  have bm:∀x∈args.toList,x∈(Op.call ⟨callee,args,argTypes⟩).operands.toList:=by
   grind[Op.operands,Call.operands,Array.toList_append]
  have Bd:args.toList.map (ev aX)=args.toList.map (ev st):=R? λx hx=>ht x (bm x hx);cases callee with
  |invoke r m=>rfl
  |builtin b=>
   simp only [DK];grind[ev,au]
  |value f=>
   have ZB:f∈(Op.call ⟨.value f,args,argTypes⟩).operands.toList:=by simp [Op.operands,Call.operands]
   have hf:ev aX f=ev st f:=ht f ZB;have kf:=hk f ZB;simp only [DK,hf,Bd,oD];cases Gl:ev st f with
   |fn rq first aW=>
    cases rq with
    |func g=>
     have J7:∀d,nY E aX.h d g (first++args.toList.map (ev st)++aW)=nY E st.h d g (first++args.toList.map (ev st)++aW):=by
      intro d;refine Lb E d g _ λk fj=>?_;simp only [j4,F!] at fj;rw [Gl] at kf;simp only [au,F!] at kf;rcases fj with(fj|fj)|fj
      . grind
      . refine hh k (List.mem_cons_of_mem _ (List.mem_append_left _ ?_));grind[Op.operands,Call.operands,Array.toList_append,j4]
      grind
     grind
    |_=>rfl
   |_=>rfl
 |_=>rfl
theorem WE(ht:∀x∈o.op.operands.toList,ev aX x=ev st x)(hh:∀k∈jQ E st o,aX.h k=st.h k)(oD:aX.kb=st.kb):
  MJ E aX o=MJ E st o:=by
 have hk:∀x∈o.op.operands.toList,∀k∈au (ev st x),aX.h k=st.h k:=by
  intro x hx k hk;exact hh k (E! _ (T! _ (iZ (S? hx) k hk)))
 obtain⟨dst,op,type,pos,after,guard⟩:=o;cases op with
 |alloc t=>simp_all[MJ]
 |load t p=>
  grind[MJ,Op.operands,ev,au]
 |store t p v=>
  grind[MJ,Op.operands,ev,au]
 |_=>rfl
theorem J8(x:AV):∀k∈au (je h x).1,k∈au x:=by
 intro k hk;cases x with
 |own j=>grind[je,au]
 |pre j n=>grind[je,au]
 |view j sz off n=>
  grind[je,Nat.beq,au]
 |_=>exact hk
theorem J9 {h:aQ}:∀(xs:M AV),∀k∈aA (pX h xs).1,k∈aA xs
 |[],k,hk=>hk
 |x::xs,k,hk=>by
  simp [pX,aA,F!] at hk |-;rcases hk with hk|hk
  . exact .inl (J8 x k hk)
  . exact .inr (J9 xs k hk)
theorem ZC(x:AV):∀k∈au (qT h x).1,k∈au x:=by
 intro k hk;unfold qT at hk;grind[au,J9,J8]
def Be {h:aQ}:∀(m:M Bool) (xs:M AV),(∀k∈aA (dP h m xs).1,k∈aA xs)/\∀k∈(dP h m xs).2,k∈aA xs
 |m,[]=>⟨λk hk=>hk,λk hk=>by cases hk⟩
 |m,x::xs=>by
  obtain⟨g1,g2⟩:=Be (h:=h) m.tail xs;cases hm:m.headD false with
  |true=>
   simp only [dP,hm,cond_true,aA,List.mem_append];grind
  |false=>
   simp only [dP,hm,cond_false,aA,List.mem_append];grind[ZC,CM]
theorem zU {h h':aQ}:∀(m:M Bool) (xs:M AV),(∀k∈aA xs,h' k=h k)->dP h' m xs=dP h m xs
 |m,[],_=>rfl
 |m,x::xs,hx=>by
  have h1:=zU (h:=h) (h':=h') m.tail xs (λk hk=>hx k (by simp [aA,F!];exact .inr hk));have h2:=yX (h:=h) (h':=h') x (λk hk=>hx k (by simp [aA,F!];exact .inl hk));simp [dP,h1,h2]
def wY {h h':aQ}:∀(ks:M Nat),(∀k∈ks,h' k=h k)->behind h' ks=behind h ks
 |[],_=>rfl
 |k::ks,hk=>by
  simp [behind,hk k (I! ..),wY ks λj hj=>hk j (E! _ hj)]
def vR {h:aQ}:∀(ks ls:M Nat),(∀k∈ks,k∈ls)->∀j∈behind h ks,j∈behind h ls
 |[],ls,_,j,hj=>by cases hj
 |k::ks,ls,hk,j,hj=>by
  simp [behind,F!] at hj;rcases hj with hj|hj
  . have :∀(ls:M Nat),k∈ls->j∈behind h ls:=by
     intro ls;induction ls with
     |nil=>intro h;cases h
     |cons l ls ih=>
      intro hl;simp [behind,F!];rcases P!.1 hl with rfl|hl
      . exact .inl hj
      . exact .inr (ih hl)
    exact this ls (hk k (I! ..))
  . exact vR ks ls (λi hi=>hk i (E! _ hi)) j hj
theorem Bf(hk:∀k∈ks,h' k=h k)(hb:∀k∈behind h ks,h' k=h k):qf h' ks=qf h ks:=by
 simp only [qf,wY ks hk,wY _ hb]
theorem yZ{ls:M Nat}(hs:∀k∈ks,k∈ls):∀j∈qf h ks,j∈qf h ls:=by
 intro j hj;simp only [qf,F!] at hj |-;exact hj.imp (vR _ _ hs j) (vR _ _ (vR _ _ hs) j)
def EJ:∀(l acc:M Nat) (k:Nat),k∈dedup acc l->k∈acc\/k∈l
 |[],acc,k,h=>.inl (by grind[dedup])
 |x::l,acc,k,h=>by
  simp [dedup] at h;cases hm:ay acc x with
  |true=>
   rw [hm] at h;rcases EJ l acc k h with h|h
   . exact .inl h
   . exact .inr (E! _ h)
  |false=>
   rw [hm] at h;rcases EJ l (x::acc) k h with h|h
   . rcases P!.1 h with rfl|h
     . exact .inr (I! ..)
     . exact .inl h
   . exact .inr (E! _ h)
def zV {h h':aQ}:∀(K:M Nat),(∀k∈K,h' k=h k)->contents h' K=contents h K
 |[],_=>rfl
 |k::K,hk=>by simp [contents,hk k (I! ..),zV K λj hj=>hk j (E! _ hj)]
def Lc(E:Env)(d f:Nat)(xs:M AV)(hx:∀k∈aA xs++qf h (aA xs),h' k=h k):nZ E h' d f xs=nZ E h d f xs:=by
 have Qn:∀k∈aA xs,h' k=h k:=λk hk=>hx k (List.mem_append_left _ hk);unfold nZ;split
 . rename_i m s hs;obtain⟨p1,p2⟩:=Be (h:=h) m xs;rw [zU m xs Qn,Bf (h:=h) (h':=h') (λk hk=>Qn k (p1 k hk)) (λk hk=>hx k (List.mem_append_right _ (yZ p1 k (List.mem_append_left _ hk))))];unfold Tw
   rw [zV (h:=h) (h':=h') _ (λk hk=>by
    rcases EJ _ _ k hk with hk|hk
    . grind
    grind[List.mem_append_right,yZ]),lx (h:=h) (h':=h') _ (λk hk=>Qn k (p2 k hk))]
 . rfl
theorem WG(ht:∀x∈o.op.operands.toList,ev aX x=ev st x)(hh:∀k∈jQ E st o,aX.h k=st.h k)(oD:aX.kb=st.kb):
  We E aX o=We E st o:=by
 obtain⟨dst,op,type,pos,after,guard⟩:=o;cases op with
 |call c=>
  obtain⟨callee,args,argTypes⟩:=c;cases callee with
  |value f=>
   have bm:∀x∈args.toList,x∈(Op.call ⟨.value f,args,argTypes⟩).operands.toList:=by
    grind[Op.operands,Call.operands,Array.toList_append]
   have Bd:args.toList.map (ev aX)=args.toList.map (ev st):=R? λx hx=>ht x (bm x hx);have hf:ev aX f=ev st f:=ht f (by simp [Op.operands,Call.operands]);simp [We,hf,Bd,oD];cases Gl:ev st f with
   |fn rq first aW=>
    cases rq with
    |func g=>
     have Re:∀k∈aA (first++args.toList.map (ev st)++aW),k∈aA ((Op.call ⟨.value f,args,argTypes⟩).operands.toList.map (ev st)):=by
      have ZB:f∈(Op.call ⟨.value f,args,argTypes⟩).operands.toList:=by simp [Op.operands,Call.operands]
      have hfk:=iZ (List.mem_map_of_mem (f:=ev st) ZB);grind[au,j4,Op.operands,Call.operands,Array.toList_append]
     have J7:∀d,nZ E aX.h d g (first++args.toList.map (ev st)++aW)=nZ E st.h d g (first++args.toList.map (ev st)++aW):=by
      intro d;refine Lc E d g _ λk hk=>?_;rcases F!.1 hk with hk|hk
      . exact hh k (E! _ (T! _ (Re k hk)))
      . exact hh k (E! _ (Y! _ (T! _ (yZ Re k hk))))
     grind
    |_=>rfl
   |_=>rfl
  |_=>rfl
 |_=>rfl
theorem qj {h:aQ}{k e i j:Nat}{row:M Ty}{l:M (Row row)}(hk:h k=some (.iu e (some j) row l i)):∀ {ks:M Nat},k∈ks->j∈hU h ks
 |q::ks,hm=>by
  simp [hU];rcases P!.1 hm with rfl|hm
  . rw [hk];simp
  . split
    . exact E! _ (qj hk hm)
    . exact qj hk hm
theorem DT:∀ {cs:M AV} {xs:M AV} {k:Nat},uc cs=some (xs,k)->k∈aA cs
 |[],_,_,h=>by cases h
 |a::r,xs,k,h=>by
  unfold uc at h;simp [aA,List.mem_append];cases r with
  |nil=>
   cases a<;>first|(obtain⟨_,rfl⟩:=h;simp [au])|cases h
  |cons b r=>
   simp at h;split at h
   . rename_i x k' hl;obtain⟨_,rfl⟩:=h;exact .inr (DT hl)
   . cases h
theorem QE(p v:AV)(hp:∀k∈au p,h' k=h k)(hv:∀k∈au v,h' k=h k):CC E h' t p v=CC E h t p v:=by
 unfold CC;grind[au,uc,DT]
theorem Ld(p:AV)(hp:∀k∈au p,h' k=h k)(ho:∀k∈hU h (au p),h' k=h k):tL E h' t p=tL E h t p:=by
 unfold tL;grind[au,qj]
theorem Nc(x i:AV)(hp:∀k∈au x,h' k=h k):xL E h' t x i=xL E h t x i:=by
 unfold xL;grind[au]
theorem Nd{k:Nat}(hk:h' k=h k)(ho:∀j∈hU h [k],h' j=h j):closing h' k=closing h k:=by
 unfold closing;rw [hk];cases hh:h k with
 |none=>rfl
 |some ab=>
  cases ab with
  |iu e j row l i=>
   cases j with
   |none=>rfl
   |some k5=>simp [ho k5 (qj hh z!)]
  |_=>rfl
def y4 {h:aQ}:∀ {a b:M Nat},(∀k∈a,k∈b)->∀j∈hU h a,j∈hU h b
 |[],_,_,j,hj=>by grind[hU]
 |k::a,b,hs,j,hj=>by
  simp [hU] at hj;split at hj
  . rename_i hk;rcases P!.1 hj with rfl|hj
    . exact qj hk (hs k (I! ..))
    . exact y4 (λq hq=>hs q (E! _ hq)) j hj
  . exact y4 (λq hq=>hs q (E! _ hq)) j hj
theorem WH(ht:∀x∈o.op.operands.toList,ev aX x=ev st x)(hh:∀k∈jQ E st o,aX.h k=st.h k)(oD:aX.kb=st.kb):
  Rf E aX o=Rf E st o:=by
 unfold Rf aa1 aa0;rw [WC ht hh oD,WD ht hh oD,WE ht hh oD,WG ht hh oD]
theorem WI(ht:∀x∈o.op.operands.toList,ev aX x=ev st x)(hh:∀k∈jQ E st o,aX.h k=st.h k)(oD:aX.kb=st.kb):
  DN E aX o=DN E st o:=by
 have hk:∀x∈o.op.operands.toList,∀k∈au (ev st x),aX.h k=st.h k:=λx hx k hk=>
  hh k (E! _ (T! _ (iZ (S? hx) k hk)))
 have fp:∀d,o.dst=some d->aX.h (st.kb+d)=st.h (st.kb+d):=λd hd=>hh _ (by unfold jQ;rw [hd];exact List.mem_cons_self ..);obtain⟨dst,op,type,pos,after,guard⟩:=o;cases op with
 |buildSlice t len parts=>
  have hp:parts.toList.map (λp=>(p.1,ev aX p.2))=parts.toList.map (λp=>(p.1,ev st p.2)):=R? λp hp=>by
   rw [ht p.2 (by simp only [Op.operands,Array.toList_map,T?];exact⟨p,hp,rfl⟩)]
  cases dst with
  |none=>rfl
  |some d=>
   have hf:fresh aX.h (st.kb+d)=fresh st.h (st.kb+d):=by simp only [fresh,fp d rfl]
   simp only [DN,hp,oD];cases o9 E.T t<;>cases mN E.T t<;>simp only [hf]
 |call c=>
  obtain⟨callee,args,argTypes⟩:=c;cases callee with
  |builtin b=>
   have bm:∀x∈args.toList,ev aX x=ev st x:=λx hx=>ht x (by grind[Op.operands,Call.operands,Array.toList_append]);have uL:∀x∈args.toList,∀k∈au (ev st x),aX.h k=st.h k:=λx hx=>hk x (by grind[Op.operands,Call.operands,Array.toList_append]);have kT:∀x k,x∈args.toList->ev st x= .own k->aX.h k=st.h k:=λx k hx he=>uL x hx k (by rw [he];exact List.mem_cons_self ..);simp only [DN,oD];split
   . rename_i x y t t' hx hy;rw [bm x (by rw [hx];simp),bm y (by rw [hx];simp)];split
     . rename_i d e te j k he jv h1 h2;rw [kT x j (by rw [hx];simp) h1,kT y k (by rw [hx];simp) h2];simp only [fresh,fp d rfl]
     . rfl
   . rename_i x t hx hy;rw [bm x (by rw [hx];simp)];split
     . rename_i k h1;rw [kT x k (by rw [hx];simp) h1]
     . rfl
   . rfl
  |_=>rfl
 |store t x y=>
  simp only [DN,ht x (by simp [Op.operands]),ht y (by simp [Op.operands])];split
  . rename_i k sz i j k5 h1 h2;rw [hk x (by simp [Op.operands]) k (by rw [h1];exact I! ..),hk y (by simp [Op.operands]) k5 (by rw [h2];exact I! ..)]
  . rfl
 |indexAddr t x i=>
  simp only [DN,ht x (by simp [Op.operands]),ht i (by simp [Op.operands])];split
  . rename_i k ki n h1 h2;rw [hk x (by simp [Op.operands]) k (by rw [h1];exact I! ..)]
  . rfl
 |load t x=>
  simp only [DN,ht x (by simp [Op.operands])];split
  . rename_i k sz i j te h1 h2;rw [hk x (by simp [Op.operands]) k (by rw [h1];exact I! ..)]
  . rename_i k off te h1 h2;rw [hk x (by simp [Op.operands]) k (by rw [h1];exact I! ..)]
  . rfl
 |_=>rfl
theorem WJ(ht:∀x∈o.op.operands.toList,ev aX x=ev st x)(hh:∀k∈jQ E st o,aX.h k=st.h k)(oD:aX.kb=st.kb):
  Ro E aX o=Ro E st o:=by
 have hN:MM E aX o=MM E st o:=by unfold MM;rw [WH ht hh oD,WI ht hh oD]
 have ajP:∀x∈o.op.operands.toList,∀k∈au (ev st x),k∈aA (o.op.operands.toList.map (ev st)):=λx hx k hk=>iZ (S? hx) k hk
 have hk:∀x∈o.op.operands.toList,∀k∈au (ev st x),aX.h k=st.h k:=λx hx k hk=>
  hh k (E! _ (T! _ (ajP x hx k hk)))
 have hk2:∀x∈o.op.operands.toList,∀k∈hU st.h (au (ev st x)),aX.h k=st.h k:=λx hx k hk=>
  hh k (E! _ (Y! _ (Y! _ (T! _ (y4 (ajP x hx) k hk)))))
 have hc:∀k∈ud E st.h o,aX.h k=st.h k:=λk hk=>hh k (E! _ (Y! _ (Y! _ (Y! _ hk))))
 have hO:Wq E aX o=Wq E st o:=by
  unfold Wq
  have oO:xM E aX.h o=xM E st.h o:=by
   grind[xM,ud,hU,Nd,List.mem_cons_self,List.mem_cons_of_mem]
  grind[guard,store,Op.operands,QE,load,Ld,Nc]
 grind[Ro]
def vT {T:b9}{h h':aQ}:∀(as_:M AV) (l:M (Option TypeId)),(∀k∈aA as_,h' k=h k)->qZ T h' as_ l=qZ T h as_ l
 |_,[],_=>by simp only [qZ]
 |[],o::_,_=>by cases o<;>rfl
 |x::as_,none::r,hk=>by
  simp only [qZ];exact vT as_ r λk h=>hk k (Y! _ h)
 |x::as_,some ty::r,hk=>by
  have ih:=vT (T:=T) as_ r λk h=>hk k (List.mem_append_right _ h);unfold qZ;cases x<;>simp only [ih];rename_i k off;rw [hk k (List.mem_append_left _ (List.mem_cons_self ..))]
def ZD{x:AV}(hk:∀k∈au x,h' k=h k):yT (zR u h') x=yT (zR u h) x:=by
 unfold yT;cases x<;>simp only [];rename_i k off;have :zR u h' k=zR u h k:=by simp only [zR,hk k (List.mem_cons_self ..)]
 rw [this]
def ZE(ht:∀x∈o.op.operands.toList,ev aX x=ev st x)(hh:∀k∈jQ E st o,aX.h k=st.h k)(oD:aX.kb=st.kb):
  act E aX o=act E st o:=by
 have hF:DP E aX o=DP E st o:=by
  have hk:∀x∈o.op.operands.toList,∀k∈au (ev st x),aX.h k=st.h k:=λx hx k hk=>
   hh k (E! _ (T! _ (iZ (S? hx) k hk)))
  obtain⟨dst,op,type,pos,after,guard⟩:=o;cases dst with
  |none=>rfl
  |some d=>
  cases hl:E.Mh d with
  |none=>simp only [DP,hl]
  |some l=>
  cases op with
  |makeFunc f first aW=>
   have h1:first.toList.map (ev aX)=first.toList.map (ev st):=R? λx hx=>ht x (by simp [Op.operands];exact .inl (by simpa using hx))
   have h2:aW.toList.map (ev aX)=aW.toList.map (ev st):=R? λx hx=>ht x (by simp [Op.operands];exact .inr (by simpa using hx));have hc:∀x∈aW.toList,∀k∈au (ev st x),aX.h k=st.h k:=λx hx=>hk x (by simp [Op.operands];exact .inr (by simpa using hx))
   have hcc:∀k∈aA (aW.toList.map (ev st)),aX.h k=st.h k:=by
    clear h1 h2 hk ht hh;generalize aW.toList=l at *;induction l with
    |nil=>intro k h;cases h
    |cons y l ih=>
     intro k h;rcases F!.1 h with h|h
     . exact hc y (I! ..) k h
     . exact ih (λx hx=>hc x (E! _ hx)) k h
   have h3:∀u,(aW.toList.map (ev st)).map (yT (zR u aX.h))=(aW.toList.map (ev st)).map (yT (zR u st.h)):=λu=>by
    rw [List.map_map,List.map_map];exact R? λx hx=>ZD (hc x hx)
   simp only [DP,hl,h1,h2,vT (h:=st.h) _ l hcc,h3]
  |load t x=>
   have h1:=hk x (by simp [Op.operands]);simp only [DP,hl,ht x (by simp [Op.operands]),vT (h:=st.h) [ev st x] l (by simpa [aA] using h1),Bb (h:=st.h) E.T t (ev st x) h1]
  |makeSlice t x y=>
   have hf:fresh aX.h (st.kb+d)=fresh st.h (st.kb+d):=by
    simp only [fresh,hh (st.kb+d) (by unfold jQ;exact List.mem_cons_self ..)]
   simp only [DP,hl,ht x (by simp [Op.operands]),ht y (by simp [Op.operands]),oD,hf]
  |_=>simp only [DP,hl]
 have hK:Rm aX o=Rm st o:=by
  obtain⟨dst,op,type,pos,after,guard⟩:=o;cases dst with
  |none=>cases op<;>first|rfl|(rename_i c;obtain⟨c,_,_⟩:=c;cases c<;>rfl)
  |some d=>
  have hf:fresh aX.h (st.kb+d)=fresh st.h (st.kb+d):=by
   simp only [fresh,hh (st.kb+d) (by unfold jQ;exact List.mem_cons_self ..)]
  cases op with
  |call c=>
   obtain⟨c,args,tys⟩:=c;cases c with
   |value f=>
    have h1:ev aX f=ev st f:=ht f (by simp [Op.operands,Call.operands])
    have h2:∀x,args.toList=[x]->ev aX x=ev st x:=λx hx=>ht x (by
     have :x∈args:=by rw [<-Array.mem_toList_iff,hx];exact v?.2 rfl
     simp [Op.operands,Call.operands,this])
    unfold Rm;simp only [h1];split
    . rename_i x _ _ hx _;rw [h2 x hx,oD,hf]
    . rfl
   |_=>rfl
  |_=>rfl
 have hS:Rn E aX o=Rn E st o:=by
  have hk:∀x∈o.op.operands.toList,∀k∈au (ev st x),aX.h k=st.h k:=λx hx k hk=>
   hh k (E! _ (T! _ (iZ (S? hx) k hk)))
  obtain⟨dst,op,type,pos,after,guard⟩:=o;unfold Rn;simp only;split
  . rename_i t s v;have h1:=ht (.tmp s) (by simp [Op.operands]);have h2:=ht v (by simp [Op.operands]);split
    . have h3:∀k off,ev st (.tmp s)= .ref k off->iA E.T aX.h t (.ref k off) (ev st v)=iA E.T st.h t (.ref k off) (ev st v):=λk off he=>
       zT (h:=st.h) E.T t _ _ (by rw [<-he];exact hk (.tmp s) (by simp [Op.operands])) (hk v (by simp [Op.operands]))
      rw [h1,h2];generalize ev st (.tmp s)=q at h3 |-;cases q<;>first|rfl|(rename_i k off;simp only [ajC];rw [h3 k off rfl])
    . rfl
  . rfl
 unfold act;rw [hF,hK,hS,WJ ht hh oD]
def CN:∀(l:M Nat) (k:Nat),ay l k=true↔k∈l
 |[],k=>by simp [ay]
 |j::l,k=>by
  simp_all[ay,Z?,P!,CN]
theorem ji {l:M Nat}{k:Nat}:ay l k=false↔k∉l:=by
 rw [<-CN,Bool.not_eq_true]
theorem rA {a b:M Nat}(h:nq a b=true):∀k∈a,k∉b:=by
 intro k hk;have:=(List.all_eq_true.1 h) k hk;grind[Bool.not_eq_true',ji]
mutual
theorem Nf(p:Nat->Bool):∀(a:AV),(∀k∈au a,p k=false)->aJ p a=a
 |.own k,h=>by simp [aJ,h k (by simp [au])]
 |.pre k _,h|.view k _ _ _,h|.ref k _,h|.elem k _ _ _,h=>by simp [aJ,h k (by simp [au])]
 |.agg cs,h|.bf cs,h=>by simp only [aJ,nu p cs (by simpa [au] using h)]
 |.iz _ cs,h=>by simp only [aJ,nu p cs (by simpa [au] using h)]
 |.fn f first aW,h=>by
   simp only [au,F!] at h;simp only [aJ,nu p first (λk hk=>h k (.inl hk)),nu p aW (λk hk=>h k (.inr hk))]
 |.cF,_|.undef,_|.int _ _,_|.bool _,_|.tt,_|.ff,_|.str _,_|.nil,_|.lb,_|.pW _ _,_|.mi,_|.sl _ _,_|.full _ _,_|.cQ _ _ _,_|.qW _ _,_=>by simp [aJ]
theorem nu(p:Nat->Bool):∀(as_:M AV),(∀k∈aA as_,p k=false)->fO p as_=as_
 |[],_=>rfl
 |a::as_,h=>by
  simp only [aA,F!] at h;simp only [fO,Nf p a (λk hk=>h k (.inl hk)),nu p as_ (λk hk=>h k (.inr hk))]
end
theorem Bg(p:Nat->Bool)(b:AB)(h:∀k∈iB b,p k=false):cu p b=b:=by
 cases b with
 |cells cs=>grind[cu,nu,iB]
 |row _ _ _ _|arr _ _|bc _ _ _ _|fvar _ _|mp _ _ _=>rfl
 |fo e j l=>
  cases j with
  |none=>rfl
  |some j=>simp_all[cu,yy,iB,O!]
 |eF e j xs i=>
  cases j with
  |none=>rfl
  |some j=>simp_all[cu,dK,iB,O!]
 |views e j n m sz=>
  cases j with
  |none=>rfl
  |some j=>simp_all[cu,dK,iB,O!]
 |iu e j row l i=>
  cases j with
  |none=>rfl
  |some j=>simp_all[cu,dK,iB,O!]
def GA {new:M (Nat×AB)}{k:Nat}(h:k∉new.map (·.1)):gK new k=false:=by
 grind[yW,jB,ji]
def Clean(e:Ev)(s:St):Prop:=(∀i,aJ (gK e.cq.new) (s.t i)=s.t i)/\∀k,ca (gK e.cq.new) (s.h k)=s.h k
def ap(ops:M Oper)(e:Ev)(s:St):St:=jV (aMa ops e.i) e.o.dst (s.put e.o.dst e.cq)
def ayr(g:Bool)(a:AV):AV:=bif g then MY a else a
def EK(e:Ev)(k:Nat):Option (Option AB):=match al e.cq.new k with
 |some b=>some (some b)
 |none=>bif ay e.cq.del k then some none else match al e.cq.gz k with
  |some b=>some (some (xC e.cq k b))
  |none=>none
def ajR:(jV g d s).g=s.g:=by
 cases d<;>cases g<;>rfl
theorem Ng:(jV g d s).h=s.h/\(jV g d s).n=s.n/\(jV g d s).kb=s.kb:=by
 cases d<;>cases g<;>exact⟨rfl,rfl,rfl⟩
theorem Nh(e:Ev)(s:St):(ap ops e s).n=s.n:=Ng.2.1
theorem EL(e:Ev)(s:St):(ap ops e s).kb=s.kb:=Ng.2.2
theorem Ni(e:Ev)(s:St):(ap ops e s).g=s.g:=ajR
theorem Nj(hc:Clean e s)(i:Nat):(ap ops e s).t i=if e.o.dst=some i then ayr (aMa ops e.i) e.cq.res else s.t i:=by
 unfold ap;cases hd:e.o.dst with
 |none=>
  simp [jV,St.put,reduceCtorEq,n?];rw [rz];exact hc.1 i
 |some d=>
  by_cases hi:i=d
  . subst hi;cases aMa ops e.i<;>simp [jV,St.put,ayr]
  . have fN:¬(some d=some i):=λh=>hi (W? h).symm;have :nS e.cq.new (s.t i)=s.t i:=by rw [rz];exact hc.1 i
    cases aMa ops e.i<;>simp only [jV,St.put,aP hi,O!,L!,J! fN,this]
theorem Ka(hc:Clean e s)(k:Nat):(ap ops e s).h k=match EK e k with
  |some v=>v
  |none=>s.h k:=by
 unfold ap;rw [Ng.1];have hk:=hc.2 k;simp [St.put,xD,EK];cases al e.cq.new k with
 |some b=>rfl
 |none=>
  cases ay e.cq.del k with
  |true=>rfl
  |false=>
   grind[al,ca,Option.some.injEq,vO]
theorem pM{k:Nat}(h:k∉e.cq.wr):EK e k=none:=by
 simp only [Out.wr,F!,not_or] at h;simp [EK,jB _ k (ji.2 h.2.2),jB _ k (ji.2 h.1),ji.2 h.2.1,O!]
theorem wZ:∀(l:M (Nat×AB)) (k:Nat) (c:AB),al l k=some c->∀j∈iB c,j∈AX l
 |(j0,b0)::l,k,c,hc,j,hj=>by
  simp [al] at hc;simp [AX,F!];cases hb:Nat.beq k j0 with
  |true=>grind
  |false=>rw [hb] at hc;exact .inr (wZ l k c hc j hj)
theorem TP {g:Ev}{k:Nat}{b:AB}(hp:nq e.cq.vq (g.cq.new.map (·.1))=true)(h:EK e k=some (some b)):cu (gK g.cq.new) b=b:=by
 have aF5:∀j∈e.cq.vq,gK g.cq.new j=false:=λj hj=>GA (rA hp j hj);unfold EK at h;split at h
 . grind[Option.some.injEq,Bg,Out.vq,wZ]
 . cases hd:ay e.cq.del k with
   |true=>grind
   |false=>
    rw [hd] at h;split at h
    . rename_i c hc;simp at h;subst h;have oO:∀j∈iB c,gK g.cq.new j=false:=λj hj=>aF5 j (by grind[Out.vq,wZ]);unfold xC;cases ay e.cq.raw k with
      |true=>grind[Bg]
      |false=>
      simp;rw [vO,jo];have comm:(λk=>gK e.cq.new k || gK g.cq.new k)=λk=>gK g.cq.new k || gK e.cq.new k:=by grind
      rw [comm,<-jo,Bg _ c oO]
    grind
theorem Clean.ap {g:Ev}(hg:Clean g s)(he:Clean e s)(hp:nq e.cq.vq (g.cq.new.map (·.1))=true):Clean g (ap ops e s):=by
 refine⟨λi=>?_,λk=>?_⟩
 . rw [Nj he];split
   . have :aJ (gK g.cq.new) e.cq.res=e.cq.res:=Nf _ _ λk hk=>GA (rA hp k (by grind[Out.vq]));cases hq:aMa ops e.i with
     |false=>exact this
     |true=>
      cases hr:e.cq.res with
      |bool b=>cases b<;>rfl
      |_=>rw [hr] at this;exact this
   . exact hg.1 i
 . rw [Ka he];cases hw:EK e k with
   |none=>exact hg.2 k
   |some v=>
    cases v with
    |none=>rfl
    |some b=>grind[ca,TP]
theorem GB {h h':aQ}:∀(l:M (Nat×AB)),(∀k∈l.map (·.1),h' k=h k)->ju h' l=ju h l
 |[],_=>rfl
 |(k,b)::l,hx=>by
  simp [ju,hx k z!,GB l (λj hj=>hx j (by simp only [G?,P!];exact .inr hj))]
theorem Nk {t t':Nat->AV}(h:∀x∈looks ops o,t' x=t x):MV ops t' o=MV ops t o:=by
 grind[MV,looks,EE]
theorem GC:∀(xs:M Operand) (i:Nat),.tmp i∈xs->i∈slotsOf xs
 |x::xs,i,h=>by
  rcases P!.1 h with rfl|h
  . simp [slotsOf]
  . have:=GC xs i h;cases x<;>simp [slotsOf,this]
theorem uj {h h':aQ}:∀(ks:M Nat),(∀k∈ks,h' k=h k)->hU h' ks=hU h ks
 |[],_=>rfl
 |k::ks,hk=>by simp [hU,hk k (I! ..),uj ks λj hj=>hk j (E! _ hj)]
def agc(h:∀x∈looks ops o,s'.t x=s.t x)(hg:s'.g=s.g):∀x∈o.op.operands.toList,ev s' x=ev s x:=by
 intro x hx;cases x with
 |global i=>grind[ev]
 |tmp i=>exact h i (by grind[looks,List.mem_append_right,GC])
 |_=>rfl
def kJ.GF(hf:kJ E ops f s s1)(ht:∀x∈looks ops f.o,s'.t x=s.t x)(hk:∀k,k∈f.kr\/k∈f.cq.wr->s'.h k=s.h k)(hn:s'.n=s.n)(oD:s'.kb=s.kb)(hgg:s'.g=s.g):
  kJ E ops f s' (ap ops f s'):=by
 have hev:=agc ht hgg
 have hkr:jQ E s' f.o=jQ E s f.o:=by
  have oN:∀k∈aA (f.o.op.operands.toList.map (ev s)),s'.h k=s.h k:=λk fj=>hk k (.inl (by rw [hf.kr];exact E! _ (T! _ fj)))
  have hbc:sn s' f.o=sn s f.o:=by
   have K7:∀k∈sn s f.o,s'.h k=s.h k:=λk fj=>hk k (.inl (by rw [hf.kr];exact List.mem_cons_of_mem _ (List.mem_append_right _ (List.mem_append_left _ fj))));unfold sn at K7 |-;cases Nl:f.o.op with
   |call c=>
    simp only [Nl] at K7 oN hev |-;rw [R? hev];exact Bf oN λk fj=>K7 k (T! _ fj)
   |_=>rfl
  have oO:ud E s'.h f.o=ud E s.h f.o:=by
   have hm:∀q∈ud E s.h f.o,s'.h q=s.h q:=λq hq=>hk q (.inl (by
    rw [hf.kr];exact E! _ (Y! _ (Y! _ (Y! _ hq)))))
   grind[ud,uj,List.mem_singleton,List.mem_cons_self]
  grind[jQ,List.map_congr_left,uj]
 refine⟨hf.op,?_,hf.kr.trans hkr.symm,?_,iT.refl _⟩
 . have:=hf.dst;grind[fw]
 . have sE:=hf.step;cases ho:f.out with
   |none=>
    grind[Nk]
   |some out=>
    rw [ho] at sE;obtain⟨h1,h2,h3,h4⟩:=sE;have he:f.cq=out:=by grind[Ev.cq]
    refine⟨by grind[Nk],?_,?_,h4⟩
    . rw [ZE hev (λk fj=>hk k (.inl (by rw [hf.kr];omega))) oD];omega
    grind[GB,Out.wr]
theorem kJ.seq{r1:St}(hf:kJ E ops f s s1)(h:iT r s)(h1:iT r1 s1):kJ E ops f r r1:=by
 have:=hf.GF (s':=r) (λx _=>by rw [h.1]) (λk _=>by rw [h.2.1]) h.2.2.1 h.2.2.2.1 h.2.2.2.2;refine⟨this.op,this.dst,this.kr,this.step,?_⟩;refine h1.trans (hf.next.trans ?_);refine iT.jV ?_ _ _;obtain⟨e1,e2,e3,e4,e5⟩:=h;refine⟨?_,?_,e3.symm,e4.symm,e5.symm⟩
 . simp_all[St.put]
 simp_all[St.put]
theorem uh.seq:∀(es:M Ev) (s r q q':St),uh E ops es s q->iT r s->iT q' q->uh E ops es r q'
 |[],s,r,q,q',h,h1,h2=>h2.trans (iT.trans h h1.symm)
 |e::es,s,r,q,q',⟨s1,h,hx⟩,h1,h2=>⟨s1,h.seq h1 (iT.refl _),uh.seq es s1 s1 q q' hx (iT.refl _) h2⟩
def apart_spec(h:th ops e f=true):(∀d,e.o.dst=some d->d∉looks ops f.o)/\(∀d,f.o.dst=some d->d∉looks ops e.o)/\(∀d,e.o.dst=some d->f.o.dst≠some d)/\
  (∀k∈e.cq.wr,k∉f.kr)/\(∀k∈f.cq.wr,k∉e.kr)/\(∀k∈e.cq.wr,k∉f.cq.wr)/\nq e.cq.vq (f.cq.new.map (·.1))=true/\nq f.cq.vq (e.cq.new.map (·.1))=true:=by
 unfold th at h;grind[rA,MW,Bool.not_eq_true',ji,cT,Bool.not_true]
def swap{s2:St}(he:kJ E ops e s s1)(hf:kJ E ops f s1 s2)(ha:th ops e f=true)(ce:Clean e s)(cf:Clean f s):
  kJ E ops f s (ap ops f s)/\kJ E ops e (ap ops f s) (ap ops e (ap ops f s))/\iT (ap ops e (ap ops f s)) s2:=by
 obtain⟨a1,a2,a3,a4,a5,a6,a7,a8⟩:=apart_spec ha;have n1:iT s1 (ap ops e s):=he.next;have cf1:Clean f (ap ops e s):=cf.ap ce a7;have ce1:Clean e (ap ops f s):=ce.ap cf a8;have hf':kJ E ops f (ap ops e s) s2:=hf.seq n1.symm (iT.refl _)
 have hF:kJ E ops f s (ap ops f s):=by
  refine hf'.GF (λx hx=>?_) (λk hk=>?_) (Nh _ _).symm (EL _ _).symm (Ni _ _).symm
  . rw [Nj ce,J! (λh=>a1 x h hx)]
  grind[Ka,pM]
 have hE:kJ E ops e (ap ops f s) (ap ops e (ap ops f s)):=by
  refine he.GF (λx hx=>?_) (λk hk=>?_) (Nh _ _) (EL _ _) (Ni _ _)
  . rw [Nj cf,J! (λh=>a2 x h hx)]
  grind[Ka,pM]
 refine⟨hF,hE,iT.trans ?_ hf'.next.symm⟩;show iT (ap ops e (ap ops f s)) (ap ops f (ap ops e s));refine⟨?_,?_,by grind[Nh],by grind[EL],by grind[Ni]⟩
 . grind[Nj]
 grind[Ka,pM]
def uk(ops:M Oper):M Ev->Prop
 |[]=>True
 |e::es=>(∀f∈es,nq e.cq.vq (f.cq.new.map (·.1))=true/\(waits f e=true\/th ops e f=true))/\uk ops es
def abd:∀(es1:M Ev) (f:Ev) (so:M Ev) (s q:St),uh E ops (es1++f::so) s q->(∀e∈es1,th ops e f=true)->
  uk ops (es1++f::so)->(∀g∈es1++f::so,Clean g s)->kJ E ops f s (ap ops f s)/\uh E ops (es1++so) (ap ops f s) q
 |[],f,so,s,q,hx,ha,_,hc=>by
   obtain⟨s1,h1,h2⟩:=hx;refine⟨h1.GF (λ_ _=>rfl) (λ_ _=>rfl) rfl rfl rfl,uh.seq _ _ _ _ _ h2 h1.next.symm (iT.refl _)⟩
 |e::es1,f,so,s,q,hx,ha,hP,hc=>by
  obtain⟨s1,h1,h2⟩:=hx;have ce:=hc e z!
  have hc1:∀g∈es1++f::so,Clean g s1:=by
   intro g hg;have h:=(hc g x!).ap (ops:=ops) ce (hP.1 g hg).1;have hn:iT s1 (ap ops e s):=h1.next;exact⟨λi=>by rw [hn.1];exact h.1 i,λk=>by rw [hn.2.1];exact h.2 k⟩
  obtain⟨b1,b2⟩:=abd es1 f so s1 q h2 (λe' TQ=>ha e' (E! _ TQ)) hP.2 hc1;obtain⟨c1,c2,c3⟩:=swap h1 b1 (ha e z!) ce (hc f z!);exact⟨c1,ap ops e (ap ops f s),c2,uh.seq _ _ _ _ _ b2 c3 (iT.refl _)⟩
def rB {l:Array Bool}(h:i<l.size):l.getD i true=l.getD i false:=by
 grind
def uk.sub:∀ {es1:M Ev} {f:Ev} {so:M Ev} {ops:M Oper},uk ops (es1++f::so)->uk ops (es1++so)
 |[],f,so,ops,h=>h.2
 |e::es1,f,so,ops,h=>by
  refine⟨λg hg=>h.1 g ?_,uk.sub (es1:=es1) h.2⟩;have hg:g∈es1++so:=hg;show g∈es1++f::so;rw [F!] at hg |-;exact hg.imp id (E! _)
def uk.mid:∀ {es1:M Ev} {f:Ev} {so:M Ev} {ops:M Oper},uk ops (es1++f::so)->(∀e∈es1,nq e.cq.vq (f.cq.new.map (·.1))=true/\(waits f e=true\/th ops e f=true))/\
  ∀g∈so,nq f.cq.vq (g.cq.new.map (·.1))=true
 |[],f,so,ops,h=>⟨λe he=>x!,λg hg=>(h.1 g hg).1⟩
 |e::es1,f,so,ops,h=>by
  obtain⟨h1,h2⟩:=uk.mid (es1:=es1) h.2;refine⟨λe' TQ=>?_,h2⟩;rcases P!.1 TQ with rfl|TQ
  . exact h.1 f z!
  . exact h1 e' TQ
def aAb(all:M Ev):Prop:=∀f∈all,∀k∈f.pre,∃x∈f.o.after.toList,Region.binds .any x=true/\(x.on=k\/∃g∈all,g.i=x.on/\k∈g.pre)
def ZF {ops jR:Array Oper}{all:M Ev}{R:Array Bool->St->Act->World->Prop}(To:jR.size=ops.size)(ho2:∀(i:Nat) (o o':Oper),ops[i]? =some o->jR[i]? =some o'->o'.after=o.after)
  (Rw:∀listed s r a w,iT r s->R listed s a w->R listed r a w)
  (ZG:∀(f:Ev) (listed:Array Bool) (s:St) (a:Act) (w:World) (K:Act->World->Prop),f∈all->kJ E jR.toList f s (ap jR.toList f s)->Clean f s->listed.size=ops.size->listed.getD f.i true=false->
    (∀x∈f.o.after,Region.binds .any x=true->listed.getD x.on false=true)->R listed s a w->(∀a' w',R (listed.setIfInBounds f.i true) (ap jR.toList f s) a' w'->K a' w')->wpOp P ops Q f.i K a w):
  ∀(fuel:Nat) (listed:Array Bool) (es:M Ev) (s q:St) (a:Act) (w:World),
  es.length<=fuel->uh E jR.toList es s q->uk jR.toList es->(∀g∈es,Clean g s)->(es.map (·.i)).Pairwise (· < ·)->(∀i,listed.getD i true=false↔∃e∈es,e.i=i)->
  (∀e∈es,∀x∈e.o.after.toList,Region.binds .any x=true->x.on<e.i)->(∀e∈es,jR[e.i]? =some e.o)->(∀e∈es,e∈all)->(∀g∈all,jR[g.i]? =some g.o)->aAb all->(∀g∈all,listed.getD g.i true=true->∀k∈g.pre,listed.getD k false=true)->listed.size=ops.size->R listed s a w->(∀listed a' w',(∀i,listed.getD i true=true)->listed.size=ops.size->R listed q a' w'->Q .normal a' w')->wpAny P .any ops Q fuel listed a w:=by
 have sm:∀(i:Nat) (o':Oper),jR[i]? =some o'->∃o:Oper,ops[i]? =some o/\o'.after=o.after:=by
  intro i o' h;have jU:i<ops.size:=by rw [<-To];exact(Q!.1 h).1
  exact⟨ops[i],Array.getElem?_eq_getElem jU,ho2 i _ _ (Array.getElem?_eq_getElem jU) h⟩
 intro fuel;induction fuel with
 |zero=>
  intro listed es s q a w hl hx hP hc hi hm hb ho kU hao um oO dQ hR hQ;have :es=[]:=d?.1 (Nat.le_zero.1 hl);subst this
  have hal:∀i,listed.getD i true=true:=λi=>by
   cases h:listed.getD i true with
   |true=>rfl
   |false=>obtain⟨_,he,_⟩:=(hm i).1 h;cases he
  refine⟨?_,hQ _ _ _ hal dQ (Rw _ _ _ _ _ hx hR)⟩;rw [List.eq_nil_iff_forall_not_mem];intro j hj;rw [(mem_ready.1 hj).1.symm.trans (hal j)] at *;have:=(mem_ready.1 hj).1;rw [hal j] at this;cases this
 |succ fuel ih=>
  intro listed es s q a w hl hx hP hc hi hm hb ho kU hao um oO dQ hR hQ;refine⟨λhr=>?_,λi fN=>?_⟩
  . cases es with
    |nil=>
     refine hQ _ _ _ (λi=>?_) dQ (Rw _ _ _ _ _ hx hR);cases h:listed.getD i true with
     |true=>rfl
     |false=>obtain⟨_,he,_⟩:=(hm i).1 h;cases he
    |cons e es=>
     exfalso;have hoe:=ho e z!;obtain⟨oo,TR,haf⟩:=sm _ _ hoe;have jU:e.i<ops.size:=(Q!.1 TR).1
     have :e.i∈Region.ready .any ops listed:=by
      refine mem_ready.2 ⟨(hm e.i).2 ⟨e,z!,rfl⟩,oo,TR,λx Dg hbx=>?_⟩;rw [<-haf] at Dg;have hon:=hb e z! x (by simpa using Dg) hbx;rw [<-rB (by rw [dQ];omega)];cases hq:listed.getD x.on true with
      |true=>rfl
      |false=>
       obtain⟨g,hg,hgi⟩:=(hm x.on).1 hq;exfalso;rcases P!.1 hg with rfl|hg
       . omega
       . have :e.i<g.i:=(a?.1 hi).1 g.i (S? hg);omega
     rw [hr] at this;cases this
  . obtain⟨h0,o,xQ,Nn⟩:=mem_ready.1 fN;obtain⟨f,hf,Le⟩:=(hm i).1 h0;obtain⟨es1,so,rfl⟩:=List.append_of_mem hf;subst Le;have ZH:=ho f z!;rw [<-ho2 _ _ _ xQ ZH] at Nn;obtain⟨m1,m2⟩:=hP.mid
    have ays:∀g∈all,jR[g.i]? =some f.o->∀k∈g.pre,listed.getD k false=true:=by
     intro g hg ZI k hk
     have hgf:g.o=f.o:=by
      have:=hao g hg;rw [ZI] at this;exact(W? this).symm
     obtain⟨x,Qn,ZJ,hx3⟩:=um g hg k hk;rw [hgf] at Qn;have Lg:=Nn x (by simpa using Qn) ZJ;rcases hx3 with rfl|⟨g',xR,hgi,hkg⟩
     . exact Lg
     . refine oO g' xR ?_ k hkg;rw [hgi];rw [A?] at Lg |-;cases hq:listed[x.on]? with
       |none=>rfl
       |some b=>rw [hq] at Lg;exact Lg
    have vr:∀e∈es1,th jR.toList e f=true:=by
     intro e he;rcases(m1 e he).2 with hw|hw
     . exfalso;have hmk:e.i∈f.pre:=(CN _ _).1 hw;have this:=ays f (kU f z!) ZH e.i hmk;have he0:=(hm e.i).2 ⟨e,by simp [he],rfl⟩
       have jU:e.i<listed.size:=by
        rw [dQ,<-To];exact(Q!.1 (ho e (by simp [he]))).1
       rw [rB jU] at he0;rw [he0] at this;cases this
     . exact hw
    obtain⟨c1,c2⟩:=abd es1 f so s q hx vr hP hc;refine ZG f listed s a w _ (kU f z!) c1 (hc f z!) dQ h0 Nn hR λa' w' ga=>?_;have cf:=hc f z!
    have jx:∀e∈es1++so,e∈es1++f::so:=by
     intro e he;rw [F!] at he |-;exact he.imp id (E! _)
    have fh:∀e∈es1++so,e.i≠f.i:=by
     intro e he;rw [l?,G?,List.pairwise_append] at hi;obtain⟨p1,p2,p3⟩:=hi;rcases F!.1 he with he|he
     . have :e.i<f.i:=p3 e.i (S? he) f.i z!;omega
     . have :f.i<e.i:=(a?.1 p2).1 e.i (S? he);omega
    have aGa:f.i<listed.size:=by rw [dQ,<-To];exact(Q!.1 ZH).1
    refine ih (listed.setIfInBounds f.i true) (es1++so) (ap jR.toList f s) q a' w' ?_ c2 hP.sub ?_ ?_ ?_ (λe he=>hb e (jx e he)) (λe he=>ho e (jx e he)) (λe he=>kU e (jx e he)) hao um ?_ (by simpa using dQ) ga hQ
    . simp only [K!,O?] at hl |-;omega
    . intro g hg;refine(hc g (jx g hg)).ap cf ?_;rcases F!.1 hg with hg|hg
      . exact(apart_spec (vr g hg)).2.2.2.2.2.2.2
      . exact m2 g hg
    . refine hi.sublist ?_;rw [l?,l?,G?];exact List.Sublist.append (List.Sublist.refl _) (List.sublist_cons_self _ _)
    . intro i;by_cases hif:i=f.i
      . subst hif
        have :(listed.setIfInBounds f.i true).getD f.i true=true:=by
         rw [A?,Array.getElem?_setIfInBounds_self_of_lt aGa];rfl
        rw [this];constructor
        . intro h;cases h
        . rintro⟨e,he,h⟩;exact absurd h (fh e he)
      . rw [getD_set_ne true (λh=>hif h.symm),hm i];constructor
        . rintro⟨e,he,rfl⟩;refine⟨e,?_,rfl⟩;rw [F!,P!] at he;rw [F!];rcases he with he|rfl|he
          . exact .inl he
          . exact absurd rfl hif
          . exact .inr he
        . rintro⟨e,he,rfl⟩;exact⟨e,jx e he,rfl⟩
    . intro g hg hlg k hk;by_cases hgf:g.i=f.i
      . exact getD_set_true (ays g hg (by rw [hgf];exact ZH) k hk)
      . rw [getD_set_ne true (λh=>hgf h.symm)] at hlg;exact getD_set_true (oO g hg hlg k hk)
def Bh:∀(a b:M Nat) (k:Nat),k∈Gq a b->k∈a\/k∈b
 |[],b,k,h=>.inr h
 |j::a,b,k,h=>by
  simp [Gq] at h;cases hj:ay b j with
  |true=>
   rw [hj] at h;rcases Bh a b k h with h|h
   . exact .inl (E! _ h)
   . exact .inr h
  |false=>
   rw [hj] at h;rcases Bh a (j::b) k h with h|h
   . exact .inl (E! _ h)
   . rcases P!.1 h with rfl|h
     . exact .inl (I! ..)
     . exact .inr h
theorem Np:∀(tr:M Ev) (i k:Nat),k∈TG i tr->∃g∈tr,g.i=i/\k∈g.pre
 |e::tr,i,k,h=>by
  simp [TG] at h;cases hb:Nat.beq e.i i with
  |true=>rw [hb] at h;exact⟨e,I! ..,C! hb,h⟩
  |false=>
   rw [hb] at h;obtain⟨g,h1,h2⟩:=Np tr i k h;exact⟨g,E! _ h1,h2⟩
 |[],_,_,h=>by cases h
theorem EM:∀(tr:M Ev) (xs:M Edge) (k:Nat),k∈lT tr xs->∃x∈xs,Region.binds .any x=true/\(x.on=k\/∃g∈tr,g.i=x.on/\k∈g.pre)
 |tr,x::xs,k,h=>by
  simp [lT] at h;cases hb:Region.binds .any x with
  |true=>
   rw [hb] at h;rcases Bh _ _ k h with h|h
   . grind[List.mem_cons_self,Np]
   . obtain⟨y,h1,h2⟩:=EM tr xs k h;exact⟨y,E! _ h1,h2⟩
  |false=>
   rw [hb] at h;obtain⟨y,h1,h2⟩:=EM tr xs k h;exact⟨y,E! _ h1,h2⟩
 |_,[],_,h=>by cases h
def ZK(es:M Ev):∀(tr:M Ev),TM kb ops tr es->∀f∈es,∀k∈f.pre,∃x∈f.o.after.toList,Region.binds .any x=true/\(x.on=k\/∃g,(g∈tr\/g∈es)/\g.i=x.on/\k∈g.pre):=by
 induction es with
 |nil=>grind
 |cons e es ih=>
  intro tr h f hf k hk;obtain⟨_,hp,hr⟩:=h;grind[EM,List.mem_cons_self,List.mem_cons_of_mem]
def GG {kb:Nat}{ops:M Oper}:∀(es tr:M Ev),TM kb ops tr es->(∀e∈tr,∀f∈es,nq e.cq.vq (f.cq.new.map (·.1))=true/\(waits f e=true\/th ops e f=true))/\
  uk ops es/\(∀f∈es,∀x∈f.o.after.toList,Region.binds .any x=true->x.on<f.i)/\(∀f∈es,∀x∈f.cq.new,cN kb ((eB ops).map .dst) x.1=true)/\
  ∀f∈es,nq (f.kr++(f.cq.wr++f.cq.vq)) [eC]=true/\Ix f=true
 |[],tr,_=>⟨λ_ _ f hf=>x!,trivial,λf hf=>x!,λf hf=>x!,λf hf=>x!⟩
 |f::es,tr,⟨h,_,hr⟩=>by
  obtain⟨r1,r2,r3,r4,r5⟩:=GG es (f::tr) hr;simp only [mT,L!,B!] at h;obtain⟨⟨⟨h1,h2⟩,h3⟩,h4⟩:=h;simp only [Z!,Z?,B!] at h1 h2 h3;refine⟨λe he g hg=>?_,⟨λg hg=>r1 f z! g hg,r2⟩,λg hg x hx hb=>?_,λg hg x hx=>?_,λg hg=>?_⟩
  . grind
  . rcases P!.1 hg with rfl|hg
    . rcases h2 x hx with h|h
      . grind
      simp_all
    grind
  . rcases P!.1 hg with rfl|hg
    . exact h3 x hx
    . exact r4 g hg x hx
  . rcases P!.1 hg with rfl|hg
    . exact h4
    . exact r5 g hg
theorem aw.drew(hB:aw C A β st a w)(n:Nat):aw C A β st a {w with drawn:=n}:=by
 have hK:cg w {w with drawn:=n} A A:=λb hb=>⟨hb,rfl⟩;refine⟨hB.defers,hB.size,λi=>jf hK _ _ (hB.tmps i),λk ab h=>?_,hB.apart,hB.bound,⟨hB.frame.os,hB.frame.tape,hB.frame.output,hB.frame.size,hB.frame.block⟩,hB.iP,hB.base,hB.mO,hB.pj,λi d hd=>(hB.laid i d hd).mono hK,hB.held⟩;have:=xE (w:=w) (az:=β) (new:=[]) (w':={w with drawn:=n}) (λ_ _=>rfl) rfl (λb hb=>⟨rfl,id⟩) hK (hB.blocks k ab h);rwa [show bH [] ab=ab from rfl] at this
def agd(es:M Ev):∀(s q:St),uh E ops es s q->∀e∈es,ops[e.i]? =some e.o:=by
 induction es with
 |nil=>grind
 |cons e es ih=>
  intro s q hx f hf;obtain⟨s1,h1,h2⟩:=hx;rcases P!.1 hf with rfl|hf
  . exact h1.op
  grind
def Nq {ops jR:Array Oper}(To:jR.size=ops.size)(ho2:∀(i:Nat) (o o':Oper),ops[i]? =some o->jR[i]? =some o'->o'.after=o.after){s0 m:St}{cs:M Prop}(h:q8 E true jR.toList 0 [] jR.toList s0=some (cs,m))(dX:∀p∈cs,p)
  (K2:∀i,aJ (cN s0.kb ((eB jR.toList).map .dst)) (s0.t i)=s0.t i) (Tc:∀k,ca (cN s0.kb ((eB jR.toList).map .dst)) (s0.h k)=s0.h k):
  ∃(es:M Ev) (sl:St),(∀f∈es,jR[f.i]? =some f.o/\nq (f.kr++(f.cq.wr++f.cq.vq)) [eC]=true/\Ix f=true)/\(∀(C:Ctx) A β a w,aw C A β sl a w->aw C A β m a w)/\
   ∀(R:Array Bool->St->Act->World->Prop) (Q:Exit->Act->World->Prop) (a:Act) (w:World),(∀listed s r a w,iT r s->R listed s a w->R listed r a w)->
   (∀(f:Ev) (listed:Array Bool) (s:St) (a:Act) (w:World) (K:Act->World->Prop),f∈es->kJ E jR.toList f s (ap jR.toList f s)->Clean f s->listed.size=ops.size->listed.getD f.i true=false->
     (∀x∈f.o.after,Region.binds .any x=true->listed.getD x.on false=true)->R listed s a w->(∀a' w',R (listed.setIfInBounds f.i true) (ap jR.toList f s) a' w'->K a' w')->wpOp P ops Q f.i K a w)->
   R (Array.replicate ops.size false) s0 a w->(∀listed a' w',(∀i,listed.getD i true=true)->listed.size=ops.size->R listed sl a' w'->Q .normal a' w')->wpAny P .any ops Q ops.size (Array.replicate ops.size false) a w:=by
 obtain⟨es,sl,h1,h2,h3,h4⟩:=ui jR.toList 0 [] _ cs m h dX (λk=>by simp);obtain⟨_,p1,p2,p3,p4⟩:=GG es [] (h3 rfl)
 have hlen:es.length=ops.size:=by
  have:=congrArg List.length h2;grind
 have ayt:∀i,(∃e∈es,e.i=i)↔i<ops.size:=by
  intro i;have :(∃e∈es,e.i=i)↔i∈es.map (·.i):=by simp
  grind
 have ZI:∀e∈es,jR[e.i]? =some e.o:=λe he=>by
  have:=agd es _ _ h1 e he;simpa using this
 refine⟨es,sl,λf hf=>⟨ZI f hf,p4 f hf⟩,h4,λR Q a w Rw ZG h0 hQ=>?_⟩;refine ZF To ho2 Rw ZG ops.size _ es _ sl _ _ w! h1 p1 (λg hg=>?_) ?_ (λi=>?_) p2 ZI (λ_ h=>h) ZI ?_ ?_ z! h0 hQ
 . have hp:∀k,gK g.cq.new k=true->cN s0.kb ((eB jR.toList).map .dst) k=true:=by
    intro k hk
    have :∃x∈g.cq.new,x.1=k:=by
     rw [yW] at hk
     have :k∈g.cq.new.map (·.1):=by
      apply P?;intro hn;rw [jB _ k (ji.2 hn)] at hk;cases hk
     simpa using this
    obtain⟨x,hx,rfl⟩:=this;exact p3 g hg x hx
   have ayu:∀k,(cN s0.kb ((eB jR.toList).map .dst) k || gK g.cq.new k)=cN s0.kb ((eB jR.toList).map .dst) k:=by
    intro k;cases hk:gK g.cq.new k with
    |false=>rw [Bool.or_false]
    |true=>rw [hp k hk];rfl
   refine⟨λi=>?_,λk=>?_⟩
   . rw [<-K2 i,dx];simp only [ayu]
   . rw [<-Tc k,fQ];simp only [ayu]
 . rw [h2];exact List.pairwise_lt_range'
 . rw [ayt];constructor
   . intro h;by_cases hi:i<ops.size
     . exact hi
     . rw [A?,Array.getElem?_eq_none (by simpa using hi)] at h;cases h
   . intro hi;rw [A?,Array.getElem?_replicate,M! hi];rfl
 . intro f hf k hk;obtain⟨x,g1,g2,g3⟩:=ZK es [] (h3 rfl) f hf k hk;refine⟨x,g1,g2,g3.imp (λh=>h) ?_⟩;rintro⟨g,hg,h⟩;rcases hg with hg|hg
   . cases hg
   . exact⟨g,hg,h⟩
 . intro g hg hlg;have hgi:g.i<ops.size:=(ayt g.i).1 ⟨g,hg,rfl⟩;rw [A?,Array.getElem?_replicate,M! hgi] at hlg;cases hlg
def IB(st:St)(W:M Nat):(∀i,aJ (cN st.kb (W.map .dst)) ((st.ahead W).t i)=(st.ahead W).t i)/\∀k,ca (cN st.kb (W.map .dst)) ((st.ahead W).h k)=(st.ahead W).h k:=by
 constructor
 . intro i;simp only [St.ahead,dx,Bool.or_self]
 . intro i;simp only [St.ahead,fQ,Bool.or_self]
theorem QF(hE:dq P C E)(hm:P.follows .mixedOrders=true){id:Nat}{ops:Array Oper}{cs:M Prop}{m:St}(h:q8 E true ops.toList 0 [] ops.toList (st.ahead (eB ops.toList))=some (cs,m))(dX:∀p∈cs,p)
  (hR:Rel C st a w) (hQ:∀a' w',Rel C m a' w'->Q .normal a' w'):(Code.region id ops true).wp P Q a w:=by
 obtain⟨es,sl,_,h1,h2⟩:=Nq (P:=P) (ops:=ops) rfl (λi o o' h1 h2=>by rw [h1] at h2;cases h2;rfl) h dX (IB st _).1 (IB st _).2;obtain⟨A,β,hB⟩:=hR;exact wp_region_any hm (h2 (λ_ s a w=>Rel C s a w) Q _ _ (λ_ s r a w hq ⟨A,β,hB⟩=>⟨A,β,hB.seq hq⟩) (λf _ s a w K _ hf _ _ _ _ hR hK=>qi hE hf hR hK) ⟨A,β,(hB.ahead _).drew _⟩ λ_ a' w' _ _ ⟨A,β,hB⟩=>hQ _ _ ⟨A,β,h1 _ _ _ _ _ hB⟩)
theorem WK {ops:Array Oper}{i:Nat}{o:Oper}(ho:ops[i]? =some o)(h:wpOp P ops Q i K a w):
  wpOp P ops Q i (λa' w'=>K a' w'/\∀j,o.dst≠some j->a'.tmps.getD j undef=a.tmps.getD j undef) a w:=by
 have hp:∀(b:Act) (v:Value),b.tmps=a.tmps->∀j,o.dst≠some j->(b.put o.dst v).tmps.getD j undef=a.tmps.getD j undef:=by
  unfold Act.put;cases hd:o.dst with
  |none=>grind
  |some d=>
   simp_all
 unfold wpOp at *;simp [ho] at *;split
 . rename_i hw;rw [if_pos hw] at h;refine h.imp (λh=>?_) id;unfold Oper.wp at *;generalize (execOp a.eval o).run P w=r at *;cases r with
   |ok n w'=>
    cases n with
    |enter f args=>exact Calls.mono h λe Qk he=>by grind
    |row r args=>exact Rows.mono h λ_ _ he=>⟨he,hp _ _ rfl⟩
    |value v=>exact⟨h,hp _ _ rfl⟩
    |skip=>exact⟨h,hp _ _ rfl⟩
    |defer d=>exact⟨h,hp _ _ rfl⟩
    |_=>exact h
   |halt x w'=>cases x<;>exact h
 grind
def Cl(s:St):Prop:=∀o,Clean ⟨0,o,some {cond:=[],res:=.cF,new:=[(eC,.cells [])]},[],[]⟩ s
def EN {x:AB}:gK [(eC,x)]=λk=>Nat.beq k eC:=by
 grind[gK]
def TS:Cl s↔(∀i,aJ (λk=>Nat.beq k eC) (s.t i)=s.t i)/\∀k,ca (λk=>Nat.beq k eC) (s.h k)=s.h k:=by
 rw [<-EN (x:= .cells [])];exact⟨λh=>h ⟨none,MX,0,"", #[],none⟩,λh _=>h⟩
def apH(s:St):Cl s.cut:=by
 simp_all[TS,St.cut,dx,Bool.or_self,fQ]
def St.wm(s:St)(b:Nat)(es:Array MapEntry)(ck:Nat):St:={s with h:=λk=>bif Nat.beq k eC then some (.mp b es ck) else s.h k}
theorem Bi:(fK L o).dst=o.dst/\(fK L o).guard=o.guard/\(fK L o).after=o.after:=by
 grind[fK]
theorem ZL:EE (ops.map (fK L)) j=EE ops j:=by
 unfold EE;rw [List.getElem?_map];cases ops[j]? with
 |none=>rfl
 |some o=>exact Bi.1
theorem TT:aMa (ops.map (fK L)) j=aMa ops j:=by
 grind[aMa,List.any_map,Bi]
theorem Kb {L:M Nat}{ops:M Oper}{f:Ev}{s s':St}(h:kJ E (ops.map (fK L)) f s s')(ho:ops[f.i]? =some f.o):kJ E ops f s s':=by
 have hg:∀t,MV (ops.map (fK L)) t f.o=MV ops t f.o:=λt=>by grind[MV,ZL]
 refine⟨ho,h.dst,h.kr,?_,by have:=h.next;grind[TT]⟩;have:=h.step;grind
def Rx {i0 d:Nat}{t:TypeId}:∀(ops:M Oper) (i:Nat),aa5 i ops=some (i0,d,t)->i<=i0/\∃o,ops[i0-i]? =some o/\o.op= .makeMap t none/\o.dst=some d
 |o::r,i,h=>by
  unfold aa5 at h;split at h
  . grind
  . obtain⟨h1,o',h2,h3⟩:=Rx r (i+1) h;grind
theorem y5 {L:M Nat}:∀(ops:M Oper) (i:Nat) (q:Nat×Int×Nat),q∈eb L i ops↔∃o t,i<=q.1/\ops[q.1-i]? =some o/\role L o= .ins t q.2.1 q.2.2
 |[],i,q=>by simp [eb]
 |o::r,i,q=>by
  have ih:=y5 (L:=L) r (i+1) q;unfold eb;grind
theorem CO{q:Nat×Int×Nat}:q∈eb L 0 ops↔∃o t,ops[q.1]? =some o/\role L o= .ins t q.2.1 q.2.2:=by
 grind[y5]
def uo {L:M Nat}:∀(ops:M Oper) (i:Nat),((eb L i ops).map (·.1)).Nodup
 |[],i=>by simp [eb]
 |o::r,i=>by
  have ih:=uo (L:=L) r (i+1);unfold eb;split
  . rw [G?,List.nodup_cons];refine⟨λh=>?_,ih⟩;obtain⟨q,h1,h2⟩:=T?.1 h;obtain⟨_,_,h3,_⟩:=(y5 r (i+1) q).1 h1;omega
  . exact ih
def GH {α:Type}{p p':α->Bool}{x:α}:∀(l:M α),l.Nodup->x∈l->p x=false->(∀y∈l,p' y=true↔p y=true\/y=x)->(l.filter p').Perm (l.filter p++[x])
 |y::l,hn,hx,hp,h=>by
  rw [List.nodup_cons] at hn;have hy:=h y (I! ..);by_cases hyx:y=x
  . subst hyx
    have e:l.filter p'=l.filter p:=List.filter_congr λz hz=>by
     grind
    rw [List.filter_cons_of_pos (hy.2 (.inr rfl)),List.filter_cons_of_neg x!,e];exact(List.perm_append_singleton y _).symm
  . have ih:=GH l hn.2 (by rcases P!.1 hx with h|h;exact absurd h.symm hyx;exact h) hp λz hz=>h z (E! _ hz);cases hpy:p y with
    |true=>
     rw [List.filter_cons_of_pos (hy.2 (.inl hpy)),List.filter_cons_of_pos hpy];exact ih.cons y
    |false=>
     have hn':¬p' y=true:=λh=>by rcases hy.1 h with h|h;rw [hpy] at h;cases h;exact hyx h
     rw [List.filter_cons_of_neg hn',List.filter_cons_of_neg (by simp [hpy])];exact ih
def Bj {α γ:Type}{f:α->γ}:∀ {l:M α},(l.map f).Nodup->∀x∈l,∀y∈l,f x=f y->x=y
 |z::l,h,x,hx,y,hy,e=>by
  rw [G?,List.nodup_cons] at h;rcases P!.1 hx with h1|h1<;>rcases P!.1 hy with h2|h2
  . exact h1.trans h2.symm
  . exact absurd (T?.2 ⟨y,h2,by rw [<-e,h1]⟩) h.1
  . exact absurd (T?.2 ⟨x,h1,by rw [e,h2]⟩) h.1
  . exact Bj h.2 x h1 y h2 e
def DU {α γ:Type}{f:α->γ}:∀ {l:M α},(l.map f).Nodup->l.Nodup
 |[],_=>List.nodup_nil
 |z::l,h=>by
  rw [G?,List.nodup_cons] at h;exact List.nodup_cons.2 ⟨λhz=>h.1 (S? hz),DU h.2⟩
structure MI (L:List Nat) (ops:List Oper) (listed:Array Bool) (a:Act) (b:Nat) (es:Array MapEntry):Prop where
 at_:∀j o e,ops[j]? =some o->QA L o=true->o.dst=some e->listed.getD j false=true->a.tmps.getD e undef= .map (some b)
 done :∀q∈eb L 0 ops,listed.getD q.1 false=true->∀(j:Nat) (o:Oper),ops[j]? =some o->o.dst=some q.2.2->listed.getD j false=true
 there:(es.toList.map λx=>(x.key,x.val)).Perm (((eb L 0 ops).filter λq=>listed.getD q.1 false).map λq=>(Value.int .i64 q.2.1,a.tmps.getD q.2.2 undef))
structure ayv (T:b9) (L:List Nat) (ops:List Oper) (i0 d:Nat) (t:TypeId):Prop where
 new:∃o,ops[i0]? =some o/\o.op= .makeMap t none/\o.dst=some d
 ty:∃te kt et,T.find t=some te/\te.desc= .map kt et/\cU T kt wP=true
 nodup:gT ((eb L 0 ops).map (·.2.1))=true
 chk:∀(i:Nat) (o:Oper),ops[i]? =some o->aa6 L ops i0 t i o=true
def WL {T:b9}(h:TI T ops=some (i0,t,L)):∃d,ayv T L ops i0 d t:=by
 unfold TI at h;split at h
 . rename_i i d t' hm;split at h
   . rename_i te jv;split at h
     . rename_i kt et hd;rw [cond_eq_ite] at h;split at h
       . rename_i hq;cases h;simp at hq;obtain⟨_,o,h1,h2,h3⟩:=Rx _ _ hm;refine⟨d,⟨o,w!,h2,h3⟩,⟨te,kt,et,jv,hd,hq.1⟩,hq.2.1,λi o ho=>?_⟩;grind
       grind
     grind
   grind
 grind
def qk(h:Gs o j=true)(hl:∀x∈o.after,Region.binds .any x=true->listed.getD x.on false=true):listed.getD j false=true:=by
 obtain⟨x,hx,hb⟩:=List.any_eq_true.1 h;grind[Nat.eq_of_beq_eq_true]
theorem fR(hi:i<listed.size):(listed.setIfInBounds i true).getD j false=if i=j then true else listed.getD j false:=by
 simp;grind
theorem MI.q9 {L:M Nat}{listed:Array Bool}{a':Act}{b:Nat}{i:Nat}{o:Oper}(h:MI L ops listed a b es)(hi:i<listed.size)(hl:listed.getD i true=false)(ho:ops[i]? =some o)
  (hn:∀t k x,role L o≠ .ins t k x) (ha:∀j,o.dst≠some j->a'.tmps.getD j undef=a.tmps.getD j undef)
  (hd:∀j q e,ops[j]? =some q->QA L q=true->q.dst=some e->o.dst=some e->(j=i\/listed.getD j false=true)->a'.tmps.getD e undef= .map (some b)) (hw:QA L o=true->o.dst.isSome):MI L ops (listed.setIfInBounds i true) a' b es:=by
 have hlf:listed.getD i false=false:=by
  grind
 have JU:∀q∈eb L 0 ops,listed.getD q.1 false=true->o.dst≠some q.2.2:=λq hq Ag hd=>by
  rw [h.done q hq Ag i o ho hd] at hlf;grind
 have hqi:∀q∈eb L 0 ops,i≠q.1:=λq hq e=>by
  grind[CO]
 refine⟨λj q e hq hw' he hj=>?_,λq hq Ag j o' hj po=>?_,?_⟩
 . rw [fR hi] at hj;by_cases Zp:o.dst=some e
   . grind
   . rw [ha e Zp];refine h.at_ j q e hq hw' he ?_;grind
 . rw [fR hi,J! (hqi q hq)] at Ag;rw [fR hi];split
   . rfl
   . exact h.done q hq Ag j o' hj po
 . have e1:((eb L 0 ops).filter λq=>(listed.setIfInBounds i true).getD q.1 false)=(eb L 0 ops).filter λq=>listed.getD q.1 false:=
    List.filter_congr λq hq=>by rw [fR hi,J! (hqi q hq)]
   have e2:(((eb L 0 ops).filter λq=>listed.getD q.1 false).map λq=>(Value.int .i64 q.2.1,a'.tmps.getD q.2.2 undef))=((eb L 0 ops).filter λq=>listed.getD q.1 false).map λq=>(Value.int .i64 q.2.1,a.tmps.getD q.2.2 undef):=
    R? λq hq=>by
     rw [List.mem_filter] at hq;rw [ha _ (JU q hq.1 hq.2)]
   rw [e1,e2];exact h.there
def RM(C:Ctx)(L:M Nat)(ops:M Oper)(i0:Nat)(listed:Array Bool)(s:St)(a:Act)(w:World):Prop:=Cl s/\s.h eC=none/\∃A β,
 (listed.getD i0 false=false/\(∀(j:Nat) (o:Oper),ops[j]? =some o->role L o≠ .no->listed.getD j false=false)/\aw C A β s a w)\/
 ∃b es ck,listed.getD i0 false=true/\aw C A β (s.wm b es ck) a w/\MI L ops listed a b es
theorem Cl.seq(h:Cl s)(hq:iT r s):Cl r:=by
 rw [TS] at *;rwa [hq.1,hq.2.1]
theorem iT.wm {s r:St}(h:iT r s)(b:Nat)(es:Array MapEntry)(ck:Nat):iT (r.wm b es ck) (s.wm b es ck):=
 ⟨h.1,by simp [St.wm,h.2.1],h.2.2⟩
theorem RM.seq {L:M Nat}{ops:M Oper}{i0:Nat}{listed:Array Bool}{s r:St}(h:RM C L ops i0 listed s a w)(hq:iT r s):RM C L ops i0 listed r a w:=by
 obtain⟨h1,h2,A,β,h⟩:=h;refine⟨h1.seq hq,by rw [hq.2.1];omega,A,β,?_⟩;rcases h with⟨g1,g2,g3⟩|⟨b,es,ck,g1,g2,g3⟩
 . exact .inl ⟨g1,g2,g3.seq hq⟩
 . exact .inr ⟨b,es,ck,g1,g2.seq (hq.wm b es ck),g3⟩
def aAf(h:Cl s)(hc:Clean f s)(hd:nq (f.kr++(f.cq.wr++f.cq.vq)) [eC]=true):Cl (ap ops f s):=λo=>
 (h o).ap hc (by
   unfold nq at *;rw [List.all_append,List.all_append,Bool.and_eq_true,Bool.and_eq_true] at hd;exact hd.2.2)
def apJ(hc:Clean f s)(hn:s.h eC=none)(hd:nq (f.kr++(f.cq.wr++f.cq.vq)) [eC]=true):(ap ops f s).h eC=none:=by
 rw [Ka hc,pM (λh=>rA hd eC x! z!)];omega
def aAg{b:Nat}{ck:Nat}(hc:Clean f s)(hd:nq (f.kr++(f.cq.wr++f.cq.vq)) [eC]=true):Clean f (s.wm b es ck)/\iT ((ap ops f s).wm b es ck) (ap ops f (s.wm b es ck)):=by
 have hc2:Clean f (s.wm b es ck):=by
  refine⟨hc.1,λk=>?_⟩;simp [St.wm];cases Nat.beq k eC with
  |true=>rfl
  |false=>exact hc.2 k
 refine⟨hc2,?_,?_,by grind[Nh,St.wm],by grind[EL,St.wm],by grind[Ni,St.wm]⟩
 . funext i;show(ap ops f s).t i=_;rw [Nj hc,Nj hc2];rfl
 . funext k;rw [Ka hc2];simp [St.wm];cases hk:Nat.beq k eC with
   |true=>
    have:=Nat.eq_of_beq_eq_true hk;rw [pM (λh=>rA hd eC x! z!)];rfl
   |false=>simp_all[O!,Ka]
def TU(hc:Clean f s)(ho:f.o.op=MX)(hn:Ix f=true):f.cq.wr=[]/\(∀k,(ap ops f s).h k=s.h k)/\∀i,(ap ops f s).t i=if f.o.dst=some i then .cF else s.t i:=by
 simp [Ix,ho,MX,B!,List.isEmpty_iff] at hn
 have hr:f.cq.res= .cF:=by
  grind
 refine⟨hn.2.1,λk=>?_,λi=>?_⟩
 . grind[Ka,pM]
 . rw [Nj hc,hr];cases aMa ops f.i<;>rfl
variable {ops:Array Oper}{x:Nat}
def EO{i:Nat}{o:Oper}(h:ops[i]? =some o)(hg:o.guard=none)(hw:o.wp P a w K Q):wpOp P ops Q i K a w:=by
 simp_all[wpOp,M!,Region.wanted]
def WM {d:Nat}(hd:d<a.tmps.size):(a.put (some d) v).tmps.getD d undef=v:=by
 simp [Act.put,A?,hd]
def ajW(hd:d≠some j):(a.put d v).tmps.getD j undef=a.tmps.getD j undef:=by
 cases d with
 |none=>rfl
 |some d=>
  simp_all[Act.put,A?,Array.getElem?_setIfInBounds,J!]
theorem Ry(h:Iy L o=true):∃e,o.dst=some e/\ay L e=true:=by
 grind[Iy]
def ajX(h:role L o= .cp x):o.op= .move (.tmp x)\/o.op= .assign (.tmp x):=by
 grind[role]
def agf{k:Int}(h:role L o= .ins t k x):∃s,o.op= .insert t (.tmp s) (.const (.int .i64 k)) (.tmp x):=by
 grind[role]
def agh(hE:dq P C E){L:M Nat}{ops:Array Oper}{d:Nat}(hp:ayv E.T L ops.toList i0 d t){f:Ev}{s:St}
  (hf0:(ops.toList.map (fK L))[f.i]? =some f.o) (hdj:nq (f.kr++(f.cq.wr++f.cq.vq)) [eC]=true) (vt:Ix f=true) (hf:kJ E (ops.toList.map (fK L)) f s (ap (ops.toList.map (fK L)) f s)) (hc:Clean f s) (dQ:listed.size=ops.size)
  (hl:listed.getD f.i true=false) (haf:∀x∈f.o.after,Region.binds .any x=true->listed.getD x.on false=true) (hR:RM C L ops.toList i0 listed s a w)
  (hK:∀a' w',RM C L ops.toList i0 (listed.setIfInBounds f.i true) (ap (ops.toList.map (fK L)) f s) a' w'->K a' w'):wpOp P ops Q f.i K a w:=by
 rw [B?] at hf0
 obtain⟨o,ho,ZH⟩:∃o,ops.toList[f.i]? =some o/\fK L o=f.o:=by
  cases h:ops.toList[f.i]? with
  |none=>rw [h] at hf0;cases hf0
  |some o=>rw [h] at hf0;exact⟨o,rfl,W? hf0⟩
 have hoa:ops[f.i]? =some o:=by grind
 have Le:f.i<listed.size:=by
  grind
 have hlf:listed.getD f.i false=false:=by grind
 have qY:f.o.dst=o.dst:=by grind[Bi]
 have WN:∀x∈o.after,Region.binds .any x=true->listed.getD x.on false=true:=by grind[Bi]
 have xN:=hp.chk f.i o ho;unfold aa6 at xN;rw [Bool.and_eq_true] at xN;obtain⟨hg,xN⟩:=xN;have hg:o.guard=none:=by simp_all
 obtain⟨oO,ZM,A,β,hR⟩:=hR;have WO:=aAf (ops:=ops.toList.map (fK L)) oO hc hdj;have WQ:=apJ (ops:=ops.toList.map (fK L)) hc ZM hdj
 have sk:∀j,listed.getD j false=true->(listed.setIfInBounds f.i true).getD j false=true:=λj hj=>by
  grind[fR]
 obtain⟨oi,xQ,aLz,ajZ⟩:=hp.new;have hri:role L oi= .mk:=by grind[role]
 cases AW:role L o with
 |no=>
  rw [AW] at xN
  have hnd:∀e,o.dst=some e->ay L e=false:=λe he=>by
   grind[Iy,Bool.not_eq_true']
  have TR:f.o=o:=by grind[fK]
  rcases hR with⟨g1,g2,g3⟩|⟨b,es,ck,g1,g2,g3⟩
  . refine qi hE (Kb hf x!) ⟨A,β,g3⟩ λa' w' ⟨A',az,h'⟩=>hK _ _ ⟨WO,WQ,A',az,.inl ⟨?_,λj q hq hr=>?_,h'⟩⟩
    . rw [fR Le,J!]
      . omega
      grind
    . rw [fR Le,J!]
      . grind
      grind
  . obtain⟨c1,c2⟩:=aAg (ops:=ops.toList.map (fK L)) (b:=b) (es:=es) (ck:=ck) hc hdj
    have hF:=(hf.GF (s':=s.wm b es ck) (λ_ _=>rfl) (λk hk=>by
     simp only [St.wm];cases hkm:Nat.beq k eC with
     |false=>rfl
     |true=>
      have:=C! hkm;subst this;refine absurd ?_ (rA hdj eC ?_)
      . simp
      grind) rfl rfl rfl)
    refine wpOp_mono (λa' w' h=>?_) (WK hoa (qi hE (Kb hF x!) ⟨A,β,g2⟩ (K:=λa' w'=>Rel C _ a' w') λ_ _ h=>h));obtain⟨⟨A',az,h1⟩,h2⟩:=h;refine hK _ _ ⟨WO,WQ,A',az,.inr ⟨b,es,ck,sk _ g1,h1.seq c2,g3.q9 Le hl ho x! h2 (λj q e hq hw he hoe _=>?_) (λh=>by grind[QA])⟩⟩;have:=hp.chk j q hq;unfold aa6 at this;unfold QA at hw;rw [Bool.and_eq_true] at this;grind[Ry]
 |mk=>
  have TR:f.o.op=MX:=by grind[fK]
  rw [AW] at xN;simp only [B!] at xN;have jx:=C! xN.1;rw [jx,xQ] at ho;cases ho;rcases hR with⟨g1,g2,g3⟩|⟨b,es,ck,g1,_⟩
  . have AR:d<s.n:=by
     have:=hf.dst;simp_all[fw,N!]
    obtain⟨n1,n2,n3⟩:=TU (ops:=ops.toList.map (fK L)) hc TR vt;refine EO hoa hg (bB (v:=.map (some w.heap.size)) (w':=w.alloc (.map #[] 0)) (by simp_all[execOp,Instr.makeMap]) ?_);rw [ajZ];refine(hK _ _ ⟨WO,WQ,A,λk=>if k=eC then .pointer (some ⟨w.heap.size,0,none⟩) else β k,.inr ⟨w.heap.size, #[],0,?_,?_,?_⟩⟩)
    . simp_all
    . have hnb:∀k x,al [(eC,AB.mp w.heap.size #[] 0)] k=some x->k=eC/\x= .mp w.heap.size #[] 0:=λk x hk=>by
       grind[al,Nat.beq,eC,Nat.eq_of_beq_eq_true,Option.some.inj]
      have Ad:cg w (w.alloc (.map #[] 0)) A A:=λb hb=>⟨hb,jz _ b (g3.bound b hb)⟩
      refine(g3.step (out:={cond:=[],res:=.cF,new:=[(eC,.mp w.heap.size #[] 0)]}) (A':=A) (d:=some d) (v:=.map (some w.heap.size)) (w':=w.alloc (.map #[] 0)) (λt ht=>by grind)
       (λk x hk=>?_) (λk x hk=>by cases hk) (λk hk=>?_) Ad rfl rfl rfl z! (λb hb _=>jz _ b hb) (λb hb=>?_) (λb hb=>.inl hb) (λk x hk=>by cases hk) (λk x hk=>?_) (λk b x hk hb=>?_) (λk k' b hk fj _ _=>?_) trivial).seq ?_
      . obtain⟨rfl,_⟩:=hnb k x hk;exact⟨ZM,rfl⟩
      . refine J! λe=>?_;subst e;simp [al] at hk
      . have:=g3.bound b hb;simp;omega
      . obtain⟨rfl,rfl⟩:=hnb k x hk;exact⟨rfl,heap_alloc_new w _,λh=>Nat.lt_irrefl _ (g3.bound _ h)⟩
      . obtain⟨rfl,_⟩:=hnb k x hk;simp [ai] at hb;exact .inl w!
      . obtain⟨x,hx⟩:=R!.1 hk;obtain⟨y,hy⟩:=R!.1 fj;rw [(hnb k x hx).1,(hnb k' y hy).1]
      . obtain⟨e1,e2⟩:=TS.1 oO;refine⟨?_,?_,by simp only [St.wm,Nh,St.put],by simp only [St.wm,EL,St.put],by simp only [St.wm,Ni,St.put]⟩
        . funext i;show(ap _ f s).t i=_;rw [n3,qY,ajZ];simp only [St.put,rz,EN,e1];by_cases hi:i=d
          . subst hi;simp
          . rw [J! λh=>hi (W? h).symm,aP hi];rfl
        . funext k;simp only [St.wm,St.put,xD,al,n2];cases Nat.beq k eC with
          |true=>rfl
          |false=>
           simp only [O!,ay];have:=e2 k;cases hk:s.h k with
           |none=>rfl
           |some x=>
            rw [hk] at this;simp only [vO,EN];exact this.symm
    . refine⟨λj q e hq hw he hj=>?_,λq hq Ag=>?_,?_⟩
      . by_cases Ah:f.i=j
        . rw [<-Ah,jx,xQ] at hq;cases hq;rw [ajZ] at he;cases he;exact WM (by rw [g3.size];exact AR)
        . rw [fR Le,if_neg Ah] at hj;rw [g2 j q hq (λh=>by unfold QA at hw;rw [h] at hw;cases hw)] at hj;cases hj
      . exfalso;obtain⟨q',t',h1,h2⟩:=CO.1 hq;rw [fR Le] at Ag;split at Ag
        . rename_i e;rw [<-e,jx,xQ] at h1;cases h1;rw [hri] at h2;cases h2
        . rw [g2 _ _ h1 (by rw [h2];nofun)] at Ag;cases Ag
      . have :((eb L 0 ops.toList).filter λq=>(listed.setIfInBounds f.i true).getD q.1 false)=[]:=by
         rw [List.filter_eq_nil_iff];intro q hq Ag;obtain⟨q',t',h1,h2⟩:=CO.1 hq;rw [fR Le] at Ag;split at Ag
         . rename_i e;rw [<-e,jx,xQ] at h1;cases h1;rw [hri] at h2;cases h2
         . rw [g2 _ _ h1 (by rw [h2];nofun)] at Ag;cases Ag
        rw [this];exact .refl _
  grind
 |cp x=>
  have TR:f.o.op=MX:=by rw [<-ZH];unfold fK;rw [AW]
  rw [AW] at xN;simp only [B!] at xN;have TV:=qk xN.2.1 WN;obtain⟨e,he,heL⟩:=Ry xN.1;rcases hR with⟨g1,_⟩|⟨b,es,ck,g1,g2,g3⟩
  . rw [TV] at g1;cases g1
  . have hx:a.tmps.getD x undef= .map (some b):=by
     obtain⟨j,_,hj⟩:=List.any_eq_true.1 xN.2.2;split at hj
     . rename_i q hq;simp only [B!] at hj;obtain⟨j1,j2,j3⟩:=hj;split at j3
       . rename_i e' TQ;have:=C! j3;subst this;exact g3.at_ j q _ hq j2 TQ (qk j1 WN)
       . cases j3
     . cases hj
    have hxe:(execOp a.eval o).run P w= .ok (.value (.map (some b))) w:=by
     rcases ajX AW with h|h<;>simp [execOp,h,Act.eval,hx]
    refine EO hoa hg (bB hxe ?_);rw [he]
    have AR:e<s.n:=by
     have:=hf.dst;unfold fw at this;rw [qY,he] at this;exact Nat.le_of_ble_eq_true this
    obtain⟨n1,n2,n3⟩:=TU (ops:=ops.toList.map (fK L)) hc TR vt;refine hK _ _ ⟨WO,WQ,A,β,.inr ⟨b,es,ck,sk _ g1,(g2.pure (d:=some e) (c:=[]) (r:=.cF) (v:=.map (some b)) (λt ht=>by cases ht;exact AR) trivial).seq ?_,g3.q9 Le hl ho (by rw [AW];nofun) (λj hj=>ajW (by rw [<-he];exact hj)) (λj q e' _ _ _ h _=>?_) (λ_=>by rw [he];rfl)⟩⟩
    . refine⟨?_,?_,by simp only [St.wm,Nh,St.put],by simp only [St.wm,EL,St.put],by simp only [St.wm,Ni,St.put]⟩
      . funext i;show(ap _ f s).t i=_;rw [n3,qY,he];simp only [St.put,St.wm,nS];by_cases hi:i=e
        . subst hi;simp
        . rw [J! λh=>hi (W? h).symm,aP hi];rfl
      . funext k;simp only [St.wm,St.put,xD,al,n2,ay,bH];cases Nat.beq k eC with
        |true=>rfl
        |false=>simp only [O!];cases s.h k<;>rfl
    . rw [he] at h;cases h;exact WM (by rw [g2.size];exact AR)
 |ins t' k x=>
  have TR:f.o.op=MX:=by rw [<-ZH];unfold fK;rw [AW]
  obtain⟨z,Nl⟩:=agf AW;rw [AW] at xN;simp only [Nl,B!,H!] at xN;obtain⟨⟨htt,hk⟩,hod,TV,hD,hM⟩:=xN;have htt:=C! htt;subst htt;have hod:o.dst=none:=by simpa using hod
  have TV:=qk TV WN;rcases hR with⟨g1,_⟩|⟨b,es,ck,g1,g2,g3⟩
  . rw [TV] at g1;cases g1
  . have hx:a.tmps.getD z undef= .map (some b):=by
     obtain⟨j,_,hj⟩:=List.any_eq_true.1 hM;split at hj
     . rename_i q hq;simp only [B!] at hj;obtain⟨j1,j2,j3⟩:=hj;split at j3
       . rename_i e' TQ;have:=C! j3;subst this;exact g3.at_ j q _ hq j2 TQ (qk j1 WN)
       . cases j3
     . cases hj
    have ay:(f.i,k,x)∈eb L 0 ops.toList:=CO.2 ⟨o,_,ho,AW⟩;obtain⟨h1,h2,h3⟩:=g2.blocks eC (.mp b es ck) rfl;obtain⟨te,kt,et,jv,htd,xH⟩:=hp.ty;obtain⟨hu,_⟩:=hE.fc.ok _ te jv;rw [htd] at hu
    have xH:P.underlying kt=some (.int .i64):=by
     unfold cU at xH;split at xH
     . rename_i tk AF;obtain⟨hku,_⟩:=hE.fc.ok kt tk AF;grind[wP]
     . cases xH
    have Zq:(es.toList.map (·.key)).Perm (((eb L 0 ops.toList).filter λq=>listed.getD q.1 false).map λq=>Value.int .i64 q.2.1):=by
     have:=g3.there.map (·.1);simpa [List.map_map,Function.comp_def] using this
    obtain⟨ks,q1,q2⟩:=Es (f:=Value.int .i64) Zq (((eb L 0 ops.toList).filter λq=>listed.getD q.1 false).map (·.2.1)) (by simp [List.map_map,Function.comp_def])
    have hkn:k∉ks:=λhk=>by
     obtain⟨q,e1,e2⟩:=T?.1 (q1.mem_iff.1 hk);rw [List.mem_filter] at e1;have:=Bj ((vK _).1 hp.nodup) q e1.1 _ ay e2;rw [this] at e1;rw [hlf] at e1;cases e1.2
    have hem:a.eval (.tmp z)= .map (some b):=hx;have hek:a.eval (.const (.int .i64 k))= .int .i64 k:=rfl;have hev:a.eval (.tmp x)=a.tmps.getD x undef:=rfl
    have gf:(Instr.mapUpdate t' (.map (some b)) (.int .i64 k) (a.tmps.getD x undef)).run P w= .ok () {w with heap:=w.heap.setIfInBounds b (.map (es.push {key:=.int .i64 k,val:=a.tmps.getD x undef,born:=ck}) (ck+1))}:=by
     have hc:(Instr.checkKey false 10000 kt (.int .i64 k)).run P w= .ok () w:=MapKept.run_checkKey xH (by rfl) false 9999;simp [Instr.mapUpdate,run_underlying hu,MapKept.run_getObj_map h2,hc,MapKept.run_findKey xH (rW k es.toList ks 0 q2 hkn),MapKept.run_setObj_map _ h2,Result.andThen]
    refine EO hoa hg (nU (w':={w with heap:=w.heap.setIfInBounds b (.map (es.push {key:=.int .i64 k,val:=a.tmps.getD x undef,born:=ck}) (ck+1))}) (by simp only [execOp,Nl,hem,hek,hev];generalize a.tmps.getD x undef=v at gf |-;simp [gf]) ?_);rw [hod];have y6:b<w.heap.size:=(Q!.1 h2).1;obtain⟨n1,n2,n3⟩:=TU (ops:=ops.toList.map (fK L)) hc TR vt;have Ad:cg w {w with heap:=w.heap.setIfInBounds b (.map (es.push {key:=.int .i64 k,val:=a.tmps.getD x undef,born:=ck}) (ck+1))} A A:=λy hy=>⟨hy,(MapKept.heap_set h2).2 y λe=>h3 (e▸hy)⟩;refine hK _ _ ⟨WO,WQ,A,β,.inr ⟨b,es.push {key:=.int .i64 k,val:=a.tmps.getD x undef,born:=ck},ck+1,sk _ g1,?_,?_⟩⟩
    . have hub:∀j y,al [(eC,AB.mp b (es.push {key:=.int .i64 k,val:=a.tmps.getD x undef,born:=ck}) (ck+1))] j=some y->j=eC/\y= .mp b (es.push {key:=.int .i64 k,val:=a.tmps.getD x undef,born:=ck}) (ck+1):=λj y hk=>by
       simp only [al] at hk;cases hb:Nat.beq j eC with
       |true=>rw [hb] at hk;exact⟨C! hb,(W? hk).symm⟩
       |false=>rw [hb] at hk;cases hk
      refine(g2.step (out:={cond:=[],res:=.cF,gz:=[(eC,.mp b (es.push {key:=.int .i64 k,val:=a.tmps.getD x undef,born:=ck}) (ck+1))]}) (A':=A) (az:=β) (d:=none) (v:=undef) (w':={w with heap:=w.heap.setIfInBounds b (.map (es.push {key:=.int .i64 k,val:=a.tmps.getD x undef,born:=ck}) (ck+1))}) nofun
       (λk x hk=>by cases hk) (λj y hk=>?_) (λ_ _=>rfl) Ad rfl rfl rfl z! (λy hy hn=>(MapKept.heap_set h2).2 y λe=>?_) (λy hy=>by have:=g2.bound y hy;simpa using this) (λy hy=>.inl hy) (λj y hk _=>?_) (λk x hk=>by cases hk) (λk b x hk hb=>by cases hk) (λk k' b hk fj _ _=>by cases hk) trivial).seq ?_
      . obtain⟨rfl,_⟩:=hub j y hk;rfl
      . subst e;exact hn eC ⟨rfl,.inl rfl⟩ (by rw [h1];rfl)
      . obtain⟨rfl,rfl⟩:=hub j y hk;exact⟨h1,(MapKept.heap_set h2).1,h3⟩
      . refine⟨?_,?_,by simp only [St.wm,Nh,St.put],by simp only [St.wm,EL,St.put],by simp only [St.wm,Ni,St.put]⟩
        . funext i;show(ap _ f s).t i=_;rw [n3,qY,hod];simp only [St.put,St.wm,nS];rfl
        . funext j;simp only [St.wm,St.put,xD,al,n2,Vg.ay,xC,bH];cases Nat.beq j eC with
          |true=>rfl
          |false=>simp only [O!];cases s.h j<;>rfl
    . refine⟨λj q e hq hw he hj=>?_,λq hq Ag j q' hj po=>?_,?_⟩
      . refine g3.at_ j q e hq hw he ?_;rw [fR Le,J!] at hj
        . exact hj
        . intro h;rw [<-h,ho] at hq;cases hq;unfold QA at hw;rw [AW] at hw;cases hw
      . rw [fR Le] at Ag;split at Ag
        . rename_i e;obtain⟨q2,t2,e1,e2⟩:=CO.1 hq;rw [<-e,ho] at e1;cases e1;rw [AW] at e2;simp only [MR.ins.injEq] at e2;have Nr:j<ops.toList.length:=(D?.1 hj).1;have:=(Z!.1 hD) j (f?.2 Nr);simp only [hj,po,<-e2.2.2] at this;refine sk _ (qk ?_ WN);simpa [cT] using this
        . exact sk _ (g3.done q hq Ag j q' hj po)
      . have hfp:=GH (p:=λq=>listed.getD q.1 false) (p':=λq=>(listed.setIfInBounds f.i true).getD q.1 false) _ (DU (uo (L:=L) ops.toList 0)) ay hlf λq hq=>by
         rw [fR Le];by_cases e:f.i=q.1
         . rw [M! e];exact⟨λ_=>.inr (Bj (uo ops.toList 0) q hq _ ay e.symm),λ_=>rfl⟩
         . rw [J! e];exact⟨.inl,λh=>h.elim id λh=>(e (by simp [h])).elim⟩
        rw [Array.toList_push,l?];refine(g3.there.append_right _).trans ?_;have:=(hfp.map λq=>(Value.int .i64 q.2.1,a.tmps.getD q.2.2 undef)).symm;rw [l?] at this;exact this
def filter_all{p:α->Bool}{l:M α}(h:∀x∈l,p x=true):l.filter p=l:=List.filter_eq_self.2 h
theorem GI {α:Type}{f:α->Value}{g:α->AV}:∀(l:M α),(∀x∈l,aa w A β (f x) (g x))->ae w A β (l.map f) (l.map g)
 |[],_=>rfl
 |x::l,h=>⟨_,_,rfl,h x (I! ..),GI l λy hy=>h y (E! _ hy)⟩
def y7 {p:Oper->Bool}{i:Nat}:∀(ops:M Oper),ay (eB (ops.filter p)) i=true->∃(j:Nat) (o:Oper),ops[j]? =some o/\p o=true/\o.dst=some i
 |o::r,h=>by
  have up:(∃(j:Nat) (o':Oper),r[j]? =some o'/\p o'=true/\o'.dst=some i)->∃(j:Nat) (o':Oper),(o::r)[j]? =some o'/\p o'=true/\o'.dst=some i:=λ⟨j,o',h⟩=>⟨j+1,o',h⟩;rw [List.filter_cons] at h;split at h
  . rename_i hp;unfold eB at h;split at h
    . simp [ay,Z?] at h;rcases h with h|h
      . exact⟨0,o,rfl,hp,by simp_all⟩
      . exact up (y7 r h)
    . exact up (y7 r h)
  . exact up (y7 r h)
def IC{k:Nat}(h:(s.cut.h k).isSome):(s.h k).isSome:=by
 simp [St.cut] at h;cases hk:s.h k with
 |none=>rw [hk] at h;cases h
 |some x=>rfl
def agi{ops:M Oper}{s:St}{b:Nat}{es:Array MapEntry}{ck:Nat}(hB:aw C A β (s.wm b es ck) a w)(ZM:s.h eC=none)(hM:MI L ops listed a b es)(hl:∀i,listed.getD i true=true)(dQ:listed.size=ops.length)
  (hm:∀(C:Ctx) A β a w,aw C A β s a w->aw C A β m a w):Rel C (m.mapped L ops) a w:=by
 have hlf:∀i,i<ops.length->listed.getD i false=true:=λi hi=>by grind
 obtain⟨h1,h2,h3⟩:=hB.blocks eC (.mp b es ck) rfl;have Ad:cg w w A λy=>A y\/y=b:=λy hy=>⟨.inl hy,rfl⟩;have y6:b<w.heap.size:=(Q!.1 h2).1;have hblk:ai (β eC)=some b:=by rw [h1];rfl
 have hwm:∀k,k≠eC->(s.wm b es ck).h k=s.h k:=λk hk=>by simp_all[St.wm,aP,O!]
 have fH:∀k,(s.h k).isSome->k≠eC/\((s.wm b es ck).h k).isSome:=λk hk=>by
  grind
 have h0:aw C (λy=>A y\/y=b) β s a w:=by
  refine⟨hB.defers,hB.size,λi=>jf Ad _ _ (hB.tmps i),λk ab hk=>?_,λk k' y hk fj=>hB.apart k k' y (fH k hk).2 (fH k' fj).2,λy hy=>hy.elim (hB.bound y) λe=>e▸y6,hB.frame,λy hy h=>h.elim (hB.iP y hy) λe=>?_,λy hy=>.inl (hB.base y hy),λk y hk=>hB.mO k y (fH k hk).2,hB.pj,λi d hd=>(hB.laid i d hd).mono Ad,hB.held⟩
  . obtain⟨hkm,oN⟩:=fH k x!;have:=xE (w:=w) (w':=w) (A':=λy=>A y\/y=b) (az:=β) (new:=[]) (λ_ _=>rfl) rfl (λy hy=>⟨rfl,λhA=>hA.elim id λe=>absurd (hB.apart k eC b oN (by rfl) (e▸hy) hblk) hkm⟩) Ad (hB.blocks k ab x!);exact this
  . rw [e] at hy |-;rcases hB.mO eC b (by rfl) hblk with h|h
    . omega
    grind
 have h4:=hm _ _ _ _ _ h0;refine⟨_,β,h4.defers,h4.size,λi=>?_,h4.blocks,h4.apart,h4.bound,h4.frame,h4.iP,h4.base,h4.mO,h4.pj,h4.laid,h4.held⟩;simp only [St.mapped];cases hi:ay (eB (ops.filter (QA L))) i with
 |false=>exact h4.tmps i
 |true=>
  obtain⟨j,o,hj,hw,hd⟩:=y7 ops hi;rw [hM.at_ j o i hj hw hd (hlf j (D?.1 hj).1)];have hth:=hM.there
  rw [filter_all λq hq=>by
   grind[CO,List.getElem?_eq_some_iff]] at hth
  obtain⟨ZA,p1,p2⟩:=Es hth.symm es.toList rfl;have k1:=congrArg (List.map Prod.fst) p2;have k2:=congrArg (List.map Prod.snd) p2;simp only [List.map_map,Function.comp_def] at k1 k2;refine⟨b,ZA.toArray,ck,rfl,.inr rfl,⟨es,h2,by simpa using p1.symm⟩,by grind[List.map_map,Function.comp_def],?_⟩;simp only [cond_true];rw [<-k2];exact GI _ λq _=>h4.tmps q.2.2
theorem QG(hE:dq P C E)(hm:P.follows .mixedOrders=true){id:Nat}{cs:M Prop}{m:St}(h:DQ E true ops.toList st=some (cs,m))(dX:∀p∈cs,p)
  (hR:Rel C st a w) (hQ:∀a' w',Rel C m a' w'->Q .normal a' w'):(Code.region id ops true).wp P Q a w:=by
 simp only [DQ,L!,ajH] at h;split at h
 . rename_i i0 t L hp;obtain⟨d,hp⟩:=WL hp;rw [cond_eq_ite] at h;split at h
   . rename_i hn;split at h
     . rename_i c q hq;cases h;have e0:=IB st (eB ops.toList)
       have e1:∀i,aJ (cN (st.ahead (eB ops.toList)).cut.kb ((eB (ops.toList.map (fK L))).map .dst)) ((st.ahead (eB ops.toList)).cut.t i)=(st.ahead (eB ops.toList)).cut.t i:=λi=>by
        rw [CL];simp [St.cut];conv=>rhs;rw [<-e0.1 i]
        simp only [dx];congr 1
        funext k;rw [Bool.or_comm];rfl
       have e2:∀k,ca (cN (st.ahead (eB ops.toList)).cut.kb ((eB (ops.toList.map (fK L))).map .dst)) ((st.ahead (eB ops.toList)).cut.h k)=(st.ahead (eB ops.toList)).cut.h k:=λk=>by
        rw [CL];simp only [St.cut];conv=>rhs;rw [<-e0.2 k]
        simp only [fQ];congr 1
        funext k;rw [Bool.or_comm];rfl
       obtain⟨es,sl,r0,r1,r2⟩:=Nq (P:=P) (ops:=ops) (jR:=(ops.toList.map (fK L)).toArray) z! (λi o o' h1 h2=>by
        simp only [List.getElem?_toArray,B?,U?,h1,Option.map_some,A!] at h2;rw [<-h2];exact Bi.2.2) hq dX e1 e2
       obtain⟨A,β,hB⟩:=hR;obtain⟨oi,xQ,_⟩:=hp.new
       have TV:i0<ops.size:=by
        have:=(D?.1 xQ).1;simpa using this
       have Rz:∀j,(Array.replicate ops.size false).getD j false=false:=λj=>by
        simp [A?,Array.getElem?_replicate];split<;>rfl
       refine wp_region_any hm (r2 (RM C L ops.toList i0) Q _ _ (λ_ s r a w hs hr=>hr.seq hs) (λf listed s a w K Dh hf hc dQ hl haf hR hK=>agh hE hp ?_ (r0 f Dh).2.1 (r0 f Dh).2.2 hf hc dQ hl haf hR hK) ⟨apH _,?_,A,β,.inl ⟨Rz i0,λj _ _ _=>Rz j,?_⟩⟩ λlisted a' w' kU dQ hR=>?_)
       . have:=(r0 f Dh).1;simpa using this
       . have :st.h eC=none:=by simpa using hn
         simp [St.cut,St.ahead,this,ca]
       . have ry:=(hB.ahead (eB ops.toList)).drew (w.drawn+1);refine⟨ry.defers,ry.size,λi=>oQ _ (λ_ _=>rfl) _ _ (ry.tmps i),λk ab h=>?_,λk k' b h1 h2=>ry.apart k k' b (IC h1) (IC h2),ry.bound,ry.frame,ry.iP,ry.base,λk b h=>ry.mO k b (IC h),ry.pj,ry.laid,ry.held⟩;simp [St.cut] at h;cases hk:(st.ahead (eB ops.toList)).h k with
         |none=>rw [hk] at h;cases h
         |some x=>
          rw [hk] at h;cases h;exact yV _ (ry.blocks k x hk)
       . obtain⟨_,ZM,A',az,hR⟩:=hR;rcases hR with⟨g1,_⟩|⟨b,es,ck,_,g2,g3⟩
         . rw [<-rB w!,kU] at g1;cases g1
         . exact hQ _ _ (agi g2 ZM g3 kU (by simpa using dQ) r1)
     grind
   grind
 grind[QF]
variable {d:Bool}
theorem w7(hE:dq P C E)(hm:P.follows .mixedOrders=true){id:Nat}{cs:M Prop}{m:St}(h:DQ E d ops.toList st=some (cs,m))(dX:∀p∈cs,p)
  (hR:Rel C st a w) (hQ:∀a' w',Rel C m a' w'->Q .normal a' w'):(Code.region id ops d).wp P Q a w:=by
 cases d
 . grind[TN]
 grind[QG]
theorem fe.clear(h:fe W s.clear m):fe W s.clear m:=h
theorem aw.clear(hB:aw C A β st a w):aw C A β st.clear a w:=hB.seq ⟨rfl,rfl,rfl,rfl,rfl⟩
def ZN(hB:aw C A β st a w)(h:ev st c= .tt):a.eval c= .bool true:=by
 have:=aG hB c;grind[aa]
def ZO(hB:aw C A β st a w)(h:ev st c= .ff):a.eval c= .bool false:=by
 have:=aG hB c;grind[aa]
def Ns(hB:aw C A β st a w)(h:ev st c= .bool b):a.eval c= .bool b:=by
 have:=aG hB c;grind[aa]
def WR(hB:aw C A β st a w){row:M Ty}{l:M (Row row)}(h:ev st c= .pW row l):∃b,a.eval c= .bool b/\(b=true->l=[]):=by
 have:=aG hB c;grind[aa]
def uq:∀i,ay (W++W') i=false->ay W i=false:=by
 grind[du,Bool.or_eq_false_iff]
def Bk:∀i,ay (W++W') i=false->ay W' i=false:=by
 grind[du,Bool.or_eq_false_iff]
def nv:∀(c:Code) (st:St) (cs:M Prop) (m:St),iS E c st=some (cs,m)->fe (Ae c) st m
 |.skip,st,cs,m,h=>by
   grind[iS,Option.some.injEq,Prod.mk.injEq,fe.refl]
 |.region id ops d,st,cs,m,h=>by
   exact M7 h
 |.seq x y,st,cs,m,h=>by
   simp [iS] at h;split at h
   . rename_i c aX hx;obtain⟨c',hy,_⟩:=oR h;exact(nv x _ _ _ hx).trans (nv y _ _ _ hy)
   . cases h
 |.cond c x y,st,cs,m,h=>by
   simp [iS] at h;split at h
   . exact(nv x _ _ _ h).mono uq
   . exact(nv y _ _ _ h).mono Bk
   . obtain⟨c1,s1,c2,s2,r1,r2,hm,rfl⟩:=CK h;exact fe.merge hm
   . cases h
 |.block id b,st,cs,m,h=>by
   exact nv b _ _ _ h
 |.loop _,st,cs,m,h|.rangeFunc _ _ _ _,st,cs,m,h|.exit _,st,cs,m,h|.scope _,st,cs,m,h|.label _,st,cs,m,h|.goto _,st,cs,m,h=>by grind[iS]
 |.ret,st,cs,m,h=>by grind[iS]
 |.refuse _,st,cs,m,h=>by grind[iS]
def kh(hE:dq P C E)(hm:P.follows .mixedOrders=true):∀(c:Code) (st:St) (cs:M Prop) (m:St) (a:Act) (w:World) (Q:Exit->Act->World->Prop),iS E c st=some (cs,m)->(∀p∈cs,p)->Rel C st a w->
  (∀a' w',Rel C m a' w'->Q .normal a' w')->c.wp P Q a w
 |.skip,st,cs,m,a,w,Q,h,dX,hR,hQ=>by
   grind[iS,Option.some.injEq,Prod.mk.injEq,wp_skip]
 |.region id ops d,st,cs,m,a,w,Q,h,dX,hR,hQ=>by
   grind[iS,w7]
 |.seq x y,st,cs,m,a,w,Q,h,dX,hR,hQ=>by
   simp [iS] at h;split at h
   . rename_i c aX hx;obtain⟨c',hy,rfl⟩:=oR h
     exact wp_seq (kh hE hm x st _ _ a w _ hx (λp hp=>dX p (T! _ hp)) hR λa' w' ga=>
      kh hE hm y aX _ _ a' w' Q hy (λp hp=>dX p (Y! _ hp)) ga hQ)
   . cases h
 |.cond c x y,st,cs,m,a,w,Q,h,dX,hR,hQ=>by
   obtain⟨A,β,hB⟩:=hR;simp [iS] at h;split at h
   . rename_i hv;exact wp_cond_true (ZN hB hv) (kh hE hm x st _ _ a w Q h dX ⟨A,β,hB⟩ hQ)
   . rename_i hv;exact wp_cond_false (ZO hB hv) (kh hE hm y st _ _ a w Q h dX ⟨A,β,hB⟩ hQ)
   . rename_i b hv;obtain⟨c1,s1,c2,s2,r1,r2,hmg,rfl⟩:=CK h;have hc:=J2 dX;have f1:=(nv x _ _ _ r1).mono (W':=Ae x++Ae y) uq;have f2:=(nv y _ _ _ r2).mono (W':=Ae x++Ae y) Bk;refine wp_cond_split (Ns hB hv) (λhb=>?_) (λhb=>?_)
     . subst hb
       exact kh hE hm x st.clear _ _ a w Q r1 (hc.1 rfl) ⟨A,β,hB.clear⟩ λa' w' ⟨A',az,ry⟩=>
        hQ _ _ ⟨A',az,ry.merge (b:=true) hmg f1 (λ_ _=>rfl) rfl rfl rfl f2 (λ_ _=>rfl) rfl rfl rfl⟩
     . subst hb
       exact kh hE hm y st.clear _ _ a w Q r2 (hc.2 rfl) ⟨A,β,hB.clear⟩ λa' w' ⟨A',az,ry⟩=>
        hQ _ _ ⟨A',az,ry.merge (b:=false) hmg f1 (λ_ _=>rfl) rfl rfl rfl f2 (λ_ _=>rfl) rfl rfl rfl⟩
   grind
 |.block id b,st,cs,m,a,w,Q,h,dX,hR,hQ=>by
   exact wp_block (kh hE hm b st _ _ a w _ h dX hR hQ)
 |.loop _,st,cs,m,a,w,Q,h,_,_,_|.rangeFunc _ _ _ _,st,cs,m,a,w,Q,h,_,_,_|.exit _,st,cs,m,a,w,Q,h,_,_,_|.scope _,st,cs,m,a,w,Q,h,_,_,_|.label _,st,cs,m,a,w,Q,h,_,_,_|.goto _,st,cs,m,a,w,Q,h,_,_,_|.ret,st,cs,m,a,w,Q,h,_,_,_|.refuse _,st,cs,m,a,w,Q,h,_,_,_=>by grind[iS]
structure mD (W:List Nat) (base s:St):Prop where
 q9:∃p,(∀k,p k=true->cN base.kb s.news k=true)/\(∀i,ay W i=false->s.t i=aJ p (base.t i))/\
  ∀k,ay s.cn k=false->cN base.kb s.news k=false->s.h k=ca p (base.h k)
 n:s.n=base.n
 kb:s.kb=base.kb
 cn:∀k,ay base.cn k=true->ay s.cn k=true
 news:∀k,cN base.kb base.news k=true->cN base.kb s.news k=true
 g:s.g=base.g
def fe.loose(h:fe W s m):mD W s m:=by
 obtain⟨p,h1,h2,h3⟩:=h.q9;exact⟨⟨p,h1,h2,λk hk _=>h3 k hk⟩,h.n,h.kb,h.cn,h.news,h.g⟩
theorem mD.refl(W:M Nat)(s:St):mD W s s:=(fe.refl W s).loose
theorem mD.mono{s0:St}(h:mD W s0 s1)(hw:∀i,ay W' i=false->ay W i=false):mD W' s0 s1:=by
 obtain⟨p,a1,a2,a3⟩:=h.q9;exact⟨⟨p,a1,λi hi=>a2 i (hw i hi),a3⟩,h.n,h.kb,h.cn,h.news,h.g⟩
theorem mD.trans {W W':M Nat}{s0 s1 s2:St}(h1:mD W s0 s1)(h2:mD W' s1 s2):mD (W++W') s0 s2:=by
 obtain⟨p,a1,a2,a3⟩:=h1.q9;obtain⟨q,b1,b2,b3⟩:=h2.q9
 have aAi:∀k,cN s0.kb s1.news k=true->cN s0.kb s2.news k=true:=by
  intro k h;have:=h2.news k (by rw [h1.kb];exact h);rwa [h1.kb] at this
 refine⟨⟨λk=>p k || q k,λk hk=>?_,λi hi=>?_,λk hk hn=>?_⟩,h2.n.trans h1.n,h2.kb.trans h1.kb,λk h=>h2.cn k (h1.cn k h),λk h=>aAi k (h1.news k h),h2.g.trans h1.g⟩
 . rcases Z? _ _ |>.mp hk with h|h
   . grind
   . have:=b1 k h;rwa [h1.kb] at this
 . grind[du,Bool.or_eq_false_iff,dx]
 . have K4:ay s1.cn k=false:=by
    cases h:ay s1.cn k with
    |false=>rfl
    |true=>rw [h2.cn k h] at hk;omega
   have VV:cN s0.kb s1.news k=false:=by
    grind
   rw [b3 k hk (by rw [h1.kb];omega),a3 k K4 VV,fQ]
def sW:Value:=.slice none 0 0
def lU(bad:Nat->Bool)(s:M (Nat×Option Nat))(β:Nat->Value)(k:Nat):Value:=bif bad k then(match cz s k with
 |some (some j)=>β j
 |some none=>sW
 |none=>β k) else β k
def lV {r r':M Ty}{l:M (Row r)}{m:M (Row r')}(h:fG r r' l=some m):∃e:r=r',m=e▸l:=by
 grind[fG,Option.some.injEq,Ty.nc]
def lW:∀ {a b:M Prop},(∀p∈a++b,p)->(∀p∈a,p)/\∀p∈b,p:=by
 intro a b h;exact⟨λp hp=>h p (T! _ hp),λp hp=>h p (Y! _ hp)⟩
def aU {p:Prop}(h:∀q∈ [p],q):p:=h p z!
variable {s:List (Nat×Option Nat)}{b:AB}{c:Code}
structure Keyed (bad:Nat->Bool) (s:List (Nat×Option Nat)) (β az:Nat->Value):Prop where
 src:∀K k,cz s K=some (some k)->az K=β k
 nil:∀K,cz s K=some none->az K=sW
 same:∀K,cz s K=none->bad K=false->az K=β K
 aGg:∀K,bad K=false->az K=β K
def WS(β az:Nat->Value):Keyed (λ_=>true) [] β az:=⟨(λ_ _ h=>nomatch h),(λ_ h=>nomatch h),(λ_ _ h=>nomatch h),(λ_ h=>nomatch h)⟩
def ql(hK:Keyed bad s β az){k K:Nat}(h:ue s bad k K=true):az K=β k:=by
 unfold ue at h;split at h
 . rename_i j hj;rw [hK.src K j hj,C! h]
 . cases h
 . simp only [B!,M?] at h;have:=C! h.1;subst this;exact hK.aGg k h.2
mutual
theorem rC {az:Nat->Value}(hK:Keyed bad s β az):∀(x y:AV) (v:Value),(∀p∈MZ s bad x y,p)->aa w A β v x->aa w A az v y
 |x,y,v,h,hr=>by
  unfold MZ at h;split at h
  . simp [aa]
  . simpa only [aa] using hr
  . rename_i k n k' m;split at h
    . rename_i hk;subst hk;have:=aU h;subst this;simpa only [aa] using hr
    . exact(aU h).elim
  . simpa only [aa] using hr
  . simpa only [aa] using hr
  . have:=aU h;subst this;simpa only [aa] using hr
  . have:=aU h;subst this;simpa only [aa] using hr
  . have:=aU h;subst this;simpa only [aa] using hr
  . have:=aU h;subst this;simpa only [aa] using hr
  . simpa only [aa] using hr
  . simpa only [aa] using hr
  . simpa only [aa] using hr
  . rename_i r l;have:=aU h;subst this;simp only [aa] at hr |-;subst hr;simp only [Rd];exact⟨none,0,[],rfl,z!,by simp [maxLen],by simp [dJ],z!⟩
  . rename_i r l r' l';split at h
    . rename_i m hm;obtain⟨e,he⟩:=lV hm;subst e;have:=aU h;subst he;subst this;simpa only [aa] using hr
    . exact(aU h).elim
  . rename_i r l r' l';split at h
    . rename_i m hm;obtain⟨e,he⟩:=lV hm;subst e;have:=aU h;subst he;subst this;simp only [aa] at hr |-;exact hr.1
    . exact(aU h).elim
  . rename_i k K;simp only [aa] at hr |-;split at h
    . rename_i j hj;cases hb:Nat.beq k j with
      |false=>rw [hb] at h;exact(aU h).elim
      |true=>
       have:=C! hb;subst this;rw [hK.src K k hj];exact hr
    . exact(aU h).elim
    . rename_i hj;cases hb:(Nat.beq k K&& !bad K) with
      |false=>rw [hb] at h;exact(aU h).elim
      |true=>
       simp only [B!,M?] at hb;have:=C! hb.1;subst this;rw [hK.same k hj hb.2];exact hr
  . rename_i K;simp only [aa] at hr |-;split at h
    . rename_i hj;rw [hK.nil K hj];subst hr;exact⟨rfl,rfl⟩
    . exact(aU h).elim
  . rename_i k o k' o';simp only [aa] at hr |-;cases hb:ue s bad k k' with
    |false=>rw [hb] at h;exact(aU h).elim
    |true=>
     rw [hb] at h;have:=aU h;subst this;rw [ql hK hb];exact hr
  . rename_i xs ys;simp only [aa] at hr |-;obtain⟨arr,h1,h2⟩:=hr;exact⟨arr,h1,lK hK xs ys _ h h2⟩
  . rename_i xs ys;simp only [aa] at hr |-;obtain⟨arr,h1,h2⟩:=hr;exact⟨arr,h1,lK hK xs ys _ h h2⟩
  . rename_i f xs us f' ys vs;split at h
    . rename_i hf;subst hf;simp only [aa] at hr |-;obtain⟨a1,a2,h1,h2,h3⟩:=hr;obtain⟨g1,g2⟩:=lW h;exact⟨a1,a2,h1,lK hK xs ys _ g1 h2,lK hK us vs _ g2 h3⟩
    . exact(aU h).elim
  . rename_i ks xs ks' ys;split at h
    . rename_i oN;subst oN;simp only [aa] at hr |-;obtain⟨b,es,ck,h1,h2,h3,h4,h5⟩:=hr;exact⟨b,es,ck,h1,h2,h3,h4,lK hK xs ys _ h h5⟩
    . exact(aU h).elim
  . split at h
    . rename_i m hm;obtain⟨e,he⟩:=lV hm;subst e;subst he;have h1:=h _ (I! ..);have h2:=h _ (E! _ (I! ..));simp only [i?,z?] at h1;subst h1;subst h2;simpa only [aa] using hr
    . exact(aU h).elim
  . exact(aU h).elim
theorem lK {az:Nat->Value}(hK:Keyed bad s β az):∀(xs ys:M AV) (vs:M Value),(∀p∈zS s bad xs ys,p)->ae w A β vs xs->ae w A az vs ys
 |[],[],vs,_,hr=>by simpa only [ae] using hr
 |x::xs,y::ys,vs,h,hr=>by
  simp only [zS] at h;obtain⟨g1,g2⟩:=lW h;simp only [ae] at hr |-;obtain⟨v,b7,h1,h2,h3⟩:=hr;exact⟨v,b7,h1,rC hK x y v g1 h2,lK hK xs ys b7 g2 h3⟩
 |[],_::_,vs,h,_|_::_,[],vs,h,_=>by simp only [zS] at h;exact(aU h).elim
end
def y8(hK:Keyed bad s β az){k K:Nat}{c b:AB}(hk:az K=β k)(h:∀p∈QB s bad (some c) b,p)(hr:BR w A β k c):BR w A az K b:=by
 unfold QB at h;split at h
 . rename_i xs ys heq;simp only [A!] at heq;subst heq;obtain⟨g,arr,e,h1,h2,h3,h4,h5⟩:=hr;exact⟨g,arr,e,hk.trans h1,h2,h3,lK hK xs ys _ h h4,h5⟩
 . rename_i e r l fr e' r' l' H7 heq;simp only [A!] at heq;subst heq;split at h
   . rename_i m hm;obtain⟨er,he⟩:=lV hm;subst er;subst he;cases hb:(Nat.beq e e'&&(fr==H7)) with
     |false=>rw [hb] at h;exact(aU h).elim
     |true=>
      rw [hb] at h;simp only [B!,beq_iff_eq] at hb;have he:=C! hb.1;have hf:=hb.2;subst he;subst hf;have:=aU h;subst this;obtain⟨xs,h1,h2,h3⟩:=hr;simp only [BR,hk];exact⟨xs,h1,h2,h3⟩
   . exact(aU h).elim
 . rename_i r l r' l' heq;simp only [A!] at heq;subst heq;split at h
   . rename_i m hm;obtain⟨er,he⟩:=lV hm;subst er;subst he;have:=aU h;subst this;obtain⟨g,arr,e,h1,h2,h3,h4⟩:=hr;exact⟨g,arr,e,hk.trans h1,h2,h3,h4⟩
   . exact(aU h).elim
 . rename_i e j r l i e' j' r' l' i' heq;simp only [A!] at heq;subst heq;split at h
   . rename_i m hm;obtain⟨er,he⟩:=lV hm;subst er;subst he;cases hb:(Nat.beq e e'&&ue s bad j j') with
     |false=>rw [hb] at h;exact(aU h).elim
     |true=>
      rw [hb] at h;simp only [B!] at hb;have he:=C! hb.1;have hj:=ql hK hb.2;subst he;have hl:=h _ (I! ..);have hi:i=i':=h _ (E! _ (I! ..));subst hl;subst hi;obtain⟨xs,v0,h1,h2,h3,h4⟩:=hr;simp only [BR,hk];refine⟨xs,v0,h1,h2,h3,λq hq=>?_⟩;simp only [A!] at hq;subst hq;rw [hj];exact h4 j rfl
   . exact(aU h).elim
 . rename_i e r l e' jj n m sz heq;simp only [A!] at heq;subst heq;cases hb:(Nat.beq e e'&&Nat.beq r.length 1) with
   |false=>rw [hb] at h;exact(aU h).elim
   |true=>
    rw [hb] at h;simp only [B!] at hb;have he:=C! hb.1;have hr1:=C! hb.2;subst he;have hn:l.length=n:=h _ (I! ..);have hm:m=0:=h _ (E! _ (I! ..));subst hn;subst hm;obtain⟨xs,h1,h2,h3⟩:=hr;simp only [BR,hk];rw [hr1] at h1;exact⟨xs,h1,λb hb=>by simpa using h3 b hb,λj' _ i hi=>absurd hi (Nat.not_lt_zero _)⟩
 . rename_i e j n m sz e' j' n' m' Zx heq;simp only [A!] at heq;subst heq;cases hb:(Nat.beq e e'&&ue s bad j j') with
   |false=>rw [hb] at h;exact(aU h).elim
   |true=>
    rw [hb] at h;simp only [B!] at hb;have he:=C! hb.1;have hj:=ql hK hb.2;subst he;have hn:n=n':=h _ (I! ..);have hm:m=m':=h _ (E! _ (I! ..));have hs:sz=Zx:=h _ (E! _ (E! _ (I! ..)));subst hn;subst hm;subst hs;obtain⟨xs,h1,h2,h3⟩:=hr;simp only [BR,hk];refine⟨xs,h1,h2,λq hq i hi=>?_⟩;simp only [A!] at hq;subst hq;obtain⟨v,e1,e2⟩:=h3 j rfl i hi;refine⟨v,e1,?_⟩;simp only [aa] at e2 |-;rw [hj];exact e2
 . rename_i e j l e' j' l' heq;simp only [A!] at heq;subst heq;cases hb:(Nat.beq e e'&&ayq s bad j j') with
   |false=>rw [hb] at h;exact(aU h).elim
   |true=>
    rw [hb] at h;simp only [B!] at hb;have he:=C! hb.1;have hl:=aU h;subst he;subst hl;obtain⟨xs,h1,h2,h3⟩:=hr;simp only [BR,hk];refine⟨xs,h1,h2,λq hq=>h3 q λi hi=>?_⟩;subst hi;have hb:=hb.2;cases j' with
    |none=>cases hb
    |some j'=>exact(hq j' rfl).trans (ql hK hb)
 . rename_i e j xs i e' j' xs' i' heq;simp only [A!] at heq;subst heq;cases hb:(Nat.beq e e'&&ue s bad j j') with
   |false=>rw [hb] at h;exact(aU h).elim
   |true=>
    rw [hb] at h;simp only [B!] at hb;have he:=C! hb.1;have hj:=ql hK hb.2;have g1:xs=xs':=h _ (I! ..);have g2:i=i':=h _ (E! _ (I! ..));subst he;subst g1;subst g2;obtain⟨ys,h1,h2,h3,h4⟩:=hr;simp only [BR,hk];refine⟨ys,h1,h2,h3,λq hq=>?_⟩;cases hq;rw [hj];exact h4 j rfl
 . rename_i e sz n cs e' Zx n' fZ heq;simp only [A!] at heq;subst heq;cases hb:(Nat.beq e e'&&(Nat.beq sz Zx&&Nat.beq n n')) with
   |false=>rw [hb] at h;exact(aU h).elim
   |true=>
    rw [hb] at h;simp only [B!] at hb;obtain⟨h1,h2,h3⟩:=hb;have h1:=C! h1;have h2:=C! h2;have h3:=C! h3;subst h1;subst h2;subst h3;obtain⟨xs,g1,g2,g3⟩:=hr;simp only [BR,hk];exact⟨xs,g1,g2,λfa=>lK (WS β fa) cs fZ xs h (g3 β)⟩
 simp_all
def TW(p:Nat->Bool)(bJ:∀k,p k=false->az k=β k){k:Nat}(hk:az k=β k)(h:BR w A β k ab):BR w A az k (cu p ab):=by
 cases ab with
 |cells cs=>
  obtain⟨b,arr,e,h1,h2,h3,h4,h5⟩:=h;exact⟨b,arr,e,hk.trans h1,h2,h3,hZ p bJ _ _ h4,h5⟩
 |row e row l fr=>
  grind[cu,BR]
 |arr row l=>
  obtain⟨b,arr,e,h1,h2,h3,h4⟩:=h;exact⟨b,arr,e,hk.trans h1,h2,h3,h4⟩
 |iu e j row l i=>
  obtain⟨xs,v0,h1,h2,h3,h4⟩:=h;simp [cu,BR,hk];cases j with
  |none=>grind[dK]
  |some j0=>
   grind[dK]
 |eF e j xs i=>
  obtain⟨ys,h1,h2,h3,h4⟩:=h;simp only [cu,BR,hk];refine⟨ys,h1,h2,h3,λj' gn=>?_⟩;cases j with
  |none=>cases gn
  |some j0=>
   simp only [dK] at gn;cases hp:p j0 with
   |true=>rw [hp] at gn;cases gn
   |false=>
    rw [hp] at gn;simp only [O!,A!] at gn;subst gn;rw [bJ _ hp];exact h4 _ rfl
 |fvar row x=>
  obtain⟨b,arr,e,h1,h2,h3,h4⟩:=h;exact⟨b,arr,e,hk.trans h1,h2,h3,h4⟩
 |mp b es ck=>exact⟨hk.trans h.1,h.2⟩
 |bc e sz n cs=>
  obtain⟨xs,h1,h2,h3⟩:=h;exact⟨xs,hk▸h1,hk▸h2,h3⟩
 |fo e j l=>
  obtain⟨xs,h1,h2,h3⟩:=h;cases j with
  |none=>
   simp only [cu,BR,hk];exact⟨xs,h1,h2,λq _=>h3 q (λ_ h=>by cases h)⟩
  |some j=>
   simp only [cu];cases hp:p j with
   |true=>
    simp only [yy,L!,BR,hk];exact⟨xs,h1,h2,λ_ h=>by cases h⟩
   |false=>
    simp only [yy,O!,BR,hk];exact⟨xs,h1,h2,λq hq=>h3 q λj' hj=>(hq j' hj).trans (by cases hj;exact bJ j hp)⟩
 |views e j n m sz=>
  obtain⟨xs,h1,h2,h3⟩:=h;simp [cu,BR,hk];refine⟨xs,h1,h2,λj' gn i hi=>?_⟩;cases j with
  |none=>grind[dK]
  |some j0=>
   simp [dK] at gn;cases hp:p j0 with
   |true=>grind
   |false=>
    grind[As]
def oS:∀(Af:M (Loc×Nat)) (s:M (Nat×Option Nat)),sources st Af=some s->∀K r,cz s K=some r->∃l,(l,K)∈Af
 |[],s,h,K,r,hl=>by
   simp [sources,A!] at h;subst h;cases hl
 |(l,K0)::Af,s,h,K,r,hl=>by
  simp [sources] at h;split at h
  . rename_i k s' lp jW;simp at h;subst h;simp [cz] at hl;cases hb:Nat.beq K K0 with
    |true=>exact⟨l,by rw [C! hb];exact I! ..⟩
    |false=>
     rw [hb] at hl;obtain⟨l',h'⟩:=oS Af s' jW K r hl;exact⟨l',E! _ h'⟩
  . rename_i k o s' lp jW;simp at h;subst h;simp [cz] at hl;cases hb:Nat.beq K K0 with
    |true=>exact⟨l,by rw [C! hb];exact I! ..⟩
    |false=>
     rw [hb] at hl;obtain⟨l',h'⟩:=oS Af s' jW K r hl;exact⟨l',E! _ h'⟩
  . rename_i s' lp jW;simp at h;subst h;simp [cz] at hl;cases hb:Nat.beq K K0 with
    |true=>exact⟨l,by rw [C! hb];exact I! ..⟩
    |false=>
     rw [hb] at hl;obtain⟨l',h'⟩:=oS Af s' jW K r hl;exact⟨l',E! _ h'⟩
  . cases h
def WT(kb:Nat):∀(Af:M (Loc×Nat)) (l:Loc) (K:Nat),(l,K)∈Af->cN kb (Af.map λx=>KS.one x.2) K=true
 |(l0,K0)::Af,l,K,h=>by
  simp only [G?,cN,KS.has,Z?];rcases P!.1 h with h|h
  . simp at h;rw [h.2];exact .inl (cT _)
  . exact .inr (WT kb Af l K h)
def Kc {τ:Type}{s:M (Nat×Option Nat)}{bad:Nat->Bool}{x:τ}:∀(l:M (Nat×(τ->AV))) (i:Nat) (f:τ->AV),hX l i=some f->∀p∈MZ s bad (st.t i) (f x),p∈LD s bad st x l
 |(j,g)::r,i,f,h,p,hp=>by
  simp [hX] at h;simp [LD,F!];cases hb:Nat.beq i j with
  |true=>
   simp_all
  |false=>
   rw [hb] at h;exact .inr (Kc r i f h p hp)
def aj3 {τ:Type}(s:M (Nat×Option Nat))(bad:Nat->Bool)(st:St)(x:τ)(K:Nat)(f:τ->AB):M Prop:=match cz s K with
 |some (some k)=>QB s bad (st.h k) (f x)
 |some none=>match f x with
  |.row _ _ l false=>[[]=l]
  |_=>[False]
 |none=>bif bad K then [False] else QB s bad (st.h K) (f x)
def Nt {τ:Type}{s:M (Nat×Option Nat)}{bad:Nat->Bool}{x:τ}:∀(l:M (Nat×(τ->AB))) (i:Nat) (f:τ->AB),hX l i=some f->∀p∈aj3 s bad st x i f,p∈TJ s bad st x l
 |(j,g)::r,i,f,h,p,hp=>by
  simp [hX] at h;simp only [TJ,F!];cases hb:Nat.beq i j with
  |true=>
   rw [hb] at h;simp at h;have:=C! hb;subst this;subst h;exact .inl hp
  |false=>
   rw [hb] at h;exact .inr (Nt r i f h p hp)
def kl:∀(s:M (Nat×Option Nat)) (K k:Nat),cz s K=some (some k)->k∈eR s
 |(j,r)::s,K,k,h=>by
  simp [cz] at h;cases hb:Nat.beq K j with
  |true=>
   simp_all[L!,A!,eR]
  |false=>
   rw [hb] at h;have:=kl s K k h;cases r<;>simp [eR,this]
def y9:∀(s:M (Nat×Option Nat)),kZ (eR s)=true->∀K K' k,cz s K=some (some k)->cz s K'=some (some k)->K=K'
 |(j,r)::s,hn,K,K',k,h,h'=>by
  have hn':kZ (eR s)=true:=by
   cases r with
   |none=>exact hn
   |some j'=>simp_all[eR,kZ,B!]
  simp [cz] at h h';cases hb:Nat.beq K j with
  |true=>
   cases fb:Nat.beq K' j with
   |true=>simp_all
   |false=>
    rw [fb] at h';have:=kl s K' k h';simp_all[eR,kZ,B!,M?,absurd,ji]
  |false=>
   cases fb:Nat.beq K' j with
   |true=>
    rw [hb] at h;rw [fb] at h';have:=kl s K k h;simp_all[eR,kZ,B!,M?,absurd,ji]
   |false=>
    rw [hb] at h;rw [fb] at h';exact y9 s hn' K K' k h h'
def xS{o:Option AB}(h:∀p∈QB s bad o b,p):∃c,o=some c:=by
 cases o with
 |some c=>grind
 |none=>exact(aU h).elim
def TX{k e:Nat}{row:M Ty}{l:M (Row row)}(hk:β k=sW)(hl: []=l):BR w A β k (.row e row l false):=by
 subst hl;refine⟨[],⟨z!,.inl ⟨hk,rfl⟩⟩,by rfl,λb hb=>?_⟩;grind[sW,ai]
def agj {L:bq}{W:M Nat}{base:St}{x:L.τ}(iQ:sources st L.Af=some s)(Lh:CI L W base st s=true)(hm:∀p∈CJ L W base st s x,p)(hB:aw C A β st a w)
  (hT:∀i,ay W i=false->∃p,(∀k,p k=true->cN base.kb (dg L W) k=true)/\st.t i=aJ p (base.t i))
  (hH:∀k,ay st.cn k=false->cN base.kb (dg L W) k=false->hX L.keys k=none->∃p,(∀k,p k=true->cN base.kb (dg L W) k=true)/\st.h k=ca p (base.h k))
  (hn:st.n=base.n) (hgg:st.g=base.g):aw C A (lU (cN base.kb (dg L W)) s β) (mU L W base x) a w:=by
 generalize Nu:cN base.kb (dg L W)=bad at *;simp only [CI,Nu,B!] at Lh;obtain⟨⟨⟨⟨⟨⟨⟨o1,o2⟩,oP2⟩,o3⟩,o4⟩,o5⟩,o6⟩,o7⟩:=Lh;rw [Z!] at oP2 o3 o4 o5 o6 o7
 have aj4:∀K r,cz s K=some r->bad K=true:=by
  intro K r h;obtain⟨l,hl⟩:=oS _ _ iQ K r h;rw [<-Nu];simp only [dg,dn,WT base.kb _ l K hl,Bool.true_or,x?]
 have Bl:∀K,bad K=false->lU bad s β K=β K:=by
  intro K h;simp only [lU,h,O!]
 have Dn:Keyed bad s β (lU bad s β):=by
  refine⟨λK k h=>?_,λK h=>?_,λK _ h=>Bl K h,Bl⟩
  . simp only [lU,aj4 K _ h,L!,h]
  . simp only [lU,aj4 K _ h,L!,h]
 have hm1:∀i f,hX L.wX i=some f->∀p∈MZ s bad (st.t i) (f x),p:=by
  intro i f hf p hp;refine hm p ?_;simp only [CJ,Nu,F!];exact .inl (Kc _ i f hf p hp)
 have hm2:∀K f,hX L.keys K=some f->∀p∈aj3 s bad st x K f,p:=by
  intro K f hf p hp;refine hm p ?_;simp only [CJ,Nu,F!];exact .inr (Nt _ K f hf p hp)
 have fH:∀K ab,(mU L W base x).h K=some ab->BR w A (lU bad s β) K ab/\(lU bad s β K=sW\/∃j,lU bad s β K=β j/\(st.h j).isSome/\((bad K=false/\j=K)\/(bad K=true/\cz s K=some (some j)))):=by
  intro K ab h;simp only [mU,Nu] at h;cases hf:hX L.keys K with
  |some f=>
   rw [hf] at h;simp at h;subst h;have hc:=hm2 K f hf;unfold aj3 at hc;split at hc
   . rename_i k hk;obtain⟨c,sF⟩:=xS hc;rw [sF] at hc;exact⟨y8 Dn (Dn.src K k hk) hc (hB.blocks k c sF),.inr ⟨k,Dn.src K k hk,by simp [sF],.inr ⟨aj4 K _ hk,hk⟩⟩⟩
   . rename_i hk;refine⟨?_,.inl (Dn.nil K hk)⟩;split at hc
     . rename_i e row l hfx;rw [hfx];exact TX (Dn.nil K hk) (aU hc)
     . exact(aU hc).elim
   . rename_i hk;cases hb:bad K with
     |true=>rw [hb] at hc;exact(aU hc).elim
     |false=>
      rw [hb] at hc;obtain⟨c,sF⟩:=xS hc;rw [sF] at hc;exact⟨y8 Dn (Bl K hb) hc (hB.blocks K c sF),.inr ⟨K,Bl K hb,by simp [sF],.inl ⟨rfl,rfl⟩⟩⟩
  |none=>
   rw [hf] at h;cases hb:bad K with
   |true=>rw [hb] at h;cases h
   |false=>
    rw [hb] at h;simp only [O!] at h
    have hd:ay st.cn K=false:=by
     cases hq:ay st.cn K with
     |false=>rfl
     |true=>
      have:=o7 K ((CN _ _).1 hq);rw [hf,hb] at this;cases this
    obtain⟨p,p1,p2⟩:=hH K hd hb hf;cases Eo:base.h K with
    |none=>rw [Eo] at h;cases h
    |some b0=>
     rw [Eo] at h p2;simp only [ca,A!] at h p2;subst h;have fi:=TW (az:=lU bad s β) bad Bl (Bl K hb) (hB.blocks K _ p2);rw [jo] at fi
     have hpq:(λk=>p k || bad k)=bad:=by
      funext k;cases hp:p k with
      |false=>rfl
      |true=>rw [p1 k hp];rfl
     rw [hpq] at fi;exact⟨fi,.inr ⟨K,Bl K hb,by simp [p2],.inl ⟨rfl,rfl⟩⟩⟩
 have Qx:∀K,((mU L W base x).h K).isSome->∀b,ai (lU bad s β K)=some b->∃j,lU bad s β K=β j/\(st.h j).isSome/\((bad K=false/\j=K)\/(bad K=true/\cz s K=some (some j))):=by
  intro K hK b hb;obtain⟨ab,lQ⟩:=R!.1 hK;rcases(fH K ab lQ).2 with h|h
  . rw [h] at hb;simp [sW,ai] at hb
  . exact h
 have hsb:∀K j,cz s K=some (some j)->bad j=true:=λK j h=>o6 j (kl s K j h)
 refine⟨hB.defers,hB.size.trans hn,λi=>?_,λK ab h=>(fH K ab h).1,λK K' b h1 h2 g1 g2=>?_,hB.bound,hB.frame,hB.iP,hB.base,λK b h1 g1=>?_,λi d hd=>hB.pj i d ((congrFun hgg i).trans hd),hB.laid,λK hK=>by
  have :lU bad s β K=β K:=by
   unfold lU;cases bad K with
   |false=>rfl
   |true=>
    cases hl:cz s K with
    |none=>rfl
    |some y=>
     obtain⟨l,hl⟩:=oS _ _ iQ K y hl;have:=oP2 _ hl;rw [hK] at this;cases this
  exact this.trans (hB.held K hK)⟩
 . have hi:=hB.tmps i
   show aa w A _ _ (match hX L.wX i with
    |some f=>f x
    |none=>bif ay W i then .cF else aJ (cN base.kb (dg L W)) (base.t i))
   rw [Nu];cases hf:hX L.wX i with
   |some f=>exact rC Dn _ _ _ (hm1 i f hf) hi
   |none=>
    simp only;cases hW:ay W i with
    |true=>simp [aa]
    |false=>
     obtain⟨p,p1,p2⟩:=hT i hW;rw [p2] at hi;have:=oQ (az:=lU bad s β) bad Bl _ _ hi;rw [dx] at this
     have hpq:(λk=>p k || bad k)=bad:=by
      funext k;cases hp:p k with
      |false=>rfl
      |true=>rw [p1 k hp];rfl
     rwa [hpq] at this
 . obtain⟨j,e1,l1,c1⟩:=Qx K h1 b g1;obtain⟨j',e2,l2,c2⟩:=Qx K' h2 b g2;rw [e1] at g1;rw [e2] at g2;have hj:j=j':=hB.apart j j' b l1 l2 g1 g2;subst hj;rcases c1 with⟨b1,rfl⟩|⟨b1,k1⟩<;>rcases c2 with⟨b2,h⟩|⟨b2,k2⟩
   . exact h
   . rw [hsb K' _ k2] at b1;cases b1
   . subst h;rw [hsb K _ k1] at b2;cases b2
   . exact y9 s o2 K K' j k1 k2
 . obtain⟨j,e1,l1,c1⟩:=Qx K h1 b g1;rw [e1] at g1;exact hB.mO j b l1 g1
def DV {L:bq}{W:M Nat}{base:St}{Pp:L.τ->Prop}(h:Gt L W base st Pp)(hR:Rel C st a w)
  (hT:∀i,ay W i=false->∃p,(∀k,p k=true->cN base.kb (dg L W) k=true)/\st.t i=aJ p (base.t i))
  (hH:∀k,ay st.cn k=false->cN base.kb (dg L W) k=false->hX L.keys k=none->∃p,(∀k,p k=true->cN base.kb (dg L W) k=true)/\st.h k=ca p (base.h k))
  (hn:st.n=base.n) (hgg:st.g=base.g):∃x,Pp x/\Rel C (mU L W base x) a w:=by
 obtain⟨A,β,hB⟩:=hR;unfold Gt at h;split at h
 . grind
 . rename_i s hs;cases hk:CI L W base st s with
   |false=>grind
   |true=>
    rw [hk] at h;obtain⟨x,h1,h2⟩:=h;exact⟨x,h2,A,_,agj hs hk (xP _ h1) hB hT hH hn hgg⟩
def RA:Ex->Exit
 |.norm=>.normal
 |.exit i=>.exit i
 |.ret=>.ret
def py:∀ {cs:M Prop} {k:Prop},A5 cs k->(∀p∈cs,p)/\k
 |[],k,h=>⟨λp hp=>x!,h⟩
 |p::ps,k,h=>by
  obtain⟨h1,h2⟩:=py (cs:=ps) h.2;refine⟨λq hq=>?_,h2⟩;rcases P!.1 hq with rfl|hq
  . exact h.1
  . exact h1 q hq
theorem agk(kb:Nat){d k:Nat}(h:(KS.dst d).has kb k=true):ay W d=true->cN kb (W.map .dst) k=true:=by
 induction W with
 |nil=>intro hd;cases hd
 |cons j W ih=>
  intro hd;simp [ay,Bool.or_eq_true] at hd;simp [List.map_cons,cN,Bool.or_eq_true];grind[Nat.eq_of_beq_eq_true]
def GJ {L:bq}{W:M Nat}{base:St}:∀ {news:M KS},LF L W base news=true->∀k,cN base.kb news k=true->cN base.kb (dg L W) k=true
 |[],_,k,hk=>by cases hk
 |x::news,h,k,hk=>by
  simp only [LF,List.all_cons,B!] at h;simp [cN,Z?] at hk;rcases hk with hk|hk
  . cases x with
    |one j=>
     grind[KS.has,Nat.eq_of_beq_eq_true]
    |dst d=>
     simp [dg,dn,Bool.or_eq_true];grind[agk]
  . exact GJ (news:=news) h.2 k hk
theorem mD.back {L:bq}{W:M Nat}{base:St}{x:L.τ}{m:St}(h:mD W (mU L W base x) m)(Gk:∀y∈L.wX,ay W y.1=true):mD W base (St.back L W base m):=by
 obtain⟨p,a1,a2,a3⟩:=h.q9;have oD:(mU L W base x).kb=base.kb:=rfl;refine⟨⟨λk=>cN base.kb (dg L W) k || p k,λk hk=>?_,λi hi=>?_,λk hk MO=>?_⟩,h.n,h.kb,λk hk=>?_,λk hk=>?_,h.g⟩
 . simp only [St.back,dn,Bool.or_eq_true] at hk |-;grind
 . show m.t i=_;rw [a2 i hi,<-dx]
   have :(mU L W base x).t i=aJ (cN base.kb (dg L W)) (base.t i):=by
    show(match hX L.wX i with
     |some f=>f x
     |none=>bif ay W i then .cF else aJ (cN base.kb (dg L W)) (base.t i))=_
    have hls:∀(l:M (Nat×(L.τ->AV))),(∀y∈l,ay W y.1=true)->hX l i=none:=by
     intro l;induction l with
     |nil=>intro _;rfl
     |cons y l ih=>
      grind[g,hX,Nat.beq,aP,hi,List.mem_cons_of_mem]
    grind
   grind
 . have fj:ay m.cn k=false/\ay (L.keys.map (·.1)) k=false:=by
    grind[St.back,du,Bool.or_eq_false_iff]
   have hn':cN base.kb (dg L W) k=false/\cN base.kb m.news k=false:=by
    grind[St.back,dn,Bool.or_eq_false_iff]
   show m.h k=_;rw [a3 k fj.1 hn'.2,<-fQ]
   have :(mU L W base x).h k=ca (cN base.kb (dg L W)) (base.h k):=by
    show(match hX L.keys k with
     |some f=>some (f x)
     |none=>bif cN base.kb (dg L W) k then none else ca (cN base.kb (dg L W)) (base.h k))=_
    have hls:∀(l:M (Nat×(L.τ->AB))),ay (l.map (·.1)) k=false->hX l k=none:=by
     intro l;induction l with
     |nil=>intro _;rfl
     |cons y l ih=>
      simp_all[g,G?,ay,g?,hX,O!]
    grind
   grind
 . simp_all[St.back,du,x?]
 simp_all[St.back,dn,Bool.true_or]
abbrev ZP(C:Ctx)(W:M Nat)(st:St)(K:Ex->St->Prop)(Q:Exit->Act->World->Prop):Prop:=
 ∀e aX a' w',K e aX->mD W st aX->Rel C aX a' w'->Q (RA e) a' w'
variable {K:Ex->St->Prop}{s:Qj}
def WU {L:bq}{b:Code}{V:(Ex->St->Prop)->St->Prop}
  (hV:∀K' aX a' w' Q',V K' aX->Rel C aX a' w'->ZP C W aX K' Q'->b.wp P Q' a' w')
  (h:aa7 L W K V st) (hR:Rel C st a w) (hQ:ZP C W st K Q):(Code.loop b).wp P Q a w:=by
 obtain⟨h0,apP⟩:=h
 have Gk:∀y∈L.wX,ay W y.1=true:=by
  unfold Gt at h0;split at h0
  . grind
  . rename_i s hs;cases hk:CI L W st st.clear s with
    |false=>grind
    |true=>
     simp only [CI,Bool.and_eq_true] at hk;grind
 have hRc:Rel C st.clear a w:=by
  obtain⟨A,β,hB⟩:=hR;exact⟨A,β,hB.clear⟩
 obtain⟨x0,TV,hr0⟩:=DV h0 hRc (λi _=>⟨λ_=>false,z!,(tj _).symm⟩) (λk _ _ _=>⟨λ_=>false,z!,(DS _).symm⟩) rfl rfl;refine wp_loop_ghost (λn a w=>∃x,L.inv x/\L.ag x=n/\Rel C (mU L W st x) a w) (L.ag x0) ⟨x0,TV,rfl,hr0⟩ ?_;intro n a w hI;obtain⟨x,hx,rfl,hRx⟩:=hI;refine hV _ _ _ _ _ (apP x hx) hRx ?_;intro e aX a' w' hk hF ga;cases e with
 |norm=>
  simp only [Wv] at hk;cases hn:LF L W st aX.news with
  |false=>grind
  |true=>
   rw [hn] at hk;obtain⟨p,a1,a2,a3⟩:=hF.q9;have oD:(mU L W st x).kb=st.kb:=rfl;rw [oD] at a1 a3;have Nu:∀k,cN st.kb aX.news k=true->cN st.kb (dg L W) k=true:=GJ hn;have hb:=hF.back Gk
   obtain⟨x',Dg,p9⟩:=DV hk ga (λi hi=>by
     refine⟨λk=>cN st.kb (dg L W) k || p k,λk hk=>?_,?_⟩
     . grind
     . rw [a2 i hi,<-dx]
       have :(mU L W st x).t i=aJ (cN st.kb (dg L W)) (st.t i):=by
        show(match hX L.wX i with
         |some f=>f x
         |none=>bif ay W i then .cF else aJ (cN st.kb (dg L W)) (st.t i))=_
        have hls:∀(l:M (Nat×(L.τ->AV))),(∀y∈l,ay W y.1=true)->hX l i=none:=by
         intro l;induction l with
         |nil=>intro _;rfl
         |cons y l ih=>
          grind[hX,Nat.beq,aP,hi,List.mem_cons_of_mem]
        grind
       grind)
    (λk hd S9 hls=>by
      grind[cN,dg,fQ,mU,ca,hX]) hF.n hF.g
   exact⟨L.ag x',Dg.2,x',Dg.1,rfl,p9⟩
 |exit i=>
  obtain⟨A,β,hB⟩:=ga;exact hQ _ _ _ _ hk (hF.back Gk) ⟨A,β,hB.seq ⟨rfl,rfl,rfl,rfl,rfl⟩⟩
 |ret=>
  obtain⟨A,β,hB⟩:=ga;exact hQ _ _ _ _ hk (hF.back Gk) ⟨A,β,hB.seq ⟨rfl,rfl,rfl,rfl,rfl⟩⟩
def Nv(id:Nat)(hQ:ZP C W st K Q):ZP C W st (J0 id K) (Exit.inBlock id Q):=by
 intro e aX a' w' hk hF hR;cases e with
 |norm=>exact hQ .norm _ _ _ hk hF hR
 |ret=>exact hQ .ret _ _ _ hk hF hR
 |exit j=>
  simp only [J0] at hk;by_cases hj:j=id
  . subst hj;simp at hk;simp [RA,Exit.inBlock,Q?];exact hQ .norm _ _ _ hk hF hR
  . simp [aP hj,O!] at hk;simp [RA,Exit.inBlock,J! hj];exact hQ (.exit j) _ _ _ hk hF hR
def WV(n:Int)(ks:U)(f:Nat->Prop)(h:LG n ks f 0 ks):∃j,f j:=by
 have :∀(r:U) (i:Nat),LG n ks f i r->(∃j,f j)\/(n∉r/\(yC n ks->∃j,f j)):=by
  intro r;induction r with
  |nil=>intro i h;exact .inr ⟨z!,λq=>⟨i,h q⟩⟩
  |cons k r ih=>
   intro i h;by_cases hk:n=k
   . exact .inl ⟨i,h.1 hk⟩
   . rcases ih (i+1) h.2 with g|⟨g1,g2⟩
     . grind
     grind
 grind[AD]
theorem dy(hE:dq P C E)(hm:P.follows .mixedOrders=true){L:Nat->Option bq}:∀(c:Code) (K:Ex->St->Prop) (st:St) (a:Act) (w:World) (Q:Exit->Act->World->Prop),
  qU E L c K st->Rel C st a w->ZP C (Ae c) st K Q->c.wp P Q a w
 |.skip,K,st,a,w,Q,h,hR,hQ=>by
   exact wp_skip (hQ .norm _ _ _ h (mD.refl _ _) hR)
 |.region id ops d,K,st,a,w,Q,h,hR,hQ=>by
   have fin:∀E',dq P C E'->TL E' K st ops.toList d->(Code.region id ops d).wp P Q a w:=by
    intro E' hE' h;unfold TL at h;split at h
    . rename_i cs m hr;obtain⟨h1,h2⟩:=py h;exact w7 hE' hm hr h1 hR λa' w' ga=>hQ .norm _ _ _ h2 (M7 hr).loose ga
    grind
   simp only [qU] at h;split at h
   . rename_i n ks hw;obtain⟨i,hi⟩:=WV n ks _ h;exact fin {E with H6:=i} ⟨⟨hE.ok.fc,hE.ok.sig,hE.ok.qX,hE.ok.hp,hE.ok.cq⟩,hE.g⟩ hi
   grind
 |.seq x y,K,st,a,w,Q,h,hR,hQ=>by
   refine wp_seq (dy hE hm x _ st a w _ h hR λe aX a' w' hk hF ga=>?_);cases e with
   |norm=>
    exact dy hE hm y K aX a' w' Q hk ga λe aLA a'' Qk fj hF' aGk=>hQ e _ _ _ fj (hF.trans hF') aGk
   |exit i=>exact hQ (.exit i) _ _ _ hk (hF.mono uq) ga
   |ret=>exact hQ .ret _ _ _ hk (hF.mono uq) ga
 |.cond c x y,K,st,a,w,Q,h,hR,hQ=>by
   simp only [qU] at h;have hx:ZP C (Ae x) st K Q:=λe aX a' w' hk hF ga=>hQ e _ _ _ hk (hF.mono uq) ga;have hy:ZP C (Ae y) st K Q:=λe aX a' w' hk hF ga=>hQ e _ _ _ hk (hF.mono Bk) ga;split at h
   . rename_i cs m hr;obtain⟨h1,h2⟩:=py h;unfold aa8 at hr;cases hs:(!TK E c&&(lv x&&lv y)) with
     |false=>grind
     |true=>
      rw [hs] at hr;exact kh hE hm _ st _ _ a w Q hr h1 hR λa' w' ga=>hQ .norm _ _ _ h2 (nv _ _ _ _ hr).loose ga
   . obtain⟨A,β,hB⟩:=hR;split at h
     . rename_i hv;exact wp_cond_true (ZN hB hv) (dy hE hm x K st a w Q h ⟨A,β,hB⟩ hx)
     . rename_i hv;exact wp_cond_false (ZO hB hv) (dy hE hm y K st a w Q h ⟨A,β,hB⟩ hy)
     . rename_i b hv;exact wp_cond_split (Ns hB hv) (λhb=>dy hE hm x K st a w Q (h.1 hb) ⟨A,β,hB⟩ hx) (λhb=>dy hE hm y K st a w Q (h.2 hb) ⟨A,β,hB⟩ hy)
     . rename_i row l hv;obtain⟨b,hb,hl⟩:=WR hB hv;exact wp_cond_split hb (λht=>dy hE hm x K st a w Q (h.1 (hl ht)) ⟨A,β,hB⟩ hx) (λ_=>dy hE hm y K st a w Q h.2 ⟨A,β,hB⟩ hy)
     grind
 |.block id b,K,st,a,w,Q,h,hR,hQ=>by
   have ayw:qU E L b (J0 id K) st->(Code.block id b).wp P Q a w:=λh=>wp_block (dy hE hm b _ st a w _ h hR (Nv id hQ));cases b with
   |loop b=>
    simp only [qU] at h;split at h
    . rename_i An hA;exact wp_block (WU (λK' aX a' w' Q' hv ga hQ'=>dy hE hm b K' aX a' w' Q' hv ga hQ') h hR (Nv id hQ))
    . exact h.elim
   |_=>exact ayw (by first|exact h|(simp only [qU] at h |-))
 |.exit i,K,st,a,w,Q,h,hR,hQ=>by
   exact wp_exit (hQ (.exit i) _ _ _ h (mD.refl _ _) hR)
 |.ret,K,st,a,w,Q,h,hR,hQ=>by
   exact wp_ret (hQ .ret _ _ _ h (mD.refl _ _) hR)
 |.loop _,K,st,a,w,Q,h,_,_|.rangeFunc _ _ _ _,K,st,a,w,Q,h,_,_=>by grind[qU]
 |.scope c,K,st,a,w,Q,h,hR,hQ=>by
   simp only [qU] at h;refine wp_scope_straight (dy hE hm c K st a w _ h hR λe aX a' w' hk hF ga=>?_);have:=hQ e aX a' w' hk hF ga;cases e<;>exact this
 |.label _,K,st,a,w,Q,h,hR,hQ=>by
   simp only [qU] at h;exact wp_label (hQ .norm _ _ _ h (mD.refl _ _) hR)
 |.goto _,K,st,a,w,Q,h,_,_|.refuse _,K,st,a,w,Q,h,_,_=>by grind[qU]
termination_by c=>SizeOf.sizeOf c
def Nw:Keyed (λ_=>true) [] β az:=⟨λK k h=>(by cases h),λK h=>(by cases h),λK _ h=>(by cases h),λK h=>(by cases h)⟩
def LI(tmps:Array Value):ResultVar->Sem Value
 |.tmp t=>pure (tmps.getD t undef)
 |.cell x t=>do loadVar t (<-asAddr (tmps.getD x undef))
theorem Kd(fn:Func)(tmps:Array Value):results fn tmps=(do
  let vs <-fn.results.mapM (LI tmps)
  pure (if h:vs.size=1 then vs[0] else .tuple vs)):=by
 rfl
def tm(hT:bA T P)(hB:aw C A β st a w):∀(rs:M ResultVar) (as_:M AV),n4 T st rs=some as_->
  ∃vs,(rs.mapM (LI a.tmps)).run P w= .ok vs w/\ae w A β vs as_
 |[],as_,h=>by
   simp_all[n4,A!,ae]
 |.tmp t::rs,as_,h=>by
   simp [n4] at h;split at h
   . rename_i l hl;simp at h;subst h;obtain⟨vs,h1,h2⟩:=tm hT hB rs l hl;refine⟨a.tmps.getD t undef::vs,?_,?_⟩
     . simp [List.mapM_cons,LI,Sem.run_bind,Sem.run_pure,Result.andThen_ok,h1]
     . exact⟨_,_,rfl,hB.tmps t,h2⟩
   . cases h
 |.cell x t::rs,as_,h=>by
   simp [n4] at h;split at h
   . rename_i k off hk;split at h
     . rename_i out l ho hl;obtain⟨vs,h1,h2⟩:=tm hT hB rs l hl;have hx:=hB.tmps x;rw [hk] at hx
       have pr:out.cond=[]:=by
        grind[pY,Option.some.injEq]
       obtain⟨_,v,g1,g2⟩:=Ax hT hB hx ho x!;obtain⟨b,MS,K7⟩:=hx;refine⟨v::vs,?_,?_⟩
       . simp only [Instr.loadAt,Instr.sureAddr,Sem.run_bind,Sem.run_pure,Result.andThen_ok] at g1;grind[asAddr,undef,Sem.run_pure,LI,Sem.run_bind,Result.andThen_ok]
       grind[ae]
     grind
   grind
def WW {α:Type}{R:M Value->α->Prop}:∀(xs:M Value) (l:M α),xs.length=l.length->(∀(i:Nat) (v:Value) (x:α),xs[i]? =some v->l[i]? =some x->R [v] x)->dJ R xs l
 |[],[],_,_=>by rfl
 |v::xs,x::l,hl,h=>by
  exact⟨[v],xs,rfl,h 0 v x rfl rfl,WW xs l (by simpa using hl) λi v x h1 h2=>h (i+1) v x (by simpa using h1) (by simpa using h2)⟩
 |[],_::_,hl,_|_::_,[],hl,_=>by grind
def GK(hB:aw C A β st a w)(hA:∀b,A b->A' b)(r:M Ty)(l:M (Row r))(k:Nat)(v:Value)(h:∀p∈(EF st.h r l k).1,p)(hF:∀k'∈(EF st.h r l k).2,∀b,ai (β k')=some b->A' b)
  (hr:aa w A β v (.own k)):aa w A' az v (.sl r l)/\∀k'∈(EF st.h r l k).2,(st.h k').isSome:=by
 generalize he:EF st.h r l k=g at h hF |-;unfold EF at he;split at he
 . rename_i e j n m sz hk;split at he
   . rename_i e2 abb bytes fr hj;cases hb:Nat.beq abb.length 1 with
     |false=>rw [hb] at he;subst he;exact(aU h).elim
     |true=>
      rw [hb] at he;have hr2:=C! hb;split at he
      . rename_i g' hg;subst he;obtain⟨er,Qq⟩:=lV hg;subst er;subst Qq;have ZM:m=n:=h _ (I! ..);have hgl:vN sz n bytes=l:=h _ (E! _ (I! ..));subst ZM;subst hgl;have hFk:∀b,ai (β k)=some b->A' b:=hF k z!;have hFj:∀b,ai (β j)=some b->A' b:=hF j z!;refine⟨?_,λk' fj=>?_⟩
        . obtain⟨rfl,_⟩:=hr;have hlen:(vN sz m bytes).length=m:=by simp [vN]
          rcases ru hB hk with⟨h1,h2⟩|⟨b,cap,cur,h1,h2,h3,h4,h5,h6,h7⟩
          . subst h2;exact⟨none,0,[],by rw [h1];simp [vN],by simp [vN],z!,by simp [vN,dJ],z!⟩
          . refine⟨_,cap,cur.toList.take m,by rw [h1,hlen],by rw [hlen];exact h3,h4,?_,λ_=>⟨b,0,rfl,hFk b (by rw [h1];rfl),?_⟩⟩
            . refine WW _ _ (by simp;omega) λi u x hu hx=>?_
              have hi:i<m:=by
               have:=(D?.1 hx).1;omega
              obtain⟨v',e1,e3⟩:=h7 j rfl i hi;rw [hu] at e1;simp at e1;subst e1
              have Dg:x=(bytes.drop (i*sz)).take sz:=by
               simp [vN,B?,List.getElem?_range hi,Option.map_some,A!] at hx;exact hx.symm
              have hp:=(tK (A':=A') hB e3 hA (λq hq=>by
               have Dp:=EH _ q hq;simp [au,v?] at Dp;subst Dp;exact hFj)).1
              simp [je,hj,hr2,cT,L!,aa] at hp;refine⟨u,[],rfl,?_,rfl⟩;rw [Dg];exact hp
            . intro q u hq;rw [o?] at hq;split at hq
              . simp [World.cell?,h2];simpa using hq
              . cases hq
        . simp at fj;rcases fj with rfl|rfl
          . simp [hk]
          . simp [hj]
      . subst he;exact(aU h).elim
   . subst he;exact(aU h).elim
 . subst he;obtain⟨g1,g2⟩:=tK hB hr hA hF;exact⟨rC Nw _ _ _ h g1,λk hk=>by obtain⟨e,row,l,fr,hr⟩:=g2 k hk;simp [hr]⟩
mutual
theorem Ke(hB:aw C A β st a w){s:M (Nat×Option Nat)}(hA:∀b,A b->A' b)(h1:∀i k,cz s i=some (some k)->az i=β k)(h2:∀i,cz s i=some none->az i=sW):∀(x y:AV) (v:Value),
  (∀p∈(A6 st.h s x y).1,p)->(∀k∈(A6 st.h s x y).2,∀b,ai (β k)=some b->A' b)->aa w A β v y->aa w A' az v x/\∀k∈(A6 st.h s x y).2,(st.h k).isSome
 |x,y,v,h,hF,hr=>by
  generalize he:A6 st.h s x y=r at h hF |-;unfold A6 at he;split at he
  . rename_i i k;subst he;simp only at h hF |-;refine⟨?_,λk hk=>(by cases hk)⟩;simp only [aa] at hr |-;split at h
    . rename_i j hj;cases hb:Nat.beq k j with
      |false=>rw [hb] at h;exact(aU h).elim
      |true=>
       have:=C! hb;subst this;rw [h1 i k hj];exact hr
    . exact(aU h).elim
  . rename_i i;subst he;simp only at h hF |-;refine⟨?_,λk hk=>(by cases hk)⟩;simp only [aa] at hr |-;split at h
    . rename_i hj;rw [h2 i hj];subst hr;exact⟨rfl,rfl⟩
    . exact(aU h).elim
  . rename_i r0 l0 k;subst he;exact GK hB hA r0 l0 k v h hF hr
  . rename_i xs ys;subst he;simp only [aa] at hr |-;obtain⟨arr,e1,e2⟩:=hr;obtain⟨g1,g2⟩:=za hB hA h1 h2 xs ys _ h hF e2;exact⟨⟨arr,e1,g1⟩,g2⟩
  . rename_i xs ys;subst he;simp only [aa] at hr |-;obtain⟨arr,e1,e2⟩:=hr;obtain⟨g1,g2⟩:=za hB hA h1 h2 xs ys _ h hF e2;exact⟨⟨arr,e1,g1⟩,g2⟩
  . subst he;obtain⟨g1,g2⟩:=tK hB hr hA hF;exact⟨rC Nw _ _ _ h g1,λk hk=>by obtain⟨e,row,l,fr,hr⟩:=g2 k hk;simp [hr]⟩
theorem za(hB:aw C A β st a w){s:M (Nat×Option Nat)}(hA:∀b,A b->A' b)(h1:∀i k,cz s i=some (some k)->az i=β k)(h2:∀i,cz s i=some none->az i=sW):∀(xs ys:M AV) (vs:M Value),
  (∀p∈(ug st.h s xs ys).1,p)->(∀k∈(ug st.h s xs ys).2,∀b,ai (β k)=some b->A' b)->ae w A β vs ys->ae w A' az vs xs/\∀k∈(ug st.h s xs ys).2,(st.h k).isSome
 |[],[],vs,_,_,hr=>by
   simp only [ae] at hr |-;exact⟨hr,λk hk=>by simp [ug] at hk⟩
 |x::xs,y::ys,vs,h,hF,hr=>by
  simp only [ug] at h hF |-;obtain⟨g1,g2⟩:=lW h;simp only [ae] at hr |-;obtain⟨v,b7,e,r1,r2⟩:=hr;obtain⟨q1,q2⟩:=Ke hB hA h1 h2 x y v g1 (λk hk=>hF k (T! _ hk)) r1;obtain⟨q3,q4⟩:=za hB hA h1 h2 xs ys b7 g2 (λk hk=>hF k (Y! _ hk)) r2;refine⟨⟨v,b7,e,q1,q3⟩,λk hk=>?_⟩;rcases F!.1 hk with hk|hk
  . exact q2 k hk
  . exact q4 k hk
 |[],_::_,vs,h,_,_|_::_,[],vs,h,_,_=>by simp only [ug] at h;exact(aU h).elim
end
def xT(h:aQ)(s:M (Nat×Option Nat))(i:Nat)(b:AB):M Prop:=match cz s i with
 |some (some k)=>QB s (λ_=>true) (h k) b
 |some none=>match b with
  |.row _ _ l false=>[[]=l]
  |_=>[False]
 |none=>[False]
theorem Nx {h:aQ}{s:M (Nat×Option Nat)}:∀(bs:M AB) (i j:Nat) (b:AB),bs[j]? =some b->∀p∈xT h s (i+j) b,p∈M1 h s i bs
 |b0::bs,i,0,b,hb,p,hp=>by
  simp at hb;subst hb;simp only [M1,F!];exact .inl hp
 |b0::bs,i,j+1,b,hb,p,hp=>by
  simp [M1,F!];refine .inr (Nx bs (i+1) j b (by simpa using hb) p ?_);rw [show i+1+j=i+(j+1) by omega];exact hp
theorem aw.init {G:Nat->Option GD}{args:M Value}{bc:M AV}{n:Nat}(hA:∀b,A b->b<w.heap.size)(hG:∀i d,G i=some d->oB w A i d)(hr:ae w A β args bc)(hn:bc.length<=n):
  aw ⟨w,A,λ_=>False,G,β⟩ A β (St.init G n bc) {tmps:=args.toArray++Array.replicate (n-args.toArray.size) undef,defers:=[]} w:=by
 have hlen:=dZ bc args hr
 have sm:∀(as_:M AV) (vs:M Value) (i:Nat),ae w A β vs as_->aa w A β (vs.getD i undef) (as_.getD i .undef):=by
  intro as_;induction as_ with
  |nil=>grind[ae,aa]
  |cons x as_ ih=>
   intro vs i h;obtain⟨v,b7,rfl,h1,h2⟩:=h;cases i with
   |zero=>grind
   |succ i=>simp_all
 refine⟨rfl,?_,λi=>?_,λk ab h=>(by cases h),λk k' b h=>(by cases h),hA,⟨rfl,rfl,rfl,S! _,λb _ _=>rfl⟩,λb _ h=>.inl h,λb h=>h,λk b h=>(by cases h),λi d h=>h,hG,λk _=>rfl⟩
 . grind[St.init]
 . show aa w A β _ (bc.getD i .undef)
   have e:(args.toArray++Array.replicate (n-args.toArray.size) undef).getD i undef=args.getD i undef:=by
    rw [Array.getD_eq_getD_getElem?];grind
   grind
def Ny(hT:bA T P){fn:Func}{w0:World}{A0:Nat->Prop}{F0:Nat->Value}(hB:aw ⟨w0,A0,λ_=>False,G,F0⟩ A β st a w){want:AV}{bs:M AB}(h:Rp T st fn.results.toList want bs):
  ∃v,(results fn a.tmps).run P w= .ok v w/\∃A' az,lu w0 A0 w v want bs A' az:=by
 unfold Rp at h;split at h
 . grind
 . rename_i as_ has;cases hq:(kZ (eR (ti st.h want (hY as_) bs))&&((A6 st.h (ti st.h want (hY as_) bs) want (hY as_)).2.all λk=>!ay (eR (ti st.h want (hY as_) bs)) k)&&iR bs.length bs) with
   |false=>grind
   |true=>
    rw [hq] at h;simp only [L!] at h;simp only [B!,Z!] at hq;obtain⟨⟨q1,q2⟩,q3⟩:=hq;obtain⟨c1,c2⟩:=lW (xP _ h);generalize hs:ti st.h want (hY as_) bs=s at *;obtain⟨vs,p1,p2⟩:=tm hT hB fn.results.toList as_ has
    have hv:∃v,(results fn a.tmps).run P w= .ok v w/\aa w A β v (hY as_):=by
     have hl:=dZ as_ vs p2;refine⟨if h:vs.toArray.size=1 then vs.toArray[0] else .tuple vs.toArray,?_,?_⟩
     . grind[Kd,Array.mapM_eq_mapM_toList,Sem.run_bind,map_eq_pure_bind,Result.andThen_ok,Sem.run_pure]
     . match as_,vs,hl,p2 with
       |[x],[v],_,p2=>
         grind[ae,List.cons.injEq,hY]
       |[],[],_,p2=>
         grind[hY,aa,ae]
       |x::y::l,v::u::m,_,p2=>
        have fh:¬(v::u::m).toArray.size=1:=by simp
        rw [dif_neg fh];simp only [hY,aa];grind
    obtain⟨v,hv1,K6⟩:=hv;let F:=(A6 st.h s want (hY as_)).2
    let fa:Nat->Value:=λi=>match cz s i with
     |some (some k)=>β k
     |_=>sW
    obtain⟨r1,r2⟩:=Ke (A':=ct A β F) (az:=fa) hB (λb hb=>.inl hb) (λi k hk=>by grind) (λi hk=>by grind) want (hY as_) v c1 (λk hk b hb=>.inr ⟨k,hk,hb⟩) K6;have hK:cg w w A (ct A β F):=λb hb=>⟨.inl hb,rfl⟩
    have mP:∀i ab,bs[i]? =some ab->BR w (ct A β F) fa i ab/\(fa i=sW\/∃k,cz s i=some (some k)/\fa i=β k/\(st.h k).isSome):=by
     intro i ab hi;have hc:∀p∈xT st.h s i ab,p:=λp hp=>c2 p (Nx bs 0 i ab hi p (by rw [Nat.zero_add];exact hp));unfold xT at hc;have apQ:Keyed (λ_=>true) s β fa:=⟨λK k h=>by simp only [fa,h],λK h=>by simp only [fa,h],λK _ h=>(by cases h),λK h=>(by cases h)⟩
     have V6:∀k c,cz s i=some (some k)->st.h k=some c->BR w A fa i ab->BR w (ct A β F) fa i ab:=by
      intro k c hk sF fi;have Kf:fa i=β k:=by simp only [fa,hk]
      have vt:∀b,ai (fa i)=some b->¬A b->¬ct A β F b:=by
       rintro b hb lR (Li|⟨j,hj,AJ⟩)
       . exact lR Li
       . rw [Kf] at hb;have :j=k:=hB.apart j k b (r2 j hj) (by simp [sF]) AJ hb;subst this;have MO:=q2 j hj;rw [M?] at MO;exact ji.1 MO (kl s i j hk)
      rcases tg bs i ab q3 hi with⟨e,row,l,rfl⟩|⟨e,j,n,m,sz,rfl,_⟩
      . obtain⟨xs,x1,x2,x3⟩:=fi;refine⟨xs,x1,br (λc x hx=>bz hK row c x hx) l xs x2,λb hb=>?_⟩;have:=x3 b hb;exact vt b hb this
      . obtain⟨xs,x1,x2,x3⟩:=fi;refine⟨xs,x1,λb hb=>vt b hb (x2 b hb),λj' gn i' fN=>?_⟩;obtain⟨v,e1,e2⟩:=x3 j' gn i' fN;exact⟨v,e1,As rfl e2⟩
     split at hc
     . rename_i k hk;obtain⟨c,sF⟩:=xS hc;rw [sF] at hc;have Kf:fa i=β k:=by simp only [fa,hk]
       have fi:=y8 (az:=fa) apQ Kf hc (hB.blocks k c sF);exact⟨V6 k c hk sF fi,.inr ⟨k,hk,Kf,by simp [sF]⟩⟩
     . rename_i hk;have Kf:fa i=sW:=by simp only [fa,hk]
       split at hc
       . exact⟨TX Kf (aU hc),.inl Kf⟩
       . exact(aU hc).elim
     . exact(aU hc).elim
    have fH:∀i ab b,bs[i]? =some ab->ai (fa i)=some b->∃k,cz s i=some (some k)/\ai (β k)=some b/\(st.h k).isSome:=by
     intro i ab b hi hb;rcases(mP i ab hi).2 with hn|⟨k,h1,h2,h3⟩
     . rw [hn] at hb;simp [sW,ai] at hb
     . exact⟨k,h1,by rw [<-h2];exact hb,h3⟩
    refine⟨v,hv1,ct A β F,fa,⟨hB.frame.os,hB.frame.tape,hB.frame.output,hB.frame.size,λb hb=>hB.frame.block b hb (λh=>h),λb hb=>.inl (hB.base b hb),λb hb Mn=>?_,λb hb=>?_,r1,λi ab hi=>⟨(mP i ab hi).1,λb hb=>?_⟩,λi j b hi hj hb fb=>?_⟩⟩
    . rcases Mn with Mn|⟨j,hj,AJ⟩
      . rcases hB.iP b hb Mn with h|h
        . exact h
        . exact h.elim
      . rcases hB.mO j b (r2 j hj) AJ with h|h
        . exact absurd hb (Nat.not_lt.2 h)
        . exact h.elim
    . rcases hb with hb|⟨j,hj,AJ⟩
      . exact hB.bound b hb
      . exact nk hB (r2 j hj) AJ
    . obtain⟨k,_,g2,g3⟩:=fH i ab b hi hb;rcases hB.mO k b g3 g2 with h|h
      . exact h
      . exact h.elim
    . obtain⟨x,hx⟩:∃x,bs[i]? =some x:=⟨_,D! hi⟩;obtain⟨y,hy⟩:∃y,bs[j]? =some y:=⟨_,D! hj⟩;obtain⟨k,g1,g2,g3⟩:=fH i x b hx hb;obtain⟨k',g1',Zv,g3'⟩:=fH j y b hy fb;have :k=k':=hB.apart k k' b g3 g3' g2 Zv;subst this;exact y9 s q1 i j k g1 g1'
theorem TY(hE:aV P E)(hm:P.follows .mixedOrders=true){f:FuncId}{fn:Func}(L:M AV->Nat->Option bq)(hf:P.funcs[f]? =some fn)(hb:fn.body=some c)
  (h:∀bc pre res bs,s bc=some (pre,res,bs)->pre->J1 E (L bc) c fn.ntmps fn.results.toList bc res bs):Valid P E.gP f s:=by
 intro w A β args bc pre res bs hA hG bm hs hp;have ID:=h bc pre res bs hs hp;unfold J1 at ID;cases hn:Nat.ble bc.length fn.ntmps with
 |false=>grind
 |true=>
  rw [hn] at ID;refine calls_of_wp hf hb (dy (C:=⟨w,A,λ_=>False,E.gP,β⟩) ⟨hE,rfl⟩ hm c _ _ _ w _ ID ⟨A,β,aw.init hA hG bm (N! hn)⟩ ?_);intro e aX a' w' hk _ hR;obtain⟨A',az,hB⟩:=hR
  have key:Rp E.T aX fn.results.toList res bs->bodyPost P fn (λe w'=>∃v,e= .returned v/\∃A' az,lu w A w' v res bs A' az) .ret a' w':=by
   intro hk;obtain⟨v,h1,A2,fa,h2⟩:=Ny hE.fc hB hk;exact⟨hB.defers,v,h1,v,rfl,A2,fa,h2⟩
  cases e with
  |norm=>exact key hk
  |ret=>exact key hk
  |exit i=>exact hk.elim
mutual
def Nz:Ty->Bool
 |.int k=>!(decide (k= .u8))
 |.bool|.str=>true
 |.slice row=>ez row
def ez:M Ty->Bool
 |[]=>true
 |t::ts=>Nz t&&ez ts
end
def Ty.ZQ:Ty->Bool
 |.slice row=>ez row
 |_=>true
mutual
def AV.quiet:AV->Bool
 |.sl row _|.full row _|.cQ row _ _|.qW row _=>ez row
 |.agg cs=>tp cs
 |.bf vs=>tp vs
 |.fn _ first aW=>tp first&&tp aW
 |.iz _ cs=>tp cs
 |_=>true
def tp:M AV->Bool
 |[]=>true
 |a::as_=>a.quiet&&tp as_
end
def AB.quiet:AB->Bool
 |.cells cs=>tp cs
 |.row _ r _ _=>r.all Ty.ZQ
 |_=>false
structure RB (w w':World):Prop where
 cell:∀b o v,w.cell? ⟨b,o,none⟩=some v->(∀m,v≠ .int .u8 m)->w'.cell? ⟨b,o,none⟩=some v
 map:∀(b:Nat) es ck,w.heap[b]? =some (.map es ck)->w'.heap[b]? =some (.map es ck)
def NA:∀ {ts:M Ty} {vs:M Value} {x:Row ts},bx w A ts vs x->ez ts=true->∀v∈vs,∀m,v≠ .int .u8 m
 |[],vs,x,h,_,v,hv,m=>by
   grind[bx]
 |t::ts,vs,x,h,hq,v,hv,m=>by
  obtain⟨u,us,rfl,h1,h2⟩:=h;simp [ez,B!] at hq;rcases P!.1 hv with rfl|hv
  . intro e;subst e;cases t with
    |int k=>
     obtain⟨h1,_⟩:=h1;grind[Value.int.injEq,Nz,absurd]
    |bool=>cases h1
    |str=>cases h1.1
    |slice row=>
     obtain⟨a,cap,cs,h1,_⟩:=h1;grind
  . exact NA h2 hq.2 v hv m
def GL {ts:M Ty}:∀ {l:M (Row ts)} {cs:M Value},dJ (bx w A ts) cs l->ez ts=true->∀v∈cs,∀m,v≠ .int .u8 m
 |[],cs,h,_,v,hv,m=>by
   grind[dJ]
 |x::l,cs,⟨c1,c2,hc,h1,h2⟩,hq,v,hv,m=>by
  subst hc;rcases F!.1 hv with hv|hv
  . exact NA h1 hq v hv m
  . exact GL h2 hq v hv m
def vU(hp:RB w w'){b o:Nat}{cs:M Value}(h:w.rangeAt b o cs)(hn:∀v∈cs,∀m,v≠ .int .u8 m):w'.rangeAt b o cs:=λj v hj=>
 hp.cell b (o+j) v (h j v hj) (hn v (E? hj))
def GM:∀ {ts:M Ty},ez ts=true->ts.all Ty.ZQ=true
 |[],_=>rfl
 |t::ts,h=>by
  simp [ez,B!] at h;simp only [List.all_cons,B!];refine⟨?_,GM h.2⟩;cases t with
  |slice row=>simpa only [Ty.ZQ,Nz] using h.1
  |_=>rfl
mutual
theorem NB(hp:RB w w'):∀(t:Ty) (v:Value) (x:D t),Rd w A t v x->t.ZQ=true->Rd w' A t v x
 |.int _,_,_,hr,_|.bool,_,_,hr,_|.str,_,_,hr,_=>by simpa only [Rd] using hr
 |.slice row,v,l,hr,hq=>by
   simp only [Rd] at hr |-;have hq:ez row=true:=hq;obtain⟨a,cap,cs,h1,h2,h3,h4,h5⟩:=hr;refine⟨a,cap,cs,h1,h2,h3,br (λc x hx=>rD hp row c x hx (GM hq)) l cs h4,λfh=>?_⟩;obtain⟨b,o,ha,hA,pD⟩:=h5 fh;exact⟨b,o,ha,hA,vU hp pD (GL h4 hq)⟩
theorem rD(hp:RB w w'):∀(ts:M Ty) (vs:M Value) (x:Row ts),bx w A ts vs x->ts.all Ty.ZQ=true->bx w' A ts vs x
 |[],vs,x,hr,_=>by simpa only [bx] using hr
 |t::ts,vs,x,hr,hq=>by
  obtain⟨v,b7,h1,h2,h3⟩:=hr;simp only [List.all_cons,B!] at hq;exact⟨v,b7,h1,NB hp t v _ h2 hq.1,rD hp ts b7 _ h3 hq.2⟩
end
mutual
theorem Kg(hp:RB w w'):∀(x:AV) (v:Value),aa w A β v x->x.quiet=true->aa w' A β v x
 |.cF,_,_,_=>trivial
 |.undef,_,h,_|.int _ _,_,h,_|.bool _,_,h,_|.tt,_,h,_|.ff,_,h,_|.str _,_,h,_|.nil,_,h,_|.lb,_,h,_|.mi,_,h,_|.own _,_,h,_|.pre _ _,_,h,_|.view _ _ _ _,_,h,_|.ref _ _,_,h,_|.elem _ _ _ _,_,h,_|.pW _ _,_,h,_=>h
 |.sl row l,v,h,hq=>NB hp (.slice row) v l h (by simpa only [Ty.ZQ,AV.quiet] using hq)
 |.full row l,v,h,hq=>⟨NB hp (.slice row) v l h.1 (by simpa only [Ty.ZQ,AV.quiet] using hq),h.2⟩
 |.cQ row x j,v,⟨b,o,cs,h1,h2,h3,h4⟩,hq=>⟨b,o,cs,h1,h2,vU hp h3 (NA h4 (by simpa only [AV.quiet] using hq)),rD hp row cs x h4 (GM (by simpa only [AV.quiet] using hq))⟩
 |.qW row l,v,⟨b,o,cs,h1,h2,h3,h4⟩,hq=>⟨b,o,cs,h1,h2,vU hp h3 (GL h4 (by simpa only [AV.quiet] using hq)),br (λc x hx=>rD hp row c x hx (GM (by simpa only [AV.quiet] using hq))) l cs h4⟩
 |.agg cs,v,⟨arr,h1,h2⟩,hq|.bf cs,v,⟨arr,h1,h2⟩,hq=>⟨arr,h1,lX hp cs _ h2 (by simpa only [AV.quiet] using hq)⟩
 |.fn f first aW,v,⟨a1,a2,h1,h2,h3⟩,hq=>by
   simp only [AV.quiet,B!] at hq;exact⟨a1,a2,h1,lX hp first _ h2 hq.1,lX hp aW _ h3 hq.2⟩
 |.iz ks cs,v,h,hq=>by
   simp only [aa] at h |-;obtain⟨b,es,ck,h1,h2,⟨yD,h3,h4⟩,h5,h6⟩:=h;exact⟨b,es,ck,h1,h2,⟨yD,hp.map b yD ck h3,h4⟩,h5,lX hp cs _ h6 (by simpa only [AV.quiet] using hq)⟩
theorem lX(hp:RB w w'):∀(as_:M AV) (vs:M Value),ae w A β vs as_->tp as_=true->ae w' A β vs as_
 |[],_,h,_=>h
 |a::as_,vs,⟨v,b7,h1,h2,h3⟩,hq=>by
  simp only [tp,B!] at hq;exact⟨v,b7,h1,Kg hp a v h2 hq.1,lX hp as_ b7 h3 hq.2⟩
end
def St.RC(st:St)(k:Nat)(b:AB):St:={st with
 t:=λi=>bif (st.t i).quiet then st.t i else .cF
 h:=λj=>bif Nat.beq j k then some b else match st.h j with
  |some ab=>bif ab.quiet then some ab else none
  |none=>none}
def zb {k k':Nat}(hk:(st.h k).isSome)(h:((st.RC k b).h k').isSome):(st.h k').isSome:=by
 simp [St.RC] at h;cases hb:Nat.beq k' k with
 |true=>simp_all
 |false=>
  grind
def WX(hT:bA T P)(hB:aw C A β st a w)(hG:∀i d,C.G i=some d->ez d.row=true){k i e:Nat}{x:AV}(hp:aa w A β vp (.elem k 1 i 0))(hx:aa w A β vx x)
  {l:M (Row [.int .u8])} (hk:st.h k=some (.row e [.int .u8] l true)) (hs:iW T t x.cells.length=true) (hi:i<l.length) {y:Row [.int .u8]} (hy:oK [.int .u8] l[i] 0 x.cells=some y) (h1:x.cells.length=1):
  ∃w',(Instr.storeAt t vp vx).run P w= .ok () w'/\aw C A β (st.RC k (.row e [.int .u8] (l.set i y) true)) a w':=by
 simp only [aa] at hp;obtain⟨b,m,cap,bJ,rfl⟩:=hp;rcases gI hB hk with⟨_,hl⟩|⟨b',j7,cur,hv,hg,hle,Ac,dX,hL,hA⟩
 . grind
 rw [bJ] at hv;obtain⟨rfl,rfl,rfl⟩:=hv;have hA:A b:=hA;have hb:ai (β k)=some b:=by rw [bJ];rfl
 obtain⟨ii,jx,si⟩:=pt hT hs;have tW:l.length* [Ty.int .u8].length<=cur.size:=by grind
 obtain⟨c1,c,c2,e1,e2,e3,e4,e5⟩:=sd l _ i hi hL;have K5:=yN hx e3 hy;have oC:vx.cells.size=ii.size:=by omega
 have yO:vx.cells.toList.length=1:=by grind
 have hyy:∀c,bx w A [.int .u8] c l[i]->bx w A [.int .u8] (c.take 0++vx.cells.toList++c.drop (0+vx.cells.toList.length)) y/\(vx.cells.toList≠ []->0+vx.cells.toList.length<=c.length):=
  λc hc=>let h:=yN hx hc hy;⟨h.2.1,h.2.2.2.1⟩
 rcases Gf hi hL hyy tW with⟨g1,g2,g3⟩|aLB;case inr=>grind
 refine⟨_,lS jx oC K5.2.2.1 hg w!,?_⟩;generalize hnw:(cur.toList.take (i* [Ty.int .u8].length+0)++vx.cells.toList++cur.toList.drop (i* [Ty.int .u8].length+0+vx.cells.toList.length)).toArray=new at g1 g2;have fp:(w.setRow b new).heap[b]? =some (.cells new e (0,0)):=setRow_heap w b cur new e _ hg;have mR:∀b',b'≠b->(w.setRow b new).heap[b']? =w.heap[b']? :=λb' h=>setRow_other w b b' new (λh'=>h h')
 have hP:RB w (w.setRow b new):=by
  refine⟨λb' o v hc hn=>?_,λb' es ck hm=>?_⟩
  . by_cases Mo:b'=b
    . subst Mo;have q1:w.cell? ⟨b',o,none⟩=cur[o]? :=by simp [World.cell?,hg]
      have q2:(w.setRow b' new).cell? ⟨b',o,none⟩=new[o]? :=by simp [World.cell?,fp]
      rw [q1] at hc;rw [q2];by_cases ho:o=i
      . exfalso;subst ho;obtain⟨u,us,rfl,hu,hz⟩:=e3;have hu:=hu.1
        have :(cur.toList.take (l.length* [Ty.int .u8].length))[o]? =some u:=by
         rw [e1];simp at e2;simp [<-e2]
        rw [o?] at this;split at this
        . rw [U?,hc] at this;simp only [A!] at this;exact hn _ (this.trans hu)
        . cases this
      . rw [<-hnw];have :cur.toList[o]? =some v:=by rw [U?];exact hc
        rw [List.getElem?_toArray,<-this];simp only [O?,List.length_nil,r?,Nat.mul_one,Nat.add_zero]
        obtain⟨u,hu⟩:∃u,vx.cells.toList=[u]:=by
         match h:vx.cells.toList,yO with
         |[u],_=>exact⟨u,rfl⟩
        have hil:i<cur.toList.length:=by
         rw [yO] at g3;simp at g3;simp;omega
        have:=h? (l:=cur.toList) (i:=i) (a:=u);rw [M! hil] at this;rw [hu,W!,List.singleton_append,C?,<-this,List.getElem?_set_ne (Ne.symm ho)]
    grind[World.cell?_of_block]
  grind
 refine⟨hB.defers,hB.size,λj=>?_,λj ab hj=>?_,λp q b' hp hq=>hB.apart p q b' (zb (by simp [hk]) hp) (zb (by simp [hk]) hq),λb' h=>?_,⟨hB.frame.os,hB.frame.tape,hB.frame.output,?_,λb' h1 h2=>?_⟩,hB.iP,hB.base,λp b' hp=>hB.mO p b' (zb (by simp [hk]) hp),hB.pj,λp d hd=>?_,hB.held⟩
 . simp only [St.RC];cases hq:(st.t j).quiet with
   |true=>exact Kg hP _ _ (hB.tmps j) hq
   |false=>exact VO _
 . simp only [St.RC] at hj;cases Dj:Nat.beq j k with
   |true=>
    have:=C! Dj;subst this;rw [Dj,L!,A!] at hj;subst hj;refine⟨_,⟨?_,.inr ⟨b,cap,new,by rw [bJ];simp,w!,fp,by simpa using hle,Ac,g1.trans dX,rfl⟩⟩,?_,λb' fb=>?_⟩
    . rw [J?];refine Nat.min_eq_left ?_;rw [m?];exact X? tW (Nat.le_of_eq g1.symm)
    . simp only [m?];exact br (λc x hx=>rD hP [.int .u8] c x hx rfl) _ _ g2
    . rw [hb] at fb;simp only [A!] at fb;subst fb;exact hA
   |false=>
    rw [Dj,O!] at hj;have fh:j≠k:=λh=>by subst h;rw [cT] at Dj;cases Dj
    cases hh:st.h j with
    |none=>rw [hh] at hj;cases hj
    |some Df=>
     rw [hh] at hj;cases hq:Df.quiet with
     |false=>simp only [hq,O!] at hj;cases hj
     |true=>
      simp only [hq,L!,A!] at hj;subst hj;have fi:=hB.blocks j _ hh;have vr:∀b',ai (β j)=some b'->b'≠b:=λb' h h'=>fh (hB.apart j k b' (by simp [hh]) (by simp [hk]) h (h'▸hb));cases Df with
      |cells cs=>
       obtain⟨b',arr,e',k1,k2,k3,k4,k5⟩:=fi;exact⟨b',arr,e',k1,(mR b' (vr b' (by rw [k1];rfl))).trans k2,k3,lX hP cs _ k4 hq,k5⟩
      |row e' r l' fr=>
       obtain⟨xs,k1,k2,k3⟩:=fi;exact⟨xs,c9 k1 (λb' h=>mR b' (vr b' h)),br (λc x hx=>rD hP r c x hx hq) _ _ k2,k3⟩
      |_=>cases hq
 . rw [(wR b new).2.2.2];exact hB.bound b' h
 . rw [(wR b new).2.2.2];exact hB.frame.size
 . rw [mR b' λh=>?_]
   . exact hB.frame.block b' h1 h2
   . subst h;rcases hB.mO k b' (by simp [hk]) hb with h|h
     . exact absurd h1 (Nat.not_lt.2 h)
     . exact h2 h
 . obtain⟨k1,cs,k2,k3⟩:=hB.laid p d hd;have hq:=hG p d hd;exact⟨k1,cs,vU hP k2 (GL k3 hq),br (λc x hx=>rD hP _ c x hx (GM hq)) _ _ k3⟩
def WY(T:b9)(st:St)(t:TypeId)(k sz i j e:Nat):(row:M Ty)->M (Row row)->AV->Option (M Prop×((St->Prop)->Prop))
 |[.int .u8],l,v=>bif Nat.beq sz 1&&Nat.beq j 0&&Nat.beq v.cells.length 1&&iW T t v.cells.length then match oK [.int .u8] (l.getD i (Row.zero [.int .u8])) 0 v.cells with
     |some y=>some ([i<l.length],λK=>∀l',l'=l.set i y->K (st.RC k (.row e [.int .u8] l' true)))
     |none=>none
   else none
 |_,_,_=>none
def TZ(E:Env)(st:St)(o:Oper):Option (M Prop×((St->Prop)->Prop)):=match o.op,o.dst,o.guard with
 |.store t x y,none,none=>match ev st x with
   |.elem k sz i j=>match st.h k with
     |some (.row e row l true)=>WY E.T st t k sz i j e row l (ev st y)
     |_=>none
   |_=>none
 |_,_,_=>none
def T0(E:Env)(K:Ex->St->Prop)(st:St)(ops:M Oper)(d:Bool):Prop:=match ops.getLast?,d with
 |some o,false=>match q8 E false ops 0 [] ops.dropLast st with
  |some (c,m)=>match TZ E m o with
   |some (c',f)=>A5 c (A5 c' (f (K .norm)))
   |none=>False
  |none=>False
 |_,_=>False
def vu(E:Env)(L:Nat->Option bq):Code->(Ex->St->Prop)->St->Prop
 |.region id ops d,K,st=>match aba E st ops.toList with
   |some _=>qU E L (.region id ops d) K st
   |none=>match DQ E d ops.toList st with
    |some (c,aX)=>A5 c (K .norm aX)
    |none=>T0 E K st ops.toList d
 |.seq x y,K,st=>vu E L x (ajJ K (vu E L y K)) st
 |.cond c x y,K,st=>match aa8 E c x y st with
   |some (cs,aX)=>A5 cs (K .norm aX)
   |none=>match ev st c with
    |.tt=>vu E L x K st
    |.ff=>vu E L y K st
    |.bool b=>(b=true->vu E L x K st)/\(b=false->vu E L y K st)
    |.pW _ l=>(l=[]->vu E L x K st)/\vu E L y K st
    |_=>False
 |.block id (.loop b),K,st=>qU E L (.block id (.loop b)) K st
 |.block id b,K,st=>vu E L b (J0 id K) st
 |.exit i,K,st=>K (.exit i) st
 |.ret,K,st=>K .ret st
 |.skip,K,st=>K .norm st
 |.scope c,K,st=>vu E L c K st
 |c,K,st=>qU E L c K st
def T1(E:Env)(L:Nat->Option bq)(c:Code)(n:Nat)(rs:M ResultVar)(bc:M AV)(want:AV)(bs:M AB):Prop:=
 bif Nat.ble bc.length n then vu E L c (ajL E.T rs want bs) (St.init E.gP n bc) else False
def GN(hE:dq P C E){ops:Array Oper}{Q:Exit->Act->World->Prop}{rest:M Nat}:∀(es:M Ev) (s s':St) (a:Act) (w:World),uh E ops.toList es s s'->Rel C s a w->
  (∀a' w',Rel C s' a' w'->wpOps P ops Q rest a' w')->wpOps P ops Q (es.map (·.i)++rest) a w
 |[],s,s',a,w,hx,hR,hQ=>by
   obtain⟨A,β,hB⟩:=hR;exact hQ _ _ ⟨A,β,hB.seq hx⟩
 |e::es,s,s',a,w,hx,hR,hQ=>by
  obtain⟨s1,h1,h2⟩:=hx;exact qi hE h1 hR λa' w' ga=>GN hE es s1 s' a' w' h2 ga hQ
def Bm {ops:M Oper}:∀(rest:M Oper) (i:Nat) (tr:M Ev) (st:St) (cs:M Prop) (m:St),q8 E false ops i tr rest st=some (cs,m)->(∀p∈cs,p)->
  (∀k o,rest[k]? =some o->ops[i+k]? =some o)->
  ∃es sl,uh E ops es st sl/\es.map (·.i)=List.range' i rest.length/\∀(C:Ctx) A β a w,aw C A β sl a w->aw C A β m a w
 |[],i,tr,st,cs,m,h,dX,hl=>by
   simp [q8,Option.some.injEq,Prod.mk.injEq] at h;exact⟨[],st,iT.refl _,rfl,λ_ _ _ _ _ hB=>by grind⟩
 |o::rest,i,tr,st,cs,m,h,dX,hl=>by
  have h0:ops[i]? =some o:=by simpa using hl 0 o rfl
  have lp:∀k o',rest[k]? =some o'->ops[i+1+k]? =some o':=λk o' hk=>by have:=hl (k+1) o' x!;grind
  simp [q8] at h;split at h
  . cases h
  . rename_i hg;cases hq:(fw st o&&mT st.kb false ops tr ⟨i,o,none,jQ E st o,lT tr o.after.toList⟩) with
    |false=>grind
    |true=>
     simp [hq,cond_true] at h;rw [Bool.and_eq_true] at hq;obtain⟨es,sl,h1,h2,h4⟩:=Bm rest _ _ _ _ _ h dX lp;refine⟨⟨i,o,none,jQ E st o,lT tr o.after.toList⟩::es,sl,⟨st.put o.dst .skip,⟨h0,hq.1,rfl,hg,Gu.symm⟩,h1⟩,?_,h4⟩;grind[List.length_cons,List.range'_succ]
  . rename_i hg;split at h
    . cases h
    . rename_i out np;cases hq:(fw st o&&(ju st.h out.new&&mT st.kb false ops tr ⟨i,o,some out,jQ E st o,lT tr o.after.toList⟩)) with
      |false=>grind
      |true=>
       simp [hq,L!] at h;rw [B!,B!] at hq;obtain⟨c',h',rfl⟩:=oR h;obtain⟨s0,c,s,e1,e2,e3,e4⟩:=Ru h' (λp hp=>dX p (Y! _ hp)) (λs0 c s hn=>nr rest _ _ _ _ _ hn);obtain⟨es,sl,h1,h2,h4⟩:=Bm rest _ _ _ _ _ e2 e3 lp;refine⟨⟨i,o,some out,jQ E st o,lT tr o.after.toList⟩::es,sl,⟨s0,⟨h0,hq.1,rfl,⟨hg,np,hq.2.1,λp hp=>dX p (T! _ hp)⟩,e1⟩,h1⟩,?_,λC A β a w hB=>e4 _ _ _ _ _ (h4 _ _ _ _ _ hB)⟩;rw [G?,h2,O?,List.range'_succ]
def QH(hE:dq P C E)(hG:∀i d,C.G i=some d->ez d.row=true){cs:M Prop}{F:(St->Prop)->Prop}{κ:St->Prop}(h:TZ E st o=some (cs,F))(hc:∀p∈cs,p)(hF:F κ)(hB:aw C A β st a w)
  {K:Act->World->Prop} (hK:∀m w',κ m->aw C A β m a w'->K a w'):o.guard=none/\o.wp P a w K Q:=by
 obtain⟨dst,op,ty,pos,after,guard⟩:=o;unfold TZ at h;split at h
 . rename_i t x y h1 h2 h3;subst h1 h2 h3;refine⟨rfl,?_⟩;split at h
   . rename_i k sz i j hx;split at h
     . rename_i e row l hk;unfold WY at h;split at h
       . cases hq:(Nat.beq sz 1&&Nat.beq j 0&&Nat.beq (ev st y).cells.length 1&&iW E.T t (ev st y).cells.length) with
         |false=>grind
         |true=>
          rw [hq,L!] at h;simp only [B!] at hq;have q1:=C! hq.1.1.1;have q2:=C! hq.1.1.2;have q3:=C! hq.1.2;subst q1 q2;split at h
          . rename_i z hz;obtain⟨rfl,rfl⟩:=h;have hi:=hc _ (I! ..);rw [getD_eq _ _ _ hi] at hz;have hvx:=aG hB x;rw [hx] at hvx;obtain⟨w',g1,g2⟩:=WX hE.fc hB hG hvx (aG hB y) hk hq.2 hi hz q3;exact nU (w':=w') (by simp [execOp,g1]) (hK _ w' (hF _ rfl) g2)
          grind
       grind
     grind
   grind
 grind
def QI(hE:dq P C E)(hG:∀i d,C.G i=some d->ez d.row=true){id:Nat}(h:T0 E K st ops.toList d)(hR:Rel C st a w)
  (hQ:∀aX a' w',K .norm aX->Rel C aX a' w'->Q .normal a' w'):(Code.region id ops d).wp P Q a w:=by
 unfold T0 at h;split at h
 . rename_i o Zu;split at h
   . rename_i c m gf;split at h
     . rename_i c' F hp;obtain⟨k1,h⟩:=py h;obtain⟨k2,h⟩:=py h
       obtain⟨es,sl,h1,h2,h4⟩:=Bm (ops:=ops.toList) ops.toList.dropLast 0 [] st _ m gf k1 (λk o' hk=>by
        grind)
       refine wp_region ?_
       have hlen:ops.size=ops.toList.dropLast.length+1:=by
        grind
       have ZI:ops[ops.toList.dropLast.length]? =some o:=by
        grind
       have:=GN (Q:=Q) hE (rest:=[ops.toList.dropLast.length]) es st sl a w h1 hR λa' w' ga=>by
        obtain⟨A',az,ry⟩:=ga;have ry:=h4 _ _ _ _ _ ry;obtain⟨g1,g2⟩:=QH (Q:=Q) (K:=wpOps P ops Q []) hE hG hp k2 h ry λm' Qk hk aGm=>hQ _ _ _ hk ⟨A',az,aGm⟩;exact A8 ZI g1 g2
       grind[List.range_succ,List.range_eq_range']
     grind
   grind
 grind
def jC(hE:dq P C E)(hG:∀i d,C.G i=some d->ez d.row=true)(hm:P.follows .mixedOrders=true){L:Nat->Option bq}:∀(c:Code) (K:Ex->St->Prop) (st:St) (a:Act) (w:World) (Q:Exit->Act->World->Prop),
  vu E L c K st->Rel C st a w->(∀e aX a' w',K e aX->Rel C aX a' w'->Q (RA e) a' w')->c.wp P Q a w
 |.skip,K,st,a,w,Q,h,hR,hQ=>wp_skip (hQ .norm _ _ _ h hR)
 |.region id ops d,K,st,a,w,Q,h,hR,hQ=>by
   simp [vu] at h;split at h
   . grind[dy]
   . split at h
     . rename_i c aX hr;obtain⟨h1,h2⟩:=py h;exact w7 hE hm hr h1 hR λa' w' ga=>hQ .norm _ _ _ h2 ga
     . exact QI hE hG h hR λaX a' w' hk ga=>hQ .norm _ _ _ hk ga
 |.seq x y,K,st,a,w,Q,h,hR,hQ=>by
   refine wp_seq (jC hE hG hm x _ st a w _ h hR λe aX a' w' hk ga=>?_);cases e with
   |norm=>exact jC hE hG hm y K aX a' w' Q hk ga hQ
   |exit i=>exact hQ (.exit i) _ _ _ hk ga
   |ret=>exact hQ .ret _ _ _ hk ga
 |.cond c x y,K,st,a,w,Q,h,hR,hQ=>by
   simp [vu] at h;split at h
   . rename_i cs m hr;obtain⟨h1,h2⟩:=py h;unfold aa8 at hr;cases hs:(!TK E c&&(lv x&&lv y)) with
     |false=>grind
     |true=>
      rw [hs] at hr;exact kh hE hm _ st _ _ a w Q hr h1 hR λa' w' ga=>hQ .norm _ _ _ h2 ga
   . obtain⟨A,β,hB⟩:=hR;split at h
     . rename_i hv;exact wp_cond_true (ZN hB hv) (jC hE hG hm x K st a w Q h ⟨A,β,hB⟩ hQ)
     . rename_i hv;exact wp_cond_false (ZO hB hv) (jC hE hG hm y K st a w Q h ⟨A,β,hB⟩ hQ)
     . rename_i b hv;exact wp_cond_split (Ns hB hv) (λhb=>jC hE hG hm x K st a w Q (h.1 hb) ⟨A,β,hB⟩ hQ) (λhb=>jC hE hG hm y K st a w Q (h.2 hb) ⟨A,β,hB⟩ hQ)
     . rename_i row l hv;obtain⟨b,hb,hl⟩:=WR hB hv;exact wp_cond_split hb (λht=>jC hE hG hm x K st a w Q (h.1 (hl ht)) ⟨A,β,hB⟩ hQ) (λ_=>jC hE hG hm y K st a w Q h.2 ⟨A,β,hB⟩ hQ)
     grind
 |.block id b,K,st,a,w,Q,h,hR,hQ=>by
   have ayw:vu E L b (J0 id K) st->(Code.block id b).wp P Q a w:=λh=>wp_block (jC hE hG hm b _ st a w _ h hR λe aX a' w' hk ga=>by
    cases e with
    |norm=>exact hQ .norm _ _ _ hk ga
    |ret=>exact hQ .ret _ _ _ hk ga
    |exit j=>
     simp only [J0] at hk;by_cases hj:j=id
     . subst hj;simp at hk;simp [RA,Exit.inBlock,Q?];exact hQ .norm _ _ _ hk ga
     . simp [aP hj,O!] at hk;simp [RA,Exit.inBlock,J! hj];exact hQ (.exit j) _ _ _ hk ga)
   cases b with
   |loop b=>grind[dy,vu]
   |_=>grind[vu]
 |.exit i,K,st,a,w,Q,h,hR,hQ=>wp_exit (hQ (.exit i) _ _ _ h hR)
 |.ret,K,st,a,w,Q,h,hR,hQ=>wp_ret (hQ .ret _ _ _ h hR)
 |.loop b,K,st,a,w,Q,h,hR,hQ=>dy hE hm _ K st a w Q (by simpa only [vu] using h) hR λe aX a' w' hk _ ga=>hQ e aX a' w' hk ga
 |.rangeFunc x y z u,K,st,a,w,Q,h,hR,hQ=>dy hE hm _ K st a w Q (by simpa only [vu] using h) hR λe aX a' w' hk _ ga=>hQ e aX a' w' hk ga
 |.scope c,K,st,a,w,Q,h,hR,hQ=>by
   refine wp_scope_straight (jC hE hG hm c K st a w _ h hR λe aX a' w' hk ga=>?_);have:=hQ e aX a' w' hk ga;cases e<;>exact this
 |.label l,K,st,a,w,Q,h,hR,hQ|.goto l,K,st,a,w,Q,h,hR,hQ=>dy hE hm _ K st a w Q (by simpa only [vu] using h) hR λe aX a' w' hk _ ga=>hQ e aX a' w' hk ga
 |.refuse s,K,st,a,w,Q,h,hR,hQ=>dy hE hm _ K st a w Q (by simpa only [vu] using h) hR λe aX a' w' hk _ ga=>hQ e aX a' w' hk ga
termination_by c=>SizeOf.sizeOf c
theorem QJ(hE:aV P E)(hG:∀i d,E.gP i=some d->ez d.row=true)(hm:P.follows .mixedOrders=true){f:FuncId}{fn:Func}(L:M AV->Nat->Option bq)(hf:P.funcs[f]? =some fn)(hb:fn.body=some c)
  (h:∀bc pre res bs,s bc=some (pre,res,bs)->pre->T1 E (L bc) c fn.ntmps fn.results.toList bc res bs):Valid P E.gP f s:=by
 intro w A β args bc pre res bs hA hG' bm hs hp;have ID:=h bc pre res bs hs hp;unfold T1 at ID;cases hn:Nat.ble bc.length fn.ntmps with
 |false=>grind
 |true=>
  rw [hn] at ID;refine calls_of_wp hf hb (jC (C:=⟨w,A,λ_=>False,E.gP,β⟩) ⟨hE,rfl⟩ hG hm c _ _ _ w _ ID ⟨A,β,aw.init hA hG' bm (N! hn)⟩ ?_);intro e aX a' w' hk hR;obtain⟨A',az,hB⟩:=hR
  have key:Rp E.T aX fn.results.toList res bs->bodyPost P fn (λe w'=>∃v,e= .returned v/\∃A' az,lu w A w' v res bs A' az) .ret a' w':=by
   intro hk;obtain⟨v,h1,A2,fa,h2⟩:=Ny hE.fc hB hk;exact⟨hB.defers,v,h1,v,rfl,A2,fa,h2⟩
  cases e with
  |norm=>exact key hk
  |ret=>exact key hk
  |exit i=>exact hk.elim
@[reducible] def ur (α:Type):M α:=[]
mutual
def D.ok:(t:Ty)->D t->Prop
 |.int k,x=>lo k<=DI.toInt k x/\DI.toInt k x<=hi k
 |.bool,_=>True
 |.str,s=>s.length<=9223372036854775807
 |.slice row,l=>l.length<=9223372036854775807/\∀x,x∈l->Row.ok row x
def Row.ok:(ts:M Ty)->Row ts->Prop
 |[],_=>True
 |t::ts,x=>D.ok t (Row.hd x)/\Row.ok ts (Row.tl x)
end
mutual
def AV.facts:AV->Prop
 |.int k n=>lo k<=n/\n<=hi k
 |.str s=>s.length<=9223372036854775807
 |.sl row l|.full row l=>D.ok (.slice row) l
 |.agg cs|.bf cs=>CP cs
 |_=>True
def CP:M AV->Prop
 |[]=>True
 |a::as_=>a.facts/\CP as_
end
def T2 {α:Type}{R:M Value->α->Prop}{p:α->Prop}(h:∀c x,R c x->p x):∀(l:M α) (cs:M Value),dJ R cs l->∀x,x∈l->p x
 |[],_,_,x,hx=>by grind
 |y::l,_,⟨c1,c2,hc,h1,h2⟩,x,hx=>by
  rcases P!.1 hx with rfl|hx
  . grind
  . exact T2 h l c2 h2 x hx
mutual
theorem ZS:∀(t:Ty) (v:Value) (x:D t),Rd w A t v x->D.ok t x
 |.int k,v,x,h=>by simp only [Rd] at h;simp only [D.ok];exact h.2
 |.bool,v,x,h=>by simp only [D.ok]
 |.str,v,s,h=>by simp only [Rd] at h;simp only [D.ok];exact h.2
 |.slice row,v,l,h=>by
   simp only [Rd] at h;obtain⟨a,cap,cs,h1,h2,h3,h4,h5⟩:=h;simp only [D.ok];exact⟨X? h2 h3,T2 (λc x hx=>GO row c x hx) l cs h4⟩
theorem GO:∀(ts:M Ty) (vs:M Value) (x:Row ts),bx w A ts vs x->Row.ok ts x
 |[],vs,x,h=>by simp only [Row.ok]
 |t::ts,vs,x,h=>by
  simp only [bx] at h;obtain⟨v,b7,h1,h2,h3⟩:=h;simp only [Row.ok];exact⟨ZS t v _ h2,GO ts b7 _ h3⟩
end
mutual
theorem T3:∀(a:AV) (v:Value),aa w A β v a->a.facts
 |.int k n,v,h=>by simp only [aa] at h;simp only [AV.facts];exact h.2
 |.str s,v,h=>by simp only [aa] at h;simp only [AV.facts];exact h.2
 |.sl row l,v,h=>by simp only [aa] at h;simp only [AV.facts];exact ZS _ _ _ h
 |.full row l,v,h=>by simp only [aa] at h;simp only [AV.facts];exact ZS _ _ _ h.1
 |.agg cs,v,h=>by
   simp only [aa] at h;obtain⟨arr,_,h2⟩:=h;simp only [AV.facts];exact w8 cs _ h2
 |.bf cs,v,h=>by
   simp only [aa] at h;obtain⟨arr,_,h2⟩:=h;simp only [AV.facts];exact w8 cs _ h2
 |.cF,_,_|.undef,_,_|.bool _,_,_|.tt,_,_|.ff,_,_|.nil,_,_|.lb,_,_|.pW _ _,_,_|.mi,_,_|.cQ _ _ _,_,_|.qW _ _,_,_|.own _,_,_|.pre _ _,_,_|.view _ _ _ _,_,_|.ref _ _,_,_|.elem _ _ _ _,_,_|.fn _ _ _,_,_|.iz _ _,_,_=>by simp only [AV.facts]
theorem w8:∀(as_:M AV) (vs:M Value),ae w A β vs as_->CP as_
 |[],_,_=>by simp only [CP]
 |a::as_,vs,h=>by
  simp only [ae] at h;obtain⟨v,b7,_,h1,h2⟩:=h;simp only [CP];exact⟨T3 a v h1,w8 as_ b7 h2⟩
end
def b9.Ok(P:Program):b9->Prop
 |.leaf=>True
 |.node l k v r=>l.Ok P/\r.Ok P/\P.underlying k=some v.desc/\Za P k v.desc/\∃i,P.info? k=some i/\i.size=v.size/\i.bytes=v.bytes/\i.zero=some v.zero
theorem b9.Ok.at {P:Program}{T:b9}(h:T.Ok P):∀t te,T.find t=some te->(P.underlying t=some te.desc/\∃i,P.info? t=some i/\i.size=te.size/\i.bytes=te.bytes/\i.zero=some te.zero)/\Za P t te.desc:=by
 induction T with
 |leaf=>intro t te ht;cases ht
 |node l k v r ihl ihr=>
  obtain⟨h1,h2,h3,h5,h4⟩:=h;intro t te ht;simp [b9.find] at ht;cases hb:Nat.beq t k with
  |true=>
   simp_all
  |false=>
   grind
theorem bA.of{T:b9}(h:T.Ok P):bA T P:=⟨λt te ht=>(h.at t te ht).1,λt te ht=>(h.at t te ht).2⟩
inductive PS where
 |one (t:Ty)
 |agg (ts:List Ty)
 |var (ts:List Ty)
@[reducible] def PS.flat:M PS->M Ty
  |[]=>[]
  |.one t::ps=>t::PS.flat ps
  |.agg ts::ps|.var ts::ps=>ts++PS.flat ps
def PS.cells:M PS->M AV->Option (M AV)
 |[],[]=>some []
 |.one _::ps,a::as_=>match PS.cells ps as_ with
   |some l=>some (a::l)
   |none=>none
 |.agg ts::ps,.agg cs::as_=>bif Nat.beq cs.length ts.length then match PS.cells ps as_ with
   |some l=>some (cs++l)
   |none=>none
   else none
 |.var ts::ps,.cQ Gz x 0::as_=>match fG Gz ts [x],PS.cells ps as_ with
   |some (y::_),some l=>some (aB ts y++l)
   |_,_=>none
 |_,_=>none
def zc(ts:M Ty)(cs:M AV):AV:=match lf ts cs with
 |some x=>.cQ ts x 0
 |none=>.cF
def PS.group:M PS->M AV->M AV
 |[],_=>[]
 |.one _::ps,cs=>cs.headD .cF::PS.group ps cs.tail
 |.agg ts::ps,cs=>.agg (cs.take ts.length)::PS.group ps (cs.drop ts.length)
 |.var ts::ps,cs=>zc ts (cs.take ts.length)::PS.group ps (cs.drop ts.length)
def IE(ps:M PS)(bc:M AV):Option (Row (PS.flat ps)):=match PS.cells ps bc with
 |some cs=>lf (PS.flat ps) cs
 |none=>none
def mE(ps:M PS)(x:Row (PS.flat ps)):M AV:=PS.group ps (aB (PS.flat ps) x)
def eD(ps:M PS)(f:Row (PS.flat ps)->Prop×AV×M AB):Qj:=λbc=>match IE ps bc with
 |some x=>some (f x)
 |none=>none
def rE(ps:M PS)(μ:Row (PS.flat ps)->Nat)(m:Nat)(f:Row (PS.flat ps)->Prop×AV×M AB):Qj:=
 eD ps λx=>(μ x<m/\(f x).1,(f x).2)
theorem iC:∀(as_ bs:M AV) (us vs:M Value),ae w A β us as_->ae w A β vs bs->ae w A β (us++vs) (as_++bs)
 |[],bs,us,vs,h,g=>by
   grind[ae]
 |a::as_,bs,us,vs,h,g=>by
  obtain⟨v,Ib,rfl,h1,h2⟩:=h;exact⟨v,Ib++vs,rfl,h1,iC as_ bs Ib vs h2 g⟩
theorem ly:∀(as_ bs:M AV) (vs:M Value),ae w A β vs (as_++bs)->∃us ws,vs=us++ws/\ae w A β us as_/\ae w A β ws bs
 |[],bs,vs,h=>⟨[],vs,rfl,by rfl,h⟩
 |a::as_,bs,vs,h=>by
  obtain⟨v,b7,rfl,h1,h2⟩:=h;obtain⟨us,ws,rfl,h3,h4⟩:=ly as_ bs b7 h2;exact⟨v::us,ws,rfl,by exact⟨v,us,rfl,h1,h3⟩,h4⟩
theorem vV(as_:M AV)(vs:M Value)(h:ae w A β vs as_):vs.length=as_.length:=(dZ as_ vs h).symm▸rfl
def tq:∀(ps:M PS) (bc cs:M AV) (args:M Value),PS.cells ps bc=some cs->ae w A β args bc->
  cs.length=(PS.flat ps).length/\∃vs,ae w A β vs cs/\∀fZ,fZ.length=cs.length->ae w A β vs fZ->ae w A β args (PS.group ps fZ)
 |[],[],cs,args,h,hr=>by
   simp only [PS.cells,Option.some.injEq] at h;subst h;exact⟨rfl,[],by rfl,λfZ _ _=>by grind[PS.group]⟩
 |.one t::ps,a::as_,cs,args,h,hr=>by
   simp only [PS.cells] at h;split at h
   . rename_i l hl;simp only [Option.some.injEq] at h;subst h;simp only [ae] at hr;obtain⟨v,IF,rfl,h1,h2⟩:=hr;obtain⟨g1,vs,g2,g3⟩:=tq ps as_ l IF hl h2;refine⟨x!,v::vs,by simp only [ae];grind,λfZ lp p9=>?_⟩;cases fZ with
     |nil=>grind
     |cons c fZ=>
      simp only [ae] at p9;obtain⟨v',b7,e,r1,r2⟩:=p9;simp only [List.cons.injEq] at e;obtain⟨rfl,rfl⟩:=e;simp only [PS.group,List.headD,List.tail,ae];grind
   grind
 |.agg ts::ps,a::as_,cs,args,h,hr=>by
   cases a with
   |agg Gc=>
    simp only [PS.cells] at h;cases hb:Nat.beq Gc.length ts.length with
    |false=>grind
    |true=>
     rw [hb] at h;have hlen:=C! hb;simp only [L!] at h;split at h
     . rename_i l hl;simp only [Option.some.injEq] at h;subst h;simp only [ae] at hr;obtain⟨v,IF,rfl,h1,h2⟩:=hr;simp only [aa] at h1;obtain⟨arr,rfl,h1⟩:=h1;obtain⟨g1,vs,g2,g3⟩:=tq ps as_ l IF hl h2;refine⟨x!,arr.toList++vs,iC _ _ _ _ h1 g2,λfZ lp p9=>?_⟩;grind[ly,List.take_append_drop,vV,List.append_inj,PS.group,ae,aa]
     grind
   |_=>grind[PS.cells]
 |.var ts::ps,a::as_,cs,args,h,hr=>by
   obtain⟨v,IF,rfl,h1,h2⟩:=hr;unfold PS.cells at h;split at h
   . rename_i e1 _;cases e1
   . rename_i e1 _;cases e1
   . rename_i e1 _;cases e1
   . rename_i ts0 ps0 Gz x as0 e1 e2;simp only [i?,PS.var.injEq] at e1 e2;obtain⟨e1,e3⟩:=e1;obtain⟨e2,e4⟩:=e2;subst e1 e2 e3 e4;split at h
     . rename_i y r l hy hl;simp only [A!] at h;subst h;obtain⟨b,o,Gc,g0,gA,gr,gd⟩:=h1;obtain⟨e,he⟩:=jn hy;subst e;simp only [i?] at he;obtain⟨rfl,he2⟩:=he;subst he2;obtain⟨g1,vs,g2,g3⟩:=tq ps as_ l IF hl h2;refine⟨by simp [fu,g1,PS.flat],Gc++vs,iC _ _ _ _ (gZ _ _ _ gd) g2,λfZ lp p9=>?_⟩
       have hlen:Gc.length=Gz.length:=by
        have:=vV _ _ (gZ (β:=β) _ _ _ gd);rw [this,fu]
       rw [<-V? Gz.length fZ] at p9;obtain⟨us,ws,e,q1,q2⟩:=ly _ _ _ p9
       have jU:(fZ.take Gz.length).length=Gz.length:=by
        rw [J?,lp,K!,fu];omega
       have:=vV _ _ q1;obtain⟨rfl,rfl⟩:=List.append_inj e w!;refine⟨v,IF,rfl,?_,g3 _ (by rw [List.length_drop,lp,List.length_append,fu];omega) q2⟩;unfold zc;split
       . rename_i x hx;exact⟨b,o,Gc,g0,gA,gr,nj _ _ _ _ q1 hx⟩
       . trivial
     . cases h
   . cases h
 |.var _::_,[],cs,args,h,_|[],_::_,cs,args,h,_|.one _::_,[],cs,args,h,_|.agg _::_,[],cs,args,h,_=>by grind[PS.cells]
def rF(ps:M PS){args:M Value}{x:Row (PS.flat ps)}(h:IE ps bc=some x)(hr:ae w A β args bc):
  ae w A β args (mE ps x)/\Row.ok (PS.flat ps) x:=by
 unfold IE at h;split at h
 . rename_i cs dX;obtain⟨g1,vs,g2,g3⟩:=tq ps bc cs args dX hr;have hv:=nj _ _ _ _ g2 h;exact⟨g3 _ (by rw [fu,g1]) (gZ _ _ _ hv),GO _ _ _ hv⟩
 grind
def GP(hE:aV P E)(hm:P.follows .mixedOrders=true){f:FuncId}{fn:Func}(ps:M PS){F:Row (PS.flat ps)->Prop×AV×M AB}
  (L:Row (PS.flat ps)->Nat->Option bq) (hf:P.funcs[f]? =some fn) (hb:fn.body=some c)
  (h:∀x,(F x).1->Row.ok (PS.flat ps) x->J1 E (L x) c fn.ntmps fn.results.toList (mE ps x) (F x).2.1 (F x).2.2):Valid P E.gP f (eD ps F):=by
 intro w A β args bc pre res bs hA hG bm hs hp;unfold eD at hs;split at hs
 . rename_i x hx;obtain⟨g1,g2⟩:=rF ps hx bm
   have hv:Valid P E.gP f (λGQ=>open Classical in if GQ=mE ps x then some (F x) else none):=by
    refine TY hE hm (λ_=>L x) hf hb λGQ aGp aGq bs' jW Bn=>?_;grind
   exact hv w A β args (mE ps x) pre res bs hA hG g1 x! hp
 grind
def ZT{f:FuncId}(ps:M PS)(μ:Row (PS.flat ps)->Nat){F:Row (PS.flat ps)->Prop×AV×M AB}
  (h:∀m,Valid P G f (rE ps μ m F)->Valid P G f (rE ps μ (m+1) F)):Valid P G f (eD ps F):=by
 have kU:∀m,Valid P G f (rE ps μ m F):=by
  intro m;induction m with
  |zero=>
   intro w A β args bc pre res bs hA hG bm hs hp;unfold rE eD at hs;grind
  |succ m ih=>grind
 intro w A β args bc pre res bs hA hG bm hs hp;unfold eD at hs;split at hs
 . rename_i x hx;refine kU (μ x+1) w A β args bc (μ x<μ x+1/\pre) res bs hA hG bm ?_ ⟨Nat.lt_succ_self _,hp⟩;simp_all[rE,eD]
 grind
theorem cV.of {f:FuncId} {fn:Func}(hf:P.funcs[f]? =some fn)(hb:fn.body=some c)(hn:(fn.name== "runtime.NumGoroutine")=false):cV P f:=by
 intro args w;simp_all[callFunc,Sem.run_bind,Result.andThen_ok,Option.isNone_some]
def Env.cons(f:Nat)(s:Qj)(E:Env):Env:={E with sig:=λg=>bif Nat.beq g f then some s else E.sig g}
theorem aV.cons(hE:aV P E){f:FuncId}{s:Qj}(h:Valid P E.gP f s)(hf:cV P f):aV P (E.cons f s):=by
 refine⟨hE.fc,λg t hg=>?_,hE.qX,hE.hp,hE.cq⟩;simp [Env.cons] at hg;cases hb:Nat.beq g f with
 |true=>
  rw [hb] at hg;simp at hg;have:=C! hb;subst this;subst hg;exact⟨h,hf⟩
 |false=>
  rw [hb] at hg;exact hE.sig g t hg
theorem aV.none {T:b9}(G:Nat->Option GD)(hT:bA T P)(hP:∀Q,HP.is Q↔Q=P:=by exact λ_=>Iff.rfl):aV P {T:=T,sig:=λ_=>none,gP:=G}:=⟨hT,nofun,nofun,hP,nofun⟩
end Go.Vg
