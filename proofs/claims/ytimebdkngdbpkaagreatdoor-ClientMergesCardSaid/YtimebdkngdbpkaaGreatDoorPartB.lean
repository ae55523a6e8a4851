import Derived.Test.YtimebdkngdbpkaaGreatDoorPartA
import Derived.Orders
import Derived.Deep.LoopGhost
import Derived.Scope
import Derived.WalkKit
import Derived.ProofKit
import Derived.OpenShut
import Derived.SizedLaws
set_option linter.unusedVariables false
set_option linter.unusedSimpArgs false
set_option linter.unusedSectionVars false
set_option linter.defProp false
section
namespace Go.Vg
open Go
variable [HP]
def WJ(E:Env):AV->Option (Option Nat×CF)
 |.fn (.func f) [] aR=>match E.ca f with
   |some t=>t aR
   |none=>match E.sig f with
    |some s=>match s aR with
     |some (pre,res,bs)=>bif bs.isEmpty&&(ao res).isEmpty then some (none,λz=>(pre,res,z)) else none
     |none=>none
    |none=>none
 |_=>none
def Q2:Option Nat->Option Nat->Option (Option Nat)
 |none,k=>some k
 |some j,none=>some (some j)
 |some j,some k=>bif Nat.beq j k then some (some j) else none
def Ej(E:Env):List AV->Option (Option Nat×List CF)
 |[]=>some (none,[])
 |a::r=>match WJ E a,Ej E r with
  |some (k,F),some (k',l)=>match Q2 k k' with
   |some k=>some (k,F::l)
   |none=>none
  |_,_=>none
def OD:Option Nat->Nat->Bool
 |some j,d=>!Nat.beq j d
 |none,_=>true
abbrev aW.zg(xs:List Value):Nat:=xs.length
abbrev aW.cat(l m:List CF):List CF:=l++m
abbrev aW.len(l:List CF):Nat:=l.length
def BS(E:Env)(st:St)(o:Oper):Option Out:=match o.op with
 |.buildSlice t len parts=>match o.dst,nJ E.T t,lJ E.T t with
   |some d,some e,some te=>bif fresh st.h (st.kb+d)&&(Nat.blt 0 te.size&&(Nat.beq (ofConst te.zero).cells.length te.size&&Nat.ble (len*te.size) 16777216)) then
    match wK (λi=>some (i*te.size,te.size)) ((List.replicate len (ofConst te.zero).cells).flatten) (parts.toList.map λp=>(p.1,ev st p.2)) with
    |some cs=>bif cs.all AV.one&&Nat.beq cs.length (len*te.size) then match bif Nat.beq te.size 1 then Ej E cs else none with
     |some (k,l)=>bif OD k (st.kb+d) then some {cond:=[],res:=.own (st.kb+d),new:=[(st.kb+d,.eE e k l)]} else none
     |none=>bif (ar cs).isEmpty then some {cond:=[],res:=.own (st.kb+d),new:=[(st.kb+d,.aX e te.size len cs)]} else none
     else none
    |none=>none
    else none
   |_,_,_=>none
 |.call c=>match c.callee with
   |.builtin b=>match b,c.args.toList,c.argTypes.toList with
     |.append,[x,y],[t,t']=>match o.dst,nJ E.T t,lJ E.T t,ev st x,ev st y with
       |some d,some e,some te,.own j,.own k=>match st.h j,st.h k with
        |some (.eE e1 q l),some (.eE _ q' m)=>
         bif fresh st.h (st.kb+d)&&(Nat.beq e e1&&(Nat.beq te.size 1&&(Nat.beq (ofConst te.zero).cells.length te.size&&cE E.T t' AI))) then match Q2 q q' with
         |some r=>bif OD r (st.kb+d) then some {cond:=[aW.len l+m.length<=140737488355328/te.bytes],res:=.own (st.kb+d),del:=[j],new:=[(st.kb+d,.eE e r (aW.cat l m))]} else none
         |none=>none
         else none
        |_,_=>none
       |_,_,_,_,_=>none
     |.len,[x],[t]=>match ev st x with
       |.own k=>match st.h k with
         |some (.aX _ _ n _)=>bif cE E.T t fH then some {cond:=[],res:=.int .i64 (n:Int)} else none
         |_=>none
       |_=>none
     |_,_,_=>none
   |_=>none
 |.store t x y=>match ev st x,ev st y with
   |.elem k sz i j,.own k5=>match st.h k,st.h k5 with
     |some (.dM e _ xs i0),some (.row _ _ _ _)=>bif Nat.beq sz 1&&(Nat.beq j 0&&(gT E.T t 1&& !Nat.beq k5 k)) then
       some {cond:=[i<aW.zg xs,i=i0],res:=.undef,fE:=[(k,.dM e (some k5) xs i0)]} else none
     |_,_=>none
   |_,_=>none
 |.indexAddr t x i=>match ev st x,ev st i with
   |.own k,.int _ i=>match st.h k with
     |some (.aX _ sz n _)=>bif aZ E.T t sz&&Nat.blt E.DO n then some {cond:=[i=(E.DO:Int)],res:=.elem k sz E.DO 0} else none
     |some (.dM _ _ xs _)=>bif aZ E.T t 1 then some {cond:=[0<=i/\i<(aW.zg xs:Int)],res:=.elem k 1 i.toNat 0} else none
     |_=>none
   |_,_=>none
 |.load t x=>match ev st x,E.T.find t with
   |.elem k sz i j,some te=>match st.h k with
     |some (.aX _ s2 _ cs)=>bif Nat.beq sz s2 then match pick te cs (i*sz+j) with
      |some a=>some {cond:=[],res:=a}
      |none=>none
      else none
     |some (.dM _ (some k5) xs i0)=>bif Nat.beq sz 1&&Nat.beq j 0 then match pick te [.own k5] 0 with
      |some a=>some {cond:=[i<aW.zg xs,i=i0],res:=a}
      |none=>none
      else none
     |_=>none
   |.ref k off,some te=>match st.h k with
     |some (.fvar r y)=>match pick te (aF r y) off with
      |some a=>some {cond:=[],res:=a}
      |none=>none
     |_=>none
   |_,_=>none
 |_=>none
def Kr(E:Env)(st:St)(o:Oper):Option Out:=match OC E st o with
 |some out=>some out
 |none=>BS E st o
section
variable {P:Program} {C:Ctx} {A A':Nat->Prop} {β aw:Nat->Value} {st:St} {a:Act} {w w':World} {E:Env} {T:bY}
mutual
theorem OE:∀a:AV,dX (λk=>k) a=a
 |.agg cs|.bn cs=>by simp only [dX,nX cs]
 |.fn _ l m=>by simp only [dX,nX l,nX m]
 |.gp _ cs=>by simp only [dX,nX cs]
 |.own _|.pre _ _|.view _ _ _ _|.ref _ _|.elem _ _ _ _|.cr|.undef|.int _ _|.bool _|.tt|.ff|.str _|.nil|.jQ|.oC _ _|.k7|.sl _ _|.full _ _|.cN _ _ _|.pB _ _=>rfl
theorem nX:∀l:List AV,lM (λk=>k) l=l
 |[]=>rfl
 |a::l=>by simp only [lM,OE a,nX l]
end
def OF {x:AV}{v:Value}(h:ao x=[])(hr:aa w A β v x):aa w A aw v x:=by
 have:=wZ (aw:=aw) (λk=>k) x v x! hr;grind[OE]
def Ks {x:List AV}{v:List Value}(h:ar x=[])(hr:ae w A β v x):ae w A aw v x:=by
 have:=jk (aw:=aw) (λk=>k) x v x! hr;grind[nX]
def Ek {S:Nat->Prop}{e:Nat}(h:∀b,S b->w'.heap[b]? =w.heap[b]?):∀ {xs:List Value} {l:List (List Int)},nK w S e xs l->nK w' S e xs l
 |[],[],_=>trivial
 |_::_,_::_,⟨h1,h2,h3,h4⟩=>⟨cI h1 (λb hb=>h b (h3 b hb).1),h2,h3,Ek h h4⟩
theorem ZR.refl {S:Nat->Prop}{p:Value}(h:∀b,S b->w'.heap[b]? =w.heap[b]?):∀ {z:Z},HB w S p z->ZR w p w' z z
 |.n,_|.s _,_=>trivial
 |.g _ _ _,⟨b,e0,v,xs,h1,h2,h3,_⟩=>⟨rfl,rfl,λu ⟨b',e',g1,g2⟩=>by
   rw [h1] at g1;simp at g1;subst g1;exact⟨b,e',h1,(h b h3).trans g2⟩⟩
def afa {S:Nat->Prop}{p:Value}(h:∀b,S b->w'.heap[b]? =w.heap[b]?):∀ {z:Z},HB w S p z->HB w' S p z
 |.n,_=>trivial
 |.s _,⟨b,e,h1,h2,h3,h4⟩=>⟨b,e,h1,(h b h4).trans h2,h3,h4⟩
 |.g _ _ _,⟨b,e0,v,xs,h1,h2,h3,h4,h5,h6,h7,h8⟩=>⟨b,e0,v,xs,h1,(h b h3).trans h2,h3,h4,cI h5 (λg hg=>h g (h6 g hg).1),h6,h7,Ek h h8⟩
def TR(hP:∀Q,HP.is Q->Q=P){G:Nat->Option GD}{f:FuncId}{s:Qz}(hv:Valid P G f s)(hf:cO P f)(hG:∀i d,G i=some d->na w A i d){aR:Array Value}{aX:List AV}(hr:ae w A β aR.toList aX)
  {pre:Prop} {res:AV} (hs:s aX=some (pre,res,[])) (hk:ao res=[]) (p:Value):HC w A p (.func (.func f) #[] aR) λz=>(pre,res,z):=by
 refine⟨rfl,f,aR,rfl,λQ hQ=>?_⟩;have:=hP Q hQ;subst this;refine⟨hf,λw' A' z S hK hb hS hH hp=>?_⟩;refine(hv w' A' β aR.toList aX pre res [] hb (λi d h=>(hG i d h).mono hK) (cu hK _ _ hr) hs hp).mono λe w2 ⟨v,he,A2,ej,q⟩=>?_
 exact⟨v,he,A2,S,ZR.refl (λb hb=>q.same b (hS b hb).2) hH,q.os,q.tape,q.output,q.size,λb hb _=>q.same b hb,q.mono,q.gH,q.bound,
  λb hb=>⟨.inl hb,λhA=>(hS b hb).1 (q.gH b (hS b hb).2 hA),N? (hS b hb).2 q.size⟩,λNP=>OF hk q.res,afa (λb hb=>q.same b (hS b hb).2) hH⟩
def Q3(hE:cQ P C E)(hB:aq C A β st a w){x:AV}{v:Value}{k:Option Nat}{F:CF}(h:WJ E x=some (k,F))(hr:aa w A β v x)(p:Value)(hp:∀j,k=some j->p=β j):HC w A p v F:=by
 have hG:∀i d,E.fQ i=some d->na w A i d:=λi d h=>hB.laid i d (by rw [hE.g];exact h);unfold WJ at h;split at h
 . rename_i f aR;obtain⟨a1,a2,rfl,h1,h2⟩:=hr;have e1:a1= #[]:=by grind[Array.ext',ae]
   subst e1;split at h
   . rename_i t ht;exact hE.ok.ca f t ht w A β a2 aR k F hG h2 h p hp
   . split at h
     . rename_i s hs;split at h
       . rename_i pre res bs hq;cases hb:(bs.isEmpty&&(ao res).isEmpty) with
         |false=>grind
         |true=>
          rw [hb] at h;obtain⟨rfl,rfl⟩:=h;simp at hb;obtain⟨rfl,hk⟩:=hb;obtain⟨g1,g2⟩:=hE.sig f s hs;exact TR (λQ h=>(hE.ok.hp Q).1 h) g1 g2 hG h2 hq hk p
       grind
     grind
 grind
def HQ {k k' r:Option Nat}(h:Q2 k k'=some r)(p:Value)(hp:∀j,r=some j->p=β j):(∀j,k=some j->p=β j)/\∀j,k'=some j->p=β j:=by
 unfold Q2 at h;split at h
 . grind
 . grind
 . rename_i j k;cases hb:Nat.beq j k with
   |false=>grind
   |true=>
    rw [hb] at h;simp at h;simp_all
def BT(hE:cQ P C E)(hB:aq C A β st a w):∀ {cs:List AV} {vs:List Value} {k:Option Nat} {l:List CF},Ej E cs=some (k,l)->ae w A β vs cs->l.length=cs.length/\∀p,(∀j,k=some j->p=β j)->sh w A p vs l
 |[],vs,k,l,h,hr=>by
   obtain⟨rfl,rfl⟩:=h;subst hr;exact⟨rfl,λ_ _=>trivial⟩
 |c::cs,vs,k,l,h,hr=>by
  obtain⟨v,bS,rfl,h1,h2⟩:=hr;simp [Ej] at h;split at h
  . rename_i k1 F k2 l2 e1 e2;split at h
    . rename_i r hj;obtain⟨rfl,rfl⟩:=h;obtain⟨g1,g2⟩:=BT hE hB e2 h2;refine⟨x!,λp hp=>?_⟩;obtain⟨q1,q2⟩:=HQ (β:=β) hj p hp;exact⟨Q3 hE hB e1 h1 p q1,g2 p q2⟩
    grind
  grind
def aq.WK(hB:aq C A β st a w){dst:Option Nat}(hd:∀t,dst=some t->t<st.n){d:Nat}{ab:AB}{cond:List Prop}{del:List Nat}{v':Value}{rw :Option Nat}
  (fK:st.h d=none/\pR d=false) (hg:w.grownBy w' rw) (k8:∀b,rw=some b->∃k,au del k=true/\(st.h k).isSome/\ag (β k)=some b) (kD:∀b,rw=some b->¬A b)
  (ku:BR w' A (bg β d v') d ab) (hv:v'.oneCell'=true) (hblk:∀b,ag v'=some b->rw=some b\/w.heap.size<=b):
  aq C A (bg β d v') (st.put dst {cond:=cond,res:=.own d,del:=del,new:=[(d,ab)]}) (a.put dst v') w':=by
 have hK:b7 w w' A A:=λb hb=>⟨hb,hg.block b (hB.bound b hb) (λh=>kD b h.symm hb)⟩
 have hf:∀k b,ah [(d,ab)] k=some b->k=d/\b=ab:=by
  grind[ah,aG]
 refine hB.step (out:={cond:=cond,res:=.own d,del:=del,new:=[(d,ab)]}) hd ?_ (by simp [ah]) ?_ hK hg.os hg.tape hg.output hg.size ?_ (λb hb=>N? (hB.bound b hb) hg.size) (λb hb=>.inl hb) (by simp [ah]) ?_ ?_ ?_ ?_
 . grind
 . intro k h;have :k≠d:=by rintro rfl;simp [ah] at h
   grind[bg]
 . intro b hb ht;refine hg.block b hb (λh=>?_);obtain⟨k,h1,h2,h3⟩:=k8 b h.symm;exact ht k ⟨h2,.inr h1⟩ h3
 . grind
 . intro k b x h hb;simp [bg,if_true] at hb;grind
 . grind[Option.isSome_iff_exists]
 grind[aa,bg]
def OG {p:Value}:∀ {xs:List Value} {l:List CF},sh w A p xs l->xs.length=l.length/\∀u∈xs,u.oneCell'=true
 |[],[],_=>⟨rfl,z!⟩
 |x::xs,_::l,h=>by
  obtain⟨g1,g2⟩:=OG h.2;exact⟨by simp [g1],λu hu=>(N!.1 hu).elim (λe=>e▸h.1.1) (g2 u)⟩
def Em {p:Value}:∀ {xs ys:List Value} {l m:List CF},sh w A p xs l->sh w A p ys m->sh w A p (xs++ys) (l++m)
 |[],_,[],_,_,h=>h
 |_::_,_,_::_,_,h,h'=>⟨h.1,Em h.2 h'⟩
def jl {e sz n:Nat}{v:Value}{xs:List Value}(h:w.ownsRow 0 e sz v n xs):(v= .slice none 0 0/\n=0)\/∃b cap,v= .slice (some ⟨b,0,none⟩) n cap/\n<=cap/\cap<=maxLen/\w.rangeAt b 0 xs:=by
 rcases h.2 with h|⟨g,cap,cur,rfl,_,hg,h4,h5,h6,h7⟩
 . grind
 . refine .inr ⟨g,cap,rfl,h4,h5,λj u hj=>?_⟩;grind[World.cell?]
def TS {e n:Nat}{v:Value}{xs:List Value}(h:w.ownsRow 0 e 1 v n xs):∀w':World,w'.heap=w.heap->(Builtin.firstCells 1 n v).run P w'= .ok xs.toArray w':=by
 intro w' hw;have hl:=h.1;rcases jl h with⟨rfl,rfl⟩|⟨b,cap,rfl,_,_,hr⟩
 . simp_all[V!,Builtin.firstCells]
 . have:=run_loadCells_list (P:=P) w' ⟨b,0,none⟩ xs (λj u hj=>by
    rw [Addr.add_mid,Cv hw];exact hr j u hj)
   grind[Builtin.firstCells]
def Q4(hT:bx T P){t e:TypeId}{te:TE}{len:Nat}(he:nJ T t=some e)(iz:lJ T t=some te)(q2:1<=te.size)(q3:(ofConst te.zero).cells.length=te.size)(q4:len*te.size<=16777216)
  {parts:List (Nat×AV)} {vparts:Array (Nat×Value)} (hk:vparts.toList.map (·.1)=parts.map (·.1)) (hv:ae w A β (vparts.toList.map (·.2)) (parts.map (·.2))) {cs:List AV}
  (hf:wK (λi=>some (i*te.size,te.size)) ((List.replicate len (ofConst te.zero).cells).flatten) parts=some cs):
  ∃iW,(Instr.buildSlice t len vparts).run P w= .ok (.slice (some ⟨w.heap.size,0,none⟩) len len) (w.alloc (.cells iW e))/\ae w A β iW.toList cs:=by
 obtain⟨hu,yU,i,hi,oK,Kc,Ga⟩:=sk hT he iz;have hzs:te.zero.cells.size=te.size:=by grind[oJ]
 have ji:(((Array.range (len*i.size)).map (te.zero.cells[· %te.zero.cells.size]!)).toList)=(List.replicate len te.zero.cells.toList).flatten:=by
  have:=oL te.zero.cells w! len;simp_all
 obtain⟨iW,g1,g2⟩:=vM (w:=w) (A:=A) (β:=β) (λi=>some (i*te.size,te.size)) _ vparts.toList _ ((Array.range (len*i.size)).map (te.zero.cells[· %te.zero.cells.size]!)) cs
  (by grind[oM,jV]) hk hv hf
 refine⟨iW,?_,g2⟩;have WC:¬(16777216<len*i.size):=by grind
 by_cases hz:len*i.size=0
 . simp [Instr.buildSlice,run_underlying hu,sizeOf,typeInfo,hi,oK,newRow];simp_all[Array.range,Array.eq_empty_of_size_eq_zero]
 . rw [<-oK] at g1;simp [Instr.buildSlice,run_underlying hu,sizeOf,typeInfo,zeroValue,hi,Ga,WC,hz,g1,newRow]
def abQ {arr:Array Value}{e sz len:Nat}(hl:arr.size=len*sz)(h1:1<=sz)(h2:len*sz<=16777216):(w.alloc (.cells arr e)).ownsRow 0 e sz (.slice (some ⟨w.heap.size,0,none⟩) len len) len arr.toList:=by
 have h3:len<=len*sz:=Nat.le_mul_of_pos_right _ w!;exact⟨w!,.inr ⟨w.heap.size,len,arr,rfl,w!,heap_alloc_new w _,Nat.le_refl _,by grind[maxLen],hl,by rw [<-hl];exact List.take_length⟩⟩
def Gi(hB:aq C A β st a w){d n c b:Nat}(hb:ag (bg β d (.slice (some ⟨w.heap.size,0,none⟩) n c) d)=some b):¬A b:=by
 intro hA;have:=hB.bound b hA;simp_all[bg,R?,ag,A!]
def afb(hB:aq C A β st a w){d t len:Nat}{parts:Array (Nat×Operand)}{type:TypeId}{pos:String}{after:Array Edge}{guard:Option (Nat×Bool)}(hd:∀t,some d=some t->t<st.n){k e:Nat}(fK:st.h k=none/\pR k=false){iW:Array Value}
  (fg:(Instr.buildSlice t len (parts.map λ(i,x)=>(i,a.eval x))).run P w= .ok (.slice (some ⟨w.heap.size,0,none⟩) len len) (w.alloc (.cells iW e))) {ab:AB}
  (ku:BR (w.alloc (.cells iW e)) A (bg β k (.slice (some ⟨w.heap.size,0,none⟩) len len)) k ab)
  {K:Act->World->Prop} {Q:Exit->Act->World->Prop} (hK:∀a' w',Rel C (st.put (some d) {cond:=[],res:=.own k,new:=[(k,ab)]}) a' w'->K a' w'):
  Oper.wp P ⟨some d,.buildSlice t len parts,type,pos,after,guard⟩ a w K Q:=by
 have hgr:w.grownBy (w.alloc (.cells iW e)) none:=by
  refine⟨rfl,rfl,rfl,?_,?_⟩
  . simp
  grind[lZ]
 have hblk:∀b,ag (.slice (some ⟨w.heap.size,0,none⟩) len len)=some b->none=some b\/w.heap.size<=b:=λb hb=>by
  grind[ag,Option.some.injEq,Nat.le_of_eq]
 have hrel:Rel C (st.put (some d) {cond:=[],res:=.own k,new:=[(k,ab)]}) (a.put (some d) (.slice (some ⟨w.heap.size,0,none⟩) len len)) (w.alloc (.cells iW e)):=
  Rel.iV (hB.WK (cond:=[]) (del:=[]) (rw:=none) hd fK hgr nofun nofun ku rfl hblk)
 refine bz (v:=.slice (some ⟨w.heap.size,0,none⟩) len len) (w':=w.alloc (.cells iW e)) ?_ (hK _ _ hrel);grind[execOp,Sem.run_bind,Result.andThen_ok,Sem.run_pure]
def TT {k:Option Nat}{d j:Nat}{v:Value}(h:OD k d=true)(hj:k=some j):bg β d v j=β j:=by
 grind[OD,Bool.not_eq_true',ct,bg]
def abR {xs cur:List Value}{n idx:Nat}{v:Value}(h:cur.take n=xs)(hi:idx<n)(hn:n<=cur.length):(cur.take idx++[v]++cur.drop (idx+1)).take n=xs.set idx v:=by
 have :cur.take idx++[v]++cur.drop (idx+1)=cur.set idx v:=by
  rw [m?,R! w!];simp
 grind[List.take_set]
def NR(hT:bx T P)(hB:aq C A β st a w){dst:Option Nat}(hd:∀t,dst=some t->t<st.n){t:TypeId}{vp vx:Value}{k i k5 e:Nat}{j:Option Nat}{xs:List Value}(hp:aa w A β vp (.elem k 1 i 0))(hx:aa w A β vx (.own k5))
  (hk:st.h k=some (.dM e j xs i)) (q3:gT T t 1=true) (hi:i<xs.length) {cond:List Prop}:
  ∃w',(Instr.storeAt t vp vx).run P w= .ok () w'/\Rel C (st.put dst {cond:=cond,res:=.undef,fE:=[(k,.dM e (some k5) xs i)]}) (a.put dst undef) w':=by
 obtain⟨ii,gV,oK⟩:=nV hT q3;obtain⟨b,m,cap,bt,rfl⟩:=hp;obtain⟨rfl,h1⟩:=hx;obtain⟨ys,o1,o2,o3,_⟩:=hB.blocks k _ hk;rcases o1.2 with⟨g,_⟩|⟨g,jg,cur,hv,_,hg,g4,g5,g6,g7⟩
 . omega
 . rw [bt] at hv;obtain⟨rfl,rfl,rfl⟩:=hv
   have ji:(β k5).cells= #[β k5]:=by
    cases hv:β k5<;>rw [hv] at h1<;>first|rfl|cases h1
   have hb:ag (β k)=some b:=by rw [bt];rfl
   have kD:=o2 b hb;have iU:i*1+0<xs.length*1:=by omega
   have Kt:xs.length*1<=cur.toList.length:=by
    grind
   have qX:=kF (P:=P) (w:=w) gV (v:=β k5) x! x! hg (off:=i*1+0) x!;refine⟨_,qX,?_⟩;rw [ji];refine hB.write hd (k:=k) (fz:=[]) (ab:=.dM e (some k5) xs i) x! hb kD hg ⟨rfl,rfl,rfl⟩ z! ?_ (by rfl);intro A2 a1 a2 a3;have WA:∀b',A2 b'->A b':=λb' h=>(a2 b' h).elim id λ⟨j,hj,_⟩=>by grind
   have pC:=abR (v:=β k5) g7 iU Kt;refine⟨ys.set (i*1+0) (β k5),⟨x!,.inr ⟨b,cap,_,bt,w!,setRow_heap w b cur _ e _ hg,g4,g5,?_,?_⟩⟩,λb' ek hA=>o2 b' ek (WA b' hA),λm hm=>?_,λj' fk=>?_⟩
   . grind
   . omega
   . grind
   grind
theorem TU(hE:cQ P C E)(hB:aq C A β st a w){o:Oper}{out:Out}(h:BS E st o=some out)(nu:eJ st o=true)(dV:iy st.h out.new=true)(hc:∀p∈out.cond,p)
  {K:Act->World->Prop} {Q:Exit->Act->World->Prop} (hK:∀a' w',Rel C (st.put o.dst out) a' w'->K a' w'):o.wp P a w K Q:=by
 have hd:∀t,o.dst=some t->t<st.n:=by
  intro t ht;simp_all[eJ,M!]
 obtain⟨dst,op,type,pos,after,guard⟩:=o;unfold BS at h;simp at h;split at h
 . rename_i t len parts;split at h
   . rename_i d e te he iz;cases hq:(fresh st.h (st.kb+d)&&(Nat.blt 0 te.size&&(Nat.beq (ofConst te.zero).cells.length te.size&&Nat.ble (len*te.size) 16777216))) with
     |false=>grind
     |true=>
      rw [hq] at h;simp only [I!] at h;simp only [B!] at hq;obtain⟨q0,q2,q3,q4⟩:=hq;have q2:=M! q2;have q3:=C! q3;have q4:=M! q4;have fK:=pU q0;split at h
      . rename_i cs hf;cases hq5:(cs.all AV.one&&Nat.beq cs.length (len*te.size)) with
        |false=>grind
        |true=>
        rw [hq5] at h;simp only [I!] at h;simp only [B!] at hq5
        have ak9:ae w A β ((parts.map λ(i,x)=>(i,a.eval x)).toList.map (·.2)) ((parts.toList.map λp=>(p.1,ev st p.2)).map (·.2)):=by
         have:=l6 hB (parts.toList.map (·.2));simp_all[Function.comp_def]
        obtain⟨iW,fg,g2⟩:=Q4 hE.eA (w:=w) (A:=A) (β:=β) he iz q2 q3 q4 (vparts:=parts.map λ(i,x)=>(i,a.eval x)) z! ak9 hf
        have hlen:iW.size=len*te.size:=by
         have:=cT cs iW.toList g2;simp_all
        have jF:∀u∈iW.toList,u.oneCell'=true:=Kd cs _ hq5.1 g2;have ib:=abQ (w:=w) (e:=e) hlen q2 q4;have ND:b7 w (w.alloc (.cells iW e)) A A:=λb hb=>⟨hb,lZ _ b (hB.bound b hb)⟩;split at h
        . rename_i k l mD;cases Gj:OD k (st.kb+d) with
          |false=>grind
          |true=>
          rw [Gj] at h;simp only [I!,A!] at h;cases D4:Nat.beq te.size 1 with
          |false=>grind
          |true=>
           rw [D4] at mD;simp only [I!] at mD;have D4:=C! D4;obtain⟨r1,r2⟩:=BT hE hB mD g2
           have aAf:cs.length=len:=by
            simp_all
           subst h;refine afb (ab:=.eE e k l) hB hd fK fg ⟨iW.toList,?_,λb hb=>Gi hB hb,λp hp=>(r2 p λj hj=>(hp j hj).trans (TT Gj hj)).mono ND⟩ hK;simp_all[bg,R?]
        . cases hk:(ar cs).isEmpty with
          |false=>grind
          |true=>
           rw [hk] at h;simp only [I!,A!] at h;subst h;exact afb (ab:=.aX e te.size len cs) hB hd fK fg ⟨iW.toList,by simp_all[bg,R?],λb hb=>Gi hB hb,λej=>cu ND _ _ (Ks (List.isEmpty_iff.1 hk) g2)⟩ hK
      grind
   grind
 . rename_i c;obtain⟨callee,args,argTypes⟩:=c;simp only at h;split at h
   . rename_i b;split at h
     . rename_i x y t t' bj Bs;split at h
       . rename_i d e te j k he iz hx hy;split at h
         . rename_i e1 q l e2 q' m hj hk;cases hq:(fresh st.h (st.kb+d)&&(Nat.beq e e1&&(Nat.beq te.size 1&&(Nat.beq (ofConst te.zero).cells.length te.size&&cE E.T t' AI)))) with
           |false=>grind
           |true=>
           rw [hq] at h;simp only [I!] at h;simp only [B!] at hq;obtain⟨q0,q1,q2,q3,q4⟩:=hq;have q1:=C! q1;have q2:=C! q2;have q3:=C! q3;subst q1;split at h
           . rename_i r hr;cases Gj:OD r (st.kb+d) with
             |false=>grind
             |true=>
             rw [Gj] at h;simp only [cond_true,Option.some.injEq] at h;subst h;have nU:=dW hc;change l.length+m.length<=_ at nU;have ea:args= #[x,y]:=by grind
             have et:argTypes= #[t,t']:=by grind
             subst ea;subst et;obtain⟨hu,yU,i,hi,oK,Kc,Ga⟩:=sk hE.eA he iz;obtain⟨d',lX,qL⟩:=nT hE.eA q4;have hEl:Tz P t t' e 1 te.bytes te.zero:=⟨hu,⟨d',lX,Ka qL⟩,⟨i,hi,w!,Kc,Ga⟩,by grind[oJ],w!⟩;obtain⟨xs,o1,o2,o3⟩:=hB.blocks j _ hj;obtain⟨ys,p1,p2,p3⟩:=hB.blocks k _ hk;have k9:=az hB x;rw [hx] at k9;have hyr:=az hB y;rw [hy] at hyr;have WG:a.eval x=β j:=k9.1;have hye:a.eval y=β k:=hyr.1;obtain⟨ad,lk,ck,Eh⟩:=iA p1
             have hlen:(Builtin.lenOf (β k)).run P w= .ok m.length w:=by
              rcases jl p1 with⟨g1,g2⟩|⟨b,cap,g1,_⟩
              . rw [g1,g2];rfl
              . rw [g1];rfl
             have hm:l.length+m.length<=maxLen:=by have:=Nat.le_trans nU (Nat.div_le_self _ _);grind[maxLen]
             obtain⟨s1,s2⟩:=OG (p3 (q'.elim (β 0) β) (λj hj=>by grind));obtain⟨v',w',g1,g2,g3,g4⟩:=mC (ty:=type) hEl o1 hlen (λw' hw=>TS p1 w' hw) w! s2 hm (sm nU);rw [wU (iA o1)] at g3;have NL:b7 w w' A A:=λb hb=>⟨hb,g3.block b (hB.bound b hb) (λh=>o2 b h.symm hb)⟩
             have eu:BR w' A (bg β (st.kb+d) v') (st.kb+d) (.eE e r (l++m)):=by
              refine⟨xs++ys,?_,λb hb hA=>?_,λp hp=>?_⟩
              . simp_all[bg,R?,K!]
              . simp only [bg,R?] at hb;rcases g4 b hb with h|h
                . grind
                . have:=hB.bound b hA;omega
              . obtain⟨u1,u2⟩:=HQ (β:=β) hr p (λj hj=>(hp j hj).trans (TT Gj hj));exact Em ((o3 p u1).mono NL) ((p3 p u2).mono NL)
             obtain⟨ad2,l2,c2,I2⟩:=iA g2;have hrel:Rel C (st.put (some d) _) (a.put (some d) v') w':=Rel.iV (hB.WK (cond:=[l.length+m.length<=140737488355328/te.bytes]) (del:=[j]) (rw:=ag (β j)) hd (pU q0) g3 (λb hb=>⟨j,by simp [au],x!,hb⟩) (λb hb=>o2 b hb) eu (by rw [I2];rfl) g4);refine bz (v:=v') (w':=w') ?_ (hK _ _ hrel);simp_all[execOp,resolve,invoke,builtin]
           grind
         grind
       grind
     . rename_i x t bj Bs;split at h
       . rename_i k hx;split at h
         . rename_i e sz n cs hk;cases hq:cE E.T t fH with
           |false=>grind
           |true=>
            rw [hq] at h;simp only [cond_true,Option.some.injEq] at h;subst h;have ea:args= #[x]:=by grind
            have et:argTypes= #[t]:=by grind
            subst ea;subst et;obtain⟨dd,hu,Cs⟩:=nT hE.eA hq;obtain⟨e',rfl⟩:∃e',dd= .slice e':=by cases dd<;>simp_all [fH]
            have k9:=az hB x;rw [hx] at k9;obtain⟨xs,o1,o2,o3⟩:=hB.blocks k _ hk
            have zb:∃ad cap,a.eval x= .slice ad n cap/\n<=maxLen:=by
             rcases jl o1 with⟨h1,h2⟩|⟨b,cap,hv,h3,h4,_⟩
             . exact⟨none,0,by rw [k9.1,h1,h2],w!⟩
             . exact⟨_,cap,by rw [k9.1,hv],w!⟩
            obtain⟨ad,cap,zb,hn⟩:=zb;refine bz (v:=.int .i64 (n:Int)) (w':=w) ?_ (hK _ _ (Rel.iV (hB.quiet hd ⟨rfl,rfl,rfl⟩ (vN n hn))));simp_all[execOp,resolve,invoke,builtin,Builtin.len_,run_underlying,goInt]
         grind
       grind
     grind
   grind
 . rename_i t x y;split at h
   . rename_i k sz i j k5 hx hy;split at h
     . rename_i e j0 xs i0 e5 su l5 fr5 hk Bt;cases hq:(Nat.beq sz 1&&(Nat.beq j 0&&(gT E.T t 1&& !Nat.beq k5 k))) with
       |false=>grind
       |true=>
       rw [hq] at h;simp only [cond_true,Option.some.injEq] at h;subst h;simp only [Bool.and_eq_true] at hq;obtain⟨q1,q2,q3,_⟩:=hq;have q1:=Nat.eq_of_beq_eq_true q1;have q2:=Nat.eq_of_beq_eq_true q2;subst q1;subst q2;have hi:i<xs.length:=hc _ (List.mem_cons_self ..);have he:i=i0:=hc _ (List.mem_cons_of_mem _ (List.mem_cons_self ..));subst he;obtain⟨w',g1,g2⟩:=NR hE.eA hB hd (hx▸az hB x) (hy▸az hB y) hk q3 hi;refine mA (w':=w') ?_ (hK _ _ g2);grind[execOp,Sem.run_bind,Result.andThen_ok,Sem.run_pure]
     grind
   grind
 . rename_i t x i;split at h
   . rename_i k ki i0 hx hi;split at h
     . rename_i e sz n cs hk;cases hs:(aZ E.T t sz&&Nat.blt E.DO n) with
       |false=>grind
       |true=>
        rw [hs] at h;simp only [I!,A!] at h;subst h;have hc1:=dW hc;simp only [B!] at hs;have hw:=M! hs.2;obtain⟨e',ii,hu,gV,cZ,lL⟩:=ez hE.eA hs.1;have k9:=az hB x;rw [hx] at k9;have TN:=az hB i;rw [hi] at TN;obtain⟨xs,o1,o2,o3⟩:=hB.blocks k _ hk;rcases jl o1 with⟨_,hn⟩|⟨b,cap,hv,_⟩
        . omega
        . have h0:0<=i0:=by omega
          have h1:i0<(n:Int):=by omega
          refine bz (v:=.pointer (some ⟨b,0+i0.toNat*sz,none⟩)) (w':=w) ?_ (hK _ _ (Rel.iV (hB.quiet hd ⟨rfl,rfl,rfl⟩ ?_)))
          . have:=gU (P:=P) (w:=w) hu gV b 0 n cap ki i0 h0 h1;simp only [execOp,k9.1,hv,TN.1,Sem.run_bind,this,cZ,Result.andThen_ok,Sem.run_pure]
          grind[aa]
     . rename_i e j xs j0 hk;cases hs:aZ E.T t 1 with
       |false=>grind
       |true=>
        rw [hs] at h;simp only [I!,A!] at h;subst h;obtain⟨h0,h1⟩:=dW hc;change i0<(xs.length:Int) at h1;obtain⟨e',ii,hu,gV,cZ,lL⟩:=ez hE.eA hs;have k9:=az hB x;rw [hx] at k9;have TN:=az hB i;rw [hi] at TN;obtain⟨ys,o1,_⟩:=hB.blocks k _ hk;rcases jl o1 with⟨_,hn⟩|⟨b,cap,hv,_⟩
        . omega
        . refine bz (v:=.pointer (some ⟨b,0+i0.toNat*1,none⟩)) (w':=w) ?_ (hK _ _ (Rel.iV (hB.quiet hd ⟨rfl,rfl,rfl⟩ ?_)))
          . have:=gU (P:=P) (w:=w) hu gV b 0 xs.length cap ki i0 h0 h1;simp only [execOp,k9.1,hv,TN.1,Sem.run_bind,this,cZ,Result.andThen_ok,Sem.run_pure]
          grind[aa]
     grind
   grind
 . rename_i t x;split at h
   . rename_i k sz i j te hx ht;split at h
     . rename_i e s2 n cs hk;cases hs:Nat.beq sz s2 with
       |false=>grind
       |true=>
        rw [hs] at h;have hs:=C! hs;subst hs;simp only [I!] at h;split at h
        . rename_i r hp;simp only [A!] at h;subst h;have k9:=az hB x;rw [hx] at k9;obtain⟨b,m,cap,bt,hv⟩:=k9;obtain⟨xs,o1,o2,o3⟩:=hB.blocks k _ hk;rcases jl o1 with⟨g1,_⟩|⟨b',jg,g1,_,_,hr⟩
          . grind
          . rw [g1] at bt;simp only [Value.slice.injEq,Option.some.injEq,Addr.mk.injEq,and_true] at bt;obtain⟨rfl,_,_⟩:=bt;obtain⟨v,e1,e2⟩:=ju (β:=β) (A:=A) hE.eA ht (o3 β) hp hr;rw [Nat.zero_add] at e1;refine bz (v:=v) (w':=w) ?_ (hK _ _ (Rel.iV (hB.quiet hd ⟨rfl,rfl,rfl⟩ e2)));grind[execOp,Sem.run_bind,Result.andThen_ok,Sem.run_pure]
        grind
     . rename_i e k5 xs i0 hk;cases hs:(Nat.beq sz 1&&Nat.beq j 0) with
       |false=>grind
       |true=>
        rw [hs] at h;simp only [B!] at hs;have q1:=C! hs.1;have q2:=C! hs.2;subst q1;subst q2;simp only [I!] at h;split at h
        . rename_i r hp;simp only [A!] at h;subst h;have hi:i<xs.length:=hc _ (H! ..);have he:i=i0:=hc _ (E! _ (H! ..));subst he;have k9:=az hB x;rw [hx] at k9;obtain⟨b,m,cap,bt,hv⟩:=k9;obtain⟨ys,o1,o2,o3,o4⟩:=hB.blocks k _ hk;obtain⟨o5,o6⟩:=o4 k5 rfl;rcases jl o1 with⟨g1,_⟩|⟨b',jg,g1,_,_,hr⟩
          . omega
          . rw [g1] at bt;simp only [Value.slice.injEq,A!,Addr.mk.injEq,t?] at bt;obtain⟨rfl,_,_⟩:=bt
            have hr2:w.rangeAt b' (i*1) [β k5]:=λq u hq=>by
             match q,hq with
             |0,hq=>
              simp only [a?,A!] at hq;subst hq;have:=hr i _ o5;omega
             |_+1,hq=>grind
            obtain⟨v,e1,e2⟩:=ju (β:=β) (A:=A) hE.eA ht (cs:=[β k5]) (as_:=[.own k5]) ⟨_,[],rfl,⟨rfl,o6⟩,rfl⟩ hp hr2;refine bz (v:=v) (w':=w) ?_ (hK _ _ (Rel.iV (hB.quiet hd ⟨rfl,rfl,rfl⟩ e2)));grind[execOp,Sem.run_bind,Result.andThen_ok,Sem.run_pure]
        grind
     grind
   . rename_i k off te hx ht;split at h
     . rename_i r y hk;split at h
       . rename_i q hp;simp only [Option.some.injEq] at h;subst h;have k9:=az hB x;rw [hx] at k9;obtain⟨b',bt,hv⟩:=k9;obtain⟨b,arr,e,g1,g2,g3,g4⟩:=hB.blocks k _ hk;rw [g1] at bt;simp only [Value.pointer.injEq,Option.some.injEq,Addr.mk.injEq,and_true] at bt;subst bt;obtain⟨v,e1,e2⟩:=ju (β:=β) (A:=A) hE.eA ht (fY _ _ _ g4) hp (b:=b) (o:=0) (λj u hj=>by grind[World.cell?]);rw [Nat.zero_add] at e1;refine bz (v:=v) (w':=w) ?_ (hK _ _ (Rel.iV (hB.quiet hd ⟨rfl,rfl,rfl⟩ e2)));grind[execOp,Sem.run_bind,Result.andThen_ok,Sem.run_pure]
       grind
     grind
   grind
 grind
theorem HR(hE:cQ P C E)(hB:aq C A β st a w){o:Oper}{out:Out}(h:Kr E st o=some out)(nu:eJ st o=true)(dV:iy st.h out.new=true)(hc:∀p∈out.cond,p)
  {K:Act->World->Prop} {Q:Exit->Act->World->Prop} (hK:∀a' w',Rel C (st.put o.dst out) a' w'->K a' w'):o.wp P a w K Q:=by
 grind[Kr,Option.some.injEq,TQ,TU]
end
end Go.Vg

end
section
namespace Go.Vg
open Go
variable [HP]
def aCt(T:bY)(h:aJ):List AV->List (Option TypeId)->Option (List (Nat×AB))
 |_,[]=>some []
 |_::as_,none::r=>aCt T h as_ r
 |.ref k _::as_,some ty::r=>match h k,rowOf T qp ty,aCt T h as_ r with
   |some (.cells cs),some ts,some u=>match jR ts cs with
    |some x=>some ((k,.fvar ts x)::u)
    |none=>none
   |_,_,_=>none
 |_,_=>none
def xY(u:List (Nat×AB))(h:aJ):aJ:=λk=>match ah u k with
 |some b=>some b
 |none=>h k
def w9(h:aJ):AV->AV
 |.ref k off=>match h k with
   |some (.fvar r x)=>.cN r x off
   |_=>.ref k off
 |a=>a
def á(te:TE):Bool:=Nat.beq te.size 1&&(match te.zero with
 |.slice none 0 0=>true
 |_=>false)
abbrev aW.Ku(n:Nat):List AV:=List.replicate n .nil
def BU(E:Env)(st:St)(o:Oper):Option Out:=match o.dst with
 |some d=>match E.QA d with
  |some l=>match o.op with
   |.makeFunc f first aR=>match aCt E.T st.h (aR.toList.map (ev st)) l with
     |some u=>some {cond:=[],res:=.fn f (first.toList.map (ev st)) ((aR.toList.map (ev st)).map (w9 (xY u st.h))),fE:=u}
     |none=>none
   |.load t x=>match oE E.T st.h t (ev st x),aCt E.T st.h [ev st x] l with
     |some out,some u=>some {cond:=out.cond,res:=out.res,fE:=u}
     |_,_=>none
   |.makeSlice t x y=>match nJ E.T t,lJ E.T t,ev st x,ev st y with
     |some e,some te,.int _ n,.int _ c=>bif fresh st.h (st.kb+d)&&á te then
      some {cond:=[0<=n/\n<=c/\c<=140737488355328/te.bytes],res:=.own (st.kb+d),new:=[(st.kb+d,.aX e 1 n.toNat (aW.Ku n.toNat))]} else none
     |_,_,_,_=>none
   |_=>none
  |none=>none
 |none=>none
section
variable {P:Program} {C:Ctx} {A A':Nat->Prop} {β aw:Nat->Value} {st:St} {a:Act} {w w':World} {E:Env} {T:bY}
theorem sv:∀ {as_:List AV} {l:List (Option TypeId)} {u:List (Nat×AB)} {k:Nat} {ab:AB},aCt T st.h as_ l=some u->ah u k=some ab->∃ts x cs,ab= .fvar ts x/\st.h k=some (.cells cs)/\jR ts cs=some x
 |as_,[],u,k,ab,h,hf=>by
  simp [aCt,A!] at h;subst h;cases hf
 |[],o::r,u,k,ab,h,hf=>by grind[aCt]
 |x::as_,none::r,u,k,ab,h,hf=>sv (as_:=as_) (l:=r) (by grind[aCt]) hf
 |x::as_,some ty::r,u,k,ab,h,hf=>by
  unfold aCt at h;split at h
  . grind
  . grind
  . rename_i j off as' ty' r' e1 e2;obtain⟨rfl,rfl⟩:=e2;split at h
    . rename_i cs ts u' h1 h2 h3;split at h
      . simp at h;subst h;simp [ah] at hf;cases hb:Nat.beq k j with
        |true=>
         have:=Nat.eq_of_beq_eq_true hb;grind
        |false=>
         rw [hb] at hf;exact sv h3 hf
      grind
    grind
  grind
def TV(A:Nat->Prop)(β:Nat->Value)(u:List (Nat×AB))(b:Nat):Prop:=A b\/∃k,(ah u k).isSome/\ag (β k)=some b
theorem abT {k off:Nat}{r:List Ty}{x:Row r}{v:Value}(hb:BR w A β k (.fvar r x))(h:aa w A β v (.ref k off)):aa w A β v (.cN r x off):=by
 obtain⟨b,arr,e,h1,h2,h3,h4⟩:=hb;obtain⟨b',g1,g2⟩:=h;rw [h1] at g1;refine⟨b,0,arr.toList,x!,h3,λj u hj=>?_,h4⟩;grind[World.cell?]
theorem â(hB:aq C A β st a w){as_:List AV}{l:List (Option TypeId)}{u:List (Nat×AB)}(hu:aCt T st.h as_ l=some u){k:Nat}{r:List Ty}{x:Row r}(h:xY u st.h k=some (.fvar r x)):BR w (TV A β u) β k (.fvar r x):=by
 have hK:b7 w w A (TV A β u):=λb hb=>⟨.inl hb,rfl⟩;unfold xY at h;split at h
 . rename_i b hf;simp at h;subst h;obtain⟨ts,y,cs,e,h1,h2⟩:=sv hu hf;cases e;obtain⟨b,arr,e,g1,g2,g3,g4,g5⟩:=hB.blocks k _ h1;exact⟨b,arr,e,g1,g2,.inr ⟨k,x!,by rw [g1];rfl⟩,bw hK _ _ _ (lY _ _ _ _ g4 h2)⟩
 . obtain⟨b,arr,e,h1,h2,h3,h4⟩:=hB.blocks k _ h;exact⟨b,arr,e,h1,h2,.inl h3,bw hK _ _ _ h4⟩
def afd(h:aJ)(hb:∀k r (x:Row r),h k=some (.fvar r x)->BR w A β k (.fvar r x)){x:AV}{v:Value}(hr:aa w A β v x):aa w A β v (w9 h x):=by
 unfold w9;grind[abT]
def OH(h:aJ)(hb:∀k r (x:Row r),h k=some (.fvar r x)->BR w A β k (.fvar r x)):∀ {xs:List AV} {vs:List Value},ae w A β vs xs->ae w A β vs (xs.map (w9 h))
 |[],vs,hr=>hr
 |x::xs,vs,hr=>by
  obtain⟨v,bS,rfl,h1,h2⟩:=hr;exact⟨v,bS,rfl,afd h hb h1,OH h hb h2⟩
theorem aq.QA(hB:aq C A β st a w){dst:Option Nat}(hd:∀t,dst=some t->t<st.n){as_:List AV}{l:List (Option TypeId)}{u:List (Nat×AB)}(hu:aCt T st.h as_ l=some u){cond:List Prop}{res:AV}{v:Value}
  (hr:aa w (TV A β u) β v res):aq C (TV A β u) β (st.put dst {cond:=cond,res:=res,fE:=u}) (a.put dst v) w:=by
 have hl:∀k,(ah u k).isSome->(st.h k).isSome:=λk hk=>by
  grind[Option.isSome_iff_exists,sv]
 refine hB.step (out:={cond:=cond,res:=res,fE:=u}) hd nofun (λk b h=>hl k x!) (λ_ _=>rfl) (λb hb=>⟨.inl hb,rfl⟩) rfl rfl rfl (Nat.le_refl _) (λ_ _ _=>rfl) (λb hb=>?_) (λb hb=>?_) (λk ab h _=>?_) nofun nofun (λk _ _ h=>by cases h) hr
 . rcases hb with hb|⟨k,hk,hb⟩
   . exact hB.bound b hb
   . exact l4 hB (hl k hk) hb
 . rcases hb with hb|⟨k,hk,hb⟩
   . grind
   . exact .inr (.inr ⟨k,⟨hl k hk,.inl hk⟩,hb⟩)
 . obtain⟨ts,x,cs,rfl,_,_⟩:=sv hu h;exact â hB hu (by grind[xY])
def OI:∀n,ae w A β (List.replicate n (.slice none 0 0)) (List.replicate n .nil)
 |0=>rfl
 |n+1=>⟨_,_,rfl,rfl,OI n⟩
def Kv(hT:bx T P)(hB:aq C A β st a w){dst:Option Nat}(hd:∀t,dst=some t->t<st.n){d:Nat}(fK:st.h d=none/\pR d=false){t e:TypeId}{te:TE}(he:nJ T t=some e)(iz:lJ T t=some te)(hz:á te=true)
  {k k':IntKind} {n c:Int} {vx vy:Value} (hx:aa w A β vx (.int k n)) (hy:aa w A β vy (.int k' c)) (hc:0<=n/\n<=c/\c<=140737488355328/te.bytes) {cond:List Prop}:
  ∃v' w',(Instr.makeSlice t vx vy).run P w= .ok v' w'/\Rel C (st.put dst {cond:=cond,res:=.own d,new:=[(d,.aX e 1 n.toNat (List.replicate n.toNat .nil))]}) (a.put dst v') w':=by
 obtain⟨c0,c1,c2⟩:=hc;obtain⟨hu,yU,i,hi,oK,Kc,Ga⟩:=sk hT he iz;simp only [á,Bool.and_eq_true] at hz;have q1:=Nat.eq_of_beq_eq_true hz.1;have hzero:te.zero= .slice none 0 0:=by grind
 obtain⟨rfl,_⟩:=hx;obtain⟨rfl,Ed⟩:=hy
 have az2:(te.bytes:Int)*c<=281474976710656:=by
  grind[Nat.eq_zero_or_pos,Int.le_ediv_iff_mul_le,Int.mul_comm]
 have Cx:c<=9223372036854775807:=by
  have:=Int.ediv_le_self (te.bytes:Int) (show(0:Int)<=140737488355328 by omega);omega
 have hr:=run_make (P:=P) w t e i te.zero hu hi Ga k k' n c c0 c1 x! Cx
 have ji:(madeCells te.zero.cells (c.toNat*i.size)).toList=List.replicate c.toNat (.slice none 0 0):=by
  rw [hzero,show i.size=1 by omega,List.eq_replicate_iff];grind[madeCells,Value.cells]
 have cZ:(madeCells te.zero.cells (c.toNat*i.size)).size=c.toNat:=by
  grind[Array.length_toList,List.length_replicate]
 refine⟨_,_,hr,Rel.iV (hB.WK (del:=[]) (rw:=none) hd fK ⟨rfl,rfl,rfl,z!,λk hk _=>lZ _ k hk⟩ nofun nofun ⟨List.replicate n.toNat (.slice none 0 0),?_,λb hb=>Gi hB hb,λej=>OI _⟩ rfl (λb hb=>?_))⟩
 . simp [bg,if_true];refine⟨z!,.inr ⟨w.heap.size,c.toNat,_,rfl,w!,heap_alloc_new w _,w!,by grind[maxLen],w!,?_⟩⟩;grind
 grind[ag,Option.some.injEq,Nat.le_of_eq]
def TW(hE:cQ P C E)(hB:aq C A β st a w){o:Oper}{out:Out}(h:BU E st o=some out)(nu:eJ st o=true)(hc:∀p∈out.cond,p)
  {K:Act->World->Prop} {Q:Exit->Act->World->Prop} (hK:∀a' w',Rel C (st.put o.dst out) a' w'->K a' w'):o.wp P a w K Q:=by
 have hd:∀t,o.dst=some t->t<st.n:=by
  intro t ht;simp_all[eJ,M!]
 have yq:∀u:List (Nat×AB),b7 w w A (TV A β u):=λu b hb=>⟨.inl hb,rfl⟩;obtain⟨dst,op,type,pos,after,guard⟩:=o;unfold BU at h;simp only at h;split at h
 . rename_i d;split at h
   . split at h
     . rename_i f first aR
       split at h
       . rename_i u hu;simp at h;subst h;refine bz (v:=.func f (first.map a.eval) (aR.map a.eval)) (by rfl) (hK _ _ (Rel.iV (hB.QA hd hu ?_)));have h1:=cu (yq u) _ _ (l6 hB first.toList);have h2:=OH (xY u st.h) (λk r x h=>â hB hu h) (cu (yq u) _ _ (l6 hB aR.toList));exact⟨_,_,rfl,by simp_all,by simp_all⟩
       grind
     . rename_i t x;split at h
       . rename_i o2 u ho hu;simp at h;subst h;obtain⟨_,v,h1,h2⟩:=yL hE.eA hB (az hB x) ho hc;refine bz (v:=v) (w':=w) ?_ (hK _ _ (Rel.iV (hB.QA hd hu (hY (yq u) _ _ h2))));grind[execOp,Sem.run_bind,Result.andThen_ok,Sem.run_pure]
       grind
     . rename_i t x y;split at h
       . rename_i e te k n k' c he iz hx hy;cases hq:(fresh st.h (st.kb+d)&&á te) with
         |false=>grind
         |true=>
         rw [hq] at h;simp at h;subst h;simp at hq;obtain⟨v',w',g1,g2⟩:=Kv hE.eA hB hd (pU hq.1) he iz hq.2 (hx▸az hB x) (hy▸az hB y) (dW hc);refine bz (v:=v') (w':=w') ?_ (hK _ _ g2);grind[execOp,Sem.run_bind,Result.andThen_ok,Sem.run_pure]
       grind
     grind
   grind
 grind
end
end Go.Vg

end
section
namespace Go.Vg
open Go
variable [HP]
def OJ(st:St)(o:Oper):Option Out:=match o.op,o.dst with
 |.call ⟨.value f,args,_⟩,some d=>match args.toList,ev st f with
   |[x],.fn (.func f) [] [.ref k 0]=>match HP.mkf f,ev st x with
     |some g,.fn (.func y) [] []=>bif fresh st.h (st.kb+d)&& !(Nat.beq k (st.kb+d)) then
       some {cond:=[],res:=.fn (.func g) [] [.ref k 0,.ref (st.kb+d) 0],new:=[(st.kb+d,.cells [.fn (.func y) [] []])]} else none
     |_,_=>none
   |_,_=>none
 |_,_=>none
section
variable {P:Program} {C:Ctx} {A:Nat->Prop} {β:Nat->Value} {st:St} {a:Act} {w:World} {E:Env}
def afe {d:Option Nat}{u v:Value}:(a.put d u).put d v=a.put d v:=by
 cases d with
 |none=>rfl
 |some d=>simp [Act.put]
def aq.asG {s r:St}(hB:aq C A β s a w)(h1:s.t=r.t)(h2:s.h=r.h)(h3:s.n=r.n)(h4:s.g=r.g):aq C A β r a w:=by
 obtain⟨t,h,_,_,_,n,_,g⟩:=s;subst h1 h2 h3 h4;exact⟨hB.defers,hB.size,hB.tmps,hB.blocks,hB.apart,hB.bound,hB.frame,hB.gH,hB.base,hB.lK,hB.nR,hB.laid,hB.held⟩
def TX(hE:cQ P C E)(hB:aq C A β st a w){o:Oper}{out:Out}(h:OJ st o=some out)(nu:eJ st o=true)
  {K:Act->World->Prop} {Q:Exit->Act->World->Prop} (hK:∀a' w',Rel C (st.put o.dst out) a' w'->K a' w'):o.wp P a w K Q:=by
 have hd:∀t,o.dst=some t->t<st.n:=by
  intro t ht;simp_all[eJ,M!]
 obtain⟨dst,op,type,pos,after,guard⟩:=o;unfold OJ at h;simp only at h;split at h
 . rename_i f args at_ d;split at h
   . rename_i x f' k hxs hf;split at h
     . rename_i g y hg hx;cases hq:(fresh st.h (st.kb+d)&& !(Nat.beq k (st.kb+d))) with
       |false=>grind
       |true=>
       rw [hq] at h;simp at h;subst h;simp at hq;have hkd:k≠st.kb+d:=λe=>by simp_all
       obtain⟨QU,hmk⟩:=HP.QB P ((hE.ok.hp P).2 rfl) f' g hg;have Wy:=az hB f;rw [hf] at Wy;obtain⟨a1,a2,yU,r1,r2⟩:=Wy;obtain⟨p,ps,oA,⟨b,Q5,hp3⟩,hp4⟩:=r2;simp only [ae] at r1 hp4;subst hp4;have ha1:a1= #[]:=by grind
       have ha2:a2= #[p]:=by grind
       subst ha1;subst ha2;have k9:=az hB x;rw [hx] at k9;obtain⟨b1,b2,WG,q1,q2⟩:=k9;simp only [ae] at q1 q2;have Kw:b1= #[]:=by grind
       have I3:b2= #[]:=by grind
       subst Kw;subst I3;have bj:args= #[x]:=by grind
       subst bj
       have fg:(execOp a.eval {dst:=some d,op:=.call {callee:=.value f,args:= #[x],argTypes:=at_},type,pos,after,guard}).run P w= .ok (.enter f' #[a.eval x,p]) w:=by
        have:=QU (#[a.eval x,p]) w;simp_all[execOp,resolve,Deferred.ofValue,Sem.run_bind,Sem.run_pure,Result.andThen_ok,invoke]
       unfold Oper.wp;rw [fg];rw [WG];refine(hmk w y p).mono λe w' ⟨ty,he,hw⟩=>?_;subst he;subst hw;have h1:=hB.Gc (dst:=some d) (e:=ty) (cs:=[.fn (.func y) [] []]) (arr:= #[.func (.func y) #[] #[]]) (cond:=[]) hd (pU hq.1) ⟨_,[],rfl,⟨#[], #[],rfl,rfl,rfl⟩,rfl⟩ (by simp [Value.oneCell'])
       have h2:=h1.pure (d:=some d) (c:=[]) (r:=.fn (.func g) [] [.ref k 0,.ref (st.kb+d) 0]) (v:=.func (.func g) #[] #[p,.pointer (some ⟨w.heap.size,0,none⟩)]) hd
        ⟨#[],_,rfl,rfl,_,_,rfl,⟨b,by simp_all[bg,Q!],hp3⟩,_,[],rfl,⟨w.heap.size,by simp [bg],rfl⟩,rfl⟩
       rw [afe] at h2;refine hK _ _ (Rel.iV (h2.asG ?_ ?_ rfl rfl))
       . simp only [St.put,my];grind
       . funext j;simp only [St.put,vG,ah,au,bG,cond_false,fB,dR];grind
     grind
   grind
 grind
end
def aff(T:bY)(h:aJ)(t ty:TypeId):AV->AV->Option Out
 |.ref k off,v=>match gq T h t (.ref k off) v with
   |some out=>match out.fE,rowOf T qp ty with
    |[(_,.cells cs)],some ts=>match jR ts cs with
      |some x=>some {cond:=[],res:=.undef,fE:=[(k,.fvar ts x)]}
      |none=>none
    |_,_=>none
   |none=>none
 |_,_=>none
def OK(E:Env)(st:St)(o:Oper):Option Out:=match o.op,o.dst with
 |.store t (.tmp s) v,none=>match E.QA (100000+s) with
   |some [some ty]=>aff E.T st.h t ty (ev st (.tmp s)) (ev st v)
   |_=>none
 |_,_=>none
section
variable {P:Program} {C:Ctx} {A:Nat->Prop} {β:Nat->Value} {st:St} {a:Act} {w:World} {E:Env}
def TY(hE:cQ P C E)(hB:aq C A β st a w){o:Oper}{out:Out}(h:OK E st o=some out)
  {K:Act->World->Prop} {Q:Exit->Act->World->Prop} (hK:∀a' w',Rel C (st.put o.dst out) a' w'->K a' w'):o.wp P a w K Q:=by
 obtain⟨dst,op,type,pos,after,guard⟩:=o;unfold OK at h;simp at h;split at h
 . rename_i t s v;split at h
   . rename_i ty hty;have hp:=az hB (.tmp s);have hv:=az hB v;generalize ev st (.tmp s)=p at h hp;unfold aff at h;split at h
     . rename_i k off;split at h
       . rename_i aAh h1;split at h
         . rename_i k' cs ts hu Bs;split at h
           . rename_i y hy;simp at h;subst h;obtain⟨w',g1,A',aw,pY⟩:=vL hE.eA hB (dst:=none) nofun hp hv h1
             have ho:aAh= {cond:=[],res:=.undef,fE:=[(k,.cells cs)]}/\(st.h k).isSome:=by
              grind[gq]
             obtain⟨rfl,nr⟩:=ho
             have hh:(st.put none {cond:=[],res:=.undef,fE:=[(k,.cells cs)]}).h k=some (.cells cs):=by
              simp_all[St.put,vG,ah,au,vF,bG,ct]
             have Br:aCt E.T (st.put none {cond:=[],res:=.undef,fE:=[(k,.cells cs)]}).h [.ref k 0] [some ty]=some [(k,.fvar ts y)]:=by
              grind[aCt]
             have h2:=pY.QA (dst:=none) nofun Br (cond:=[]) (res:=.undef) (v:=undef) rfl
             refine mA (w':=w') ?_ (hK _ _ (Rel.iV (h2.asG ?_ ?_ rfl rfl)))
             . grind[execOp,Sem.run_bind,Result.andThen_ok,Sem.run_pure]
             . rfl
             . funext j;simp [St.put,vG,ah,au,vF,bG,cond_false];grind
           grind
         grind
       grind
     grind
   grind
 grind
end
end Go.Vg

end
section
namespace Go.Vg
open Go
variable [HP]
def sw:List AV->Option (List AV×Nat)
 |[]=>none
 |a::r=>match r with
  |[]=>match a with
    |.own k=>some ([],k)
    |_=>none
  |_::_=>match sw r with
   |some (x,k)=>some (a::x,k)
   |none=>none
def AL(E:Env)(h:aJ)(t:TypeId):AV->AV->Option Out
 |.elem k sz i j,.agg cs=>match h k,sw cs with
   |some (.row e row l false),some (xs,k5)=>match h k5 with
    |some (.row _ _ _ false)=>bif E.gG t&&Nat.beq j 0&&Nat.beq sz row.length&&gT E.T t row.length&&Nat.blt 0 row.length&& !(Nat.beq k5 k) then
      match jR row (xs++[.nil]) with
       |some x=>some {cond:=[i<l.length],res:=.undef,fE:=[(k,.gG e (some k5) row (l.set i x) i)]}
       |none=>none
     else none
    |_=>none
   |_,_=>none
 |_,_=>none
def sb(E:Env)(h:aJ)(t:TypeId):AV->Option Out
 |.elem k sz i j=>match E.T.find t,h k with
   |some te,some (.gG _ (some k5) row l i0)=>match h k5 with
    |some (.row _ _ _ _)=>bif Nat.beq sz row.length&&Nat.beq j (row.length-1)&&Nat.blt 0 row.length then
      match pick te [.own k5] 0 with
       |some a=>some {cond:=[i<l.length,i=i0],res:=a}
       |none=>none
     else none
    |_=>none
   |_,_=>none
 |_=>none
def vO(E:Env)(h:aJ)(t:TypeId):AV->AV->Option Out
 |.own k,.int _ i=>match h k with
   |some (.gG _ _ row l _)=>bif aZ E.T t row.length then some {cond:=[0<=i/\i<(l.length:Int)],res:=.elem k row.length i.toNat 0} else none
   |_=>none
 |_,_=>none
def closing(h:aJ)(k:Nat):Option (Prop×List (Nat×AB)):=match h k with
 |some (.gG e (some k5) row l i)=>match h k5 with
  |some (.row e5 su l5 false)=>bif Nat.blt 0 row.length&& !(Nat.beq k5 k) then match nm row (l.getD i (Row.zero row)) (row.length-1) [.sl su l5] with
    |some y=>some (i<l.length,[(k,.row e row (l.set i y) false),(k5,.row e5 su l5 true)])
    |none=>none
   else none
  |_=>none
 |_=>none
def isNil {α:Type}:List α->Bool
 |[]=>true
 |_::_=>false
def vQ(E:Env)(h:aJ)(o:Oper):Option (Prop×List (Nat×AB)):=match o.dst with
 |some d=>match E.cls d with
  |some k=>closing h k
  |none=>none
 |none=>none
def TZ(E:Env)(st:St)(o:Oper):Option Out:=match vQ E st.h o with
 |some (c,u)=>match Kr E st o with
  |some out=>bif isNil out.fE&&isNil out.del&&isNil out.new&&isNil out.raw then some {out with cond:=c::out.cond,fE:=u} else none
  |none=>none
 |none=>match o.op with
  |.store t p v=>AL E st.h t (ev st p) (ev st v)
  |.load t p=>sb E st.h t (ev st p)
  |.indexAddr t x i=>vO E st.h t (ev st x) (ev st i)
  |_=>none
def OL(E:Env)(st:St)(o:Oper):Option Out:=match TZ E st o with
 |some out=>some out
 |none=>Kr E st o
def act(E:Env)(st:St)(o:Oper):Option Out:=match BU E st o with
 |some out=>some out
 |none=>match OJ st o with
  |some out=>some out
  |none=>match OK E st o with
   |some out=>some out
   |none=>OL E st o
section
variable {P:Program} {C:Ctx} {A A':Nat->Prop} {β aw:Nat->Value} {st:St} {a:Act} {w:World} {E:Env} {T:bY}
def En:∀(cs:List AV) (vs:List Value) (xs:List AV) (k:Nat),sw cs=some (xs,k)->ae w A β vs cs->∃us,vs=us++[β k]/\ae w A β us xs/\(β k).oneCell'=true
 |[],vs,xs,k,h,_=>by cases h
 |a::r,vs,xs,k,h,hr=>by
  obtain⟨v,bS,rfl,h1,h2⟩:=hr;unfold sw at h;cases r with
  |nil=>
   subst h2;cases a with
   |own k'=>
    obtain⟨rfl,rfl⟩:=h;exact⟨[],by rw [h1.1];rfl,by simp [ae],by rw [<-h1.1];exact h1.2⟩
   |_=>cases h
  |cons b r=>
   simp at h;split at h
   . rename_i x k' hl;simp at h;obtain⟨rfl,rfl⟩:=h;obtain⟨us,e1,e2,e3⟩:=En (b::r) bS x k' hl h2;refine⟨v::us,by rw [e1];rfl,?_,e3⟩;exact⟨v,us,rfl,h1,e2⟩
   . cases h
def afg {α:Type}(p s:List α)(x y:α):(p++x::s).set p.length y=p++y::s:=by
 grind
def AM {α:Type}:∀(l:List α) (i:Nat) (x:α),l[i]? =some x->l.set i x=l
 |[],_,_,h=>by rfl
 |a::l,0,x,h=>by grind
 |a::l,i+1,x,h=>by
  rw [List.set_cons_succ,AM l i x (by simpa using h)]
def CE(hB:aq C A β st a w){k e i:Nat}{j:Option Nat}{row:List Ty}{l:List (Row row)}(h:st.h k=some (.gG e j row l i)):
  (β k= .slice none 0 0/\l=[])\/∃b cap cur v0,β k= .slice (some ⟨b,0,none⟩) l.length cap/\w.heap[b]? =some (.cells cur e (0,0))/\l.length<=cap/\cap<=maxLen/\cur.size=cap*row.length/\¬A b/\
    dc (br w A row) ((cur.toList.take (l.length*row.length)).set (i*row.length+(row.length-1)) v0) l/\
    ∀j',j=some j'->(cur.toList.take (l.length*row.length))[i*row.length+(row.length-1)]? =some (β j'):=by
 obtain⟨xs,v0,h1,h2,h3,h4⟩:=hB.blocks k _ h;rcases h1.2 with⟨hv,hn⟩|⟨g,cap,cur,hv,_,hg,g4,g5,g6,g7⟩
 . grind
 . exact .inr ⟨g,cap,cur,v0,hv,hg,g4,g5,g6,h2 g (by rw [hv];rfl),x!,x!⟩
def Kx(hB:aq C A β st a w){k e:Nat}{row:List Ty}{l:List (Row row)}{fr:Bool}(h:st.h k=some (.row e row l fr)):(β k).oneCell'=true:=by
 rcases fJ hB h with⟨h1,_⟩|⟨b,cap,cur,h1,_⟩<;>rw [h1]<;>rfl
def I4(hT:bx E.T P)(hB:aq C A β st a w){t:TypeId}{x:AV}{vx:Value}(hx:aa w A β vx x){out:Out}(h:sb E st.h t x=some out)(hc:∀p∈out.cond,p):
  Reads P A β w (Instr.loadAt t vx) out:=by
 unfold sb at h;split at h
 . rename_i k sz i j;split at h
   . rename_i te e k5 row l i0 ht hk;split at h
     . rename_i e5 su l5 fr5 Bt;cases hq:(Nat.beq sz row.length&&Nat.beq j (row.length-1)&&Nat.blt 0 row.length) with
       |false=>grind
       |true=>
        simp [hq,I!] at h;simp only [B!] at hq;obtain⟨⟨q1,q2⟩,q3⟩:=hq;have q1:=C! q1;have q2:=C! q2;subst q1;subst q2;split at h
        . rename_i av WH;simp at h;subst h;have gV:i=i0:=hc _ z!;subst gV;obtain⟨b,m,cap,bt,rfl⟩:=hx;rcases CE hB hk with⟨_,hl⟩|⟨b',jg,cur,v0,hv,hg,hle,yo,dm,kD,hL,tC⟩
          . grind
          . rw [bt] at hv;obtain⟨rfl,rfl,rfl⟩:=hv;have oP:=tC k5 rfl;rw [v?] at oP;split at oP
            . have hr:w.rangeAt b (i*row.length+(row.length-1)) [β k5]:=by
               intro jj u hj;cases jj with
               |zero=>
                simp at hj;subst hj;simp [World.cell?,hg];simpa using oP
               |succ jj=>simp at hj
              have QY:ae w A β [β k5] [.own k5]:=by
               exact⟨_,[],rfl,⟨rfl,Kx hB Bt⟩,rfl⟩
              obtain⟨v',g1,g2⟩:=ju (β:=β) hT ht QY WH hr;exact⟨⟨rfl,rfl,rfl⟩,v',g1,g2⟩
            grind
        grind
     grind
   grind
 grind
def Ky(hT:bx E.T P)(hB:aq C A β st a w){t:TypeId}{x i:AV}{vx vi:Value}(hx:aa w A β vx x)(hi:aa w A β vi i){out:Out}
  (h:vO E st.h t x i=some out) (hc:∀p∈out.cond,p):Reads P A β w (Instr.indexAt t vx vi) out:=by
 unfold vO at h;split at h
 . rename_i k kk n;split at h
   . rename_i e' j row l i0 hk;cases hs:aZ E.T t row.length with
     |false=>grind
     |true=>
      simp [hs,I!,A!] at h;subst h;obtain⟨h0,h1⟩:=dW hc;obtain⟨e,ii,hu,gV,cZ,lL⟩:=ez hT hs;simp [aa] at hx hi;rcases CE hB hk with⟨_,hl⟩|⟨b,cap,cur,v0,hv,_⟩
      . grind
      . refine⟨⟨rfl,rfl,rfl⟩,.pointer (some ⟨b,0+n.toNat*row.length,none⟩),?_,?_⟩
        . simp_all[hi,gU]
        grind[aa]
   grind
 grind
def NS(hT:bx E.T P)(hB:aq C A β st a w){dst:Option Nat}(hd:∀t,dst=some t->t<st.n){t:TypeId}{p x:AV}{vp vx:Value}(hp:aa w A β vp p)(hx:aa w A β vx x){out:Out}
  (h:AL E st.h t p x=some out) (hc:∀p∈out.cond,p):∃w',(Instr.storeAt t vp vx).run P w= .ok () w'/\Rel C (st.put dst out) (a.put dst undef) w':=by
 unfold AL at h;split at h
 . rename_i k sz i j cs;split at h
   . rename_i e row l xs k5 hk Q6;split at h
     . rename_i e5 su l5 Bt;cases hq:(E.gG t&&Nat.beq j 0&&Nat.beq sz row.length&&gT E.T t row.length&&Nat.blt 0 row.length&& !(Nat.beq k5 k)) with
       |false=>grind
       |true=>
        simp only [hq,I!] at h;simp only [B!] at hq;obtain⟨⟨⟨⟨⟨_,q0⟩,q1⟩,q2⟩,q3⟩,q4⟩:=hq;have q0:=C! q0;have q1:=C! q1;subst q0;subst q1;have q3:=M! q3;split at h
        . rename_i y hy;simp only [A!] at h;subst h;have hi:i<l.length:=dW hc;simp only [aa] at hp hx;obtain⟨b,m,cap,bt,rfl⟩:=hp;obtain⟨arr,rfl,hx⟩:=hx;obtain⟨us,e1,e2,e3⟩:=En cs arr.toList xs k5 Q6 hx;rcases fJ hB hk with⟨_,hl⟩|⟨b',jg,cur,hv,hg,hle,yo,dm,hL,kD⟩
          . grind
          . rw [bt] at hv;simp only [Value.slice.injEq,A!,Addr.mk.injEq,t?] at hv;obtain⟨rfl,rfl,rfl⟩:=hv;simp only [O?,w?] at kD;have hb:ag (β k)=some b:=by rw [bt];rfl
            obtain⟨ii,gV,oK⟩:=nV hT q2
            have hyr:br w A row (us++[Value.slice none 0 0]) y:=by
             refine lY (β:=β) row (xs++[.nil]) _ y ?_ hy;grind[yK,ae,aa]
            have hlen:us.length+1=row.length:=by
             have:=ia row _ y hyr;grind
            have nb:arr.size=ii.size:=by
             have :arr.toList.length=arr.size:=by simp
             grind
            have jF:∀u∈arr.toList,u.oneCell'=true:=by
             grind[yS,List.mem_append_left,List.mem_singleton]
            have sn:l.length*row.length<=cur.size:=by simp_all[I?]
            have hyy:∀c,br w A row c l[i]->br w A row (c.take 0++(us++[Value.slice none 0 0])++c.drop (0+(us++[Value.slice none 0 0]).length)) y/\((us++[Value.slice none 0 0])≠ []->0+(us++[Value.slice none 0 0]).length<=c.length):=λc qY=>by
             have mD:=ia row c _ qY;simp_all[q?,x?,List.take_zero,d?,F?]
            rcases Eb hi hL hyy sn with⟨g1,g2,g3⟩|uK
            . have hul:(us++[Value.slice none 0 0]).length=row.length:=by grind
              have hal:arr.toList.length=row.length:=by grind
              rw [hul] at g3
              have HG:i*row.length+0+arr.size<=cur.size:=by
               omega
              have ji:(Value.agg arr).cells=arr:=rfl;refine⟨_,kF gV (v:=.agg arr) x! x! hg x!,?_⟩;rw [ji];refine hB.write hd (k:=k) (fz:=[]) (ab:=.gG e (some k5) row (l.set i y) i) x! hb kD hg ⟨rfl,rfl,rfl⟩ z! ?_ (by rfl);intro A2 h1 h2 h3
              have WA:∀b',A2 b'->A b':=λb' h=>by
               grind
              have yq:b7 w (w.setRow b (cur.toList.take (i*row.length+0)++arr.toList++cur.toList.drop (i*row.length+0+arr.toList.length)).toArray) A A2:=λb' h=>⟨h1 b' h,setRow_other w b b' _ (λh'=>kD (h'▸h))⟩
              have hP:cur.toList.take (i*row.length+0)++arr.toList++cur.toList.drop (i*row.length+0+arr.toList.length)=(cur.toList.take (i*row.length)++us)++β k5::cur.toList.drop (i*row.length+row.length):=by
               grind
              have hPl:(cur.toList.take (i*row.length)++us).length=i*row.length+(row.length-1):=by
               grind
              have iU:i*row.length+row.length<=l.length*row.length:=by
               have :(i+1)*row.length<=l.length*row.length:=Nat.mul_le_mul_right _ hi;grind
              refine⟨_,.slice none 0 0,⟨?_,.inr ⟨b,cap,_,x!,w!,setRow_heap w b cur _ e _ hg,x!,yo,?_,rfl⟩⟩,λb' ek=>?_,?_,λj' fk=>?_⟩
              . grind
              . grind
              . grind
              . simp only [n?]
                have Bu:(cur.toList.take (i*row.length+0)++(us++[Value.slice none 0 0])++cur.toList.drop (i*row.length+0+(us++[Value.slice none 0 0]).length))=(cur.toList.take (i*row.length)++us)++Value.slice none 0 0::cur.toList.drop (i*row.length+row.length):=by
                 simp only [Nat.add_zero,hul,Y!,List.singleton_append]
                have WL:=g2;simp only [Bu] at WL;simp only [hP] at yq |-;rw [<-List.take_set,<-hPl,afg];exact bm (λc x hx=>bw yq row c x hx) _ _ WL
              . simp only [A!] at fk;subst fk;simp only [n?,hP];rw [v?,R! w!,<-hPl,List.getElem?_append_right (S! _),Nat.sub_self];rfl
            grind
        grind
     grind
   grind
 grind
def aq.close(hB:aq C A β st a w){k e k5 e5 i:Nat}{row su:List Ty}{l:List (Row row)}{l5:List (Row su)}{y:Row row}
  (hk:st.h k=some (.gG e (some k5) row l i)) (Bt:st.h k5=some (.row e5 su l5 false)) (dU:k5≠k) (lL:0<row.length) (hi:i<l.length)
  (hy:nm row (l.getD i (Row.zero row)) (row.length-1) [.sl su l5]=some y) {aS:St} (hn:aS.n=st.n) (ht:aS.t=st.t) (hg:aS.g=st.g)
  (hh:∀q,aS.h q=if q=k then some (.row e row (l.set i y) false) else if q=k5 then some (.row e5 su l5 true) else st.h q):Rel C aS a w:=by
 let A1:Nat->Prop:=λb=>A b\/ag (β k5)=some b
 have hK:b7 w w A A1:=λb h=>⟨.inl h,rfl⟩
 have afh:∀q,(aS.h q).isSome↔(st.h q).isSome:=by
  grind
 have aES:(pv st.h (.own k5))=(.sl su l5,[k5]):=by grind[pv,hX]
 have Eh:aa w A1 β (β k5) (.sl su l5):=by
  have:=(yY (A':=A1) hB (λb h=>.inl h) (.own k5) (β k5) (by simp only [aa];exact⟨trivial,Kx hB Bt⟩) (λq hq b hb=>by
   grind)).1
  grind
 refine⟨A1,β,?_⟩;refine⟨hB.defers,by rw [hn];exact hB.size,λq=>by rw [ht];exact hY hK _ _ (hB.tmps q),λq ab hq=>?_,λq q' b h1 h2=>hB.apart q q' b ((afh q).1 h1) ((afh q').1 h2),λb hb=>?_,hB.frame,λb hb hA=>?_,λb hb=>.inl (hB.base b hb),λq b hq hb=>hB.lK q b ((afh q).1 hq) hb,λq d hq=>hB.nR q d x!,λq d hd=>(hB.laid q d hd).mono hK,hB.held⟩
 . rw [hh] at hq;by_cases h1:q=k
   . subst h1;rw [R! rfl] at hq;simp only [A!] at hq;subst hq;rcases CE hB hk with⟨_,hl⟩|⟨b,cap,cur,v0,hv,hgc,hle,yo,dm,kD,hL,tC⟩
     . grind
     . have hN:(cur.toList.take (l.length*row.length)).length=l.length*row.length:=by
        simp_all
       have oP:=tC k5 rfl;have hL1:=bm (λc x hx=>bw hK row c x hx) l _ hL;rw [getD_eq l _ _ hi] at hy
       have pC:=Eb (A:=A1) (w:=w) (i:=i) (j:=row.length-1) (cur:=((cur.toList.take (l.length*row.length)).set (i*row.length+(row.length-1)) v0).toArray) (us:=[β k5]) (y:=y) hi (by
        grind[List.take_of_length_le,List.length_set]) (λc hc=>by
        have:=wW (β:=β) row [.sl su l5] l[i] (row.length-1) c [β k5] y hc (by grind[ae]) hy;omega) x!
       rcases pC with⟨g1,g2,g3⟩|uK
       . refine⟨cur.toList.take (l.length*row.length),⟨x!,.inr ⟨b,cap,cur,x!,w!,hgc,x!,yo,dm,x!⟩⟩,?_,λb' ek=>?_⟩
         . have hp:i*row.length+(row.length-1)<l.length*row.length:=by
            have :(i+1)*row.length<=l.length*row.length:=I? _ hi;rw [y?,Nat.one_mul] at this;omega
           have dV:((cur.toList.take (l.length*row.length)).set (i*row.length+(row.length-1)) v0).take (i*row.length+(row.length-1))++[β k5]++((cur.toList.take (l.length*row.length)).set (i*row.length+(row.length-1)) v0).drop (i*row.length+(row.length-1)+[β k5].length)=cur.toList.take (l.length*row.length):=by
            have h2:((cur.toList.take (l.length*row.length)).set (i*row.length+(row.length-1)) v0).set (i*row.length+(row.length-1)) (β k5)=cur.toList.take (l.length*row.length):=by
             rw [List.set_set];exact AM _ _ _ oP
            rw [m?,R! (by rw [n?,hN];exact hp)] at h2;simpa using h2
           simp only [dV] at g2;rw [l? w!] at g2;exact g2
         . rw [hv] at ek;simp only [ag,A!] at ek;subst ek;simp only [O?,w?];rintro(h|h)
           . exact kD h
           . exact dU (hB.apart k5 q b (by simp [Bt]) (by simp [hk]) h (by rw [hv];rfl))
       grind
   . rw [Q! h1] at hq;by_cases h2:q=k5
     . subst h2;rw [R! rfl] at hq;simp only [A!] at hq;subst hq;obtain⟨xs,g1,g2,g3⟩:=hB.blocks q _ Bt;refine⟨xs,g1,bm (λc x hx=>bw hK su c x hx) _ _ g2,λb hb=>?_⟩;simp only [R?];exact .inr hb
     . rw [Q! h2] at hq
       have:=vI (w':=w) (A':=A1) (aw:=β) (new:=[]) (k:=q) (λ_ _=>rfl) rfl (λb hb=>⟨rfl,λh=>by
        rcases h with h|h
        . exact h
        . exact absurd (hB.apart q k5 b (by simp [hq]) (by simp [Bt]) hb h) h2⟩) hK (hB.blocks q ab hq)
       simpa [bG] using this
 . rcases hb with hb|hb
   . exact hB.bound b hb
   . exact l4 hB (by simp [Bt]) hb
 . rcases hA with hA|hA
   . exact hB.gH b hb hA
   . rcases hB.lK k5 b (by simp [Bt]) hA with h|h
     . omega
     . exact .inr h
def AN {α:Type}:∀ {l:List α},isNil l=true->l=[]
 |[],_=>rfl
 |_::_,h=>by cases h
def T0(hE:cQ P C E)(hB:aq C A β st a w){o:Oper}{out:Out}(h:OL E st o=some out)(nu:eJ st o=true)(dV:iy st.h out.new=true)(hc:∀p∈out.cond,p)
  {K:Act->World->Prop} {Q:Exit->Act->World->Prop} (hK:∀a' w',Rel C (st.put o.dst out) a' w'->K a' w'):o.wp P a w K Q:=by
 unfold OL at h;split at h
 . rename_i à h0;simp only [A!] at h;subst h
   have hd:∀t,o.dst=some t->t<st.n:=by
    intro t ht;simp_all[eJ,M!]
   unfold TZ at h0;split at h0
   . rename_i c u mD;split at h0
     . rename_i T1 h1;cases hq:(isNil T1.fE&&isNil T1.del&&isNil T1.new&&isNil T1.raw) with
       |false=>grind
       |true=>
        simp only [hq,cond_true,Option.some.injEq] at h0;subst h0;simp only [Bool.and_eq_true] at hq;obtain⟨⟨⟨q1,q2⟩,q3⟩,q4⟩:=hq;have q1:=AN q1;have q2:=AN q2;have q3:=AN q3;have q4:=AN q4;have hcc:c:=hc c z!;refine HR hE hB h1 nu w! (λp hp=>hc p x!) (λa' w' hr=>hK a' w' ?_);obtain⟨A',aw,pY⟩:=hr
        have T2:∀q,(st.put o.dst T1).h q=st.h q:=by
         intro q;simp only [St.put,vG,q1,q2,q3,ah,au];grind[bG]
        have :∃k,closing st.h k=some (c,u):=by
         grind[vQ]
        obtain⟨k,mD⟩:=this;unfold closing at mD;split at mD
        . rename_i e k5 row l i hk;split at mD
          . rename_i e5 su l5 Bt;cases hqq:(Nat.blt 0 row.length&& !(Nat.beq k5 k)) with
            |false=>grind
            |true=>
             simp only [hqq,I!] at mD;simp only [B!,J?] at hqq;split at mD
             . rename_i y hy;obtain⟨rfl,rfl⟩:=mD;have dU:k5≠k:=λh=>by grind
               refine aq.close pY (k:=k) (k5:=k5) (by rw [T2];exact hk) (by rw [T2];exact Bt) dU (M! hqq.1) hcc hy rfl ?_ rfl (λq=>?_)
               . rfl
               . rw [T2];simp only [St.put,vG,q2,q3,ah,au,vF,q4];by_cases e1:q=k
                 . subst e1;simp [bG]
                 . by_cases e2:q=k5
                   . subst e2;simp [e1,aG e1,bG]
                   . simp only [aG e1,aG e2,L!,Q! e1,Q! e2];cases st.h q with
                     |none=>rfl
                     |some ab=>simp [bG]
             grind
          grind
        grind
     grind
   . rename_i pX;clear pX;obtain⟨dst,op,type,pos,after,guard⟩:=o;simp only at hd hK h0;split at h0
     . rename_i t p v;obtain⟨w',g1,g2⟩:=NS hE.eA hB hd (az hB p) (az hB v) h0 hc;refine mA (w':=w') ?_ (hK _ _ g2);simp only [execOp,Sem.run_bind,g1,Result.andThen_ok,Sem.run_pure]
     . rename_i t p;exact cF (s:=Instr.loadAt t (a.eval p)) (λw=>by simp [execOp]) (Reads.sq hB hd (I4 hE.eA hB (az hB p) h0 hc)) hK
     . rename_i t x i;exact cF (s:=Instr.indexAt t (a.eval x) (a.eval i)) (λw=>by simp [execOp]) (Reads.sq hB hd (Ky hE.eA hB (az hB x) (az hB i) h0 hc)) hK
     . cases h0
 grind[HR]
def WM(hE:cQ P C E)(hB:aq C A β st a w){o:Oper}{out:Out}(h:act E st o=some out)(nu:eJ st o=true)(dV:iy st.h out.new=true)(hc:∀p∈out.cond,p)
  {K:Act->World->Prop} {Q:Exit->Act->World->Prop} (hK:∀a' w',Rel C (st.put o.dst out) a' w'->K a' w'):o.wp P a w K Q:=by
 unfold act at h;split at h
 . rename_i à ho;simp only [A!] at h;subst h;exact TW hE hB ho nu hc hK
 . split at h
   . rename_i à ho;simp only [A!] at h;subst h;exact TX hE hB ho nu hK
   . split at h
     . rename_i à ho;simp only [A!] at h;subst h;exact TY hE hB ho hK
     . exact T0 hE hB h nu dV hc hK
end
end Go.Vg

end
section
namespace Go.Vg
open Go
variable [HP]
mutual
def aB(p:Nat->Bool):AV->AV
 |.own k=>bif p k then .cr else .own k
 |.pre k n=>bif p k then .cr else .pre k n
 |.view k sz off n=>bif p k then .cr else .view k sz off n
 |.ref k off=>bif p k then .cr else .ref k off
 |.elem k sz i j=>bif p k then .cr else .elem k sz i j
 |.agg cs=>.agg (e8 p cs)
 |.bn vs=>.bn (e8 p vs)
 |.fn f first aR=>.fn f (e8 p first) (e8 p aR)
 |.gp ks cs=>.gp ks (e8 p cs)
 |a=>a
def e8(p:Nat->Bool):List AV->List AV
 |[]=>[]
 |a::as_=>aB p a::e8 p as_
end
def de(p:Nat->Bool):Option Nat->Option Nat
 |some k=>bif p k then none else some k
 |none=>none
def cd(p:Nat->Bool):AB->AB
 |.cells cs=>.cells (e8 p cs)
 |.views e j n m sz=>.views e (de p j) n m sz
 |.gG e j row l i=>.gG e (de p j) row l i
 |.eE e (some k) l=>wI (p k) e k l
 |.dM e j xs i=>.dM e (de p j) xs i
 |b=>b
def bZ(p:Nat->Bool):Option AB->Option AB
 |some b=>some (cd p b)
 |none=>none
def KS.has(kb:Nat):KS->Nat->Bool
 |.one j,k=>Nat.beq k j
 |.dst d,k=>Nat.beq k (kb+d) || (Nat.ble (om (kb+d)) k&&Nat.blt k (om (kb+d)+100))
def cy(kb:Nat):List KS->Nat->Bool
 |[],_=>false
 |x::r,k=>x.has kb k || cy kb r k
def CG(ops:List Oper)(j:Nat):Option Nat:=match ops[j]? with
 |some o=>o.dst
 |none=>none
def la(ops:List Oper)(i:Nat):Bool:=ops.any λo=>match o.guard with
 |some (j,_)=>Nat.beq j i
 |none=>false
def Kz(ops:List Oper)(t:Nat->AV)(o:Oper):Option Bool:=match o.guard with
 |none=>some true
 |some (j,want)=>match CG ops j with
  |none=>none
  |some g=>match t g with
   |.tt=>some want
   |.ff=>some (!want)
   |.undef=>some false
   |_=>none
def dK:List Oper->List Nat
 |[]=>[]
 |o::r=>match o.dst with
  |some d=>d::dK r
  |none=>dK r
def Out.wr(o:Out):List Nat:=o.fE.map (·.1)++(o.del++o.new.map (·.1))
def Out.tD(o:Out):List Nat:=ao o.res++(zc o.fE++zc o.new)
def Out.skip:Out:={cond:=[],res:=.undef}
def l8(a b:List Nat):Bool:=a.all λk=>!au b k
structure Ev where
 i:Nat
 o:Oper
 out:Option Out
 kr:List Nat
 pre:List Nat
def Ev.ca(e:Ev):Out:=match e.out with
 |some out=>out
 |none=>.skip
def qN(st:St)(o:Oper):List Nat:=match o.op with
 |.call _=>oO st.h (ar (o.op.operands.toList.map (ev st)))
 |_=>[]
def fZ(h:aJ):List Nat->List Nat
 |[]=>[]
 |k::r=>match h k with
  |some (.gG _ (some j) _ _ _)=>j::fZ h r
  |_=>fZ h r
def sx(E:Env)(h:aJ)(o:Oper):List Nat:=match o.dst with
 |some d=>match E.cls d with
  |some k=>k::fZ h [k]
  |none=>[]
 |none=>[]
def iX(E:Env)(st:St)(o:Oper):List Nat:=(match o.dst with
 |some d=>st.kb+d
 |none=>st.kb)::(ar (o.op.operands.toList.map (ev st))++(qN st o++(fZ st.h (ar (o.op.operands.toList.map (ev st)))++sx E st.h o)))
def slotsOf:List Operand->List Nat
 |[]=>[]
 |.tmp i::r=>i::slotsOf r
 |_::r=>slotsOf r
def looks(ops:List Oper)(o:Oper):List Nat:=(match o.guard with
 |some (j,_)=>match CG ops j with
  |some g=>[g]
  |none=>[]
 |none=>[])++slotsOf o.op.operands.toList
def waits(f e:Ev):Bool:=au f.pre e.i
def Eo:List Nat->List Nat->List Nat
 |[],b=>b
 |k::r,b=>bif au b k then Eo r b else Eo r (k::b)
def Q7(k:Nat):List Ev->List Nat
 |[]=>[]
 |e::r=>bif Nat.beq e.i k then e.pre else Q7 k r
def kG(tr:List Ev):List Edge->List Nat
 |[]=>[]
 |x::r=>bif Region.binds .any x then Eo (x.on::Q7 x.on tr) (kG tr r) else kG tr r
def KA(l:List Nat):Option Nat->Bool
 |some d=>!au l d
 |none=>true
def rI(ops:List Oper)(e f:Ev):Bool:=
 KA (looks ops f.o) e.o.dst&&KA (looks ops e.o) f.o.dst&&
 (match e.o.dst,f.o.dst with
   |some d,some d'=>!Nat.beq d d'
   |_,_=>true)&&
 l8 e.ca.wr f.kr&&l8 f.ca.wr e.kr&&l8 e.ca.wr f.ca.wr&&l8 e.ca.tD (f.ca.new.map (·.1))&&l8 f.ca.tD (e.ca.new.map (·.1))
def dq:Nat:=49999
def KB:Op:=.move (.const (.map none))
def Gk(f:Ev):Bool:=match f.o.op with
 |.move (.const (.map none))=>(match f.ca.res with
   |.cr=>true
   |_=>false)&&(f.ca.wr.isEmpty&&f.ca.raw.isEmpty)
 |_=>true
def lN(kb:Nat)(dr:Bool)(ops:List Oper)(tr:List Ev)(f:Ev):Bool:=
 bif dr then(tr.all λe=>l8 e.ca.tD (f.ca.new.map (·.1))&&(waits f e || rI ops e f))&&(f.o.after.toList.all λx=>!Region.binds .any x || Nat.blt x.on f.i)&&
  (f.ca.new.all λx=>cy kb ((dK ops).map .dst) x.1)&&(l8 (f.kr++(f.ca.wr++f.ca.tD)) [dq]&&Gk f) else true
def KC:AV->AV
 |.bool b=>bif b then .tt else .ff
 |a=>a
def St.lit(st:St)(d:Nat)(a:AV):St:={st with t:=λi=>bif Nat.beq i d then a else st.t i,b9:=[],news:=[],Hy:=[]}
def St.clear(st:St):St:={st with b9:=[],news:=[],Hy:=[]}
def vR(b:Bool)(W:List Nat)(base s1 s2:St):Option St:=
 match s1.Hy,s2.Hy with
 |[],[]=>some {base with
     t:=λi=>bif au W i then DS b (s1.t i) (s2.t i) else aB (cy base.kb (s1.news++s2.news)) (base.t i)
     h:=λk=>bif au (s1.b9++s2.b9) k then DT b (s1.h k) (s2.h k) else bZ (cy base.kb (s1.news++s2.news)) (base.h k)
     b9:=(s1.b9++s2.b9)++base.b9
     news:=base.news++(s1.news++s2.news)}
 |_,_=>none
def Jn(b:Bool)(c1 c2:List Prop):List Prop:=match c1,c2 with
 |[],[]=>[]
 |_,_=>[(b=true->HA c1)/\(b=false->HA c2)]
def both(b:Bool)(W:List Nat)(base:St)(r1 r2:Option (List Prop×St)):Option (List Prop×St):=match r1,r2 with
 |some (c1,s1),some (c2,s2)=>match vR b W base s1 s2 with
  |some s=>some (Jn b c1 c2,s)
  |none=>none
 |_,_=>none
def AO(c:List Prop):Option (List Prop×St)->Option (List Prop×St)
 |some (c',s)=>some (c++c',s)
 |none=>none
def fork(g:Bool)(W:List Nat)(d:Option Nat)(st:St)(next :St->Option (List Prop×St)):Option (List Prop×St):=match d with
 |some d=>bif g then(match st.t d with
  |.bool b=>both b (d::W) st (next (st.lit d .tt)) (next (st.lit d .ff))
  |_=>next st) else next st
 |none=>next st
def pE(E:Env)(dr:Bool)(ops:List Oper):Nat->List Ev->List Oper->St->Option (List Prop×St)
 |_,_,[],st=>some ([],st)
 |i,tr,o::rest,st=>match Kz ops st.t o with
  |none=>none
  |some false=>bif eJ st o&&lN st.kb dr ops tr ⟨i,o,none,iX E st o,kG tr o.after.toList⟩ then
    pE E dr ops (i+1) (⟨i,o,none,iX E st o,kG tr o.after.toList⟩::tr) rest (st.put o.dst .skip) else none
  |some true=>match act E st o with
   |none=>none
   |some out=>bif eJ st o&&(iy st.h out.new&&lN st.kb dr ops tr ⟨i,o,some out,iX E st o,kG tr o.after.toList⟩) then
     AO out.cond (fork (la ops i) (dK rest) o.dst (st.put o.dst out) (pE E dr ops (i+1) (⟨i,o,some out,iX E st o,kG tr o.after.toList⟩::tr) rest)) else none
def St.ahead(st:St)(W:List Nat):St:={st with
 t:=λi=>aB (cy st.kb (W.map .dst)) (st.t i)
 h:=λk=>bZ (cy st.kb (W.map .dst)) (st.h k)
 news:=st.news++W.map .dst}
def Q8(d:Nat)(o:Oper):Option (TypeId×Int×Operand):=match o.op,o.dst,o.guard with
 |.insert t (.tmp d') (.const (.int .i64 k)) x,none,none=>bif Nat.beq d' d then some (t,k,x) else none
 |_,_,_=>none
def AP(d:Nat):Operand->Bool
 |.tmp i=>!Nat.beq i d
 |_=>true
def dD(st:St)(t:TypeId)(d:Nat):List Oper->List Int×List AV×List Oper
 |[]=>([],[],[])
 |o::r=>match Q8 d o with
  |some (t',k,x)=>bif Nat.beq t' t&&AP d x&&decide (lo .i64<=k/\k<=hi .i64) then(k::(dD st t d r).1,ev st x::(dD st t d r).2.1,(dD st t d r).2.2) else([],[],o::r)
  |none=>([],[],o::r)
def xa(T:bY)(st:St):List Oper->Option (Nat×List Int×List AV×List Oper)
 |[]=>none
 |o::r=>match o.op,o.dst,o.guard with
  |.makeMap t none,some d,none=>match T.find t with
    |some te=>match te.desc with
     |.map kt _=>bif cE T kt uG&&fS (dD st t d r).1&&Nat.blt d st.n then some (d,dD st t d r) else none
     |_=>none
    |none=>none
  |_,_,_=>none
inductive MR where
 |no
 |mk
 |ins (t:TypeId) (k:Int) (x:Nat)
 |cp (s:Nat)
def role(L:List Nat)(o:Oper):MR:=match o.op with
 |.makeMap _ _=>.mk
 |.insert t (.tmp s) (.const (.int .i64 k)) (.tmp x)=>bif au L s then .ins t k x else .no
 |.move (.tmp s)|.assign (.tmp s)=>bif au L s then .cp s else .no
 |_=>.no
def NT(L:List Nat)(o:Oper):Bool:=match role L o with
 |.mk=>true
 |.cp _=>true
 |_=>false
def eB(L:List Nat)(o:Oper):Oper:=match role L o with
 |.no=>o
 |_=>{o with op:=KB}
def ã:Nat->List Oper->Option (Nat×Nat×TypeId)
 |_,[]=>none
 |i,o::r=>match o.op,o.dst with
  |.makeMap t none,some d=>some (i,d,t)
  |_,_=>ã (i+1) r
def Ep:List Nat->List Oper->List Nat
 |L,[]=>L
 |L,o::r=>match role L o,o.dst with
  |.cp _,some e=>Ep (e::L) r
  |_,_=>Ep L r
def dw(L:List Nat):Nat->List Oper->List (Nat×Int×Nat)
 |_,[]=>[]
 |i,o::r=>match role L o with
  |.ins _ k x=>(i,k,x)::dw L (i+1) r
  |_=>dw L (i+1) r
def AQ(o:Oper)(j:Nat):Bool:=o.after.toList.any λx=>Region.binds .any x&&Nat.beq x.on j
def afi(ops:List Oper)(o:Oper)(x:Nat):Bool:=(List.range ops.length).all λj=>match ops[j]? with
 |some q=>(match q.dst with
  |some e=>!(Nat.beq e x) || AQ o j
  |none=>true)
 |none=>true
def T3(L:List Nat)(ops:List Oper)(o:Oper)(s:Nat):Bool:=(List.range ops.length).any λj=>match ops[j]? with
 |some q=>AQ o j&&(NT L q&&(match q.dst with
  |some e=>Nat.beq e s
  |none=>false))
 |none=>false
def CH(L:List Nat)(o:Oper):Bool:=match o.dst with
 |some e=>au L e
 |none=>false
def ä(L:List Nat)(ops:List Oper)(i0:Nat)(t:TypeId)(i:Nat)(o:Oper):Bool:=o.guard.isNone&&match role L o with
 |.no=>!(CH L o)
 |.mk=>Nat.beq i i0&&CH L o
 |.ins t' k x=>Nat.beq t' t&&decide (lo .i64<=k/\k<=hi .i64)&&(o.dst.isNone&&(AQ o i0&&(afi ops o x&&(match o.op with
   |.insert _ (.tmp s) _ _=>T3 L ops o s
   |_=>false))))
 |.cp s=>CH L o&&(AQ o i0&&T3 L ops o s)
def Q9(T:bY)(ops:List Oper):Option (Nat×TypeId×List Nat):=match ã 0 ops with
 |some (i0,d,t)=>match T.find t with
  |some te=>match te.desc with
   |.map kt _=>bif cE T kt uG&&(fS ((dw (Ep [d] ops) 0 ops).map (·.2.1))&&
       (List.range ops.length).all λi=>match ops[i]? with
         |some o=>ä (Ep [d] ops) ops i0 t i o
         |none=>true) then some (i0,t,Ep [d] ops) else none
   |_=>none
  |none=>none
 |none=>none
def St.cut(st:St):St:={st with
 t:=λi=>aB (λk=>Nat.beq k dq) (st.t i)
 h:=λk=>bZ (λk=>Nat.beq k dq) (st.h k)
 news:=st.news++[.one dq]}
def St.mapped(st:St)(L:List Nat)(ops:List Oper):St:={st with
 t:=λi=>bif au (dK (ops.filter (NT L))) i then .gp ((dw L 0 ops).map (·.2.1)) ((dw L 0 ops).map λq=>st.t q.2.2) else st.t i}
def afj(E:Env)(ops:List Oper)(st:St):Option (List Prop×St):=match Q9 E.T ops with
 |some (_,_,L)=>bif (st.h dq).isNone then(match pE E true (ops.map (eB L)) 0 [] (ops.map (eB L)) (st.ahead (dK ops)).cut with
  |some (c,m)=>some (c,m.mapped L ops)
  |none=>none) else none
 |none=>pE E true ops 0 [] ops (st.ahead (dK ops))
def BV(E:Env)(dr:Bool)(ops:List Oper)(st:St):Option (List Prop×St):=
 bif dr then afj E ops st else match xa E.T st ops with
  |some (d,ks,cs,rest)=>pE E false ops (cs.length+1) [] rest (st.put (some d) {cond:=[],res:=.gp ks cs})
  |none=>pE E false ops 0 [] ops st
inductive Ex where
 |norm
 |exit (i:Nat)
 |ret
def yr:Code->List Nat
 |.region _ ops _=>dK ops.toList
 |.seq x y=>yr x++yr y
 |.cond _ x y=>yr x++yr y
 |.block _ b=>yr b
 |.loop b|.scope b=>yr b
 |_=>[]
def jY:Code->Bool
 |.skip=>true
 |.region _ _ _=>true
 |.seq x y=>jY x&&jY y
 |.cond _ x y=>jY x&&jY y
 |.block _ b=>jY b
 |_=>false
def gK(E:Env):Code->St->Option (List Prop×St)
 |.skip,st=>some ([],st)
 |.region _ ops d,st=>BV E d ops.toList st
 |.seq x y,st=>match gK E x st with
   |some (c,aS)=>AO c (gK E y aS)
   |none=>none
 |.cond c x y,st=>match ev st c with
   |.tt=>gK E x st
   |.ff=>gK E y st
   |.bool b=>both b (yr x++yr y) st (gK E x st.clear) (gK E y st.clear)
   |_=>none
 |.block _ b,st=>gK E b st
 |_,_=>none
def zh:List Prop->Prop->Prop
 |[],k=>k
 |p::ps,k=>p/\zh ps k
inductive Loc where
 |slot (i:Nat)
 |cell (k off:Nat)
structure bq where
 τ:Type
 uQ:List (Nat×(τ->AV))
 keys:List (Nat×(τ->AB)):=[]
 yu:List (Loc×Nat):=[]
 drop:List Nat:=[]
 asH:List (Nat×(τ->AV)):=[]
 inv:τ->Prop
 al:τ->Nat
def ga {α β:Type}(l:List (Nat×(α->β)))(k:Nat):Option (α->β):=match l with
 |[]=>none
 |(j,a)::r=>bif Nat.beq k j then some a else ga r k
def auz(st:St):Loc->AV
 |.slot i=>st.t i
 |.cell k off=>match st.h k with
   |some (.cells cs)=>cs.getD off .cr
   |_=>.cr
def sources(st:St):List (Loc×Nat)->Option (List (Nat×Option Nat))
 |[]=>some []
 |(l,K)::r=>match auz st l,sources st r with
  |.own k,some s=>some ((K,some k)::s)
  |.ref k _,some s=>some ((K,some k)::s)
  |.nil,some s=>some ((K,none)::s)
  |_,_=>none
def dS:List (Nat×Option Nat)->List Nat
 |[]=>[]
 |(_,some k)::r=>k::dS r
 |(_,none)::r=>dS r
def cn(s:List (Nat×Option Nat))(k:Nat):Option (Option Nat):=match s with
 |[]=>none
 |(j,a)::r=>bif Nat.beq k j then some a else cn r k
def cK(L:bq)(W:List Nat):List KS:=W.map .dst++(L.yu.map (λx=>.one x.2)++L.drop.map .one)
def lO(L:bq)(W:List Nat)(base:St)(x:L.τ):St:=
 {base with
  t:=λi=>match ga L.uQ i with
   |some f=>f x
   |none=>bif au W i then .cr else aB (cy base.kb (cK L W)) (base.t i)
  h:=λk=>match ga L.keys k with
   |some f=>some (f x)
   |none=>bif cy base.kb (cK L W) k then none else bZ (cy base.kb (cK L W)) (base.h k)
  b9:=[],news:=[],Hy:=[]}
def sy(s:List (Nat×Option Nat))(bad:Nat->Bool)(k K:Nat):Bool:=match cn s K with
 |some (some j)=>Nat.beq k j
 |some none=>false
 |none=>Nat.beq k K&& !bad K
mutual
def KD(s:List (Nat×Option Nat))(bad:Nat->Bool):AV->AV->List Prop
 |_,.cr=>[]
 |.undef,.undef=>[]
 |.int k n,.int k' m=>if k=k' then [n=m] else [False]
 |.tt,.tt|.ff,.ff=>[]
 |.tt,.bool b=>[true=b]
 |.ff,.bool b=>[false=b]
 |.bool b,.bool c=>[b=c]
 |.str a,.str b=>[a=b]
 |.nil,.nil|.jQ,.jQ|.k7,.k7=>[]
 |.nil,.sl r l=>[([]:List (Row r))=l]
 |.sl r l,.sl r' l'=>match eU r r' l with
   |some m=>[m=l']
   |none=>[False]
 |.full r l,.sl r' l'=>match eU r r' l with
   |some m=>[m=l']
   |none=>[False]
 |.own k,.own K=>match cn s K with
   |some (some j)=>bif Nat.beq k j then [] else [False]
   |some none=>[False]
   |none=>bif Nat.beq k K&& !(bad K) then [] else [False]
 |.nil,.own K=>match cn s K with
   |some none=>[]
   |_=>[False]
 |.ref k o,.ref k' o'=>bif sy s bad k k' then [o=o'] else [False]
 |.agg xs,.agg ys|.bn xs,.bn ys=>xZ s bad xs ys
 |.fn f xs us,.fn f' ys vs=>if f=f' then xZ s bad xs ys++xZ s bad us vs else [False]
 |.gp ks xs,.gp ks' ys=>if ks=ks' then xZ s bad xs ys else [False]
 |.cN r x j,.cN r' y j'=>match eU r r' [x] with
   |some m=>[m=[y],j=j']
   |none=>[False]
 |_,_=>[False]
def xZ(s:List (Nat×Option Nat))(bad:Nat->Bool):List AV->List AV->List Prop
 |[],[]=>[]
 |x::xs,y::ys=>KD s bad x y++xZ s bad xs ys
 |_,_=>[False]
end
def asI(s:List (Nat×Option Nat))(bad:Nat->Bool):Option Nat->Option Nat->Bool
 |none,_=>true
 |some j,some j'=>sy s bad j j'
 |_,_=>false
def NU(s:List (Nat×Option Nat))(bad:Nat->Bool):Option AB->AB->List Prop
 |some (.cells xs),.cells ys=>xZ s bad xs ys
 |some (.row e r l fr),.row e' r' l' FW=>match eU r r' l with
  |some m=>bif Nat.beq e e'&&(fr==FW) then [m=l'] else [False]
  |none=>[False]
 |some (.arr r l),.arr r' l'=>match eU r r' l with
  |some m=>[m=l']
  |none=>[False]
 |some (.gG e (some j) r l i),.gG e' (some j') r' l' i'=>match eU r r' l with
  |some m=>bif Nat.beq e e'&&sy s bad j j' then [m=l',i=i'] else [False]
  |none=>[False]
 |some (.row e r l false),.views e' _ n m _=>bif Nat.beq e e'&&Nat.beq r.length 1 then [l.length=n,m=0] else [False]
 |some (.views e (some j) n m sz),.views e' (some j') n' m' WN=>bif Nat.beq e e'&&sy s bad j j' then [n=n',m=m',sz=WN] else [False]
 |some (.eE e j l),.eE e' j' l'=>bif Nat.beq e e'&&asI s bad j j' then [l=l'] else [False]
 |some (.dM e (some j) xs i),.dM e' (some j') xs' i'=>bif Nat.beq e e'&&sy s bad j j' then [xs=xs',i=i'] else [False]
 |some (.aX e sz n cs),.aX e' WN n' fi=>bif Nat.beq e e'&&(Nat.beq sz WN&&Nat.beq n n') then xZ [] (λ_=>true) cs fi else [False]
 |_,_=>[False]
def Jo {τ:Type}(s:List (Nat×Option Nat))(bad:Nat->Bool)(st:St)(x:τ):List (Nat×(τ->AV))->List Prop
 |[]=>[]
 |(i,f)::r=>KD s bad (st.t i) (f x)++Jo s bad st x r
def Ra {τ:Type}(s:List (Nat×Option Nat))(bad:Nat->Bool)(st:St)(x:τ):List (Nat×(τ->AB))->List Prop
 |[]=>[]
 |(K,f)::r=>(match cn s K with
  |some (some k)=>NU s bad (st.h k) (f x)
  |some none=>match f x with
   |.row _ _ l false=>[[]=l]
   |_=>[False]
  |none=>bif bad K then [False] else NU s bad (st.h K) (f x))++Ra s bad st x r
def AR(L:bq)(W:List Nat)(base st:St)(s:List (Nat×Option Nat)):Bool:=
 jK (L.yu.map (·.2))&&jK (dS s)&&
 (L.yu.all λx=>!(pR x.2))&&
 (L.uQ.all λx=>au W x.1)&&
 (L.yu.all λx=>(ga L.keys x.2).isSome)&&
 (L.keys.all λx=>(cn s x.1).isSome || !(cy base.kb (cK L W) x.1))&&
 ((dS s).all λk=>cy base.kb (cK L W) k)&&
 (st.b9.all λk=>(ga L.keys k).isSome || cy base.kb (cK L W) k)
def Jp(L:bq)(W:List Nat)(base:St)(news:List KS):Bool:=
 news.all λx=>match x with
  |.one k=>cy base.kb (cK L W) k
  |.dst d=>au W d
def auA(st:St):AV->AV
 |.own k=>match st.h k with
   |some (.row _ r l _)=>.sl r l
   |_=>.undef
 |v=>v
def afk {τ:Type}(st:St)(x:τ):List (Nat×(τ->AV))->List Prop
 |[]=>[]
 |(i,f)::r=>KD [] (λ_=>true) (auA st (st.t i)) (f x)++afk st x r
def bq.tied(L:bq)(st:St):bq:=match L.asH with
 |[]=>L
 |t::ts=>{L with inv:=λx=>L.inv x/\HA (afk st x (t::ts)),asH:=[]}
def HS(id:Nat)(K:Ex->St->Prop)(e:Ex)(st:St):Prop:=match e with
 |.exit j=>bif Nat.beq j id then K .norm st else K (.exit j) st
 |e=>K e st
def AS(L:bq)(W:List Nat)(base st:St)(s:List (Nat×Option Nat))(x:L.τ):List Prop:=
 Jo s (cy base.kb (cK L W)) st x L.uQ++Ra s (cy base.kb (cK L W)) st x L.keys
def Er(L:bq)(W:List Nat)(base st:St)(P:L.τ->Prop):Prop:=match sources st L.yu with
 |none=>False
 |some s=>bif AR L W base st s then ∃x,HA (AS L W base st s x)/\P x else False
def St.back(L:bq)(W:List Nat)(base st:St):St:=
 {st with b9:=st.b9++(L.keys.map (·.1)++base.b9),news:=base.news++(cK L W++st.news)}
def T4(L:bq)(W:List Nat)(base:St)(x:L.τ)(K:Ex->St->Prop)(e:Ex)(st:St):Prop:=match e with
 |.norm=>bif Jp L W base st.news then Er L W base st λx'=>L.inv x'/\L.al x'<L.al x else False
 |e=>K e (St.back L W base st)
def å(L:bq)(W:List Nat)(K:Ex->St->Prop)(body:(Ex->St->Prop)->St->Prop)(st:St):Prop:=
 Er L W st st.clear L.inv/\∀x,L.inv x->body (T4 L W st x K) (lO L W st x)
def afl(E:Ex->St->Prop)(next :St->Prop)(e:Ex)(st:St):Prop:=match e with
 |.norm=>next st
 |e=>E e st
def Rb(E:Env):Operand->Bool
 |.tmp i=>E.NB i
 |_=>false
def æ(E:Env)(c:Operand)(x y:Code)(st:St):Option (List Prop×St):=
 bif !Rb E c&&(jY x&&jY y) then gK E (.cond c x y) st else none
def alb:Op->Bool
 |.lookup _ _ _ _=>true
 |_=>false
def ç(E:Env)(o:Oper):Bool:=match o.op,o.dst with
 |.indexAddr _ _ _,some d=>E.NB d
 |_,_=>false
def upto:Nat->Nat->List Int
 |_,0=>[]
 |i,n+1=>(i:Int)::upto (i+1) n
def ixO(st:St):Op->Option (Int×List Int)
 |.indexAddr _ x i=>match ev st x,ev st i with
   |.own k,.int _ n=>match st.h k with
     |some (.aX _ _ m _)=>some (n,upto 0 m)
     |_=>none
   |_,_=>none
 |_=>none
def afm(E:Env):List Oper->St->Option (Int×List Int)
 |[],_=>none
 |o::r,st=>match o.op with
  |.lookup _ m x _=>match ev st m,ev st x with
    |.gp ks _,.int .i64 n=>some (n,ks)
    |_,_=>none
  |_=>match bif ç E o then ixO st o.op else none with
  |some r=>some r
  |none=>match act E st o with
   |some out=>afm E r (st.put o.dst out)
   |none=>none
def è(E:Env)(st:St)(ops:List Oper):Option (Int×List Int):=
 bif ops.any λo=>alb o.op || ç E o then afm E ops st else none
def Rc(E:Env)(K:Ex->St->Prop)(st:St)(ops:List Oper)(d:Bool):Prop:=match BV E d ops st with
 |some (c,aS)=>zh c (K .norm aS)
 |none=>False
def Jq(n:Int)(ks:List Int)(f:Nat->Prop):Nat->List Int->Prop
 |i,[]=>wM n ks->f i
 |i,k::r=>(n=k->f i)/\Jq n ks f (i+1) r
def pw(E:Env)(L:Nat->Option bq):Code->(Ex->St->Prop)->St->Prop
 |.skip,K,st=>K .norm st
 |.region _ ops d,K,st=>match è E st ops.toList with
   |some (n,ks)=>Jq n ks (λi=>Rc {E with DO:=i} K st ops.toList d) 0 ks
   |none=>Rc E K st ops.toList d
 |.seq x y,K,st=>pw E L x (afl K (pw E L y K)) st
 |.cond c x y,K,st=>match æ E c x y st with
   |some (cs,aS)=>zh cs (K .norm aS)
   |none=>match ev st c with
    |.tt=>pw E L x K st
    |.ff=>pw E L y K st
    |.bool b=>(b=true->pw E L x K st)/\(b=false->pw E L y K st)
    |.oC _ l=>(l=[]->pw E L x K st)/\pw E L y K st
    |_=>False
 |.block id (.loop b),K,st=>match L id with
   |some A=>å (A.tied st) (yr b) (HS id K) (pw E L b) st
   |none=>False
 |.block id b,K,st=>pw E L b (HS id K) st
 |.exit i,K,st=>K (.exit i) st
 |.ret,K,st=>K .ret st
 |.scope c,K,st=>pw E L c K st
 |.label _,K,st=>K .norm st
 |_,_,_=>False
def St.init(G:Nat->Option GD)(n:Nat)(aX:List AV):St:={t:=λi=>aX.getD i .undef,h:=λ_=>none,b9:=[],news:=[],Hy:=[],n:=n,kb:=0,g:=G}
def mH(T:bY)(st:St):List ResultVar->Option (List AV)
 |[]=>some []
 |.tmp t::r=>match mH T st r with
   |some l=>some (st.t t::l)
   |none=>none
 |.cell a ty::r=>match st.t a with
   |.ref k off=>match oE T st.h ty (.ref k off),mH T st r with
     |some out,some l=>some (out.res::l)
     |_,_=>none
   |_=>none
def gb:List AV->AV
 |[a]=>a
 |as_=>.bn as_
def tU {α:Type}(sz n:Nat)(l:List α):List (List α):=(List.range n).map λi=>(l.drop (i*sz)).take sz
def CI(h:aJ)(r:List Ty)(l:List (Row r))(k:Nat):List Prop×List Nat:=match h k with
 |some (.views _ (some j) n m sz)=>match h j with
  |some (.row _ é bytes _)=>bif Nat.beq é.length 1 then(match eU [.slice é] r (tU sz n bytes) with
   |some g=>([m=n,g=l],[k,j])
   |none=>([False],[])) else([False],[])
  |_=>([False],[])
 |_=>(KD [] (λ_=>true) (hX h (.own k)).1 (.sl r l),(hX h (.own k)).2)
mutual
def Jr:AV->AV->List (Nat×Option Nat)
 |.own i,.own k=>[(i,some k)]
 |.own i,.nil=>[(i,none)]
 |.ref i _,.ref k _=>[(i,some k)]
 |.fn _ xs us,.fn _ ys vs=>sA xs ys++sA us vs
 |.agg xs,.agg ys|.bn xs,.bn ys=>sA xs ys
 |_,_=>[]
def sA:List AV->List AV->List (Nat×Option Nat)
 |x::xs,y::ys=>Jr x y++sA xs ys
 |_,_=>[]
end
mutual
def zi(h:aJ)(s:List (Nat×Option Nat)):AV->AV->List Prop×List Nat
 |.own i,.own k=>(match cn s i with
   |some (some j)=>bif Nat.beq k j then [] else [False]
   |_=>[False],[])
 |.own i,.nil=>(match cn s i with
   |some none=>[]
   |_=>[False],[])
 |.sl r l,.own k=>CI h r l k
 |.agg xs,.agg ys|.bn xs,.bn ys=>sB h s xs ys
 |x,y=>(KD [] (λ_=>true) (hX h y).1 x,(hX h y).2)
def sB(h:aJ)(s:List (Nat×Option Nat)):List AV->List AV->List Prop×List Nat
 |[],[]=>([],[])
 |x::xs,y::ys=>((zi h s x y).1++(sB h s xs ys).1,(zi h s x y).2++(sB h s xs ys).2)
 |_,_=>([False],[])
end
def KE(h:aJ)(s:List (Nat×Option Nat)):Nat->List AB->List Prop
 |_,[]=>[]
 |i,b::bs=>(match cn s i with
  |some (some k)=>NU s (λ_=>true) (h k) b
  |some none=>match b with
   |.row _ _ l false=>[[]=l]
   |_=>[False]
  |none=>[False])++KE h s (i+1) bs
def KF(h:aJ)(s:List (Nat×Option Nat)):Nat->List AB->List (Nat×Option Nat)
 |_,[]=>[]
 |i,.views _ (some j) _ _ _::bs=>(match cn s i with
  |some (some k)=>match h k with
   |some (.views _ (some j') _ _ _)=>[(j,some j')]
   |_=>[]
  |_=>[])++KF h s (i+1) bs
 |i,_::bs=>KF h s (i+1) bs
def rJ(h:aJ)(want r:AV)(bs:List AB):List (Nat×Option Nat):=Jr want r++KF h (Jr want r) 0 bs
def OM(T:bY)(st:St)(rs:List ResultVar)(want:AV)(bs:List AB):Prop:=match mH T st rs with
 |none=>False
 |some as_=>bif jK (dS (rJ st.h want (gb as_) bs))&&((zi st.h (rJ st.h want (gb as_) bs) want (gb as_)).2.all λk=>!au (dS (rJ st.h want (gb as_) bs)) k)&&gJ bs.length bs then
   HA ((zi st.h (rJ st.h want (gb as_) bs) want (gb as_)).1++KE st.h (rJ st.h want (gb as_) bs) 0 bs) else False
def afn(T:bY)(rs:List ResultVar)(want:AV)(bs:List AB)(e:Ex)(st:St):Prop:=match e with
 |.norm|.ret=>OM T st rs want bs
 |_=>False
def KG(E:Env)(L:Nat->Option bq)(c:Code)(n:Nat)(rs:List ResultVar)(aX:List AV)(want:AV)(bs:List AB):Prop:=
 bif Nat.ble aX.length n then pw E L c (afn E.T rs want bs) (St.init E.fQ n aX) else False
end Go.Vg

end
section
namespace Go.Vg
open Go
variable [HP]
section
variable {P:Program} {C:Ctx} {A:Nat->Prop} {β:Nat->Value} {w:World}
mutual
theorem aBA(p:Nat->Bool){aw:Nat->Value}(bt:∀k,p k=false->aw k=β k):∀(a:AV) (v:Value),aa w A β v a->aa w A aw v (aB p a)
 |.cr,_,hr=>by simp [aB,aa]
 |.undef,_,hr|.int _ _,_,hr|.bool _,_,hr|.tt,_,hr|.ff,_,hr|.str _,_,hr|.nil,_,hr|.jQ,_,hr|.oC _ _,_,hr|.k7,_,hr|.sl _ _,_,hr|.full _ _,_,hr|.cN _ _ _,_,hr|.pB _ _,_,hr=>by simpa only [aB,aa] using hr
 |.own k,v,hr=>by
   simp only [aB];cases hk:p k with
   |true=>simp [aa]
   |false=>simp only [L!];simpa only [aa,bt k hk] using hr
 |.pre k n,v,hr=>by
   simp only [aB];cases hk:p k with
   |true=>simp [aa]
   |false=>simp only [L!];simpa only [aa,bt k hk] using hr
 |.view k sz off n,v,hr=>by
   simp only [aB];cases hk:p k with
   |true=>simp [aa]
   |false=>simp only [L!];simpa only [aa,bt k hk] using hr
 |.ref k off,v,hr=>by
   simp only [aB];cases hk:p k with
   |true=>simp [aa]
   |false=>simp only [L!];simpa only [aa,bt k hk] using hr
 |.elem k sz i j,v,hr=>by
   simp only [aB];cases hk:p k with
   |true=>simp [aa]
   |false=>simp only [L!];simpa only [aa,bt k hk] using hr
 |.agg cs,v,hr=>by
   simp only [aB,aa] at hr |-;obtain⟨arr,h1,h2⟩:=hr;exact⟨arr,h1,gf p bt cs _ h2⟩
 |.gp ks cs,v,hr=>by
   simp only [aB,aa] at hr |-;obtain⟨b,es,ck,h1,h2,h3,h4,h5⟩:=hr;exact⟨b,es,ck,h1,h2,h3,h4,gf p bt cs _ h5⟩
 |.bn cs,v,hr=>by
   simp only [aB,aa] at hr |-;obtain⟨arr,h1,h2⟩:=hr;exact⟨arr,h1,gf p bt cs _ h2⟩
 |.fn f first aR,v,hr=>by
   simp only [aB,aa] at hr |-;obtain⟨a1,a2,h1,h2,h3⟩:=hr;exact⟨a1,a2,h1,gf p bt first _ h2,gf p bt aR _ h3⟩
theorem gf(p:Nat->Bool){aw:Nat->Value}(bt:∀k,p k=false->aw k=β k):∀(as_:List AV) (vs:List Value),ae w A β vs as_->ae w A aw vs (e8 p as_)
 |[],_,hr=>by simpa only [e8,ae] using hr
 |a::as_,vs,hr=>by
  simp only [e8,ae] at hr |-;obtain⟨v,bS,h1,h2,h3⟩:=hr;exact⟨v,bS,h1,aBA p bt a v h2,gf p bt as_ bS h3⟩
end
def xb(p:Nat->Bool){k:Nat}{ab:AB}(h:BR w A β k ab):BR w A β k (cd p ab):=by
 cases ab with
 |cells cs=>
  obtain⟨b,arr,e,h1,h2,h3,h4,h5⟩:=h;exact⟨b,arr,e,h1,h2,h3,gf p (λ_ _=>rfl) _ _ h4,h5⟩
 |row e row l fr=>exact h
 |arr row l=>exact h
 |aX _ _ _ _=>exact h
 |mp _ _ _=>exact h
 |fvar _ _=>exact h
 |dM e j xs i=>
  obtain⟨ys,h1,h2,h3,h4⟩:=h;refine⟨ys,h1,h2,h3,λj' fk=>h4 j' ?_⟩;cases j with
  |none=>cases fk
  |some j0=>
   simp only [de] at fk;cases hp:p j0 with
   |true=>rw [hp] at fk;cases fk
   |false=>rw [hp] at fk;exact fk
 |eE e j l=>cases j with
  |none=>exact h
  |some j=>
   simp only [cd];cases hp:p j with
   |true=>
    obtain⟨xs,h1,h2,h3⟩:=h;exact⟨xs,h1,h2,λ_ h=>by cases h⟩
   |false=>exact h
 |gG e j row l i=>
  obtain⟨xs,v0,h1,h2,h3,h4⟩:=h;refine⟨xs,v0,h1,h2,h3,λj' fk=>?_⟩;cases j with
  |none=>simp [de] at fk
  |some j0=>
   simp only [de] at fk;cases hp:p j0 with
   |true=>rw [hp] at fk;simp at fk
   |false=>
    rw [hp] at fk;exact h4 j' fk
 |views e j n m sz=>
  obtain⟨xs,h1,h2,h3⟩:=h;refine⟨xs,h1,h2,λj' fk i hi=>?_⟩;cases j with
  |none=>simp [de] at fk
  |some j0=>
   simp only [de] at fk;cases hp:p j0 with
   |true=>rw [hp] at fk;simp at fk
   |false=>
    rw [hp] at fk;exact h3 j' fk i hi
mutual
theorem cU(p q:Nat->Bool):∀a,aB q (aB p a)=aB (λk=>p k || q k) a
 |.own k=>by cases hk:p k<;>simp [aB,hk]
 |.pre k _|.view k _ _ _|.ref k _|.elem k _ _ _=>by cases hk:p k<;>simp [aB,hk]
 |.agg cs|.bn cs=>by simp [aB,e9 p q cs]
 |.gp _ cs=>by simp [aB,e9 p q cs]
 |.fn f first aR=>by simp [aB,e9 p q first,e9 p q aR]
 |.cr|.undef|.int _ _|.bool _|.tt|.ff|.str _|.nil|.jQ|.oC _ _|.k7|.sl _ _|.full _ _|.cN _ _ _|.pB _ _=>by simp [aB]
theorem e9(p q:Nat->Bool):∀as_,e8 q (e8 p as_)=e8 (λk=>p k || q k) as_
 |[]=>rfl
 |a::as_=>by simp [e8,cU p q a,e9 p q as_]
end
def mI(p q:Nat->Bool)(j:Option Nat):de q (de p j)=de (λk=>p k || q k) j:=by
 cases j with
 |none=>rfl
 |some k=>cases hp:p k<;>simp [de,hp]
theorem iq(p q:Nat->Bool)(b:AB):cd q (cd p b)=cd (λk=>p k || q k) b:=by
 cases b with
 |eE e j l=>cases j with
  |none=>rfl
  |some j=>cases h:p j<;>simp [cd,wI,h,de]
 |_=>simp [cd,e9,mI]
theorem fa(p q:Nat->Bool)(b:Option AB):bZ q (bZ p b)=bZ (λk=>p k || q k) b:=by
 cases b<;>simp [bZ,iq]
mutual
theorem ON(d:Nat):∀a,dR d a=aB (λk=>Nat.beq k d) a
 |.own k=>rfl
 |.pre k _|.view k _ _ _|.ref k _|.elem k _ _ _=>rfl
 |.agg cs|.bn cs=>by simp [dR,aB,nY d cs]
 |.gp _ cs=>by simp [dR,aB,nY d cs]
 |.fn f first aR=>by simp [dR,aB,nY d first,nY d aR]
 |.cr|.undef|.int _ _|.bool _|.tt|.ff|.str _|.nil|.jQ|.oC _ _|.k7|.sl _ _|.full _ _|.cN _ _ _|.pB _ _=>by simp [dR,aB]
theorem nY(d:Nat):∀as_,fB d as_=e8 (λk=>Nat.beq k d) as_
 |[]=>rfl
 |a::as_=>by simp [fB,e8,ON d a,nY d as_]
end
mutual
theorem rK:∀a,aB (λ_=>false) a=a
 |.own k=>rfl
 |.pre k _|.view k _ _ _|.ref k _|.elem k _ _ _=>rfl
 |.agg cs|.bn cs=>by simp [aB,jx cs]
 |.gp _ cs=>by simp [aB,jx cs]
 |.fn f first aR=>by simp [aB,jx first,jx aR]
 |.cr|.undef|.int _ _|.bool _|.tt|.ff|.str _|.nil|.jQ|.oC _ _|.k7|.sl _ _|.full _ _|.cN _ _ _|.pB _ _=>by simp [aB]
theorem jx:∀as_,e8 (λ_=>false) as_=as_
 |[]=>rfl
 |a::as_=>by simp [e8,rK a,jx as_]
end
def NV(j:Option Nat):de (λ_=>false) j=j:=by cases j<;>rfl
def BW(b:AB):cd (λ_=>false) b=b:=by
 cases b with
 |eE e j l=>cases j<;>rfl
 |_=>simp [cd,jx,NV]
def BX(b:Option AB):bZ (λ_=>false) b=b:=by cases b<;>simp [bZ,BW]
def fL:List (Nat×AB)->Nat->Bool
 |[],_=>false
 |(j,_)::r,k=>Nat.beq k j || fL r k
def pZ:∀(new:List (Nat×AB)) (a:AV),my new a=aB (fL new) a
 |[],a=>by
   have :fL []=λ_=>false:=rfl;rw [this,rK];rfl
 |(j,b)::r,a=>by
  simp only [my];rw [pZ r,ON,cU];rfl
theorem tV(new:List (Nat×AB))(b:AB):bG new b=cd (fL new) b:=by
 induction new generalizing b with
 |nil=>
  have :fL []=λ_=>false:=rfl;rw [this,BW];rfl
 |cons x r ih=>
  obtain⟨k0,y⟩:=x;simp only [bG];rw [ih];cases b with
  |cells cs=>simp only [lI,nY,cd,e9];rfl
  |row _ _ _ _|arr _ _|aX _ _ _ _|fvar _ _|mp _ _ _=>rfl
  |eE e j l=>cases j with
   |none=>rfl
   |some j=>cases h:Nat.beq j k0<;>simp [lI,wI,h,cd,de,fL]
  |dM e j xs i=>
   have :qo k0 j=de (λk=>Nat.beq k k0) j:=by cases j<;>rfl
   simp only [lI,this,cd,mI];rfl
  |views e j n m sz=>
   have :qo k0 j=de (λk=>Nat.beq k k0) j:=by cases j<;>rfl
   simp only [lI,this,cd,mI];rfl
  |gG e j row l i=>
   have :qo k0 j=de (λk=>Nat.beq k k0) j:=by cases j<;>rfl
   simp only [lI,this,cd,mI];rfl
theorem xc:∀(new:List (Nat×AB)) (k:Nat),fL new k=(ah new k).isSome
 |[],_=>rfl
 |(j,b)::r,k=>by
  simp only [fL,ah,xc r k];cases Nat.beq k j<;>simp
structure eo (W:List Nat) (base s:St):Prop where
 pF:∃p,(∀k,p k=true->cy base.kb s.news k=true)/\(∀i,au W i=false->s.t i=aB p (base.t i))/\
  ∀k,au s.b9 k=false->s.h k=bZ p (base.h k)
 n:s.n=base.n
 kb:s.kb=base.kb
 b9:∀k,au base.b9 k=true->au s.b9 k=true
 news:∀k,cy base.kb base.news k=true->cy base.kb s.news k=true
 g:s.g=base.g
theorem cR:∀(a b:List Nat) (k:Nat),au (a++b) k=(au a k || au b k)
 |[],_,_=>rfl
 |j::a,b,k=>by simp only [o?,au,cR a b k,Bool.or_assoc]
theorem cP(kb:Nat):∀(a b:List KS) (k:Nat),cy kb (a++b) k=(cy kb a k || cy kb b k)
 |[],_,_=>rfl
 |j::a,b,k=>by simp only [o?,cy,cP kb a b k,Bool.or_assoc]
theorem eo.refl(W:List Nat)(s:St):eo W s s:=
 ⟨⟨λ_=>false,z!,λi _=>(rK _).symm,λk _=>(BX _).symm⟩,rfl,rfl,λ_ h=>h,λ_ h=>h,rfl⟩
theorem eo.trans {W W':List Nat}{s0 s1 s2:St}(h1:eo W s0 s1)(h2:eo W' s1 s2):eo (W++W') s0 s2:=by
 obtain⟨p,a1,a2,a3⟩:=h1.pF;obtain⟨q,b1,b2,b3⟩:=h2.pF;refine⟨⟨λk=>p k || q k,λk hk=>?_,λi hi=>?_,λk hk=>?_⟩,h2.n.trans h1.n,h2.kb.trans h1.kb,λk h=>h2.b9 k (h1.b9 k h),λk h=>?_,h2.g.trans h1.g⟩
 . rcases e? _ _ |>.mp hk with h|h
   . have:=h2.news k (by rw [h1.kb];exact a1 k h);rwa [h1.kb] at this
   . have:=b1 k h;rwa [h1.kb] at this
 . rw [cR,c?] at hi;rw [b2 i hi.2,a2 i hi.1,cU]
 . have I1:au s1.b9 k=false:=by
    cases h:au s1.b9 k with
    |false=>rfl
    |true=>rw [h2.b9 k h] at hk;cases hk
   rw [b3 k hk,a3 k I1,fa]
 . have:=h2.news k (by rw [h1.kb];exact h1.news k h);rwa [h1.kb] at this
theorem eo.mono {W W':List Nat}{s0 s1:St}(h:eo W s0 s1)(hw:∀i,au W' i=false->au W i=false):eo W' s0 s1:=by
 obtain⟨p,a1,a2,a3⟩:=h.pF;exact⟨⟨p,a1,λi hi=>a2 i (hw i hi),a3⟩,h.n,h.kb,h.b9,h.news,h.g⟩
def OO(kb:Nat):∀(new:List (Nat×AB)) (k:Nat),cy kb (new.map λx=>KS.one x.1) k=fL new k
 |[],_=>rfl
 |(j,b)::r,k=>by simp only [M?,cy,fL,KS.has,OO kb r k]
theorem iC:∀(l:List (Nat×AB)) (k:Nat),au (l.map (·.1)) k=false->ah l k=none
 |[],_,_=>rfl
 |(j,b)::r,k,h=>by
  simp only [M?,au,c?] at h;simp only [ah,h.1,L!];exact iC r k h.2
theorem eo.put(st:St)(d:Option Nat)(out:Out)(W:List Nat)(hd:∀t,d=some t->au W t=true):eo W st (st.put d out):=by
 refine⟨⟨fL out.new,λk hk=>?_,λi hi=>?_,λk hk=>?_⟩,rfl,rfl,λk hk=>?_,λk hk=>?_,rfl⟩
 . show cy st.kb (st.news++_) k=true;rw [cP,OO,hk];simp
 . cases d with
   |none=>exact pZ _ _
   |some t=>
    show(bif Nat.beq i t then out.res else my out.new (st.t i))=_;have :Nat.beq i t=false:=aG (λh=>by subst h;rw [hd i rfl] at hi;cases hi);rw [this];exact pZ _ _
 . have ew:au (out.fE.map (·.1)) k=false/\au out.del k=false/\au (out.new.map (·.1)) k=false:=by
    simp only [St.put,cR,c?] at hk;exact⟨hk.1,hk.2.1,hk.2.2.1⟩
   show vG st.h out k=_;simp only [vG,iC _ _ ew.2.2,ew.2.1,L!,iC _ _ ew.1];cases st.h k with
   |none=>rfl
   |some b=>simp only [bZ,tV]
 . simp only [St.put,cR,hk,Bool.or_true]
 . show cy st.kb (st.news++_) k=true;rw [cP,hk];rfl
def T5(b:Bool){k:Nat}{x y:Option AB}{ab:AB}(h:DT b x y=some ab):(if b then x else y).isSome/\
  ∀c,(if b then x else y)=some c->BR w A β k c->BR w A β k ab:=by
 unfold DT at h;split at h
 . rename_i xs ys;cases hl:Nat.beq xs.length ys.length with
   |false=>simp [hl] at h
   |true=>
    simp only [hl,I!,A!] at h;subst h;refine⟨by cases b<;>rfl,λc hc hr=>?_⟩;have qY:c= .cells (if b then xs else ys):=by cases b<;>simp_all
    subst qY;obtain⟨g,arr,e,h1,h2,h3,h4,h5⟩:=hr;refine⟨g,arr,e,h1,h2,h3,js b xs ys _ (C! hl) ?_,h5⟩;cases b<;>simpa using h4
 . rename_i e r l fr e' r' m FW;split at h
   . rename_i m' hm;cases hq:(Nat.beq e e'&&(fr==FW)) with
     |false=>simp [hq] at h
     |true=>
      simp only [hq,cond_true,Option.some.injEq] at h;subst h;simp only [Bool.and_eq_true,beq_iff_eq] at hq;have he:=Nat.eq_of_beq_eq_true hq.1;have hf:=hq.2;subst he;subst hf;unfold eU at hm;split at hm
      . rename_i hr;have hrr:=Ty.lT _ _ hr;subst hrr;simp only [A!] at hm;subst hm;refine⟨by cases b<;>rfl,λc hc hr=>?_⟩;cases b<;>(simp at hc;subst hc;exact hr)
      . cases hm
   . cases h
 . cases h
theorem aq.merge {b:Bool}{W:List Nat}{base b1 b2 s1 s2 m:St}{a:Act}(hm:vR b W base s1 s2=some m)
  (f1:eo W b1 s1) (e1:∀i,au W i=false->b1.t i=base.t i) (g1:b1.h=base.h) (n1:b1.n=base.n) (k1:b1.kb=base.kb)
  (f2:eo W b2 s2) (e2:∀i,au W i=false->b2.t i=base.t i) (g2:b2.h=base.h) (n2:b2.n=base.n) (k2:b2.kb=base.kb) (hB:aq C A β (if b then s1 else s2) a w) (y1:b1.g=base.g:=by rfl) (y2:b2.g=base.g:=by rfl):aq C A β m a w:=by
 unfold vR at hm;split at hm
 . simp only [A!] at hm;subst hm
   have ht:∀i,au W i=false->∀v,aa w A β v ((if b then s1 else s2).t i)->aa w A β v (aB (cy base.kb (s1.news++s2.news)) (base.t i)):=by
    intro i hi v h;have h':=aBA (aw:=β) (cy base.kb (s1.news++s2.news)) (λ_ _=>rfl) _ _ h;obtain⟨p1,a1,a2,_⟩:=f1.pF;obtain⟨p2,c1,c2,_⟩:=f2.pF;cases b with
    |true=>
     simp only [R?,a2 i hi,e1 i hi,cU] at h'
     have :(λk=>p1 k || cy base.kb (s1.news++s2.news) k)=cy base.kb (s1.news++s2.news):=by
      funext k;cases hp:p1 k with
      |false=>rfl
      |true=>rw [cP,<-k1,a1 k hp];rfl
     rwa [this] at h'
    |false=>
     simp only [O?,w?,c2 i hi,e2 i hi,cU] at h'
     have :(λk=>p2 k || cy base.kb (s1.news++s2.news) k)=cy base.kb (s1.news++s2.news):=by
      funext k;cases hp:p2 k with
      |false=>rfl
      |true=>rw [cP,<-k2,c1 k hp];simp
     rwa [this] at h'
   have hh:∀k,au (s1.b9++s2.b9) k=false->∀ab,bZ (cy base.kb (s1.news++s2.news)) (base.h k)=some ab->∃c,(if b then s1 else s2).h k=some c/\(BR w A β k c->BR w A β k ab):=by
    intro k hk ab h;rw [cR,c?] at hk;obtain⟨p1,a1,_,a3⟩:=f1.pF;obtain⟨p2,c1,_,c3⟩:=f2.pF;cases hb:base.h k with
    |none=>rw [hb] at h;simp [bZ] at h
    |some x=>
     rw [hb] at h;simp only [bZ,A!] at h;subst h;cases b with
     |true=>
      refine⟨cd p1 x,by simp only [R?,a3 k hk.1,g1,hb,bZ],λhr=>?_⟩;have h':=xb (cy base.kb (s1.news++s2.news)) hr;rw [iq] at h'
      have :(λk=>p1 k || cy base.kb (s1.news++s2.news) k)=cy base.kb (s1.news++s2.news):=by
       funext k;cases hp:p1 k with
       |false=>rfl
       |true=>rw [cP,<-k1,a1 k hp];rfl
      rwa [this] at h'
     |false=>
      refine⟨cd p2 x,by simp only [O?,w?,c3 k hk.2,g2,hb,bZ],λhr=>?_⟩;have h':=xb (cy base.kb (s1.news++s2.news)) hr;rw [iq] at h'
      have :(λk=>p2 k || cy base.kb (s1.news++s2.news) k)=cy base.kb (s1.news++s2.news):=by
       funext k;cases hp:p2 k with
       |false=>rfl
       |true=>rw [cP,<-k2,c1 k hp];simp
      rwa [this] at h'
   have hl:∀k ab,(bif au (s1.b9++s2.b9) k then DT b (s1.h k) (s2.h k) else bZ (cy base.kb (s1.news++s2.news)) (base.h k))=some ab->
     ∃c,(if b then s1 else s2).h k=some c/\(BR w A β k c->BR w A β k ab):=by
    intro k ab h;cases hd:au (s1.b9++s2.b9) k with
    |false=>rw [hd] at h;exact hh k hd ab h
    |true=>
     rw [hd] at h;simp only [I!] at h;obtain⟨x1,x2⟩:=T5 (w:=w) (A:=A) (β:=β) (k:=k) b h;obtain⟨c,hc⟩:=P!.1 x1;refine⟨c,by cases b<;>simpa using hc,x2 c hc⟩
   have eV:∀k,(bif au (s1.b9++s2.b9) k then DT b (s1.h k) (s2.h k) else bZ (cy base.kb (s1.news++s2.news)) (base.h k)).isSome->((if b then s1 else s2).h k).isSome:=by
    intro k hk;obtain⟨ab,ku⟩:=P!.1 hk;obtain⟨c,hc,_⟩:=hl k ab ku;simp [hc]
   refine⟨hB.defers,?_,?_,?_,λk k' b' h1 h2=>hB.apart k k' b' (eV k h1) (eV k' h2),hB.bound,hB.frame,hB.gH,hB.base,λk b' h1=>hB.lK k b' (eV k h1),λi d hd=>hB.nR i d (by
    cases b
    . exact(congrFun (f2.g.trans y2) i).trans hd
    . exact(congrFun (f1.g.trans y1) i).trans hd),hB.laid,hB.held⟩
   . rw [hB.size];cases b
     . exact f2.n.trans n2
     . exact f1.n.trans n1
   . intro i;have hi:=hB.tmps i;show aa w A β _ (bif au W i then DS b (s1.t i) (s2.t i) else _);cases hW:au W i with
     |false=>exact ht i hW _ hi
     |true=>
      refine BI b _ _ ?_;cases b<;>simpa using hi
   . intro k ab ku;obtain⟨c,hc,hr⟩:=hl k ab ku;exact hr (hB.blocks k c hc)
 . cases hm
theorem eo.merge {b:Bool}{W:List Nat}{base s1 s2 m:St}(hm:vR b W base s1 s2=some m):eo W base m:=by
 unfold vR at hm;split at hm
 . simp only [A!] at hm;subst hm;refine⟨⟨cy base.kb (s1.news++s2.news),λk hk=>?_,λi hi=>?_,λk hk=>?_⟩,rfl,rfl,λk hk=>?_,λk hk=>?_,rfl⟩
   . simp only [cP] at hk |-;simp [hk]
   . simp only [hi,L!]
   . simp only [cR,c?] at hk;simp only [cR,hk.1.1,hk.1.2,Bool.or_self,L!]
   . simp only [cR,hk,Bool.or_true]
   . simp only [cP,hk,Bool.true_or]
 . cases hm
end
end Go.Vg

end
section
namespace Go.Vg
open Go
variable [HP]
def gM(s r:St):Prop:=s.t=r.t/\s.h=r.h/\s.n=r.n/\s.kb=r.kb/\s.g=r.g
theorem gM.refl(s:St):gM s s:=⟨rfl,rfl,rfl,rfl,rfl⟩
theorem gM.symm {s r:St}(h:gM s r):gM r s:=⟨h.1.symm,h.2.1.symm,h.2.2.1.symm,h.2.2.2.1.symm,h.2.2.2.2.symm⟩
theorem gM.trans {s r q:St}(h:gM s r)(g:gM r q):gM s q:=⟨h.1.trans g.1,h.2.1.trans g.2.1,h.2.2.1.trans g.2.2.1,h.2.2.2.1.trans g.2.2.2.1,h.2.2.2.2.trans g.2.2.2.2⟩
def ja(g:Bool)(d:Option Nat)(st:St):St:=match d with
 |some d=>bif g then {st with t:=λi=>bif Nat.beq i d then KC (st.t i) else st.t i} else st
 |none=>st
structure jy (E:Env) (ops:List Oper) (e:Ev) (s s':St):Prop where
 op:ops[e.i]? =some e.o
 dst:eJ s e.o=true
 kr:e.kr=iX E s e.o
 step:match e.out with
  |none=>Kz ops s.t e.o=some false
  |some out=>Kz ops s.t e.o=some true/\act E s e.o=some out/\iy s.h out.new=true/\∀p∈out.cond,p
 next :gM s' (ja (la ops e.i) e.o.dst (s.put e.o.dst e.ca))
def sC(E:Env)(ops:List Oper):List Ev->St->St->Prop
 |[],s,s'=>gM s' s
 |e::es,s,s'=>∃s1,jy E ops e s s1/\sC E ops es s1 s'
def Re(kb:Nat)(ops:List Oper):List Ev->List Ev->Prop
 |_,[]=>True
 |tr,f::es=>lN kb true ops tr f=true/\f.pre=kG tr f.o.after.toList/\Re kb ops (f::tr) es
section
variable {P:Program} {C:Ctx} {A:Nat->Prop} {β:Nat->Value} {st:St} {a:Act} {w:World} {E:Env}
theorem aq.seq {s r:St}(hB:aq C A β s a w)(h:gM r s):aq C A β r a w:=by
 obtain⟨h1,h2,h3,h4,h5⟩:=h;refine⟨hB.defers,by rw [h3];exact hB.size,by rw [h1];exact hB.tmps,by rw [h2];exact hB.blocks,by rw [h2];exact hB.apart,hB.bound,hB.frame,hB.gH,hB.base,by rw [h2];exact hB.lK,by rw [h5];exact hB.nR,hB.laid,hB.held⟩
def abV {x:AV}{v:Value}(h:aa w A β v x):aa w A β v (KC x):=by
 cases x with
 |bool b=>grind[KC,aa]
 |_=>exact h
def aq.lit(g:Bool)(d:Option Nat)(hB:aq C A β st a w):aq C A β (ja g d st) a w:=by
 cases d with
 |none=>exact hB
 |some d=>
  cases g with
  |false=>exact hB
  |true=>
   refine⟨hB.defers,hB.size,λi=>?_,hB.blocks,hB.apart,hB.bound,hB.frame,hB.gH,hB.base,hB.lK,hB.nR,hB.laid,hB.held⟩;show aa w A β _ (bif Nat.beq i d then KC (st.t i) else st.t i);cases Nat.beq i d with
   |false=>exact hB.tmps i
   |true=>exact abV (hB.tmps i)
def gM.ja {s r:St}(h:gM s r)(g:Bool)(d:Option Nat):gM (ja g d s) (ja g d r):=by
 obtain⟨h1,h2,h3,h4⟩:=h;cases d with
 |none=>exact⟨h1,h2,h3,h4⟩
 |some d=>
  cases g with
  |false=>exact⟨h1,h2,h3,h4⟩
  |true=>exact⟨by simp_all[Vg.ja,I!],h2,h3,h4⟩
theorem getD_some {a:Array Value}{i:Nat}{v:Value}(h:a.getD i undef=v)(hv:v≠undef):a[i]? =some v:=by
 rw [Array.getD_eq_getD_getElem?] at h;grind
def OP(hB:aq C A β st a w){ops:Array Oper}{o:Oper}{x:Bool}(h:Kz ops.toList st.t o=some x):Region.wanted o (yielded ops a.tmps)=x:=by
 unfold Kz at h;unfold Region.wanted;cases hg:o.guard with
 |none=>grind
 |some jw=>
  obtain⟨j,want⟩:=jw;rw [hg] at h;simp only at h |-;unfold CG at h;cases ho:ops[j]? with
  |none=>grind
  |some oj=>
   simp only [U?,ho] at h;cases hd:oj.dst with
   |none=>grind
   |some g=>
    have ht:=hB.tmps g;cases hv:st.t g with
    |tt=>
     rw [hv] at ht;have:=getD_some ht (by simp [undef])
     simp_all[yielded,Option.bind_some]
    |ff=>
     rw [hv] at ht;have:=getD_some ht (by simp [undef])
     simp_all[yielded,Option.bind_some]
    |undef=>
     rw [hv] at ht;have :yielded ops a.tmps j=none:=by
      simp only [yielded,ho,hd,Option.bind_some];cases hx:a.tmps[g]? with
      |none=>rfl
      |some v=>
       rw [B?,hx] at ht;subst ht;rfl
     grind
    |_=>grind
def aq.afo(hB:aq C A β st a w){d:Option Nat}(hd:∀t,d=some t->t<st.n):aq C A β (st.put d .skip) (a.put d undef) w:=
 hB.pure hd (c:=[]) (r:=.undef) (by rfl)
def abW {o:Oper}(h:eJ st o=true):∀t,o.dst=some t->t<st.n:=by
 intro t ht;simp_all[eJ,M!]
theorem oQ(hE:cQ P C E){ops:Array Oper}{e:Ev}{s s':St}(hf:jy E ops.toList e s s')(hR:Rel C s a w){K:Act->World->Prop}{Q:Exit->Act->World->Prop}
  (hK:∀a' w',Rel C s' a' w'->K a' w'):wpOp P ops Q e.i K a w:=by
 obtain⟨A,β,hB⟩:=hR;have ho:ops[e.i]? =some e.o:=by have:=hf.op;grind
 unfold wpOp;simp [ho];have qX:=hf.step;have KH:=hf.next;unfold Ev.ca at KH;cases tN:e.out with
 |none=>
  rw [tN] at qX KH;rw [OP hB qX];exact hK _ _ ⟨A,β,((hB.afo (abW hf.dst)).lit _ _).seq KH⟩
 |some out=>
  rw [tN] at qX KH;obtain⟨h1,h2,h3,h4⟩:=qX;rw [OP hB h1];refine .inl (WM hE hB h2 hf.dst h3 h4 λa' w' eQ=>?_);obtain⟨A',aw,pY⟩:=eQ;exact hK _ _ ⟨A',aw,(pY.lit _ _).seq KH⟩
def zj(hE:cQ P C E){ops:Array Oper}{Q:Exit->Act->World->Prop}:∀(es:List Ev) (s s':St) (a:Act) (w:World),sC E ops.toList es s s'->Rel C s a w->
  (∀a' w',Rel C s' a' w'->Q .normal a' w')->wpOps P ops Q (es.map (·.i)) a w
 |[],s,s',a,w,hx,hR,hQ=>by
   obtain⟨A,β,hB⟩:=hR;exact hQ _ _ ⟨A,β,hB.seq hx⟩
 |e::es,s,s',a,w,hx,hR,hQ=>by
  obtain⟨s1,h1,h2⟩:=hx;exact oQ hE h1 hR λa' w' eQ=>zj hE es s1 s' a' w' h2 eQ hQ
theorem vT:∀(ps:List Prop),HA ps->∀p∈ps,p
 |[],_,p,hp=>by grind
 |[q],h,p,hp=>by
   rcases N!.1 hp with rfl|hp
   . exact h
   grind
 |q::r::rs,h,p,hp=>by
  rcases N!.1 hp with rfl|hp
  . exact h.1
  . exact vT (r::rs) h.2 p hp
def AT {b:Bool}{W:List Nat}{base:St}{r1 r2:Option (List Prop×St)}{cs:List Prop}{m:St}(h:both b W base r1 r2=some (cs,m)):
  ∃c1 s1 c2 s2,r1=some (c1,s1)/\r2=some (c2,s2)/\vR b W base s1 s2=some m/\cs=Jn b c1 c2:=by
 unfold both at h;grind
def HT {b:Bool}{c1 c2:List Prop}(h:∀p∈Jn b c1 c2,p):(b=true->∀p∈c1,p)/\(b=false->∀p∈c2,p):=by
 unfold Jn at h;grind[List.mem_cons_self,vT]
def ny {c:List Prop}{r:Option (List Prop×St)}{cs:List Prop}{m:St}(h:AO c r=some (cs,m)):∃c',r=some (c',m)/\cs=c++c':=by
 unfold AO at h;grind
def T6 {d:Nat}{b:Bool}(hv:st.t d= .bool b):gM (st.lit d (bif b then .tt else .ff)) (ja true (some d) st):=by
 refine⟨?_,rfl,rfl,rfl,rfl⟩;funext i;simp [St.lit,ja,I!];by_cases hi:i=d
 . simp_all[hi,ct,I!,KC]
 simp_all[aG,hi,L!]
theorem T7 {d:Nat}(hv:∀b,st.t d≠ .bool b):gM st (ja true (some d) st):=by
 refine⟨?_,rfl,rfl,rfl,rfl⟩;funext i;simp [ja,I!];by_cases hi:i=d
 . subst hi;simp;cases hx:st.t i with
   |bool b=>grind
   |_=>rfl
 simp_all[aG,hi,L!]
def WO {g:Bool}{W:List Nat}{d:Option Nat}{next :St->Option (List Prop×St)}{cs:List Prop}{m:St}(h:fork g W d st next=some (cs,m))
  (hF:∀s0 c s,next s0=some (c,s)->eo W s0 s) {W':List Nat} (hW:∀i,au W' i=false->au W i=false) (ht:∀t,d=some t->au W' t=true):eo W' st m:=by
 unfold fork at h;cases d with
 |none=>exact(hF _ _ _ h).mono hW
 |some d=>
  simp at h;cases g with
  |false=>exact(hF _ _ _ h).mono hW
  |true=>
   split at h
   . obtain⟨c1,s1,c2,s2,r1,r2,hm,rfl⟩:=AT h;refine(eo.merge hm).mono λi hi=>?_;grind[au,Bool.or_eq_false_iff,aG]
   . exact(hF _ _ _ h).mono hW
def OQ {g:Bool}{W:List Nat}{d:Option Nat}{next :St->Option (List Prop×St)}{cs:List Prop}{m:St}(h:fork g W d st next=some (cs,m))(dm:∀p∈cs,p)
  (hF:∀s0 c s,next s0=some (c,s)->eo W s0 s):
  ∃s0 c s,gM s0 (ja g d st)/\next s0=some (c,s)/\(∀p∈c,p)/\(∀(C:Ctx) A β a w,aq C A β s a w->aq C A β m a w):=by
 unfold fork at h;cases d with
 |none=>exact⟨st,cs,m,gM.refl _,h,dm,λ_ _ _ _ _ hB=>hB⟩
 |some d=>
  simp at h;cases g with
  |false=>exact⟨st,cs,m,gM.refl _,h,dm,λ_ _ _ _ _ hB=>hB⟩
  |true=>
   split at h
   . rename_i b hv;obtain⟨c1,s1,c2,s2,r1,r2,hm,rfl⟩:=AT h;have hc:=HT dm
     have e:∀x,∀i,au (d::W) i=false->(st.lit d x).t i=st.t i:=by
      intro x i hi;simp [au,c?] at hi;simp [St.lit,hi.1,L!]
     refine⟨st.lit d (bif b then .tt else .ff),if b then c1 else c2,if b then s1 else s2,T6 hv,?_,?_,λC A β a w hB=>?_⟩
     . cases b
       . exact r2
       . exact r1
     . cases b
       . exact hc.2 rfl
       . exact hc.1 rfl
     . have f1:=hF _ _ _ r1;have f2:=hF _ _ _ r2
       exact hB.merge hm (f1.mono λi hi=>by simp [au,c?] at hi;exact hi.2) (e _) rfl rfl rfl
        (f2.mono λi hi=>by simp [au,c?] at hi;exact hi.2) (e _) rfl rfl rfl
   grind[T7]
def Gl {o:Oper}{rest:List Oper}:∀t,o.dst=some t->au (dK (o::rest)) t=true:=by
 simp_all[dK,au,ct,Bool.true_or]
def CJ {o:Oper}{rest:List Oper}:∀i,au (dK (o::rest)) i=false->au (dK rest) i=false:=by
 grind[hi,dK,au,Bool.or_eq_false_iff]
theorem l9 {dr:Bool}{ops:List Oper}:∀(rest:List Oper) (i:Nat) (tr:List Ev) (st:St) (cs:List Prop) (m:St),pE E dr ops i tr rest st=some (cs,m)->eo (dK rest) st m
 |[],i,tr,st,cs,m,h=>by
   grind[pE,Option.some.injEq,Prod.mk.injEq,eo.refl]
 |o::rest,i,tr,st,cs,m,h=>by
  have afp:∀W i,au W i=false->au (W++W) i=false:=λW i hi=>by grind[cR]
  simp [pE] at h;split at h
  . cases h
  . cases hq:(eJ st o&&lN st.kb dr ops tr ⟨i,o,none,iX E st o,kG tr o.after.toList⟩) with
    |false=>grind
    |true=>
     simp [hq,I!] at h;have:=l9 rest _ _ _ _ _ h;exact((eo.put st o.dst .skip _ Gl).trans (this.mono CJ)).mono (afp _)
  . split at h
    . cases h
    . rename_i out l7;cases hq:(eJ st o&&(iy st.h out.new&&lN st.kb dr ops tr ⟨i,o,some out,iX E st o,kG tr o.after.toList⟩)) with
      |false=>grind
      |true=>
       simp [hq,I!] at h;obtain⟨c',h',_⟩:=ny h;have:=WO h' (λs0 c s hn=>l9 rest _ _ _ _ _ hn) CJ Gl;exact((eo.put st o.dst out _ Gl).trans this).mono (afp _)
theorem Es {g:Bool}{d:Option Nat}:gM (ja g d (st.put d .skip)) (st.put d .skip):=by
 cases d with
 |none=>exact gM.refl _
 |some d=>
  cases g with
  |false=>exact gM.refl _
  |true=>
   refine⟨?_,rfl,rfl,rfl,rfl⟩;funext i;simp [ja,I!,St.put,Out.skip];by_cases hi:i=d
   . simp_all[hi,ct,I!,KC]
   simp_all[aG,hi,L!]
theorem KI {kb:Nat}{dr:Bool}{ops:List Oper}{tr:List Ev}{f:Ev}(h:lN kb dr ops tr f=true)(hd:dr=true):lN kb true ops tr f=true:=by grind
def sD {dr:Bool}{ops:List Oper}:∀(rest:List Oper) (i:Nat) (tr:List Ev) (st:St) (cs:List Prop) (m:St),pE E dr ops i tr rest st=some (cs,m)->(∀p∈cs,p)->
  (∀k,rest[k]? =ops[i+k]?)->
  ∃es sl,sC E ops es st sl/\es.map (·.i)=List.range' i rest.length/\(dr=true->Re st.kb ops tr es)/\∀(C:Ctx) A β a w,aq C A β sl a w->aq C A β m a w
 |[],i,tr,st,cs,m,h,dm,hl=>by
   simp [pE,Option.some.injEq,Prod.mk.injEq] at h;exact⟨[],st,gM.refl _,rfl,λ_=>trivial,λ_ _ _ _ _ hB=>by grind⟩
 |o::rest,i,tr,st,cs,m,h,dm,hl=>by
  have h0:ops[i]? =some o:=by simpa using(hl 0).symm
  have jU:∀k,rest[k]? =ops[i+1+k]? :=λk=>by have:=hl (k+1);grind
  simp [pE] at h;split at h
  . cases h
  . rename_i hg;cases hq:(eJ st o&&lN st.kb dr ops tr ⟨i,o,none,iX E st o,kG tr o.after.toList⟩) with
    |false=>grind
    |true=>
     simp [hq,cond_true] at h;rw [Bool.and_eq_true] at hq;obtain⟨es,sl,h1,h2,h3,h4⟩:=sD rest _ _ _ _ _ h dm jU;refine⟨⟨i,o,none,iX E st o,kG tr o.after.toList⟩::es,sl,⟨st.put o.dst .skip,⟨h0,hq.1,rfl,hg,Es.symm⟩,h1⟩,?_,λhd=>⟨KI hq.2 hd,rfl,h3 hd⟩,h4⟩;grind[List.length_cons,List.range'_succ]
  . rename_i hg;split at h
    . cases h
    . rename_i out l7;cases hq:(eJ st o&&(iy st.h out.new&&lN st.kb dr ops tr ⟨i,o,some out,iX E st o,kG tr o.after.toList⟩)) with
      |false=>grind
      |true=>
       simp [hq,I!] at h;rw [B!,B!] at hq;obtain⟨c',h',rfl⟩:=ny h;obtain⟨s0,c,s,e1,e2,e3,e4⟩:=OQ h' (λp hp=>dm p (A? _ hp)) (λs0 c s hn=>l9 rest _ _ _ _ _ hn);obtain⟨es,sl,h1,h2,h3,h4⟩:=sD rest _ _ _ _ _ e2 e3 jU;refine⟨⟨i,o,some out,iX E st o,kG tr o.after.toList⟩::es,sl,⟨s0,⟨h0,hq.1,rfl,⟨hg,l7,hq.2.1,λp hp=>dm p (U! _ hp)⟩,e1⟩,h1⟩,?_,λhd=>⟨KI hq.2.2 hd,rfl,by have:=h3 hd;rw [show s0.kb=st.kb from e1.2.2.2.1.trans (by cases o.dst<;>cases la ops i<;>rfl)] at this;exact this⟩,λC A β a w hB=>e4 _ _ _ _ _ (h4 _ _ _ _ _ hB)⟩;rw [M?,h2,G?,List.range'_succ]
def zk {ops:Array Oper}{Q:Exit->Act->World->Prop}{i:Nat}{rest:List Nat}{o:Oper}(h:ops[i]? =some o)(hg:o.guard=none)(hw:o.wp P a w (wpOps P ops Q rest) Q):wpOps P ops Q (i::rest) a w:=by
 simp_all[wpOps,R!,Region.wanted]
structure ê (w w':World) (es:Array MapEntry) (ck:Nat):Prop where
 os:w'.os=w.os
 tape:w'.tape=w.tape
 output:w'.output=w.output
 size:w'.heap.size=w.heap.size+1
 same:∀b,b<w.heap.size->w'.heap[b]? =w.heap[b]?
 there:w'.heap[w.heap.size]? =some (.map es ck)
def WQ {d:Nat}{o:Oper}{t:TypeId}{k:Int}{x:Operand}(h:Q8 d o=some (t,k,x)):o.op= .insert t (.tmp d) (.const (.int .i64 k)) x/\o.dst=none/\o.guard=none:=by
 unfold Q8 at h;split at h
 . rename_i t' d' k' x' h1 h2 h3;cases hb:Nat.beq d' d with
   |false=>grind
   |true=>
    simp_all
 grind
theorem Et(st:St)(t d:Nat):∀r,(dD st t d r).2.2=r.drop (dD st t d r).1.length/\(dD st t d r).1.length<=r.length
 |[]=>⟨rfl,S! _⟩
 |o::r=>by
  simp [dD];split
  . rename_i t' k x hx;cases hb:(Nat.beq t' t&&AP d x&&decide (lo .i64<=k/\k<=hi .i64)) with
    |false=>grind
    |true=>
     simp_all[Et,I!,G?,List.drop_succ_cons]
  grind
theorem HU(st:St)(t d:Nat):∀r,(dD st t d r).2.1.length=(dD st t d r).1.length
 |[]=>rfl
 |o::r=>by
  simp only [dD];split
  . rename_i t' k x hx;cases hb:(Nat.beq t' t&&AP d x&&decide (lo .i64<=k/\k<=hi .i64)) with
    |false=>rfl
    |true=>simp_all[I!,G?,HU]
  . rfl
theorem tW {T:bY}{ops rest:List Oper}{d:Nat}{ks:List Int}{vs:List AV}(h:xa T st ops=some (d,ks,vs,rest)):
  ∃o r t te kt et,ops=o::r/\o.op= .makeMap t none/\o.dst=some d/\o.guard=none/\T.find t=some te/\te.desc= .map kt et/\cE T kt uG=true/\fS ks=true/\d<st.n/\dD st t d r=(ks,vs,rest):=by
 cases ops with
 |nil=>grind[xa]
 |cons o r=>
  simp [xa] at h;split at h
  . rename_i t d' h1 h2 h3;split at h
    . rename_i te iz;split at h
      . rename_i kt et hd;cases hb:(cE T kt uG&&fS (dD st t d' r).1&&Nat.blt d' st.n) with
        |false=>grind
        |true=>
         rw [hb] at h;simp at h;obtain⟨rfl,h⟩:=h;simp only [Bool.and_eq_true] at hb;exact⟨o,r,t,te,kt,et,rfl,h1,h2,h3,iz,hd,hb.1.1,x!,Nat.le_of_ble_eq_true hb.2,h⟩
      grind
    grind
  grind
def Eu {T:bY}{ops rest:List Oper}{d:Nat}{ks:List Int}{vs:List AV}(h:xa T st ops=some (d,ks,vs,rest)):rest=ops.drop (ks.length+1):=by
 grind[tW,Et]
def T8 {T:bY}{ops rest:List Oper}{d:Nat}{ks:List Int}{vs:List AV}(h:xa T st ops=some (d,ks,vs,rest)):vs.length=ks.length:=by
 grind[tW,HU]
def HV {k:Int}:∀ {l:List Int},fS (l++[k])=true->k∉l
 |[],_=>by simp
 |j::l,h=>by
  simp [o?,fS,B!,J?] at h;have h1:=HV h.2;rintro(_|q)
  . have :JZ k (l++[k])=true:=(r9 _ _).2 z!;rw [this] at h;cases h.1
  . exact h1 (by assumption)
def KJ:∀ {l m:List Int},fS (l++m)=true->fS l=true
 |[],_,_=>rfl
 |j::l,m,h=>by
  simp [o?,fS,B!,J?] at h |-;refine⟨?_,KJ h.2⟩;cases q:JZ j l with
  |false=>rfl
  |true=>rw [(r9 _ _).2 (U! _ ((r9 _ _).1 q))] at h;cases h.1
theorem Ew:∀(as_:List AV) (vs:List Value) (x:AV) (v:Value),ae w A β vs as_->aa w A β v x->ae w A β (vs++[v]) (as_++[x])
 |[],vs,x,v,h,hx=>by
   grind[ae]
 |a::as_,vs,x,v,h,hx=>by
  obtain⟨u,bS,rfl,h1,h2⟩:=h;exact⟨u,bS++[v],rfl,h1,Ew as_ bS x v h2 hx⟩
def abX {d:Nat}{v:Value}{x:Operand}(h:AP d x=true):(a.put (some d) v).eval x=a.eval x:=by
 cases x with
 |tmp i=>
  simp [AP,Bool.not_eq_true'] at h;have :i≠d:=by grind[ct]
  simp only [Act.eval,Act.put];rw [Array.getD_eq_getD_getElem?,Array.getD_eq_getD_getElem?,Array.getElem?_setIfInBounds];grind
 |_=>rfl
def T9 {T:bY}(hT:bx T P)(hB:aq C A β st a w){ops:Array Oper}{Q:Exit->Act->World->Prop}{d t kt et:Nat}(hd:d<st.n)(ht:P.underlying t=some (.map kt et))(tB:P.underlying kt=some (.int .i64)):
  ∀(r:List Oper) (i:Nat) (es:Array MapEntry) (ck:Nat) (w':World) (k0:List Int) (c0:List AV),(∀k,r[k]? =ops[i+k]?)->ê w w' es ck->es.toList.map (·.key)=k0.map (Value.int .i64)->ae w A β (es.toList.map (·.val)) c0->
   fS (k0++(dD st t d r).1)=true->
   (∀NC WR ck',ê w NC WR ck'->WR.toList.map (·.key)=(k0++(dD st t d r).1).map (Value.int .i64)->ae w A β (WR.toList.map (·.val)) (c0++(dD st t d r).2.1)->
     wpOps P ops Q (List.range' (i+(dD st t d r).1.length) (dD st t d r).2.2.length) (a.put (some d) (.map (some w.heap.size))) NC)->
   wpOps P ops Q (List.range' i r.length) (a.put (some d) (.map (some w.heap.size))) w'
 |[],i,es,ck,w',k0,c0,_,hm,hk,hv,_,hK=>by
   grind[dD]
 |o::r,i,es,ck,w',k0,c0,hl,hm,hk,hv,hn,hK=>by
  have stop:dD st t d (o::r)=([],[],o::r)->wpOps P ops Q (List.range' i (o::r).length) (a.put (some d) (.map (some w.heap.size))) w':=by
   grind
  cases ho:Q8 d o with
  |none=>grind[dD]
  |some p=>
   obtain⟨t',k,x⟩:=p;cases hb:(Nat.beq t' t&&AP d x&&decide (lo .i64<=k/\k<=hi .i64)) with
   |false=>exact stop (by simp only [dD,ho,hb,L!])
   |true=>
    have e:dD st t d (o::r)=(k::(dD st t d r).1,ev st x::(dD st t d r).2.1,(dD st t d r).2.2):=by simp_all[dD,I!]
    obtain⟨o1,o2,o3⟩:=WQ ho;simp only [B!] at hb;have htt:=C! hb.1.1;subst htt;rw [e] at hn hK;simp only at hn hK;have h0:ops[i]? =some o:=by simpa using(hl 0).symm
    have jU:∀k,r[k]? =ops[i+1+k]? :=λk=>by have:=hl (k+1);grind
    have Gj:k∉k0:=HV (KJ (m:=(dD st t' d r).1) x!);have hx:=az hB x;have cZ:d<a.tmps.size:=by rw [hB.size];omega
    have hem:(a.put (some d) (.map (some w.heap.size))).eval (.tmp d)= .map (some w.heap.size):=by
     simp_all[Act.eval,Act.put]
    have fg:(Instr.mapUpdate t' (.map (some w.heap.size)) (.int .i64 k) (a.eval x)).run P w'= .ok () {w' with heap:=w'.heap.setIfInBounds w.heap.size (.map (es.push {key:=.int .i64 k,val:=a.eval x,born:=ck}) (ck+1))}:=by
     have hc:(Instr.checkKey false 10000 kt (.int .i64 k)).run P w'= .ok () w':=MapKept.run_checkKey tB (by rfl) false 9999;simp [Instr.mapUpdate,run_underlying ht,MapKept.run_getObj_map hm.there,hc,MapKept.run_findKey tB (qv k es.toList k0 0 hk Gj),MapKept.run_setObj_map _ hm.there,Result.andThen]
    have T2:∀(v:Value) (b:Act),b.put none v=b:=λ_ _=>rfl;refine(zk h0 o3 ?_);refine mA (w':={w' with heap:=w'.heap.setIfInBounds w.heap.size (.map (es.push {key:=.int .i64 k,val:=a.eval x,born:=ck}) (ck+1))}) ?_ ?_
    . simp only [execOp,o1,hem,abX hb.1.2];have :(a.put (some d) (.map (some w.heap.size))).eval (.const (.int .i64 k))= .int .i64 k:=rfl;simp_all
    . rw [o2,T2];refine T9 hT hB hd ht tB r (i+1) (es.push {key:=.int .i64 k,val:=a.eval x,born:=ck}) (ck+1) _ (k0++[k]) (c0++[ev st x]) jU ⟨hm.os,hm.tape,hm.output,?_,?_,?_⟩ ?_ ?_ x! ?_
      . simp [hm.size]
      . intro b ek;rw [(MapKept.heap_set hm.there).2 b w!];exact hm.same b ek
      . exact(MapKept.heap_set hm.there).1
      . grind
      . grind[Array.toList_push,Ew]
      grind
def Ua {T:bY}(hT:bx T P){ops:Array Oper}{rest:List Oper}{d:Nat}{ks:List Int}{vs:List AV}{Q:Exit->Act->World->Prop}(h:xa T st ops.toList=some (d,ks,vs,rest))(hR:Rel C st a w)
  (hK:∀a' w',Rel C (st.put (some d) {cond:=[],res:=.gp ks vs}) a' w'->wpOps P ops Q (List.range' (ks.length+1) rest.length) a' w'):wpOps P ops Q (List.range' 0 ops.toList.length) a w:=by
 obtain⟨A,β,hB⟩:=hR;obtain⟨o,r,t,te,kt,et,ho,o1,o2,o3,iz,hd,I1,hk2,hdn,hi⟩:=tW h;obtain⟨hu,_⟩:=hT.ok t te iz;rw [hd] at hu
 have tB:P.underlying kt=some (.int .i64):=by
  unfold cE at I1;split at I1
  . rename_i tk yR;obtain⟨hku,_⟩:=hT.ok kt tk yR;grind[uG]
  grind
 have h0:ops[0]? =some o:=by rw [<-U?,ho];rfl
 have jU:∀k,r[k]? =ops[0+1+k]? :=λk=>by
  rw [<-U?,ho,show 0+1+k=k+1 by omega];rfl
 rw [ho,G?,List.range'_succ];refine zk h0 o3 ?_;refine bz (v:=.map (some w.heap.size)) (w':=w.alloc (.map #[] 0)) ?_ ?_
 . simp [execOp,o1,Instr.makeMap]
 . rw [o2];have hn:fS ([]++(dD st t d r).1)=true:=by grind
   refine T9 hT hB hdn hu tB r (0+1) #[] 0 _ [] [] jU ⟨rfl,rfl,rfl,z!,λb hb=>lZ _ b hb,heap_alloc_new w _⟩ rfl (by rfl) hn ?_;intro NC es ck m1 m2 m3;rw [hi] at m2 m3 |-;have e:0+1+ks.length=ks.length+1:=by omega
   simp only [e];refine hK _ _ ⟨λb=>A b\/b=w.heap.size,β,?_⟩;have yq:b7 w NC A (λb=>A b\/b=w.heap.size):=λb hb=>⟨.inl hb,m1.same b (hB.bound b hb)⟩
   refine hB.step (out:={cond:=[],res:=.gp ks vs}) (λt ht=>by grind) (λk b hk=>by grind[ah]) (λk b hk=>by grind[ah]) (λ_ _=>rfl) yq m1.os m1.tape m1.output (by rw [m1.size];omega)
    (λb hb _=>m1.same b hb) (λb hb=>?_) (λb hb=>?_) (λk ab hk=>by grind[ah]) (λk ab hk=>by grind[ah]) (λk b ab hk=>by grind[ah]) (λk k' b hk=>by grind[ah]) ?_
   . rw [m1.size];rcases hb with hb|hb
     . have:=hB.bound b hb;omega
     omega
   . grind
   . exact⟨w.heap.size,es,ck,rfl,.inr rfl,⟨es,m1.there,.refl _⟩,m2,cu yq _ _ m3⟩
theorem Rf(hE:cQ P C E){id:Nat}{ops:Array Oper}{cs:List Prop}{m:St}(h:BV E false ops.toList st=some (cs,m))(dm:∀p∈cs,p)
  (hR:Rel C st a w) {Q:Exit->Act->World->Prop} (hQ:∀a' w',Rel C m a' w'->Q .normal a' w'):(Code.region id ops false).wp P Q a w:=by
 simp [BV,L!] at h;split at h
 . rename_i d ks vs rest hp;refine wp_region ?_;have hl:=Eu hp;rw [T8 hp] at h
   have:=Ua (Q:=Q) hE.eA hp hR λa' w' eQ=>by
    obtain⟨es,sl,h1,h2,_,h4⟩:=sD rest (ks.length+1) [] _ cs m h dm (λk=>by grind);have:=zj (Q:=Q) hE es _ sl a' w' h1 eQ (λa'' NC ⟨A,β,hB⟩=>hQ _ _ ⟨A,β,h4 _ _ _ _ _ hB⟩);grind
   grind[Array.length_toList,List.range_eq_range']
 obtain⟨es,sl,h1,h2,_,h4⟩:=sD ops.toList 0 [] st cs m h dm (λk=>by simp);refine wp_region ?_;have:=zj (Q:=Q) hE es st sl a w h1 hR (λa' w' ⟨A,β,hB⟩=>hQ _ _ ⟨A,β,h4 _ _ _ _ _ hB⟩);grind[Array.length_toList,List.range_eq_range']
theorem eo.ahead(st:St)(W:List Nat):eo W st (st.ahead W):=by
 refine⟨⟨cy st.kb (W.map .dst),λk hk=>?_,λi _=>rfl,λk _=>rfl⟩,rfl,rfl,λk h=>h,λk h=>?_,rfl⟩
 . simp_all[St.ahead,cP,Bool.or_true]
 simp_all[St.ahead,cP,Bool.true_or]
theorem AU {L:List Nat}:∀(ops:List Oper),dK (ops.map (eB L))=dK ops
 |[]=>rfl
 |o::r=>by
  have :(eB L o).dst=o.dst:=by unfold eB;split<;>rfl
  simp only [M?,dK,this,AU r]
def OR {p:Oper->Bool}{i:Nat}:∀(ops:List Oper),au (dK ops) i=false->au (dK (ops.filter p)) i=false
 |[],h=>h
 |o::r,h=>by
  have h2:=OR (p:=p) r (CJ i h);rw [List.filter_cons];split
  . unfold dK at h |-;split<;>grind[au]
  . exact h2
theorem eo.cut(st:St)(W:List Nat):eo W st st.cut:=
 ⟨⟨λk=>Nat.beq k dq,λk hk=>by simp only [St.cut,cP,cy,KS.has,hk,Bool.or_true,Bool.true_or],λ_ _=>rfl,λ_ _=>rfl⟩,rfl,rfl,λ_ h=>h,λk h=>by simp only [St.cut,cP,h,Bool.true_or],rfl⟩
theorem eo.mapped {st m:St}{L:List Nat}{ops:List Oper}(h:eo (dK ops) st m):eo (dK ops) st (m.mapped L ops):=by
 obtain⟨p,h1,h2,h3⟩:=h.pF;refine⟨⟨p,h1,λi hi=>?_,h3⟩,h.n,h.kb,h.b9,h.news,h.g⟩;simp only [St.mapped,OR ops hi,L!];exact h2 i hi
def KK {dr:Bool}{ops:List Oper}{st:St}{cs:List Prop}{m:St}(h:BV E dr ops st=some (cs,m)):eo (dK ops) st m:=by
 unfold BV at h;cases dr with
 |false=>
  split at h
  . rename_i d ks vs rest hp;obtain⟨o,r,t,te,kt,et,rfl,_,h2,_,_,_,_,_,_,hi⟩:=tW hp;have hdr:=Eu hp;have h1:eo [d] st (st.put (some d) {cond:=[],res:=.gp ks vs}):=eo.put st (some d) _ [d] (λt ht=>by grind[au,ct]);refine(h1.trans (l9 _ _ _ _ _ _ h)).mono λi e7=>?_
    have OB:∀(l:List Oper) (n:Nat),au (dK l) i=false->au (dK (l.drop n)) i=false:=by
     intro l;induction l with
     |nil=>grind
     |cons q l ih=>
      intro n hh;cases n with
      |zero=>grind
      |succ n=>
       grind[dK,au,Bool.or_eq_false_iff]
    grind[dK,au,Bool.or_eq_false_iff,List.singleton_append]
  grind[l9]
 |true=>
  simp only [I!,afj] at h;split at h
  . rename_i i0 t L hp;cases hn:(st.h dq).isNone with
    |false=>rw [hn] at h;cases h
    |true=>
    rw [hn] at h;simp only [I!] at h;split at h
    . rename_i c q hq;simp only [Option.some.injEq,Prod.mk.injEq] at h;obtain⟨_,rfl⟩:=h;have h1:=((eo.ahead st (dK ops)).trans (eo.cut _ (dK ops))).trans (l9 _ _ _ _ _ _ hq);rw [AU] at h1;exact(h1.mono λi hi=>by grind[cR]).mapped
    . cases h
  . exact((eo.ahead st _).trans (l9 _ _ _ _ _ _ h)).mono (λi hi=>by grind[cR])
theorem aq.ahead(hB:aq C A β st a w)(W:List Nat):aq C A β (st.ahead W) a w:=by
 have hl:∀k ab,(st.ahead W).h k=some ab->∃c,st.h k=some c/\ab=cd (cy st.kb (W.map .dst)) c:=by
  intro k ab h;simp [St.ahead] at h;cases hk:st.h k with
  |none=>rw [hk] at h;cases h
  |some c=>grind[bZ,Option.some.injEq]
 have hs:∀k,((st.ahead W).h k).isSome->(st.h k).isSome:=by
  grind[Option.isSome_iff_exists]
 refine⟨hB.defers,hB.size,λi=>aBA _ (λ_ _=>rfl) _ _ (hB.tmps i),λk ab h=>?_,λk k' b h1 h2=>hB.apart k k' b (hs k h1) (hs k' h2),hB.bound,hB.frame,hB.gH,hB.base,λk b h=>hB.lK k b (hs k h),hB.nR,hB.laid,hB.held⟩;obtain⟨c,hc,rfl⟩:=hl k ab h;exact xb _ (hB.blocks k c hc)
end
end Go.Vg

end
section
namespace Go.Vg
open Go
variable [HP]
theorem zl {h h':aJ}:∀(x:AV),(∀k∈ao x,h' k=h k)->hX h' x=hX h x:=by
 intro x hx;cases x<;>simp_all [hX,ao]
theorem HW {h h':aJ}:∀(xs:List AV),(∀k∈ar xs,h' k=h k)->oD h' xs=oD h xs
 |[],_=>rfl
 |x::xs,hx=>by
  simp [ar,G!] at hx;simp [oD,zl x (λk hk=>hx k (.inl hk)),HW xs (λk hk=>hx k (.inr hk))]
theorem xd {h h':aJ}(x:AV)(hx:∀k∈ao x,h' k=h k):pv h' x=pv h x:=by
 unfold pv;grind[HW,ao,zl]
theorem zm {h h':aJ}:∀(xs:List AV),(∀k∈ar xs,h' k=h k)->lU h' xs=lU h xs
 |[],_=>rfl
 |x::xs,hx=>by
  simp [ar,G!] at hx;simp [lU,xd x (λk hk=>hx k (.inl hk)),zm xs (λk hk=>hx k (.inr hk))]
theorem HX {h h':aJ}:∀(ps:List (Nat×AV)),(∀k∈ar (ps.map (·.2)),h' k=h k)->oF h' ps=oF h ps
 |[],_=>rfl
 |(i,x)::ps,hx=>by
  simp [M?,ar,G!] at hx;simp [oF,xd x (λk hk=>hx k (.inl hk)),HX ps (λk hk=>hx k (.inr hk))]
theorem CK {h:aJ}(x:AV):∀k∈(hX h x).2,k∈ao x:=by
 intro k hk;cases x<;>simp [hX] at hk;case own j=>grind[ao]
 case pre j n=>grind[ao]
 case view j sz off n=>
  grind[Nat.beq,ao]
theorem KL {h:aJ}:∀(xs:List AV),∀k∈(oD h xs).2,k∈ar xs
 |[],k,hk=>by grind[oD]
 |x::xs,k,hk=>by
  simp [oD,G!] at hk;simp [ar,G!];exact hk.imp (CK x k) (KL xs k)
theorem AW {h:aJ}(x:AV):∀k∈(pv h x).2,k∈ao x:=by
 intro k hk;unfold pv at hk;grind[ao,KL,CK]
theorem CL {h:aJ}:∀(xs:List AV),∀k∈(lU h xs).2,k∈ar xs
 |[],k,hk=>by grind[lU]
 |x::xs,k,hk=>by
  simp [lU,G!] at hk;simp [ar,G!];exact hk.imp (AW x k) (CL xs k)
theorem KM {h:aJ}:∀(ps:List (Nat×AV)),∀k∈(oF h ps).2,k∈ar (ps.map (·.2))
 |[],k,hk=>by grind[oF]
 |(i,x)::ps,k,hk=>by
  simp [oF,G!] at hk;simp [M?,ar,G!];exact hk.imp (AW x k) (KM ps k)
theorem jZ {h h':aJ}:∀(ks:List Nat),(∀k∈ks,h' k=h k)->cx h' ks=cx h ks
 |[],_=>rfl
 |k::ks,hx=>by
  simp [cx,hx k (H! ..),jZ ks (λj hj=>hx j (E! _ hj))]
def Rg {h h':aJ}(x:AV)(hx:∀k∈ao x,h' k=h k):FU h' x=FU h x:=by
 cases x<;>simp_all [FU,ao]
def Bv {h h':aJ}(T:bY)(t:TypeId)(x i:AV)(hx:∀k∈ao x,h' k=h k):fR T h' t x i=fR T h t x i:=by
 cases x<;>cases i<;>simp_all [fR,ao]
def zn {h h':aJ}(T:bY)(t:TypeId)(x:AV)(hx:∀k∈ao x,h' k=h k):oE T h' t x=oE T h t x:=by
 cases x<;>simp_all [oE,ao]
def aJr {h h':aJ}(T:bY)(t:TypeId)(x v:AV)(hx:∀k∈ao x,h' k=h k)(hv:∀k∈ao v,h' k=h k):gq T h' t x v=gq T h t x v:=by
 cases x;case ref k off=>grind[gq,ao]
 case elem k sz i j=>
  grind[gq,ao,xd,jZ,pv,AW]
 all_goals rfl
def xe {h h':aJ}(row:List Ty)(x:AV)(hx:∀k∈ao x,h' k=h k):mZ h' row x=mZ h row x:=by
 have:=zl x hx;cases x<;>simp_all [mZ]
theorem Gm {h h':aJ}(T:bY)(d:Nat)(t t':TypeId)(s x:AV)(hs:∀k∈ao s,h' k=h k)(hx:∀k∈ao x,h' k=h k):pQ T h' d t t' s x=pQ T h d t t' s x:=by
 unfold pQ;split
 . split
   . rename_i row k8;rw [xe row x hx];cases s;case own k=>simp [hs k (by simp [ao])]
     case pre k n=>simp [hs k (by simp [ao])]
     all_goals rfl
   . rfl
 . rfl
theorem KN {h h':aJ}(T:bY)(t t':TypeId)(s x:AV)(hs:∀k∈ao s,h' k=h k)(hx:∀k∈ao x,h' k=h k):sf T h' t t' s x=sf T h t t' s x:=by
 have gI:∀row,mZ h' row x=mZ h row x:=λrow=>xe row x hx;cases s;case own k=>grind[sf,ao]
 case view k sz off n=>grind[sf,ao]
 all_goals rfl
def I5 {h h':aJ}(T:bY)(t:TypeId)(x:AV)(hx:∀k∈ao x,h' k=h k):r6 T h' t x=r6 T h t x:=by
 cases x;case view k sz off n=>grind[r6,ao]
 all_goals rfl
theorem I6 {h h':aJ}(T:bY)(t:TypeId)(x:AV)(lo hi mx:Option AV)(hx:∀k∈ao x,h' k=h k):rZ T h' t x lo hi mx=rZ T h t x lo hi mx:=by
 unfold rZ;grind[tM,lo,hi,ao]
theorem NW {h h':aJ}(T:bY)(s d:TypeId)(k:Nat)(hx:h' k=h k):AJ T h' s d k=AJ T h s d k:=by grind[AJ]
theorem Ey {h h':aJ}(T:bY)(s d:TypeId)(x:AV)(hx:∀k∈ao x,h' k=h k):oh T h' s d x=oh T h s d x:=by
 have hs:∀row,mZ h' row x=mZ h row x:=λrow=>xe row x hx;grind[oh,NW,ao]
def zo {h h':aJ}(T:bY)(d:Nat)(t:TypeId)(len:Nat)(ps:List (Nat×AV))(hx:∀k∈ar (ps.map (·.2)),h' k=h k):jS T h' d t len ps=jS T h d t len ps:=by
 unfold jS;simp [HX ps hx,jZ (oF h ps).2 (λj hj=>hx j (KM ps j hj))]
def KO {h h':aJ}(E:Env)(d f:Nat)(xs:List AV)(hx:∀k∈ar xs,h' k=h k):oG E h' d f xs=oG E h d f xs:=by
 grind[oG,zm,jZ,lU,CL]
theorem je:∀(a b:List AV),ar (a++b)=ar a++ar b
 |[],_=>rfl
 |x::a,b=>by simp [o?,ar,je a b,Y!]
def gX {x:AV}:∀ {xs:List AV},x∈xs->∀k∈ao x,k∈ar xs
 |y::ys,hx,k,hk=>by
  simp [ar,G!];rcases N!.1 hx with rfl|hx
  . exact .inl hk
  . exact .inr (gX hx k hk)
theorem Ub {E:Env}{st aS:St}{o:Oper}(ht:∀x∈o.op.operands.toList,ev aS x=ev st x)(hh:∀k∈iX E st o,aS.h k=st.h k)(nc:aS.kb=st.kb):
  dp E aS o=dp E st o:=by
 have hk:∀x∈o.op.operands.toList,∀k∈ao (ev st x),aS.h k=st.h k:=by
  intro x hx k hk;exact hh k (E! _ (U! _ (gX (S? hx) k hk)))
 have hd:∀d,o.dst=some d->aS.h (st.kb+d)=st.h (st.kb+d):=by
  intro d hd;exact hh _ (by simp [iX,hd])
 obtain⟨dst,op,type,pos,after,guard⟩:=o;simp only at ht hk hd
 have Wy:∀d,dst=some d->fresh aS.h (st.kb+d)=fresh st.h (st.kb+d):=by
  intro d h;simp only [fresh,hd d h]
 cases op with
 |move x=>simp only [dp,ht x (by simp [Op.operands])]
 |assign x=>simp only [dp,ht x (by simp [Op.operands])]
 |pick c x y=>simp only [dp,ht c (by simp [Op.operands]),ht x (by simp [Op.operands]),ht y (by simp [Op.operands])]
 |alloc t=>simp only [dp,nc]
 |box t x=>simp only [dp,ht x (by simp [Op.operands]),nc]
 |build t parts=>
  have :(parts.toList.map λp=>(p.1,ev aS p.2))=parts.toList.map λp=>(p.1,ev st p.2):=by
   apply W?;intro p hp;rw [ht p.2 (by simp only [Op.operands];exact S? hp)]
  simp only [dp,this]
 |buildSlice t len parts=>
  have :(parts.toList.map λp=>(p.1,ev aS p.2))=parts.toList.map λp=>(p.1,ev st p.2):=by
   apply W?;intro p hp;rw [ht p.2 (by simp only [Op.operands];exact S? hp)]
  simp only [dp,this,nc];cases dst with
  |none=>rfl
  |some d=>
   simp only [Wy d rfl];rw [zo];intro k ew;refine hh k (E! _ (U! _ ?_));simp only [Op.operands,List.map_map] at ew |-;exact ew
 |load t x=>simp only [dp,ht x (by simp [Op.operands]),zn _ t _ (hk x (by simp [Op.operands]))]
 |store t x y=>simp only [dp,ht x (by simp [Op.operands]),ht y (by simp [Op.operands]),aJr _ t _ _ (hk x (by simp [Op.operands])) (hk y (by simp [Op.operands]))]
 |nilCheck x=>simp only [dp,ht x (by simp [Op.operands])]
 |binOp op t x y yt=>simp only [dp,ht x (by simp [Op.operands]),ht y (by simp [Op.operands])]
 |unOp op t x=>simp only [dp,ht x (by simp [Op.operands])]
 |convert s d x=>grind[dp,Op.operands,Ey]
 |makeFunc f first aR=>
  grind[ev,List.map_congr_left,Op.operands,dp]
 |makeSlice t l c=>
  simp only [dp,ht l (by simp [Op.operands]),ht c (by simp [Op.operands]),nc];grind
 |slice t x l hi mx=>
  have h1:l.map (ev aS)=l.map (ev st):=by cases l with|none=>rfl|some y=>simp only [Option.map_some,ht y (by simp [Op.operands])]
  have h2:hi.map (ev aS)=hi.map (ev st):=by cases hi with|none=>rfl|some y=>grind[Op.operands]
  have h3:mx.map (ev aS)=mx.map (ev st):=by cases mx with|none=>rfl|some y=>grind[Op.operands]
  grind[dp,Op.operands,I6]
 |fieldAddr s x f=>simp only [dp,ht x (by simp [Op.operands])]
 |field s x f=>simp only [dp,ht x (by simp [Op.operands])]
 |indexAddr t x i=>simp only [dp,tP,ht x (by simp [Op.operands]),ht i (by simp [Op.operands]),Bv _ t _ _ (hk x (by simp [Op.operands]))]
 |index t x i=>simp only [dp,ht x (by simp [Op.operands]),ht i (by simp [Op.operands])]
 |extract x i=>simp only [dp,ht x (by simp [Op.operands])]
 |lookup t x i ok=>simp only [dp,ht x (by simp [Op.operands]),ht i (by simp [Op.operands])]
 |call c=>
  obtain⟨callee,args,argTypes⟩:=c
  have bj:∀x∈args.toList,x∈(Op.call ⟨callee,args,argTypes⟩).operands.toList:=by
   grind[Op.operands,Call.operands,Array.toList_append]
  have zp:args.toList.map (ev aS)=args.toList.map (ev st):=W? λx hx=>ht x (bj x hx);cases callee with
  |invoke r m=>rfl
  |builtin b=>
   simp only [dp];cases hl:args.toList with
   |nil=>grind
   |cons x xs=>
    have hx:ev aS x=ev st x:=ht x (bj x x!);have kx:=hk x (bj x x!);cases xs with
    |nil=>
     cases b<;>first|rfl|(cases argTypes.toList with
      |nil=>rfl
      |cons t ts=>cases ts with
       |nil=>first|(simp only [hx,Rg _ kx];done)|(simp only [hx,I5 _ t _ kx];done)
       |cons _ _=>rfl)
    |cons y ys=>
     have hy:ev aS y=ev st y:=ht y (bj y x!);have ky:=hk y (bj y x!);cases ys with
     |cons z zs=>cases b<;>rfl
     |nil=>
      cases b
      case append=>
       cases Bs:argTypes.toList with
       |nil=>rfl
       |cons t ts=>cases ts with
        |nil=>rfl
        |cons t' Ez=>grind[Gm]
      case copy=>
       grind[KN]
      all_goals first|rfl|simp only [hx,hy]
  |value f=>
   have WS:f∈(Op.call ⟨.value f,args,argTypes⟩).operands.toList:=by simp [Op.operands,Call.operands]
   have hf:ev aS f=ev st f:=ht f WS;have kf:=hk f WS;simp only [dp,hf,zp,nc];cases Ei:ev st f with
   |fn pV first aR=>
    cases pV with
    |func g=>
     have HY:∀d,oG E aS.h d g (first++args.toList.map (ev st)++aR)=oG E st.h d g (first++args.toList.map (ev st)++aR):=by
      intro d;refine KO E d g _ λk ew=>?_;simp only [je,G!] at ew;rw [Ei] at kf;simp only [ao,G!] at kf;rcases ew with(ew|ew)|ew
      . grind
      . refine hh k (List.mem_cons_of_mem _ (List.mem_append_left _ ?_));grind[Op.operands,Call.operands,Array.toList_append,je]
      grind
     grind
    |_=>rfl
   |_=>rfl
 |_=>rfl
def I7 {h h':aJ}(E:Env)(d f:Nat)(xs:List AV)(hx:∀k∈ar xs,h' k=h k):mE E h' d f xs=mE E h d f xs:=by
 grind[mE,zm,jZ,lU,CL]
theorem Uc {E:Env}{st aS:St}{o:Oper}(ht:∀x∈o.op.operands.toList,ev aS x=ev st x)(hh:∀k∈iX E st o,aS.h k=st.h k)(nc:aS.kb=st.kb):
  BP E aS o=BP E st o:=by
 have hk:∀x∈o.op.operands.toList,∀k∈ao (ev st x),aS.h k=st.h k:=by
  intro x hx k hk;exact hh k (E! _ (U! _ (gX (S? hx) k hk)))
 obtain⟨dst,op,type,pos,after,guard⟩:=o;cases op with
 |load t p=>
  grind[BP,Op.operands,ev,ao]
 |store t p v=>
  grind[BP,Op.operands,ev,ao]
 |slice t x l hi mx=>
  cases l with
  |none=>rfl
  |some l=>
   cases hi with
   |none=>rfl
   |some hi=>
    cases mx with
    |none=>rfl
    |some mx=>
     grind[BP,Op.operands,hi,ev,ao]
 |indexAddr t x i=>
  grind[BP,Op.operands,ev,ao]
 |call c=>
  obtain⟨callee,args,argTypes⟩:=c
  have bj:∀x∈args.toList,x∈(Op.call ⟨callee,args,argTypes⟩).operands.toList:=by
   grind[Op.operands,Call.operands,Array.toList_append]
  have zp:args.toList.map (ev aS)=args.toList.map (ev st):=W? λx hx=>ht x (bj x hx);cases callee with
  |invoke r m=>rfl
  |builtin b=>
   simp only [BP];grind[ev,ao]
  |value f=>
   have WS:f∈(Op.call ⟨.value f,args,argTypes⟩).operands.toList:=by simp [Op.operands,Call.operands]
   have hf:ev aS f=ev st f:=ht f WS;have kf:=hk f WS;simp only [BP,hf,zp,nc];cases Ei:ev st f with
   |fn pV first aR=>
    cases pV with
    |func g=>
     have HY:∀d,mE E aS.h d g (first++args.toList.map (ev st)++aR)=mE E st.h d g (first++args.toList.map (ev st)++aR):=by
      intro d;refine I7 E d g _ λk ew=>?_;simp only [je,G!] at ew;rw [Ei] at kf;simp only [ao,G!] at kf;rcases ew with(ew|ew)|ew
      . grind
      . refine hh k (List.mem_cons_of_mem _ (List.mem_append_left _ ?_));grind[Op.operands,Call.operands,Array.toList_append,je]
      grind
     grind
    |_=>rfl
   |_=>rfl
 |_=>rfl
theorem Ud {E:Env}{st aS:St}{o:Oper}(ht:∀x∈o.op.operands.toList,ev aS x=ev st x)(hh:∀k∈iX E st o,aS.h k=st.h k)(nc:aS.kb=st.kb):
  Kn E aS o=Kn E st o:=by
 have hk:∀x∈o.op.operands.toList,∀k∈ao (ev st x),aS.h k=st.h k:=by
  intro x hx k hk;exact hh k (E! _ (U! _ (gX (S? hx) k hk)))
 obtain⟨dst,op,type,pos,after,guard⟩:=o;cases op with
 |alloc t=>simp_all[Kn]
 |load t p=>
  grind[Kn,Op.operands,ev,ao]
 |store t p v=>
  grind[Kn,Op.operands,ev,ao]
 |_=>rfl
theorem HZ {h:aJ}(x:AV):∀k∈ao (hX h x).1,k∈ao x:=by
 intro k hk;cases x with
 |own j=>grind[hX,ao]
 |pre j n=>grind[hX,ao]
 |view j sz off n=>
  grind[hX,Nat.beq,ao]
 |_=>exact hk
theorem H2 {h:aJ}:∀(xs:List AV),∀k∈ar (oD h xs).1,k∈ar xs
 |[],k,hk=>hk
 |x::xs,k,hk=>by
  simp [oD,ar,G!] at hk |-;rcases hk with hk|hk
  . exact .inl (HZ x k hk)
  . exact .inr (H2 xs k hk)
theorem WT {h:aJ}(x:AV):∀k∈ao (pv h x).1,k∈ao x:=by
 intro k hk;unfold pv at hk;grind[ao,H2,HZ]
def zq {h:aJ}:∀(m:List Bool) (xs:List AV),(∀k∈ar (dj h m xs).1,k∈ar xs)/\∀k∈(dj h m xs).2,k∈ar xs
 |m,[]=>⟨λk hk=>hk,λk hk=>by cases hk⟩
 |m,x::xs=>by
  obtain⟨g1,g2⟩:=zq (h:=h) m.tail xs;cases hm:m.headD false with
  |true=>
   simp only [dj,hm,cond_true,ar,List.mem_append];grind
  |false=>
   simp only [dj,hm,cond_false,ar,List.mem_append];grind[WT,AW]
theorem aJs {h h':aJ}:∀(m:List Bool) (xs:List AV),(∀k∈ar xs,h' k=h k)->dj h' m xs=dj h m xs
 |m,[],_=>rfl
 |m,x::xs,hx=>by
  have h1:=aJs (h:=h) (h':=h') m.tail xs (λk hk=>hx k (by simp [ar,G!];exact .inr hk));have h2:=xd (h:=h) (h':=h') x (λk hk=>hx k (by simp [ar,G!];exact .inl hk));simp [dj,h1,h2]
def uR {h h':aJ}:∀(ks:List Nat),(∀k∈ks,h' k=h k)->behind h' ks=behind h ks
 |[],_=>rfl
 |k::ks,hk=>by
  simp [behind,hk k (H! ..),uR ks λj hj=>hk j (E! _ hj)]
def tX {h:aJ}:∀(ks ls:List Nat),(∀k∈ks,k∈ls)->∀j∈behind h ks,j∈behind h ls
 |[],ls,_,j,hj=>by cases hj
 |k::ks,ls,hk,j,hj=>by
  simp [behind,G!] at hj;rcases hj with hj|hj
  . have :∀(ls:List Nat),k∈ls->j∈behind h ls:=by
     intro ls;induction ls with
     |nil=>intro h;cases h
     |cons l ls ih=>
      intro hl;simp [behind,G!];rcases N!.1 hl with rfl|hl
      . exact .inl hj
      . exact .inr (ih hl)
    exact this ls (hk k (H! ..))
  . exact tX ks ls (λi hi=>hk i (E! _ hi)) j hj
theorem zr {h h':aJ}{ks:List Nat}(hk:∀k∈ks,h' k=h k)(hb:∀k∈behind h ks,h' k=h k):oO h' ks=oO h ks:=by
 simp only [oO,uR ks hk,uR _ hb]
theorem xf {h:aJ}{ks ls:List Nat}(hs:∀k∈ks,k∈ls):∀j∈oO h ks,j∈oO h ls:=by
 intro j hj;simp only [oO,G!] at hj |-;exact hj.imp (tX _ _ hs j) (tX _ _ (tX _ _ hs) j)
def CM:∀(l acc:List Nat) (k:Nat),k∈dedup acc l->k∈acc\/k∈l
 |[],acc,k,h=>.inl (by grind[dedup])
 |x::l,acc,k,h=>by
  simp [dedup] at h;cases hm:au acc x with
  |true=>
   rw [hm] at h;rcases CM l acc k h with h|h
   . exact .inl h
   . exact .inr (E! _ h)
  |false=>
   rw [hm] at h;rcases CM l (x::acc) k h with h|h
   . rcases N!.1 h with rfl|h
     . exact .inr (H! ..)
     . exact .inl h
   . exact .inr (E! _ h)
def yc {h h':aJ}:∀(K:List Nat),(∀k∈K,h' k=h k)->contents h' K=contents h K
 |[],_=>rfl
 |k::K,hk=>by simp [contents,hk k (H! ..),yc K λj hj=>hk j (E! _ hj)]
def I8 {h h':aJ}(E:Env)(d f:Nat)(xs:List AV)(hx:∀k∈ar xs++oO h (ar xs),h' k=h k):mF E h' d f xs=mF E h d f xs:=by
 have NG:∀k∈ar xs,h' k=h k:=λk hk=>hx k (List.mem_append_left _ hk);unfold mF;split
 . rename_i m s hs;obtain⟨p1,p2⟩:=zq (h:=h) m xs;rw [aJs m xs NG,zr (h:=h) (h':=h') (λk hk=>NG k (p1 k hk)) (λk hk=>hx k (List.mem_append_right _ (xf p1 k (List.mem_append_left _ hk))))];unfold Q0
   rw [yc (h:=h) (h':=h') _ (λk hk=>by
    rcases CM _ _ k hk with hk|hk
    . grind
    grind[List.mem_append_right,xf]),jZ (h:=h) (h':=h') _ (λk hk=>NG k (p2 k hk))]
 . rfl
theorem Ue {E:Env}{st aS:St}{o:Oper}(ht:∀x∈o.op.operands.toList,ev aS x=ev st x)(hh:∀k∈iX E st o,aS.h k=st.h k)(nc:aS.kb=st.kb):
  TP E aS o=TP E st o:=by
 obtain⟨dst,op,type,pos,after,guard⟩:=o;cases op with
 |call c=>
  obtain⟨callee,args,argTypes⟩:=c;cases callee with
  |value f=>
   have bj:∀x∈args.toList,x∈(Op.call ⟨.value f,args,argTypes⟩).operands.toList:=by
    grind[Op.operands,Call.operands,Array.toList_append]
   have zp:args.toList.map (ev aS)=args.toList.map (ev st):=W? λx hx=>ht x (bj x hx);have hf:ev aS f=ev st f:=ht f (by simp [Op.operands,Call.operands]);simp [TP,hf,zp,nc];cases Ei:ev st f with
   |fn pV first aR=>
    cases pV with
    |func g=>
     have OB:∀k∈ar (first++args.toList.map (ev st)++aR),k∈ar ((Op.call ⟨.value f,args,argTypes⟩).operands.toList.map (ev st)):=by
      have WS:f∈(Op.call ⟨.value f,args,argTypes⟩).operands.toList:=by simp [Op.operands,Call.operands]
      have hfk:=gX (List.mem_map_of_mem (f:=ev st) WS);grind[ao,je,Op.operands,Call.operands,Array.toList_append]
     have HY:∀d,mF E aS.h d g (first++args.toList.map (ev st)++aR)=mF E st.h d g (first++args.toList.map (ev st)++aR):=by
      intro d;refine I8 E d g _ λk hk=>?_;rcases G!.1 hk with hk|hk
      . exact hh k (E! _ (U! _ (OB k hk)))
      . exact hh k (E! _ (A? _ (U! _ (xf OB k hk))))
     grind
    |_=>rfl
   |_=>rfl
  |_=>rfl
 |_=>rfl
theorem oR {h:aJ}{k e i j:Nat}{row:List Ty}{l:List (Row row)}(hk:h k=some (.gG e (some j) row l i)):∀ {ks:List Nat},k∈ks->j∈fZ h ks
 |q::ks,hm=>by
  simp [fZ];rcases N!.1 hm with rfl|hm
  . rw [hk];simp
  . split
    . exact E! _ (oR hk hm)
    . exact oR hk hm
theorem BY:∀ {cs xs:List AV} {k:Nat},sw cs=some (xs,k)->k∈ar cs
 |[],_,_,h=>by cases h
 |a::r,xs,k,h=>by
  unfold sw at h;simp [ar,List.mem_append];cases r with
  |nil=>
   cases a<;>first|(obtain⟨_,rfl⟩:=h;simp [ao])|cases h
  |cons b r=>
   simp at h;split at h
   . rename_i x k' hl;obtain⟨_,rfl⟩:=h;exact .inr (BY hl)
   . cases h
theorem NX {E:Env}{h h':aJ}{t:TypeId}(p v:AV)(hp:∀k∈ao p,h' k=h k)(hv:∀k∈ao v,h' k=h k):AL E h' t p v=AL E h t p v:=by
 unfold AL;grind[ao,sw,BY]
theorem I9 {E:Env}{h h':aJ}{t:TypeId}(p:AV)(hp:∀k∈ao p,h' k=h k)(ho:∀k∈fZ h (ao p),h' k=h k):sb E h' t p=sb E h t p:=by
 unfold sb;grind[ao,oR]
theorem KP {E:Env}{h h':aJ}{t:TypeId}(x i:AV)(hp:∀k∈ao x,h' k=h k):vO E h' t x i=vO E h t x i:=by
 unfold vO;grind[ao]
theorem KQ {h h':aJ}{k:Nat}(hk:h' k=h k)(ho:∀j∈fZ h [k],h' j=h j):closing h' k=closing h k:=by
 unfold closing;rw [hk];cases hh:h k with
 |none=>rfl
 |some ab=>
  cases ab with
  |gG e j row l i=>
   cases j with
   |none=>rfl
   |some k5=>simp [ho k5 (oR hh z!)]
  |_=>rfl
def xg {h:aJ}:∀ {a b:List Nat},(∀k∈a,k∈b)->∀j∈fZ h a,j∈fZ h b
 |[],_,_,j,hj=>by grind[fZ]
 |k::a,b,hs,j,hj=>by
  simp [fZ] at hj;split at hj
  . rename_i hk;rcases N!.1 hj with rfl|hj
    . exact oR hk (hs k (H! ..))
    . exact xg (λq hq=>hs q (E! _ hq)) j hj
  . exact xg (λq hq=>hs q (E! _ hq)) j hj
theorem Uf {E:Env}{st aS:St}{o:Oper}(ht:∀x∈o.op.operands.toList,ev aS x=ev st x)(hh:∀k∈iX E st o,aS.h k=st.h k)(nc:aS.kb=st.kb):
  OC E aS o=OC E st o:=by
 unfold OC Þ Ý;rw [Ub ht hh nc,Uc ht hh nc,Ud ht hh nc,Ue ht hh nc]
theorem Ug {E:Env}{st aS:St}{o:Oper}(ht:∀x∈o.op.operands.toList,ev aS x=ev st x)(hh:∀k∈iX E st o,aS.h k=st.h k)(nc:aS.kb=st.kb):
  BS E aS o=BS E st o:=by
 have hk:∀x∈o.op.operands.toList,∀k∈ao (ev st x),aS.h k=st.h k:=λx hx k hk=>
  hh k (E! _ (U! _ (gX (S? hx) k hk)))
 have dV:∀d,o.dst=some d->aS.h (st.kb+d)=st.h (st.kb+d):=λd hd=>hh _ (by unfold iX;rw [hd];exact List.mem_cons_self ..);obtain⟨dst,op,type,pos,after,guard⟩:=o;cases op with
 |buildSlice t len parts=>
  have hp:parts.toList.map (λp=>(p.1,ev aS p.2))=parts.toList.map (λp=>(p.1,ev st p.2)):=W? λp hp=>by
   rw [ht p.2 (by simp only [Op.operands,Array.toList_map,b?];exact⟨p,hp,rfl⟩)]
  cases dst with
  |none=>rfl
  |some d=>
   have hf:fresh aS.h (st.kb+d)=fresh st.h (st.kb+d):=by simp only [fresh,dV d rfl]
   simp only [BS,hp,nc];cases nJ E.T t<;>cases lJ E.T t<;>simp only [hf]
 |call c=>
  obtain⟨callee,args,argTypes⟩:=c;cases callee with
  |builtin b=>
   have bj:∀x∈args.toList,ev aS x=ev st x:=λx hx=>ht x (by grind[Op.operands,Call.operands,Array.toList_append]);have Tu:∀x∈args.toList,∀k∈ao (ev st x),aS.h k=st.h k:=λx hx=>hk x (by grind[Op.operands,Call.operands,Array.toList_append]);have jF:∀x k,x∈args.toList->ev st x= .own k->aS.h k=st.h k:=λx k hx he=>Tu x hx k (by rw [he];exact List.mem_cons_self ..);simp only [BS,nc];split
   . rename_i x y t t' hx hy;rw [bj x (by rw [hx];simp),bj y (by rw [hx];simp)];split
     . rename_i d e te j k he iz h1 h2;rw [jF x j (by rw [hx];simp) h1,jF y k (by rw [hx];simp) h2];simp only [fresh,dV d rfl]
     . rfl
   . rename_i x t hx hy;rw [bj x (by rw [hx];simp)];split
     . rename_i k h1;rw [jF x k (by rw [hx];simp) h1]
     . rfl
   . rfl
  |_=>rfl
 |store t x y=>
  simp only [BS,ht x (by simp [Op.operands]),ht y (by simp [Op.operands])];split
  . rename_i k sz i j k5 h1 h2;rw [hk x (by simp [Op.operands]) k (by rw [h1];exact H! ..),hk y (by simp [Op.operands]) k5 (by rw [h2];exact H! ..)]
  . rfl
 |indexAddr t x i=>
  simp only [BS,ht x (by simp [Op.operands]),ht i (by simp [Op.operands])];split
  . rename_i k ki n h1 h2;rw [hk x (by simp [Op.operands]) k (by rw [h1];exact H! ..)]
  . rfl
 |load t x=>
  simp only [BS,ht x (by simp [Op.operands])];split
  . rename_i k sz i j te h1 h2;rw [hk x (by simp [Op.operands]) k (by rw [h1];exact H! ..)]
  . rename_i k off te h1 h2;rw [hk x (by simp [Op.operands]) k (by rw [h1];exact H! ..)]
  . rfl
 |_=>rfl
theorem Uh {E:Env}{st aS:St}{o:Oper}(ht:∀x∈o.op.operands.toList,ev aS x=ev st x)(hh:∀k∈iX E st o,aS.h k=st.h k)(nc:aS.kb=st.kb):
  OL E aS o=OL E st o:=by
 have hN:Kr E aS o=Kr E st o:=by unfold Kr;rw [Uf ht hh nc,Ug ht hh nc]
 have afr:∀x∈o.op.operands.toList,∀k∈ao (ev st x),k∈ar (o.op.operands.toList.map (ev st)):=λx hx k hk=>gX (S? hx) k hk
 have hk:∀x∈o.op.operands.toList,∀k∈ao (ev st x),aS.h k=st.h k:=λx hx k hk=>
  hh k (E! _ (U! _ (afr x hx k hk)))
 have hk2:∀x∈o.op.operands.toList,∀k∈fZ st.h (ao (ev st x)),aS.h k=st.h k:=λx hx k hk=>
  hh k (E! _ (A? _ (A? _ (U! _ (xg (afr x hx) k hk)))))
 have hc:∀k∈sx E st.h o,aS.h k=st.h k:=λk hk=>hh k (E! _ (A? _ (A? _ (A? _ hk))))
 have hO:TZ E aS o=TZ E st o:=by
  unfold TZ
  have mD:vQ E aS.h o=vQ E st.h o:=by
   grind[vQ,sx,fZ,KQ,List.mem_cons_self,List.mem_cons_of_mem]
  grind[guard,store,Op.operands,NX,load,I9,KP]
 grind[OL]
def tY {T:bY}{h h':aJ}:∀(as_:List AV) (l:List (Option TypeId)),(∀k∈ar as_,h' k=h k)->aCt T h' as_ l=aCt T h as_ l
 |_,[],_=>by simp only [aCt]
 |[],o::_,_=>by cases o<;>rfl
 |x::as_,none::r,hk=>by
  simp only [aCt];exact tY as_ r λk h=>hk k (A? _ h)
 |x::as_,some ty::r,hk=>by
  have ih:=tY (T:=T) as_ r λk h=>hk k (List.mem_append_right _ h);unfold aCt;cases x<;>simp only [ih];rename_i k off;rw [hk k (List.mem_append_left _ (List.mem_cons_self ..))]
def WU {u:List (Nat×AB)}{h h':aJ}{x:AV}(hk:∀k∈ao x,h' k=h k):w9 (xY u h') x=w9 (xY u h) x:=by
 unfold w9;cases x<;>simp only [];rename_i k off;have :xY u h' k=xY u h k:=by simp only [xY,hk k (List.mem_cons_self ..)]
 rw [this]
def WV {E:Env}{st aS:St}{o:Oper}(ht:∀x∈o.op.operands.toList,ev aS x=ev st x)(hh:∀k∈iX E st o,aS.h k=st.h k)(nc:aS.kb=st.kb):
  act E aS o=act E st o:=by
 have hF:BU E aS o=BU E st o:=by
  have hk:∀x∈o.op.operands.toList,∀k∈ao (ev st x),aS.h k=st.h k:=λx hx k hk=>
   hh k (E! _ (U! _ (gX (S? hx) k hk)))
  obtain⟨dst,op,type,pos,after,guard⟩:=o;cases dst with
  |none=>rfl
  |some d=>
  cases hl:E.QA d with
  |none=>simp only [BU,hl]
  |some l=>
  cases op with
  |makeFunc f first aR=>
   have h1:first.toList.map (ev aS)=first.toList.map (ev st):=W? λx hx=>ht x (by simp [Op.operands];exact .inl (by simpa using hx))
   have h2:aR.toList.map (ev aS)=aR.toList.map (ev st):=W? λx hx=>ht x (by simp [Op.operands];exact .inr (by simpa using hx));have hc:∀x∈aR.toList,∀k∈ao (ev st x),aS.h k=st.h k:=λx hx=>hk x (by simp [Op.operands];exact .inr (by simpa using hx))
   have hcc:∀k∈ar (aR.toList.map (ev st)),aS.h k=st.h k:=by
    clear h1 h2 hk ht hh;generalize aR.toList=l at *;induction l with
    |nil=>intro k h;cases h
    |cons y l ih=>
     intro k h;rcases G!.1 h with h|h
     . exact hc y (H! ..) k h
     . exact ih (λx hx=>hc x (E! _ hx)) k h
   have h3:∀u,(aR.toList.map (ev st)).map (w9 (xY u aS.h))=(aR.toList.map (ev st)).map (w9 (xY u st.h)):=λu=>by
    rw [List.map_map,List.map_map];exact W? λx hx=>WU (hc x hx)
   simp only [BU,hl,h1,h2,tY (h:=st.h) _ l hcc,h3]
  |load t x=>
   have h1:=hk x (by simp [Op.operands]);simp only [BU,hl,ht x (by simp [Op.operands]),tY (h:=st.h) [ev st x] l (by simpa [ar] using h1),zn (h:=st.h) E.T t (ev st x) h1]
  |makeSlice t x y=>
   have hf:fresh aS.h (st.kb+d)=fresh st.h (st.kb+d):=by
    simp only [fresh,hh (st.kb+d) (by unfold iX;exact List.mem_cons_self ..)]
   simp only [BU,hl,ht x (by simp [Op.operands]),ht y (by simp [Op.operands]),nc,hf]
  |_=>simp only [BU,hl]
 have hK:OJ aS o=OJ st o:=by
  obtain⟨dst,op,type,pos,after,guard⟩:=o;cases dst with
  |none=>cases op<;>first|rfl|(rename_i c;obtain⟨c,_,_⟩:=c;cases c<;>rfl)
  |some d=>
  have hf:fresh aS.h (st.kb+d)=fresh st.h (st.kb+d):=by
   simp only [fresh,hh (st.kb+d) (by unfold iX;exact List.mem_cons_self ..)]
  cases op with
  |call c=>
   obtain⟨c,args,tys⟩:=c;cases c with
   |value f=>
    have h1:ev aS f=ev st f:=ht f (by simp [Op.operands,Call.operands])
    have h2:∀x,args.toList=[x]->ev aS x=ev st x:=λx hx=>ht x (by
     have :x∈args:=by rw [<-Array.mem_toList_iff,hx];exact p?.2 rfl
     simp [Op.operands,Call.operands,this])
    unfold OJ;simp only [h1];split
    . rename_i x _ _ hx _;rw [h2 x hx,nc,hf]
    . rfl
   |_=>rfl
  |_=>rfl
 have hS:OK E aS o=OK E st o:=by
  have hk:∀x∈o.op.operands.toList,∀k∈ao (ev st x),aS.h k=st.h k:=λx hx k hk=>
   hh k (E! _ (U! _ (gX (S? hx) k hk)))
  obtain⟨dst,op,type,pos,after,guard⟩:=o;unfold OK;simp only;split
  . rename_i t s v;have h1:=ht (.tmp s) (by simp [Op.operands]);have h2:=ht v (by simp [Op.operands]);split
    . have h3:∀k off,ev st (.tmp s)= .ref k off->gq E.T aS.h t (.ref k off) (ev st v)=gq E.T st.h t (.ref k off) (ev st v):=λk off he=>
       aJr (h:=st.h) E.T t _ _ (by rw [<-he];exact hk (.tmp s) (by simp [Op.operands])) (hk v (by simp [Op.operands]))
      rw [h1,h2];generalize ev st (.tmp s)=q at h3 |-;cases q<;>first|rfl|(rename_i k off;simp only [aff];rw [h3 k off rfl])
    . rfl
  . rfl
 unfold act;rw [hF,hK,hS,Uh ht hh nc]
end Go.Vg

end
section
namespace Go.Vg
open Go
variable [HP]
def AX:∀(l:List Nat) (k:Nat),au l k=true↔k∈l
 |[],k=>by simp [au]
 |j::l,k=>by
  simp_all[au,e?,N!,AX]
theorem ic {l:List Nat}{k:Nat}:au l k=false↔k∉l:=by
 rw [<-AX,Bool.not_eq_true]
theorem p0 {a b:List Nat}(h:l8 a b=true):∀k∈a,k∉b:=by
 intro k hk;have:=(List.all_eq_true.1 h) k hk;grind[Bool.not_eq_true',ic]
mutual
theorem KR(p:Nat->Bool):∀(a:AV),(∀k∈ao a,p k=false)->aB p a=a
 |.own k,h=>by simp [aB,h k (by simp [ao])]
 |.pre k _,h|.view k _ _ _,h|.ref k _,h|.elem k _ _ _,h=>by simp [aB,h k (by simp [ao])]
 |.agg cs,h|.bn cs,h=>by simp only [aB,ma p cs (by simpa [ao] using h)]
 |.gp _ cs,h=>by simp only [aB,ma p cs (by simpa [ao] using h)]
 |.fn f first aR,h=>by
   simp only [ao,G!] at h;simp only [aB,ma p first (λk hk=>h k (.inl hk)),ma p aR (λk hk=>h k (.inr hk))]
 |.cr,_|.undef,_|.int _ _,_|.bool _,_|.tt,_|.ff,_|.str _,_|.nil,_|.jQ,_|.oC _ _,_|.k7,_|.sl _ _,_|.full _ _,_|.cN _ _ _,_|.pB _ _,_=>by simp [aB]
theorem ma(p:Nat->Bool):∀(as_:List AV),(∀k∈ar as_,p k=false)->e8 p as_=as_
 |[],_=>rfl
 |a::as_,h=>by
  simp only [ar,G!] at h;simp only [e8,KR p a (λk hk=>h k (.inl hk)),ma p as_ (λk hk=>h k (.inr hk))]
end
theorem zt(p:Nat->Bool)(b:AB)(h:∀k∈gu b,p k=false):cd p b=b:=by
 cases b with
 |cells cs=>grind[cd,ma,gu]
 |row _ _ _ _|arr _ _|aX _ _ _ _|fvar _ _|mp _ _ _=>rfl
 |eE e j l=>
  cases j with
  |none=>rfl
  |some j=>simp_all[cd,wI,gu,L!]
 |dM e j xs i=>
  cases j with
  |none=>rfl
  |some j=>simp_all[cd,de,gu,L!]
 |views e j n m sz=>
  cases j with
  |none=>rfl
  |some j=>simp_all[cd,de,gu,L!]
 |gG e j row l i=>
  cases j with
  |none=>rfl
  |some j=>simp_all[cd,de,gu,L!]
def EA {new:List (Nat×AB)}{k:Nat}(h:k∉new.map (·.1)):fL new k=false:=by
 grind[xc,iC,ic]
def Clean(e:Ev)(s:St):Prop:=(∀i,aB (fL e.ca.new) (s.t i)=s.t i)/\∀k,bZ (fL e.ca.new) (s.h k)=s.h k
def ap(ops:List Oper)(e:Ev)(s:St):St:=ja (la ops e.i) e.o.dst (s.put e.o.dst e.ca)
def asJ(g:Bool)(a:AV):AV:=bif g then KC a else a
def CN(e:Ev)(k:Nat):Option (Option AB):=match ah e.ca.new k with
 |some b=>some (some b)
 |none=>bif au e.ca.del k then some none else match ah e.ca.fE k with
  |some b=>some (some (vF e.ca k b))
  |none=>none
section
variable {P:Program} {C:Ctx} {E:Env} {ops:List Oper}
def aft {g:Bool}{d:Option Nat}{s:St}:(ja g d s).g=s.g:=by
 cases d<;>cases g<;>rfl
theorem KT {g:Bool}{d:Option Nat}{s:St}:(ja g d s).h=s.h/\(ja g d s).n=s.n/\(ja g d s).kb=s.kb:=by
 cases d<;>cases g<;>exact⟨rfl,rfl,rfl⟩
theorem KU(e:Ev)(s:St):(ap ops e s).n=s.n:=KT.2.1
theorem CO(e:Ev)(s:St):(ap ops e s).kb=s.kb:=KT.2.2
theorem KV(e:Ev)(s:St):(ap ops e s).g=s.g:=aft
theorem KW {e:Ev}{s:St}(hc:Clean e s)(i:Nat):(ap ops e s).t i=if e.o.dst=some i then asJ (la ops e.i) e.ca.res else s.t i:=by
 unfold ap;cases hd:e.o.dst with
 |none=>
  simp [ja,St.put,reduceCtorEq,w?];rw [pZ];exact hc.1 i
 |some d=>
  by_cases hi:i=d
  . subst hi;cases la ops e.i<;>simp [ja,St.put,asJ]
  . have e7:¬(some d=some i):=λh=>hi (X? h).symm;have :my e.ca.new (s.t i)=s.t i:=by rw [pZ];exact hc.1 i
    cases la ops e.i<;>simp only [ja,St.put,aG hi,L!,I!,Q! e7,this]
theorem H3 {e:Ev}{s:St}(hc:Clean e s)(k:Nat):(ap ops e s).h k=match CN e k with
  |some v=>v
  |none=>s.h k:=by
 unfold ap;rw [KT.1];have hk:=hc.2 k;simp [St.put,vG,CN];cases ah e.ca.new k with
 |some b=>rfl
 |none=>
  cases au e.ca.del k with
  |true=>rfl
  |false=>
   grind[ah,bZ,Option.some.injEq,tV]
theorem oq {e:Ev}{k:Nat}(h:k∉e.ca.wr):CN e k=none:=by
 simp only [Out.wr,G!,not_or] at h;simp [CN,iC _ k (ic.2 h.2.2),iC _ k (ic.2 h.1),ic.2 h.2.1,L!]
theorem uS:∀(l:List (Nat×AB)) (k:Nat) (c:AB),ah l k=some c->∀j∈gu c,j∈zc l
 |(j0,b0)::l,k,c,hc,j,hj=>by
  simp [ah] at hc;simp [zc,G!];cases hb:Nat.beq k j0 with
  |true=>grind
  |false=>rw [hb] at hc;exact .inr (uS l k c hc j hj)
theorem Rh {e g:Ev}{k:Nat}{b:AB}(hp:l8 e.ca.tD (g.ca.new.map (·.1))=true)(h:CN e k=some (some b)):cd (fL g.ca.new) b=b:=by
 have aAm:∀j∈e.ca.tD,fL g.ca.new j=false:=λj hj=>EA (p0 hp j hj);unfold CN at h;split at h
 . grind[Option.some.injEq,zt,Out.tD,uS]
 . cases hd:au e.ca.del k with
   |true=>grind
   |false=>
    rw [hd] at h;split at h
    . rename_i c hc;simp at h;subst h;have mD:∀j∈gu c,fL g.ca.new j=false:=λj hj=>aAm j (by grind[Out.tD,uS]);unfold vF;cases au e.ca.raw k with
      |true=>grind[zt]
      |false=>
      simp;rw [tV,iq];have comm:(λk=>fL e.ca.new k || fL g.ca.new k)=λk=>fL g.ca.new k || fL e.ca.new k:=by grind
      rw [comm,<-iq,zt _ c mD]
    grind
theorem Clean.ap {e g:Ev}{s:St}(hg:Clean g s)(he:Clean e s)(hp:l8 e.ca.tD (g.ca.new.map (·.1))=true):Clean g (ap ops e s):=by
 refine⟨λi=>?_,λk=>?_⟩
 . rw [KW he];split
   . have :aB (fL g.ca.new) e.ca.res=e.ca.res:=KR _ _ λk hk=>EA (p0 hp k (by grind[Out.tD]));cases hq:la ops e.i with
     |false=>exact this
     |true=>
      cases hr:e.ca.res with
      |bool b=>cases b<;>rfl
      |_=>rw [hr] at this;exact this
   . exact hg.1 i
 . rw [H3 he];cases hw:CN e k with
   |none=>exact hg.2 k
   |some v=>
    cases v with
    |none=>rfl
    |some b=>grind[bZ,Rh]
theorem EB {h h':aJ}:∀(l:List (Nat×AB)),(∀k∈l.map (·.1),h' k=h k)->iy h' l=iy h l
 |[],_=>rfl
 |(k,b)::l,hx=>by
  simp [iy,hx k z!,EB l (λj hj=>hx j (by simp only [M?,N!];exact .inr hj))]
theorem KX {t t':Nat->AV}{o:Oper}(h:∀x∈looks ops o,t' x=t x):Kz ops t' o=Kz ops t o:=by
 grind[Kz,looks,CG]
theorem EC:∀(xs:List Operand) (i:Nat),.tmp i∈xs->i∈slotsOf xs
 |x::xs,i,h=>by
  rcases N!.1 h with rfl|h
  . simp [slotsOf]
  . have:=EC xs i h;cases x<;>simp [slotsOf,this]
theorem sE {h h':aJ}:∀(ks:List Nat),(∀k∈ks,h' k=h k)->fZ h' ks=fZ h ks
 |[],_=>rfl
 |k::ks,hk=>by simp [fZ,hk k (H! ..),sE ks λj hj=>hk j (E! _ hj)]
def abZ {s s':St}{o:Oper}(h:∀x∈looks ops o,s'.t x=s.t x)(hg:s'.g=s.g):∀x∈o.op.operands.toList,ev s' x=ev s x:=by
 intro x hx;cases x with
 |global i=>grind[ev]
 |tmp i=>exact h i (by grind[looks,List.mem_append_right,EC])
 |_=>rfl
def jy.ED {f:Ev}{s s1 s':St}(hf:jy E ops f s s1)(ht:∀x∈looks ops f.o,s'.t x=s.t x)(hk:∀k,k∈f.kr\/k∈f.ca.wr->s'.h k=s.h k)(hn:s'.n=s.n)(nc:s'.kb=s.kb)(hgg:s'.g=s.g):
  jy E ops f s' (ap ops f s'):=by
 have hev:=abZ ht hgg
 have hkr:iX E s' f.o=iX E s f.o:=by
  have nr:∀k∈ar (f.o.op.operands.toList.map (ev s)),s'.h k=s.h k:=λk ew=>hk k (.inl (by rw [hf.kr];exact E! _ (U! _ ew)))
  have hbc:qN s' f.o=qN s f.o:=by
   have I3:∀k∈qN s f.o,s'.h k=s.h k:=λk ew=>hk k (.inl (by rw [hf.kr];exact List.mem_cons_of_mem _ (List.mem_append_right _ (List.mem_append_left _ ew))));unfold qN at I3 |-;cases Ri:f.o.op with
   |call c=>
    simp only [Ri] at I3 nr hev |-;rw [W? hev];exact zr nr λk ew=>I3 k (U! _ ew)
   |_=>rfl
  have mD:sx E s'.h f.o=sx E s.h f.o:=by
   have hm:∀q∈sx E s.h f.o,s'.h q=s.h q:=λq hq=>hk q (.inl (by
    rw [hf.kr];exact E! _ (A? _ (A? _ (A? _ hq)))))
   grind[sx,sE,List.mem_singleton,List.mem_cons_self]
  grind[iX,List.map_congr_left,sE]
 refine⟨hf.op,?_,hf.kr.trans hkr.symm,?_,gM.refl _⟩
 . have:=hf.dst;grind[eJ]
 . have qX:=hf.step;cases ho:f.out with
   |none=>
    grind[KX]
   |some out=>
    rw [ho] at qX;obtain⟨h1,h2,h3,h4⟩:=qX;have he:f.ca=out:=by grind[Ev.ca]
    refine⟨by grind[KX],?_,?_,h4⟩
    . rw [WV hev (λk ew=>hk k (.inl (by rw [hf.kr];omega))) nc];omega
    grind[EB,Out.wr]
theorem jy.seq {f:Ev}{s s1 r r1:St}(hf:jy E ops f s s1)(h:gM r s)(h1:gM r1 s1):jy E ops f r r1:=by
 have:=hf.ED (s':=r) (λx _=>by rw [h.1]) (λk _=>by rw [h.2.1]) h.2.2.1 h.2.2.2.1 h.2.2.2.2;refine⟨this.op,this.dst,this.kr,this.step,?_⟩;refine h1.trans (hf.next.trans ?_);refine gM.ja ?_ _ _;obtain⟨e1,e2,e3,e4,e5⟩:=h;refine⟨?_,?_,e3.symm,e4.symm,e5.symm⟩
 . simp_all[St.put]
 simp_all[St.put]
theorem sC.seq:∀(es:List Ev) (s r q q':St),sC E ops es s q->gM r s->gM q' q->sC E ops es r q'
 |[],s,r,q,q',h,h1,h2=>h2.trans (gM.trans h h1.symm)
 |e::es,s,r,q,q',⟨s1,h,hx⟩,h1,h2=>⟨s1,h.seq h1 (gM.refl _),sC.seq es s1 s1 q q' hx (gM.refl _) h2⟩
def apart_spec {e f:Ev}(h:rI ops e f=true):(∀d,e.o.dst=some d->d∉looks ops f.o)/\(∀d,f.o.dst=some d->d∉looks ops e.o)/\(∀d,e.o.dst=some d->f.o.dst≠some d)/\
  (∀k∈e.ca.wr,k∉f.kr)/\(∀k∈f.ca.wr,k∉e.kr)/\(∀k∈e.ca.wr,k∉f.ca.wr)/\l8 e.ca.tD (f.ca.new.map (·.1))=true/\l8 f.ca.tD (e.ca.new.map (·.1))=true:=by
 unfold rI at h;grind[p0,KA,Bool.not_eq_true',ic,ct,Bool.not_true]
def swap {e f:Ev}{s s1 s2:St}(he:jy E ops e s s1)(hf:jy E ops f s1 s2)(ha:rI ops e f=true)(ce:Clean e s)(cf:Clean f s):
  jy E ops f s (ap ops f s)/\jy E ops e (ap ops f s) (ap ops e (ap ops f s))/\gM (ap ops e (ap ops f s)) s2:=by
 obtain⟨a1,a2,a3,a4,a5,a6,a7,a8⟩:=apart_spec ha;have n1:gM s1 (ap ops e s):=he.next;have cf1:Clean f (ap ops e s):=cf.ap ce a7;have ce1:Clean e (ap ops f s):=ce.ap cf a8;have hf':jy E ops f (ap ops e s) s2:=hf.seq n1.symm (gM.refl _)
 have hF:jy E ops f s (ap ops f s):=by
  refine hf'.ED (λx hx=>?_) (λk hk=>?_) (KU _ _).symm (CO _ _).symm (KV _ _).symm
  . rw [KW ce,Q! (λh=>a1 x h hx)]
  grind[H3,oq]
 have hE:jy E ops e (ap ops f s) (ap ops e (ap ops f s)):=by
  refine he.ED (λx hx=>?_) (λk hk=>?_) (KU _ _) (CO _ _) (KV _ _)
  . rw [KW cf,Q! (λh=>a2 x h hx)]
  grind[H3,oq]
 refine⟨hF,hE,gM.trans ?_ hf'.next.symm⟩;show gM (ap ops e (ap ops f s)) (ap ops f (ap ops e s));refine⟨?_,?_,by grind[KU],by grind[CO],by grind[KV]⟩
 . grind[KW]
 grind[H3,oq]
def sF(ops:List Oper):List Ev->Prop
 |[]=>True
 |e::es=>(∀f∈es,l8 e.ca.tD (f.ca.new.map (·.1))=true/\(waits f e=true\/rI ops e f=true))/\sF ops es
def ë:∀(es1:List Ev) (f:Ev) (qO:List Ev) (s q:St),sC E ops (es1++f::qO) s q->(∀e∈es1,rI ops e f=true)->
  sF ops (es1++f::qO)->(∀g∈es1++f::qO,Clean g s)->jy E ops f s (ap ops f s)/\sC E ops (es1++qO) (ap ops f s) q
 |[],f,qO,s,q,hx,ha,_,hc=>by
   obtain⟨s1,h1,h2⟩:=hx;refine⟨h1.ED (λ_ _=>rfl) (λ_ _=>rfl) rfl rfl rfl,sC.seq _ _ _ _ _ h2 h1.next.symm (gM.refl _)⟩
 |e::es1,f,qO,s,q,hx,ha,hP,hc=>by
  obtain⟨s1,h1,h2⟩:=hx;have ce:=hc e z!
  have hc1:∀g∈es1++f::qO,Clean g s1:=by
   intro g hg;have h:=(hc g x!).ap (ops:=ops) ce (hP.1 g hg).1;have hn:gM s1 (ap ops e s):=h1.next;exact⟨λi=>by rw [hn.1];exact h.1 i,λk=>by rw [hn.2.1];exact h.2 k⟩
  obtain⟨b1,b2⟩:=ë es1 f qO s1 q h2 (λe' Rj=>ha e' (E! _ Rj)) hP.2 hc1;obtain⟨c1,c2,c3⟩:=swap h1 b1 (ha e z!) ce (hc f z!);exact⟨c1,ap ops e (ap ops f s),c2,sC.seq _ _ _ _ _ b2 c3 (gM.refl _)⟩
end
end Go.Vg

end
section
namespace Go.Vg
open Go
variable [HP]
section
variable {P:Program} {C:Ctx} {E:Env}
def ir {l:Array Bool}{i:Nat}(h:i<l.size):l.getD i true=l.getD i false:=by
 grind
def sF.sub:∀ {es1:List Ev} {f:Ev} {qO:List Ev} {ops:List Oper},sF ops (es1++f::qO)->sF ops (es1++qO)
 |[],f,qO,ops,h=>h.2
 |e::es1,f,qO,ops,h=>by
  refine⟨λg hg=>h.1 g ?_,sF.sub (es1:=es1) h.2⟩;have hg:g∈es1++qO:=hg;show g∈es1++f::qO;rw [G!] at hg |-;exact hg.imp id (E! _)
def sF.mid:∀ {es1:List Ev} {f:Ev} {qO:List Ev} {ops:List Oper},sF ops (es1++f::qO)->(∀e∈es1,l8 e.ca.tD (f.ca.new.map (·.1))=true/\(waits f e=true\/rI ops e f=true))/\
  ∀g∈qO,l8 f.ca.tD (g.ca.new.map (·.1))=true
 |[],f,qO,ops,h=>⟨λe he=>x!,λg hg=>(h.1 g hg).1⟩
 |e::es1,f,qO,ops,h=>by
  obtain⟨h1,h2⟩:=sF.mid (es1:=es1) h.2;refine⟨λe' Rj=>?_,h2⟩;rcases N!.1 Rj with rfl|Rj
  . exact h.1 f z!
  . exact h1 e' Rj
def auC(all:List Ev):Prop:=∀f∈all,∀k∈f.pre,∃x∈f.o.after.toList,Region.binds .any x=true/\(x.on=k\/∃g∈all,g.i=x.on/\k∈g.pre)
def WW {ops iY:Array Oper}{all:List Ev}{R:Array Bool->St->Act->World->Prop}{Q:Exit->Act->World->Prop}(QS:iY.size=ops.size)(ho2:∀(i:Nat) (o o':Oper),ops[i]? =some o->iY[i]? =some o'->o'.after=o.after)
  (OS:∀listed s r a w,gM r s->R listed s a w->R listed r a w)
  (WX:∀(f:Ev) (listed:Array Bool) (s:St) (a:Act) (w:World) (K:Act->World->Prop),f∈all->jy E iY.toList f s (ap iY.toList f s)->Clean f s->listed.size=ops.size->listed.getD f.i true=false->
    (∀x∈f.o.after,Region.binds .any x=true->listed.getD x.on false=true)->R listed s a w->(∀a' w',R (listed.setIfInBounds f.i true) (ap iY.toList f s) a' w'->K a' w')->wpOp P ops Q f.i K a w):
  ∀(fuel:Nat) (listed:Array Bool) (es:List Ev) (s q:St) (a:Act) (w:World),
  es.length<=fuel->sC E iY.toList es s q->sF iY.toList es->(∀g∈es,Clean g s)->(es.map (·.i)).Pairwise (· < ·)->(∀i,listed.getD i true=false↔∃e∈es,e.i=i)->
  (∀e∈es,∀x∈e.o.after.toList,Region.binds .any x=true->x.on<e.i)->(∀e∈es,iY[e.i]? =some e.o)->(∀e∈es,e∈all)->(∀g∈all,iY[g.i]? =some g.o)->auC all->(∀g∈all,listed.getD g.i true=true->∀k∈g.pre,listed.getD k false=true)->listed.size=ops.size->R listed s a w->(∀listed a' w',(∀i,listed.getD i true=true)->listed.size=ops.size->R listed q a' w'->Q .normal a' w')->wpAny P .any ops Q fuel listed a w:=by
 have qM:∀(i:Nat) (o':Oper),iY[i]? =some o'->∃o:Oper,ops[i]? =some o/\o'.after=o.after:=by
  intro i o' h;have iU:i<ops.size:=by rw [<-QS];exact(O!.1 h).1
  exact⟨ops[i],Array.getElem?_eq_getElem iU,ho2 i _ _ (Array.getElem?_eq_getElem iU) h⟩
 intro fuel;induction fuel with
 |zero=>
  intro listed es s q a w hl hx hP hc hi hm hb ho lP hao sG mD cZ hR hQ;have :es=[]:=i?.1 (Nat.le_zero.1 hl);subst this
  have hal:∀i,listed.getD i true=true:=λi=>by
   cases h:listed.getD i true with
   |true=>rfl
   |false=>obtain⟨_,he,_⟩:=(hm i).1 h;cases he
  refine⟨?_,hQ _ _ _ hal cZ (OS _ _ _ _ _ hx hR)⟩;rw [List.eq_nil_iff_forall_not_mem];intro j hj;rw [(mem_ready.1 hj).1.symm.trans (hal j)] at *;have:=(mem_ready.1 hj).1;rw [hal j] at this;cases this
 |succ fuel ih=>
  intro listed es s q a w hl hx hP hc hi hm hb ho lP hao sG mD cZ hR hQ;refine⟨λhr=>?_,λi e7=>?_⟩
  . cases es with
    |nil=>
     refine hQ _ _ _ (λi=>?_) cZ (OS _ _ _ _ _ hx hR);cases h:listed.getD i true with
     |true=>rfl
     |false=>obtain⟨_,he,_⟩:=(hm i).1 h;cases he
    |cons e es=>
     exfalso;have hoe:=ho e z!;obtain⟨oo,KY,haf⟩:=qM _ _ hoe;have iU:e.i<ops.size:=(O!.1 KY).1
     have :e.i∈Region.ready .any ops listed:=by
      refine mem_ready.2 ⟨(hm e.i).2 ⟨e,z!,rfl⟩,oo,KY,λx Bq hbx=>?_⟩;rw [<-haf] at Bq;have hon:=hb e z! x (by simpa using Bq) hbx;rw [<-ir (by rw [cZ];omega)];cases hq:listed.getD x.on true with
      |true=>rfl
      |false=>
       obtain⟨g,hg,hgi⟩:=(hm x.on).1 hq;exfalso;rcases N!.1 hg with rfl|hg
       . omega
       . have :e.i<g.i:=(g?.1 hi).1 g.i (S? hg);omega
     rw [hr] at this;cases this
  . obtain⟨h0,o,tE,KZ⟩:=mem_ready.1 e7;obtain⟨f,hf,CP⟩:=(hm i).1 h0;obtain⟨es1,qO,rfl⟩:=List.append_of_mem hf;subst CP;have K1:=ho f z!;rw [<-ho2 _ _ _ tE K1] at KZ;obtain⟨m1,m2⟩:=hP.mid
    have asK:∀g∈all,iY[g.i]? =some f.o->∀k∈g.pre,listed.getD k false=true:=by
     intro g hg WY k hk
     have hgf:g.o=f.o:=by
      have:=hao g hg;rw [WY] at this;exact(X? this).symm
     obtain⟨x,NG,WZ,hx3⟩:=sG g hg k hk;rw [hgf] at NG;have Ja:=KZ x (by simpa using NG) WZ;rcases hx3 with rfl|⟨g',vU,hgi,hkg⟩
     . exact Ja
     . refine mD g' vU ?_ k hkg;rw [hgi];rw [B?] at Ja |-;cases hq:listed[x.on]? with
       |none=>rfl
       |some b=>rw [hq] at Ja;exact Ja
    have tF:∀e∈es1,rI iY.toList e f=true:=by
     intro e he;rcases(m1 e he).2 with hw|hw
     . exfalso;have hmk:e.i∈f.pre:=(AX _ _).1 hw;have this:=asK f (lP f z!) K1 e.i hmk;have he0:=(hm e.i).2 ⟨e,by simp [he],rfl⟩
       have iU:e.i<listed.size:=by
        rw [cZ,<-QS];exact(O!.1 (ho e (by simp [he]))).1
       rw [ir iU] at he0;rw [he0] at this;cases this
     . exact hw
    obtain⟨c1,c2⟩:=ë es1 f qO s q hx tF hP hc;refine WX f listed s a w _ (lP f z!) c1 (hc f z!) cZ h0 KZ hR λa' w' eQ=>?_;have cf:=hc f z!
    have gV:∀e∈es1++qO,e∈es1++f::qO:=by
     intro e he;rw [G!] at he |-;exact he.imp id (E! _)
    have dU:∀e∈es1++qO,e.i≠f.i:=by
     intro e he;rw [u?,M?,List.pairwise_append] at hi;obtain⟨p1,p2,p3⟩:=hi;rcases G!.1 he with he|he
     . have :e.i<f.i:=p3 e.i (S? he) f.i z!;omega
     . have :f.i<e.i:=(g?.1 p2).1 e.i (S? he);omega
    have aAq:f.i<listed.size:=by rw [cZ,<-QS];exact(O!.1 K1).1
    refine ih (listed.setIfInBounds f.i true) (es1++qO) (ap iY.toList f s) q a' w' ?_ c2 hP.sub ?_ ?_ ?_ (λe he=>hb e (gV e he)) (λe he=>ho e (gV e he)) (λe he=>lP e (gV e he)) hao sG ?_ (by simpa using cZ) eQ hQ
    . simp only [K!,G?] at hl |-;omega
    . intro g hg;refine(hc g (gV g hg)).ap cf ?_;rcases G!.1 hg with hg|hg
      . exact(apart_spec (tF g hg)).2.2.2.2.2.2.2
      . exact m2 g hg
    . refine hi.sublist ?_;rw [u?,u?,M?];exact List.Sublist.append (List.Sublist.refl _) (List.sublist_cons_self _ _)
    . intro i;by_cases hif:i=f.i
      . subst hif
        have :(listed.setIfInBounds f.i true).getD f.i true=true:=by
         rw [B?,Array.getElem?_setIfInBounds_self_of_lt aAq];rfl
        rw [this];constructor
        . intro h;cases h
        . rintro⟨e,he,h⟩;exact absurd h (dU e he)
      . rw [getD_set_ne true (λh=>hif h.symm),hm i];constructor
        . rintro⟨e,he,rfl⟩;refine⟨e,?_,rfl⟩;rw [G!,N!] at he;rw [G!];rcases he with he|rfl|he
          . exact .inl he
          . exact absurd rfl hif
          . exact .inr he
        . rintro⟨e,he,rfl⟩;exact⟨e,gV e he,rfl⟩
    . intro g hg hlg k hk;by_cases hgf:g.i=f.i
      . exact getD_set_true (asK g hg (by rw [hgf];exact K1) k hk)
      . rw [getD_set_ne true (λh=>hgf h.symm)] at hlg;exact getD_set_true (mD g hg hlg k hk)
def zu:∀(a b:List Nat) (k:Nat),k∈Eo a b->k∈a\/k∈b
 |[],b,k,h=>.inr h
 |j::a,b,k,h=>by
  simp [Eo] at h;cases hj:au b j with
  |true=>
   rw [hj] at h;rcases zu a b k h with h|h
   . exact .inl (E! _ h)
   . exact .inr h
  |false=>
   rw [hj] at h;rcases zu a (j::b) k h with h|h
   . exact .inl (E! _ h)
   . rcases N!.1 h with rfl|h
     . exact .inl (H! ..)
     . exact .inr h
theorem K2:∀(tr:List Ev) (i k:Nat),k∈Q7 i tr->∃g∈tr,g.i=i/\k∈g.pre
 |e::tr,i,k,h=>by
  simp [Q7] at h;cases hb:Nat.beq e.i i with
  |true=>rw [hb] at h;exact⟨e,H! ..,C! hb,h⟩
  |false=>
   rw [hb] at h;obtain⟨g,h1,h2⟩:=K2 tr i k h;exact⟨g,E! _ h1,h2⟩
 |[],_,_,h=>by cases h
theorem CQ:∀(tr:List Ev) (xs:List Edge) (k:Nat),k∈kG tr xs->∃x∈xs,Region.binds .any x=true/\(x.on=k\/∃g∈tr,g.i=x.on/\k∈g.pre)
 |tr,x::xs,k,h=>by
  simp [kG] at h;cases hb:Region.binds .any x with
  |true=>
   rw [hb] at h;rcases zu _ _ k h with h|h
   . grind[List.mem_cons_self,K2]
   . obtain⟨y,h1,h2⟩:=CQ tr xs k h;exact⟨y,E! _ h1,h2⟩
  |false=>
   rw [hb] at h;obtain⟨y,h1,h2⟩:=CQ tr xs k h;exact⟨y,E! _ h1,h2⟩
 |_,[],_,h=>by cases h
def W0 {kb:Nat}{ops:List Oper}(es:List Ev):∀(tr:List Ev),Re kb ops tr es->∀f∈es,∀k∈f.pre,∃x∈f.o.after.toList,Region.binds .any x=true/\(x.on=k\/∃g,(g∈tr\/g∈es)/\g.i=x.on/\k∈g.pre):=by
 induction es with
 |nil=>grind
 |cons e es ih=>
  intro tr h f hf k hk;obtain⟨_,hp,hr⟩:=h;grind[CQ,List.mem_cons_self,List.mem_cons_of_mem]
def EE {kb:Nat}{ops:List Oper}:∀(es tr:List Ev),Re kb ops tr es->(∀e∈tr,∀f∈es,l8 e.ca.tD (f.ca.new.map (·.1))=true/\(waits f e=true\/rI ops e f=true))/\
  sF ops es/\(∀f∈es,∀x∈f.o.after.toList,Region.binds .any x=true->x.on<f.i)/\(∀f∈es,∀x∈f.ca.new,cy kb ((dK ops).map .dst) x.1=true)/\
  ∀f∈es,l8 (f.kr++(f.ca.wr++f.ca.tD)) [dq]=true/\Gk f=true
 |[],tr,_=>⟨λ_ _ f hf=>x!,trivial,λf hf=>x!,λf hf=>x!,λf hf=>x!⟩
 |f::es,tr,⟨h,_,hr⟩=>by
  obtain⟨r1,r2,r3,r4,r5⟩:=EE es (f::tr) hr;simp only [lN,I!,B!] at h;obtain⟨⟨⟨h1,h2⟩,h3⟩,h4⟩:=h;simp only [X!,e?,B!] at h1 h2 h3;refine⟨λe he g hg=>?_,⟨λg hg=>r1 f z! g hg,r2⟩,λg hg x hx hb=>?_,λg hg x hx=>?_,λg hg=>?_⟩
  . grind
  . rcases N!.1 hg with rfl|hg
    . rcases h2 x hx with h|h
      . grind
      simp_all
    grind
  . rcases N!.1 hg with rfl|hg
    . exact h3 x hx
    . exact r4 g hg x hx
  . rcases N!.1 hg with rfl|hg
    . exact h4
    . exact r5 g hg
theorem aq.drew {A:Nat->Prop}{β:Nat->Value}{st:St}{a:Act}{w:World}(hB:aq C A β st a w)(n:Nat):aq C A β st a {w with drawn:=n}:=by
 have hK:b7 w {w with drawn:=n} A A:=λb hb=>⟨hb,rfl⟩;refine⟨hB.defers,hB.size,λi=>hY hK _ _ (hB.tmps i),λk ab h=>?_,hB.apart,hB.bound,⟨hB.frame.os,hB.frame.tape,hB.frame.output,hB.frame.size,hB.frame.block⟩,hB.gH,hB.base,hB.lK,hB.nR,λi d hd=>(hB.laid i d hd).mono hK,hB.held⟩;have:=vI (w:=w) (aw:=β) (new:=[]) (w':={w with drawn:=n}) (λ_ _=>rfl) rfl (λb hb=>⟨rfl,id⟩) hK (hB.blocks k ab h);rwa [show bG [] ab=ab from rfl] at this
def ab1 {ops:List Oper}(es:List Ev):∀(s q:St),sC E ops es s q->∀e∈es,ops[e.i]? =some e.o:=by
 induction es with
 |nil=>grind
 |cons e es ih=>
  intro s q hx f hf;obtain⟨s1,h1,h2⟩:=hx;rcases N!.1 hf with rfl|hf
  . exact h1.op
  grind
def K3 {ops iY:Array Oper}(QS:iY.size=ops.size)(ho2:∀(i:Nat) (o o':Oper),ops[i]? =some o->iY[i]? =some o'->o'.after=o.after){s0 m:St}{cs:List Prop}(h:pE E true iY.toList 0 [] iY.toList s0=some (cs,m))(dm:∀p∈cs,p)
  (D4:∀i,aB (cy s0.kb ((dK iY.toList).map .dst)) (s0.t i)=s0.t i) (QF:∀k,bZ (cy s0.kb ((dK iY.toList).map .dst)) (s0.h k)=s0.h k):
  ∃(es:List Ev) (sl:St),(∀f∈es,iY[f.i]? =some f.o/\l8 (f.kr++(f.ca.wr++f.ca.tD)) [dq]=true/\Gk f=true)/\(∀(C:Ctx) A β a w,aq C A β sl a w->aq C A β m a w)/\
   ∀(R:Array Bool->St->Act->World->Prop) (Q:Exit->Act->World->Prop) (a:Act) (w:World),(∀listed s r a w,gM r s->R listed s a w->R listed r a w)->
   (∀(f:Ev) (listed:Array Bool) (s:St) (a:Act) (w:World) (K:Act->World->Prop),f∈es->jy E iY.toList f s (ap iY.toList f s)->Clean f s->listed.size=ops.size->listed.getD f.i true=false->
     (∀x∈f.o.after,Region.binds .any x=true->listed.getD x.on false=true)->R listed s a w->(∀a' w',R (listed.setIfInBounds f.i true) (ap iY.toList f s) a' w'->K a' w')->wpOp P ops Q f.i K a w)->
   R (Array.replicate ops.size false) s0 a w->(∀listed a' w',(∀i,listed.getD i true=true)->listed.size=ops.size->R listed sl a' w'->Q .normal a' w')->wpAny P .any ops Q ops.size (Array.replicate ops.size false) a w:=by
 obtain⟨es,sl,h1,h2,h3,h4⟩:=sD iY.toList 0 [] _ cs m h dm (λk=>by simp);obtain⟨_,p1,p2,p3,p4⟩:=EE es [] (h3 rfl)
 have hlen:es.length=ops.size:=by
  have:=congrArg List.length h2;grind
 have asL:∀i,(∃e∈es,e.i=i)↔i<ops.size:=by
  intro i;have :(∃e∈es,e.i=i)↔i∈es.map (·.i):=by simp
  grind
 have WY:∀e∈es,iY[e.i]? =some e.o:=λe he=>by
  have:=ab1 es _ _ h1 e he;simpa using this
 refine⟨es,sl,λf hf=>⟨WY f hf,p4 f hf⟩,h4,λR Q a w OS WX h0 hQ=>?_⟩;refine WW QS ho2 OS WX ops.size _ es _ sl _ _ w! h1 p1 (λg hg=>?_) ?_ (λi=>?_) p2 WY (λ_ h=>h) WY ?_ ?_ z! h0 hQ
 . have hp:∀k,fL g.ca.new k=true->cy s0.kb ((dK iY.toList).map .dst) k=true:=by
    intro k hk
    have :∃x∈g.ca.new,x.1=k:=by
     rw [xc] at hk
     have :k∈g.ca.new.map (·.1):=by
      apply Q?;intro hn;rw [iC _ k (ic.2 hn)] at hk;cases hk
     simpa using this
    obtain⟨x,hx,rfl⟩:=this;exact p3 g hg x hx
   have asM:∀k,(cy s0.kb ((dK iY.toList).map .dst) k || fL g.ca.new k)=cy s0.kb ((dK iY.toList).map .dst) k:=by
    intro k;cases hk:fL g.ca.new k with
    |false=>rw [Bool.or_false]
    |true=>rw [hp k hk];rfl
   refine⟨λi=>?_,λk=>?_⟩
   . rw [<-D4 i,cU];simp only [asM]
   . rw [<-QF k,fa];simp only [asM]
 . rw [h2];exact List.pairwise_lt_range'
 . rw [asL];constructor
   . intro h;by_cases hi:i<ops.size
     . exact hi
     . rw [B?,Array.getElem?_eq_none (by simpa using hi)] at h;cases h
   . intro hi;rw [B?,Array.getElem?_replicate,R! hi];rfl
 . intro f hf k hk;obtain⟨x,g1,g2,g3⟩:=W0 es [] (h3 rfl) f hf k hk;refine⟨x,g1,g2,g3.imp (λh=>h) ?_⟩;rintro⟨g,hg,h⟩;rcases hg with hg|hg
   . cases hg
   . exact⟨g,hg,h⟩
 . intro g hg hlg;have hgi:g.i<ops.size:=(asL g.i).1 ⟨g,hg,rfl⟩;rw [B?,Array.getElem?_replicate,R! hgi] at hlg;cases hlg
def Gn(st:St)(W:List Nat):(∀i,aB (cy st.kb (W.map .dst)) ((st.ahead W).t i)=(st.ahead W).t i)/\∀k,bZ (cy st.kb (W.map .dst)) ((st.ahead W).h k)=(st.ahead W).h k:=by
 constructor
 . intro i;simp only [St.ahead,cU,Bool.or_self]
 . intro i;simp only [St.ahead,fa,Bool.or_self]
end
end Go.Vg

end
section
namespace Go.Vg
open Go
variable [HP]
section
variable {P:Program} {C:Ctx} {E:Env} {A:Nat->Prop} {β:Nat->Value} {st:St} {a:Act} {w:World}
theorem NY(hE:cQ P C E)(hm:P.follows .mixedOrders=true){id:Nat}{ops:Array Oper}{cs:List Prop}{m:St}(h:pE E true ops.toList 0 [] ops.toList (st.ahead (dK ops.toList))=some (cs,m))(dm:∀p∈cs,p)
  (hR:Rel C st a w) {Q:Exit->Act->World->Prop} (hQ:∀a' w',Rel C m a' w'->Q .normal a' w'):(Code.region id ops true).wp P Q a w:=by
 obtain⟨es,sl,_,h1,h2⟩:=K3 (P:=P) (ops:=ops) rfl (λi o o' h1 h2=>by rw [h1] at h2;cases h2;rfl) h dm (Gn st _).1 (Gn st _).2;obtain⟨A,β,hB⟩:=hR;exact wp_region_any hm (h2 (λ_ s a w=>Rel C s a w) Q _ _ (λ_ s r a w hq ⟨A,β,hB⟩=>⟨A,β,hB.seq hq⟩) (λf _ s a w K _ hf _ _ _ _ hR hK=>oQ hE hf hR hK) ⟨A,β,(hB.ahead _).drew _⟩ λ_ a' w' _ _ ⟨A,β,hB⟩=>hQ _ _ ⟨A,β,h1 _ _ _ _ _ hB⟩)
theorem Ui {ops:Array Oper}{Q:Exit->Act->World->Prop}{i:Nat}{K:Act->World->Prop}{o:Oper}(ho:ops[i]? =some o)(h:wpOp P ops Q i K a w):
  wpOp P ops Q i (λa' w'=>K a' w'/\∀j,o.dst≠some j->a'.tmps.getD j undef=a.tmps.getD j undef) a w:=by
 have hp:∀(b:Act) (v:Value),b.tmps=a.tmps->∀j,o.dst≠some j->(b.put o.dst v).tmps.getD j undef=a.tmps.getD j undef:=by
  unfold Act.put;cases hd:o.dst with
  |none=>grind
  |some d=>
   simp_all
 unfold wpOp at *;simp [ho] at *;split
 . rename_i hw;rw [if_pos hw] at h;refine h.imp (λh=>?_) id;unfold Oper.wp at *;generalize (execOp a.eval o).run P w=r at *;cases r with
   |ok n w'=>
    cases n with
    |enter f args=>exact Calls.mono h λe NC he=>by grind
    |row r args=>exact Rows.mono h λ_ _ he=>⟨he,hp _ _ rfl⟩
    |value v=>exact⟨h,hp _ _ rfl⟩
    |skip=>exact⟨h,hp _ _ rfl⟩
    |defer d=>exact⟨h,hp _ _ rfl⟩
    |_=>exact h
   |halt x w'=>cases x<;>exact h
 grind
def Cl(s:St):Prop:=∀o,Clean ⟨0,o,some {cond:=[],res:=.cr,new:=[(dq,.cells [])]},[],[]⟩ s
def CR {x:AB}:fL [(dq,x)]=λk=>Nat.beq k dq:=by
 grind[fL]
def Rk {s:St}:Cl s↔(∀i,aB (λk=>Nat.beq k dq) (s.t i)=s.t i)/\∀k,bZ (λk=>Nat.beq k dq) (s.h k)=s.h k:=by
 rw [<-CR (x:= .cells [])];exact⟨λh=>h ⟨none,KB,0,"", #[],none⟩,λh _=>h⟩
def alf(s:St):Cl s.cut:=by
 simp_all[Rk,St.cut,cU,Bool.or_self,fa]
def St.wm(s:St)(b:Nat)(es:Array MapEntry)(ck:Nat):St:={s with h:=λk=>bif Nat.beq k dq then some (.mp b es ck) else s.h k}
theorem zv {L:List Nat}{o:Oper}:(eB L o).dst=o.dst/\(eB L o).guard=o.guard/\(eB L o).after=o.after:=by
 grind[eB]
theorem W2 {L:List Nat}{ops:List Oper}{j:Nat}:CG (ops.map (eB L)) j=CG ops j:=by
 unfold CG;rw [List.getElem?_map];cases ops[j]? with
 |none=>rfl
 |some o=>exact zv.1
theorem Rl {L:List Nat}{ops:List Oper}{j:Nat}:la (ops.map (eB L)) j=la ops j:=by
 grind[la,List.any_map,zv]
theorem H4 {L:List Nat}{ops:List Oper}{f:Ev}{s s':St}(h:jy E (ops.map (eB L)) f s s')(ho:ops[f.i]? =some f.o):jy E ops f s s':=by
 have hg:∀t,Kz (ops.map (eB L)) t f.o=Kz ops t f.o:=λt=>by grind[Kz,W2]
 refine⟨ho,h.dst,h.kr,?_,by have:=h.next;grind[Rl]⟩;have:=h.step;grind
def OT {i0 d:Nat}{t:TypeId}:∀(ops:List Oper) (i:Nat),ã i ops=some (i0,d,t)->i<=i0/\∃o,ops[i0-i]? =some o/\o.op= .makeMap t none/\o.dst=some d
 |o::r,i,h=>by
  unfold ã at h;split at h
  . grind
  . obtain⟨h1,o',h2,h3⟩:=OT r (i+1) h;grind
theorem xh {L:List Nat}:∀(ops:List Oper) (i:Nat) (q:Nat×Int×Nat),q∈dw L i ops↔∃o t,i<=q.1/\ops[q.1-i]? =some o/\role L o= .ins t q.2.1 q.2.2
 |[],i,q=>by simp [dw]
 |o::r,i,q=>by
  have ih:=xh (L:=L) r (i+1) q;unfold dw;grind
theorem AY {L:List Nat}{ops:List Oper}{q:Nat×Int×Nat}:q∈dw L 0 ops↔∃o t,ops[q.1]? =some o/\role L o= .ins t q.2.1 q.2.2:=by
 grind[xh]
def sH {L:List Nat}:∀(ops:List Oper) (i:Nat),((dw L i ops).map (·.1)).Nodup
 |[],i=>by simp [dw]
 |o::r,i=>by
  have ih:=sH (L:=L) r (i+1);unfold dw;split
  . rw [M?,List.nodup_cons];refine⟨λh=>?_,ih⟩;obtain⟨q,h1,h2⟩:=b?.1 h;obtain⟨_,_,h3,_⟩:=(xh r (i+1) q).1 h1;omega
  . exact ih
def EF {α:Type}{p p':α->Bool}{x:α}:∀(l:List α),l.Nodup->x∈l->p x=false->(∀y∈l,p' y=true↔p y=true\/y=x)->(l.filter p').Perm (l.filter p++[x])
 |y::l,hn,hx,hp,h=>by
  rw [List.nodup_cons] at hn;have hy:=h y (H! ..);by_cases hyx:y=x
  . subst hyx
    have e:l.filter p'=l.filter p:=List.filter_congr λz hz=>by
     grind
    rw [List.filter_cons_of_pos (hy.2 (.inr rfl)),List.filter_cons_of_neg x!,e];exact(List.perm_append_singleton y _).symm
  . have ih:=EF l hn.2 (by rcases N!.1 hx with h|h;exact absurd h.symm hyx;exact h) hp λz hz=>h z (E! _ hz);cases hpy:p y with
    |true=>
     rw [List.filter_cons_of_pos (hy.2 (.inl hpy)),List.filter_cons_of_pos hpy];exact ih.cons y
    |false=>
     have hn':¬p' y=true:=λh=>by rcases hy.1 h with h|h;rw [hpy] at h;cases h;exact hyx h
     rw [List.filter_cons_of_neg hn',List.filter_cons_of_neg (by simp [hpy])];exact ih
def zw {α γ:Type}{f:α->γ}:∀ {l:List α},(l.map f).Nodup->∀x∈l,∀y∈l,f x=f y->x=y
 |z::l,h,x,hx,y,hy,e=>by
  rw [M?,List.nodup_cons] at h;rcases N!.1 hx with h1|h1<;>rcases N!.1 hy with h2|h2
  . exact h1.trans h2.symm
  . exact absurd (b?.2 ⟨y,h2,by rw [<-e,h1]⟩) h.1
  . exact absurd (b?.2 ⟨x,h1,by rw [e,h2]⟩) h.1
  . exact zw h.2 x h1 y h2 e
def BZ {α γ:Type}{f:α->γ}:∀ {l:List α},(l.map f).Nodup->l.Nodup
 |[],_=>List.nodup_nil
 |z::l,h=>by
  rw [M?,List.nodup_cons] at h;exact List.nodup_cons.2 ⟨λhz=>h.1 (S? hz),BZ h.2⟩
structure MI (L:List Nat) (ops:List Oper) (listed:Array Bool) (a:Act) (b:Nat) (es:Array MapEntry):Prop where
 at_:∀j o e,ops[j]? =some o->NT L o=true->o.dst=some e->listed.getD j false=true->a.tmps.getD e undef= .map (some b)
 done :∀q∈dw L 0 ops,listed.getD q.1 false=true->∀(j:Nat) (o:Oper),ops[j]? =some o->o.dst=some q.2.2->listed.getD j false=true
 there:(es.toList.map λx=>(x.key,x.val)).Perm (((dw L 0 ops).filter λq=>listed.getD q.1 false).map λq=>(Value.int .i64 q.2.1,a.tmps.getD q.2.2 undef))
structure asN (T:bY) (L:List Nat) (ops:List Oper) (i0 d:Nat) (t:TypeId):Prop where
 new:∃o,ops[i0]? =some o/\o.op= .makeMap t none/\o.dst=some d
 ty:∃te kt et,T.find t=some te/\te.desc= .map kt et/\cE T kt uG=true
 nodup:fS ((dw L 0 ops).map (·.2.1))=true
 chk:∀(i:Nat) (o:Oper),ops[i]? =some o->ä L ops i0 t i o=true
def Uj {T:bY}{ops:List Oper}{i0:Nat}{t:TypeId}{L:List Nat}(h:Q9 T ops=some (i0,t,L)):∃d,asN T L ops i0 d t:=by
 unfold Q9 at h;split at h
 . rename_i i d t' hm;split at h
   . rename_i te iz;split at h
     . rename_i kt et hd;rw [cond_eq_ite] at h;split at h
       . rename_i hq;cases h;simp at hq;obtain⟨_,o,h1,h2,h3⟩:=OT _ _ hm;refine⟨d,⟨o,w!,h2,h3⟩,⟨te,kt,et,iz,hd,hq.1⟩,hq.2.1,λi o ho=>?_⟩;grind
       grind
     grind
   grind
 grind
def oS {o:Oper}{j:Nat}{listed:Array Bool}(h:AQ o j=true)(hl:∀x∈o.after,Region.binds .any x=true->listed.getD x.on false=true):listed.getD j false=true:=by
 obtain⟨x,hx,hb⟩:=List.any_eq_true.1 h;grind[Nat.eq_of_beq_eq_true]
theorem eF {listed:Array Bool}{i j:Nat}(hi:i<listed.size):(listed.setIfInBounds i true).getD j false=if i=j then true else listed.getD j false:=by
 simp;grind
theorem MI.pF {L:List Nat}{ops:List Oper}{listed:Array Bool}{a a':Act}{b:Nat}{es:Array MapEntry}{i:Nat}{o:Oper}(h:MI L ops listed a b es)(hi:i<listed.size)(hl:listed.getD i true=false)(ho:ops[i]? =some o)
  (hn:∀t k x,role L o≠ .ins t k x) (ha:∀j,o.dst≠some j->a'.tmps.getD j undef=a.tmps.getD j undef)
  (hd:∀j q e,ops[j]? =some q->NT L q=true->q.dst=some e->o.dst=some e->(j=i\/listed.getD j false=true)->a'.tmps.getD e undef= .map (some b)) (hw:NT L o=true->o.dst.isSome):MI L ops (listed.setIfInBounds i true) a' b es:=by
 have Rm:listed.getD i false=false:=by
  grind
 have BQ:∀q∈dw L 0 ops,listed.getD q.1 false=true->o.dst≠some q.2.2:=λq hq yv hd=>by
  rw [h.done q hq yv i o ho hd] at Rm;grind
 have hqi:∀q∈dw L 0 ops,i≠q.1:=λq hq e=>by
  grind[AY]
 refine⟨λj q e hq Wv he hj=>?_,λq hq yv j o' hj qL=>?_,?_⟩
 . rw [eF hi] at hj;by_cases QR:o.dst=some e
   . grind
   . rw [ha e QR];refine h.at_ j q e hq Wv he ?_;grind
 . rw [eF hi,Q! (hqi q hq)] at yv;rw [eF hi];split
   . rfl
   . exact h.done q hq yv j o' hj qL
 . have e1:((dw L 0 ops).filter λq=>(listed.setIfInBounds i true).getD q.1 false)=(dw L 0 ops).filter λq=>listed.getD q.1 false:=
    List.filter_congr λq hq=>by rw [eF hi,Q! (hqi q hq)]
   have e2:(((dw L 0 ops).filter λq=>listed.getD q.1 false).map λq=>(Value.int .i64 q.2.1,a'.tmps.getD q.2.2 undef))=((dw L 0 ops).filter λq=>listed.getD q.1 false).map λq=>(Value.int .i64 q.2.1,a.tmps.getD q.2.2 undef):=
    W? λq hq=>by
     rw [List.mem_filter] at hq;rw [ha _ (BQ q hq.1 hq.2)]
   rw [e1,e2];exact h.there
def RM(C:Ctx)(L:List Nat)(ops:List Oper)(i0:Nat)(listed:Array Bool)(s:St)(a:Act)(w:World):Prop:=Cl s/\s.h dq=none/\∃A β,
 (listed.getD i0 false=false/\(∀(j:Nat) (o:Oper),ops[j]? =some o->role L o≠ .no->listed.getD j false=false)/\aq C A β s a w)\/
 ∃b es ck,listed.getD i0 false=true/\aq C A β (s.wm b es ck) a w/\MI L ops listed a b es
theorem Cl.seq {s r:St}(h:Cl s)(hq:gM r s):Cl r:=by
 rw [Rk] at *;rwa [hq.1,hq.2.1]
theorem gM.wm {s r:St}(h:gM r s)(b:Nat)(es:Array MapEntry)(ck:Nat):gM (r.wm b es ck) (s.wm b es ck):=
 ⟨h.1,by simp [St.wm,h.2.1],h.2.2⟩
theorem RM.seq {L:List Nat}{ops:List Oper}{i0:Nat}{listed:Array Bool}{s r:St}(h:RM C L ops i0 listed s a w)(hq:gM r s):RM C L ops i0 listed r a w:=by
 obtain⟨h1,h2,A,β,h⟩:=h;refine⟨h1.seq hq,by rw [hq.2.1];omega,A,β,?_⟩;rcases h with⟨g1,g2,g3⟩|⟨b,es,ck,g1,g2,g3⟩
 . exact .inl ⟨g1,g2,g3.seq hq⟩
 . exact .inr ⟨b,es,ck,g1,g2.seq (hq.wm b es ck),g3⟩
def auH {ops:List Oper}{f:Ev}{s:St}(h:Cl s)(hc:Clean f s)(hd:l8 (f.kr++(f.ca.wr++f.ca.tD)) [dq]=true):Cl (ap ops f s):=λo=>
 (h o).ap hc (by
   unfold l8 at *;rw [List.all_append,List.all_append,Bool.and_eq_true,Bool.and_eq_true] at hd;exact hd.2.2)
def alh {ops:List Oper}{f:Ev}{s:St}(hc:Clean f s)(hn:s.h dq=none)(hd:l8 (f.kr++(f.ca.wr++f.ca.tD)) [dq]=true):(ap ops f s).h dq=none:=by
 rw [H3 hc,oq (λh=>p0 hd dq x! z!)];omega
def auI {ops:List Oper}{f:Ev}{s:St}{b:Nat}{es:Array MapEntry}{ck:Nat}(hc:Clean f s)(hd:l8 (f.kr++(f.ca.wr++f.ca.tD)) [dq]=true):Clean f (s.wm b es ck)/\gM ((ap ops f s).wm b es ck) (ap ops f (s.wm b es ck)):=by
 have hc2:Clean f (s.wm b es ck):=by
  refine⟨hc.1,λk=>?_⟩;simp [St.wm];cases Nat.beq k dq with
  |true=>rfl
  |false=>exact hc.2 k
 refine⟨hc2,?_,?_,by grind[KU,St.wm],by grind[CO,St.wm],by grind[KV,St.wm]⟩
 . funext i;show(ap ops f s).t i=_;rw [KW hc,KW hc2];rfl
 . funext k;rw [H3 hc2];simp [St.wm];cases hk:Nat.beq k dq with
   |true=>
    have:=Nat.eq_of_beq_eq_true hk;rw [oq (λh=>p0 hd dq x! z!)];rfl
   |false=>simp_all[L!,H3]
def Rn {ops:List Oper}{f:Ev}{s:St}(hc:Clean f s)(ho:f.o.op=KB)(hn:Gk f=true):f.ca.wr=[]/\(∀k,(ap ops f s).h k=s.h k)/\∀i,(ap ops f s).t i=if f.o.dst=some i then .cr else s.t i:=by
 simp [Gk,ho,KB,B!,List.isEmpty_iff] at hn
 have hr:f.ca.res= .cr:=by
  grind
 refine⟨hn.2.1,λk=>?_,λi=>?_⟩
 . grind[H3,oq]
 . rw [KW hc,hr];cases la ops f.i<;>rfl
def CS {ops:Array Oper}{Q:Exit->Act->World->Prop}{K:Act->World->Prop}{i:Nat}{o:Oper}(h:ops[i]? =some o)(hg:o.guard=none)(hw:o.wp P a w K Q):wpOp P ops Q i K a w:=by
 simp_all[wpOp,R!,Region.wanted]
def Uk {d:Nat}{v:Value}(hd:d<a.tmps.size):(a.put (some d) v).tmps.getD d undef=v:=by
 simp [Act.put,B?,hd]
def afz {d:Option Nat}{v:Value}{j:Nat}(hd:d≠some j):(a.put d v).tmps.getD j undef=a.tmps.getD j undef:=by
 cases d with
 |none=>rfl
 |some d=>
  simp_all[Act.put,B?,Array.getElem?_setIfInBounds,Q!]
theorem OU {L:List Nat}{o:Oper}(h:CH L o=true):∃e,o.dst=some e/\au L e=true:=by
 grind[CH]
def afA {L:List Nat}{o:Oper}{x:Nat}(h:role L o= .cp x):o.op= .move (.tmp x)\/o.op= .assign (.tmp x):=by
 grind[role]
def ab2 {L:List Nat}{o:Oper}{t:TypeId}{k:Int}{x:Nat}(h:role L o= .ins t k x):∃s,o.op= .insert t (.tmp s) (.const (.int .i64 k)) (.tmp x):=by
 grind[role]
def ab3(hE:cQ P C E){L:List Nat}{ops:Array Oper}{i0 d:Nat}{t:TypeId}(hp:asN E.T L ops.toList i0 d t){f:Ev}{listed:Array Bool}{s:St}{K:Act->World->Prop}{Q:Exit->Act->World->Prop}
  (hf0:(ops.toList.map (eB L))[f.i]? =some f.o) (hdj:l8 (f.kr++(f.ca.wr++f.ca.tD)) [dq]=true) (tG:Gk f=true) (hf:jy E (ops.toList.map (eB L)) f s (ap (ops.toList.map (eB L)) f s)) (hc:Clean f s) (cZ:listed.size=ops.size)
  (hl:listed.getD f.i true=false) (haf:∀x∈f.o.after,Region.binds .any x=true->listed.getD x.on false=true) (hR:RM C L ops.toList i0 listed s a w)
  (hK:∀a' w',RM C L ops.toList i0 (listed.setIfInBounds f.i true) (ap (ops.toList.map (eB L)) f s) a' w'->K a' w'):wpOp P ops Q f.i K a w:=by
 rw [E?] at hf0
 obtain⟨o,ho,K1⟩:∃o,ops.toList[f.i]? =some o/\eB L o=f.o:=by
  cases h:ops.toList[f.i]? with
  |none=>rw [h] at hf0;cases hf0
  |some o=>rw [h] at hf0;exact⟨o,rfl,X? hf0⟩
 have hoa:ops[f.i]? =some o:=by grind
 have CP:f.i<listed.size:=by
  grind
 have Rm:listed.getD f.i false=false:=by grind
 have nu:f.o.dst=o.dst:=by grind[zv]
 have Ul:∀x∈o.after,Region.binds .any x=true->listed.getD x.on false=true:=by grind[zv]
 have tC:=hp.chk f.i o ho;unfold ä at tC;rw [Bool.and_eq_true] at tC;obtain⟨hg,tC⟩:=tC;have hg:o.guard=none:=by simp_all
 obtain⟨mD,Um,A,β,hR⟩:=hR;have Un:=auH (ops:=ops.toList.map (eB L)) mD hc hdj;have Uo:=alh (ops:=ops.toList.map (eB L)) hc Um hdj
 have pC:∀j,listed.getD j false=true->(listed.setIfInBounds f.i true).getD j false=true:=λj hj=>by
  grind[eF]
 obtain⟨oi,tE,asO,ì⟩:=hp.new;have hri:role L oi= .mk:=by grind[role]
 cases rG:role L o with
 |no=>
  rw [rG] at tC
  have hnd:∀e,o.dst=some e->au L e=false:=λe he=>by
   grind[CH,Bool.not_eq_true']
  have KY:f.o=o:=by grind[eB]
  rcases hR with⟨g1,g2,g3⟩|⟨b,es,ck,g1,g2,g3⟩
  . refine oQ hE (H4 hf x!) ⟨A,β,g3⟩ λa' w' ⟨A',aw,h'⟩=>hK _ _ ⟨Un,Uo,A',aw,.inl ⟨?_,λj q hq hr=>?_,h'⟩⟩
    . rw [eF CP,Q!]
      . omega
      grind
    . rw [eF CP,Q!]
      . grind
      grind
  . obtain⟨c1,c2⟩:=auI (ops:=ops.toList.map (eB L)) (b:=b) (es:=es) (ck:=ck) hc hdj
    have hF:=(hf.ED (s':=s.wm b es ck) (λ_ _=>rfl) (λk hk=>by
     simp only [St.wm];cases Up:Nat.beq k dq with
     |false=>rfl
     |true=>
      have:=C! Up;subst this;refine absurd ?_ (p0 hdj dq ?_)
      . simp
      grind) rfl rfl rfl)
    refine wpOp_mono (λa' w' h=>?_) (Ui hoa (oQ hE (H4 hF x!) ⟨A,β,g2⟩ (K:=λa' w'=>Rel C _ a' w') λ_ _ h=>h));obtain⟨⟨A',aw,h1⟩,h2⟩:=h;refine hK _ _ ⟨Un,Uo,A',aw,.inr ⟨b,es,ck,pC _ g1,h1.seq c2,g3.pF CP hl ho x! h2 (λj q e hq hw he hoe _=>?_) (λh=>by grind[NT])⟩⟩;have:=hp.chk j q hq;unfold ä at this;unfold NT at hw;rw [Bool.and_eq_true] at this;grind[OU]
 |mk=>
  have KY:f.o.op=KB:=by grind[eB]
  rw [rG] at tC;simp only [B!] at tC;have gV:=C! tC.1;rw [gV,tE] at ho;cases ho;rcases hR with⟨g1,g2,g3⟩|⟨b,es,ck,g1,_⟩
  . have yp:d<s.n:=by
     have:=hf.dst;simp_all[eJ,M!]
    obtain⟨n1,n2,n3⟩:=Rn (ops:=ops.toList.map (eB L)) hc KY tG;refine CS hoa hg (bz (v:=.map (some w.heap.size)) (w':=w.alloc (.map #[] 0)) (by simp_all[execOp,Instr.makeMap]) ?_);rw [ì];refine(hK _ _ ⟨Un,Uo,A,λk=>if k=dq then .pointer (some ⟨w.heap.size,0,none⟩) else β k,.inr ⟨w.heap.size, #[],0,?_,?_,?_⟩⟩)
    . simp_all
    . have hnb:∀k x,ah [(dq,AB.mp w.heap.size #[] 0)] k=some x->k=dq/\x= .mp w.heap.size #[] 0:=λk x hk=>by
       grind[ah,Nat.beq,dq,Nat.eq_of_beq_eq_true,Option.some.inj]
      have yq:b7 w (w.alloc (.map #[] 0)) A A:=λb hb=>⟨hb,lZ _ b (g3.bound b hb)⟩
      refine(g3.step (out:={cond:=[],res:=.cr,new:=[(dq,.mp w.heap.size #[] 0)]}) (A':=A) (d:=some d) (v:=.map (some w.heap.size)) (w':=w.alloc (.map #[] 0)) (λt ht=>by grind)
       (λk x hk=>?_) (λk x hk=>by cases hk) (λk hk=>?_) yq rfl rfl rfl z! (λb hb _=>lZ _ b hb) (λb hb=>?_) (λb hb=>.inl hb) (λk x hk=>by cases hk) (λk x hk=>?_) (λk b x hk hb=>?_) (λk k' b hk ew _ _=>?_) trivial).seq ?_
      . obtain⟨rfl,_⟩:=hnb k x hk;exact⟨Um,rfl⟩
      . refine Q! λe=>?_;subst e;simp [ah] at hk
      . have:=g3.bound b hb;simp;omega
      . obtain⟨rfl,rfl⟩:=hnb k x hk;exact⟨rfl,heap_alloc_new w _,λh=>Nat.lt_irrefl _ (g3.bound _ h)⟩
      . obtain⟨rfl,_⟩:=hnb k x hk;simp [ag] at hb;exact .inl w!
      . obtain⟨x,hx⟩:=P!.1 hk;obtain⟨y,hy⟩:=P!.1 ew;rw [(hnb k x hx).1,(hnb k' y hy).1]
      . obtain⟨e1,e2⟩:=Rk.1 mD;refine⟨?_,?_,by simp only [St.wm,KU,St.put],by simp only [St.wm,CO,St.put],by simp only [St.wm,KV,St.put]⟩
        . funext i;show(ap _ f s).t i=_;rw [n3,nu,ì];simp only [St.put,pZ,CR,e1];by_cases hi:i=d
          . subst hi;simp
          . rw [Q! λh=>hi (X? h).symm,aG hi];rfl
        . funext k;simp only [St.wm,St.put,vG,ah,n2];cases Nat.beq k dq with
          |true=>rfl
          |false=>
           simp only [L!,au];have:=e2 k;cases hk:s.h k with
           |none=>rfl
           |some x=>
            rw [hk] at this;simp only [tV,CR];exact this.symm
    . refine⟨λj q e hq hw he hj=>?_,λq hq yv=>?_,?_⟩
      . by_cases rL:f.i=j
        . rw [<-rL,gV,tE] at hq;cases hq;rw [ì] at he;cases he;exact Uk (by rw [g3.size];exact yp)
        . rw [eF CP,if_neg rL] at hj;rw [g2 j q hq (λh=>by unfold NT at hw;rw [h] at hw;cases hw)] at hj;cases hj
      . exfalso;obtain⟨q',t',h1,h2⟩:=AY.1 hq;rw [eF CP] at yv;split at yv
        . rename_i e;rw [<-e,gV,tE] at h1;cases h1;rw [hri] at h2;cases h2
        . rw [g2 _ _ h1 (by rw [h2];nofun)] at yv;cases yv
      . have :((dw L 0 ops.toList).filter λq=>(listed.setIfInBounds f.i true).getD q.1 false)=[]:=by
         rw [List.filter_eq_nil_iff];intro q hq yv;obtain⟨q',t',h1,h2⟩:=AY.1 hq;rw [eF CP] at yv;split at yv
         . rename_i e;rw [<-e,gV,tE] at h1;cases h1;rw [hri] at h2;cases h2
         . rw [g2 _ _ h1 (by rw [h2];nofun)] at yv;cases yv
        rw [this];exact .refl _
  grind
 |cp x=>
  have KY:f.o.op=KB:=by rw [<-K1];unfold eB;rw [rG]
  rw [rG] at tC;simp only [B!] at tC;have Ro:=oS tC.2.1 Ul;obtain⟨e,he,heL⟩:=OU tC.1;rcases hR with⟨g1,_⟩|⟨b,es,ck,g1,g2,g3⟩
  . rw [Ro] at g1;cases g1
  . have hx:a.tmps.getD x undef= .map (some b):=by
     obtain⟨j,_,hj⟩:=List.any_eq_true.1 tC.2.2;split at hj
     . rename_i q hq;simp only [B!] at hj;obtain⟨j1,j2,j3⟩:=hj;split at j3
       . rename_i e' Rj;have:=C! j3;subst this;exact g3.at_ j q _ hq j2 Rj (oS j1 Ul)
       . cases j3
     . cases hj
    have WG:(execOp a.eval o).run P w= .ok (.value (.map (some b))) w:=by
     rcases afA rG with h|h<;>simp [execOp,h,Act.eval,hx]
    refine CS hoa hg (bz WG ?_);rw [he]
    have yp:e<s.n:=by
     have:=hf.dst;unfold eJ at this;rw [nu,he] at this;exact Nat.le_of_ble_eq_true this
    obtain⟨n1,n2,n3⟩:=Rn (ops:=ops.toList.map (eB L)) hc KY tG;refine hK _ _ ⟨Un,Uo,A,β,.inr ⟨b,es,ck,pC _ g1,(g2.pure (d:=some e) (c:=[]) (r:=.cr) (v:=.map (some b)) (λt ht=>by cases ht;exact yp) trivial).seq ?_,g3.pF CP hl ho (by rw [rG];nofun) (λj hj=>afz (by rw [<-he];exact hj)) (λj q e' _ _ _ h _=>?_) (λ_=>by rw [he];rfl)⟩⟩
    . refine⟨?_,?_,by simp only [St.wm,KU,St.put],by simp only [St.wm,CO,St.put],by simp only [St.wm,KV,St.put]⟩
      . funext i;show(ap _ f s).t i=_;rw [n3,nu,he];simp only [St.put,St.wm,my];by_cases hi:i=e
        . subst hi;simp
        . rw [Q! λh=>hi (X? h).symm,aG hi];rfl
      . funext k;simp only [St.wm,St.put,vG,ah,n2,au,bG];cases Nat.beq k dq with
        |true=>rfl
        |false=>simp only [L!];cases s.h k<;>rfl
    . rw [he] at h;cases h;exact Uk (by rw [g2.size];exact yp)
 |ins t' k x=>
  have KY:f.o.op=KB:=by rw [<-K1];unfold eB;rw [rG]
  obtain⟨z,Ri⟩:=ab2 rG;rw [rG] at tC;simp only [Ri,B!,J!] at tC;obtain⟨⟨htt,hk⟩,hod,Ro,hD,hM⟩:=tC;have htt:=C! htt;subst htt;have hod:o.dst=none:=by simpa using hod
  have Ro:=oS Ro Ul;rcases hR with⟨g1,_⟩|⟨b,es,ck,g1,g2,g3⟩
  . rw [Ro] at g1;cases g1
  . have hx:a.tmps.getD z undef= .map (some b):=by
     obtain⟨j,_,hj⟩:=List.any_eq_true.1 hM;split at hj
     . rename_i q hq;simp only [B!] at hj;obtain⟨j1,j2,j3⟩:=hj;split at j3
       . rename_i e' Rj;have:=C! j3;subst this;exact g3.at_ j q _ hq j2 Rj (oS j1 Ul)
       . cases j3
     . cases hj
    have au:(f.i,k,x)∈dw L 0 ops.toList:=AY.2 ⟨o,_,ho,rG⟩;obtain⟨h1,h2,h3⟩:=g2.blocks dq (.mp b es ck) rfl;obtain⟨te,kt,et,iz,htd,tB⟩:=hp.ty;obtain⟨hu,_⟩:=hE.eA.ok _ te iz;rw [htd] at hu
    have tB:P.underlying kt=some (.int .i64):=by
     unfold cE at tB;split at tB
     . rename_i tk yR;obtain⟨hku,_⟩:=hE.eA.ok kt tk yR;grind[uG]
     . cases tB
    have WH:(es.toList.map (·.key)).Perm (((dw L 0 ops.toList).filter λq=>listed.getD q.1 false).map λq=>Value.int .i64 q.2.1):=by
     have:=g3.there.map (·.1);simpa [List.map_map,Function.comp_def] using this
    obtain⟨ks,q1,q2⟩:=Ct (f:=Value.int .i64) WH (((dw L 0 ops.toList).filter λq=>listed.getD q.1 false).map (·.2.1)) (by simp [List.map_map,Function.comp_def])
    have hkn:k∉ks:=λhk=>by
     obtain⟨q,e1,e2⟩:=b?.1 (q1.mem_iff.1 hk);rw [List.mem_filter] at e1;have:=zw ((tQ _).1 hp.nodup) q e1.1 _ au e2;rw [this] at e1;rw [Rm] at e1;cases e1.2
    have hem:a.eval (.tmp z)= .map (some b):=hx;have hek:a.eval (.const (.int .i64 k))= .int .i64 k:=rfl;have hev:a.eval (.tmp x)=a.tmps.getD x undef:=rfl
    have fg:(Instr.mapUpdate t' (.map (some b)) (.int .i64 k) (a.tmps.getD x undef)).run P w= .ok () {w with heap:=w.heap.setIfInBounds b (.map (es.push {key:=.int .i64 k,val:=a.tmps.getD x undef,born:=ck}) (ck+1))}:=by
     have hc:(Instr.checkKey false 10000 kt (.int .i64 k)).run P w= .ok () w:=MapKept.run_checkKey tB (by rfl) false 9999;simp [Instr.mapUpdate,run_underlying hu,MapKept.run_getObj_map h2,hc,MapKept.run_findKey tB (qv k es.toList ks 0 q2 hkn),MapKept.run_setObj_map _ h2,Result.andThen]
    refine CS hoa hg (mA (w':={w with heap:=w.heap.setIfInBounds b (.map (es.push {key:=.int .i64 k,val:=a.tmps.getD x undef,born:=ck}) (ck+1))}) (by simp only [execOp,Ri,hem,hek,hev];generalize a.tmps.getD x undef=v at fg |-;simp [fg]) ?_);rw [hod];have xi:b<w.heap.size:=(O!.1 h2).1;obtain⟨n1,n2,n3⟩:=Rn (ops:=ops.toList.map (eB L)) hc KY tG;have yq:b7 w {w with heap:=w.heap.setIfInBounds b (.map (es.push {key:=.int .i64 k,val:=a.tmps.getD x undef,born:=ck}) (ck+1))} A A:=λy hy=>⟨hy,(MapKept.heap_set h2).2 y λe=>h3 (e▸hy)⟩;refine hK _ _ ⟨Un,Uo,A,β,.inr ⟨b,es.push {key:=.int .i64 k,val:=a.tmps.getD x undef,born:=ck},ck+1,pC _ g1,?_,?_⟩⟩
    . have hub:∀j y,ah [(dq,AB.mp b (es.push {key:=.int .i64 k,val:=a.tmps.getD x undef,born:=ck}) (ck+1))] j=some y->j=dq/\y= .mp b (es.push {key:=.int .i64 k,val:=a.tmps.getD x undef,born:=ck}) (ck+1):=λj y hk=>by
       simp only [ah] at hk;cases hb:Nat.beq j dq with
       |true=>rw [hb] at hk;exact⟨C! hb,(X? hk).symm⟩
       |false=>rw [hb] at hk;cases hk
      refine(g2.step (out:={cond:=[],res:=.cr,fE:=[(dq,.mp b (es.push {key:=.int .i64 k,val:=a.tmps.getD x undef,born:=ck}) (ck+1))]}) (A':=A) (aw:=β) (d:=none) (v:=undef) (w':={w with heap:=w.heap.setIfInBounds b (.map (es.push {key:=.int .i64 k,val:=a.tmps.getD x undef,born:=ck}) (ck+1))}) nofun
       (λk x hk=>by cases hk) (λj y hk=>?_) (λ_ _=>rfl) yq rfl rfl rfl z! (λy hy hn=>(MapKept.heap_set h2).2 y λe=>?_) (λy hy=>by have:=g2.bound y hy;simpa using this) (λy hy=>.inl hy) (λj y hk _=>?_) (λk x hk=>by cases hk) (λk b x hk hb=>by cases hk) (λk k' b hk ew _ _=>by cases hk) trivial).seq ?_
      . obtain⟨rfl,_⟩:=hub j y hk;rfl
      . subst e;exact hn dq ⟨rfl,.inl rfl⟩ (by rw [h1];rfl)
      . obtain⟨rfl,rfl⟩:=hub j y hk;exact⟨h1,(MapKept.heap_set h2).1,h3⟩
      . refine⟨?_,?_,by simp only [St.wm,KU,St.put],by simp only [St.wm,CO,St.put],by simp only [St.wm,KV,St.put]⟩
        . funext i;show(ap _ f s).t i=_;rw [n3,nu,hod];simp only [St.put,St.wm,my];rfl
        . funext j;simp only [St.wm,St.put,vG,ah,n2,Vg.au,vF,bG];cases Nat.beq j dq with
          |true=>rfl
          |false=>simp only [L!];cases s.h j<;>rfl
    . refine⟨λj q e hq hw he hj=>?_,λq hq yv j q' hj qL=>?_,?_⟩
      . refine g3.at_ j q e hq hw he ?_;rw [eF CP,Q!] at hj
        . exact hj
        . intro h;rw [<-h,ho] at hq;cases hq;unfold NT at hw;rw [rG] at hw;cases hw
      . rw [eF CP] at yv;split at yv
        . rename_i e;obtain⟨q2,t2,e1,e2⟩:=AY.1 hq;rw [<-e,ho] at e1;cases e1;rw [rG] at e2;simp only [MR.ins.injEq] at e2;have K4:j<ops.toList.length:=(C?.1 hj).1;have:=(X!.1 hD) j (s?.2 K4);simp only [hj,qL,<-e2.2.2] at this;refine pC _ (oS ?_ Ul);simpa [ct] using this
        . exact pC _ (g3.done q hq yv j q' hj qL)
      . have hfp:=EF (p:=λq=>listed.getD q.1 false) (p':=λq=>(listed.setIfInBounds f.i true).getD q.1 false) _ (BZ (sH (L:=L) ops.toList 0)) au Rm λq hq=>by
         rw [eF CP];by_cases e:f.i=q.1
         . rw [R! e];exact⟨λ_=>.inr (zw (sH ops.toList 0) q hq _ au e.symm),λ_=>rfl⟩
         . rw [Q! e];exact⟨.inl,λh=>h.elim id λh=>(e (by simp [h])).elim⟩
        rw [Array.toList_push,u?];refine(g3.there.append_right _).trans ?_;have:=(hfp.map λq=>(Value.int .i64 q.2.1,a.tmps.getD q.2.2 undef)).symm;rw [u?] at this;exact this
def filter_all {α:Type}{p:α->Bool}{l:List α}(h:∀x∈l,p x=true):l.filter p=l:=List.filter_eq_self.2 h
theorem EG {α:Type}{f:α->Value}{g:α->AV}:∀(l:List α),(∀x∈l,aa w A β (f x) (g x))->ae w A β (l.map f) (l.map g)
 |[],_=>rfl
 |x::l,h=>⟨_,_,rfl,h x (H! ..),EG l λy hy=>h y (E! _ hy)⟩
def xj {p:Oper->Bool}{i:Nat}:∀(ops:List Oper),au (dK (ops.filter p)) i=true->∃(j:Nat) (o:Oper),ops[j]? =some o/\p o=true/\o.dst=some i
 |o::r,h=>by
  have up:(∃(j:Nat) (o':Oper),r[j]? =some o'/\p o'=true/\o'.dst=some i)->∃(j:Nat) (o':Oper),(o::r)[j]? =some o'/\p o'=true/\o'.dst=some i:=λ⟨j,o',h⟩=>⟨j+1,o',h⟩;rw [List.filter_cons] at h;split at h
  . rename_i hp;unfold dK at h;split at h
    . simp [au,e?] at h;rcases h with h|h
      . exact⟨0,o,rfl,hp,by simp_all⟩
      . exact up (xj r h)
    . exact up (xj r h)
  . exact up (xj r h)
def Gp {s:St}{k:Nat}(h:(s.cut.h k).isSome):(s.h k).isSome:=by
 simp [St.cut] at h;cases hk:s.h k with
 |none=>rw [hk] at h;cases h
 |some x=>rfl
def ab4 {L:List Nat}{ops:List Oper}{listed:Array Bool}{s m:St}{b:Nat}{es:Array MapEntry}{ck:Nat}(hB:aq C A β (s.wm b es ck) a w)(Um:s.h dq=none)(hM:MI L ops listed a b es)(hl:∀i,listed.getD i true=true)(cZ:listed.size=ops.length)
  (hm:∀(C:Ctx) A β a w,aq C A β s a w->aq C A β m a w):Rel C (m.mapped L ops) a w:=by
 have Rm:∀i,i<ops.length->listed.getD i false=true:=λi hi=>by grind
 obtain⟨h1,h2,h3⟩:=hB.blocks dq (.mp b es ck) rfl;have yq:b7 w w A λy=>A y\/y=b:=λy hy=>⟨.inl hy,rfl⟩;have xi:b<w.heap.size:=(O!.1 h2).1;have hblk:ag (β dq)=some b:=by rw [h1];rfl
 have hwm:∀k,k≠dq->(s.wm b es ck).h k=s.h k:=λk hk=>by simp_all[St.wm,aG,L!]
 have eV:∀k,(s.h k).isSome->k≠dq/\((s.wm b es ck).h k).isSome:=λk hk=>by
  grind
 have h0:aq C (λy=>A y\/y=b) β s a w:=by
  refine⟨hB.defers,hB.size,λi=>hY yq _ _ (hB.tmps i),λk ab hk=>?_,λk k' y hk ew=>hB.apart k k' y (eV k hk).2 (eV k' ew).2,λy hy=>hy.elim (hB.bound y) λe=>e▸xi,hB.frame,λy hy h=>h.elim (hB.gH y hy) λe=>?_,λy hy=>.inl (hB.base y hy),λk y hk=>hB.lK k y (eV k hk).2,hB.nR,λi d hd=>(hB.laid i d hd).mono yq,hB.held⟩
  . obtain⟨Up,nr⟩:=eV k x!;have:=vI (w:=w) (w':=w) (A':=λy=>A y\/y=b) (aw:=β) (new:=[]) (λ_ _=>rfl) rfl (λy hy=>⟨rfl,λhA=>hA.elim id λe=>absurd (hB.apart k dq b nr (by rfl) (e▸hy) hblk) Up⟩) yq (hB.blocks k ab x!);exact this
  . rw [e] at hy |-;rcases hB.lK dq b (by rfl) hblk with h|h
    . omega
    grind
 have h4:=hm _ _ _ _ _ h0;refine⟨_,β,h4.defers,h4.size,λi=>?_,h4.blocks,h4.apart,h4.bound,h4.frame,h4.gH,h4.base,h4.lK,h4.nR,h4.laid,h4.held⟩;simp only [St.mapped];cases hi:au (dK (ops.filter (NT L))) i with
 |false=>exact h4.tmps i
 |true=>
  obtain⟨j,o,hj,hw,hd⟩:=xj ops hi;rw [hM.at_ j o i hj hw hd (Rm j (C?.1 hj).1)];have hth:=hM.there
  rw [filter_all λq hq=>by
   grind[AY,List.getElem?_eq_some_iff]] at hth
  obtain⟨WR,p1,p2⟩:=Ct hth.symm es.toList rfl;have k1:=congrArg (List.map Prod.fst) p2;have k2:=congrArg (List.map Prod.snd) p2;simp only [List.map_map,Function.comp_def] at k1 k2;refine⟨b,WR.toArray,ck,rfl,.inr rfl,⟨es,h2,by simpa using p1.symm⟩,by grind[List.map_map,Function.comp_def],?_⟩;simp only [cond_true];rw [<-k2];exact EG _ λq _=>h4.tmps q.2.2
theorem NZ(hE:cQ P C E)(hm:P.follows .mixedOrders=true){id:Nat}{ops:Array Oper}{st:St}{a:Act}{w:World}{cs:List Prop}{m:St}(h:BV E true ops.toList st=some (cs,m))(dm:∀p∈cs,p)
  (hR:Rel C st a w) {Q:Exit->Act->World->Prop} (hQ:∀a' w',Rel C m a' w'->Q .normal a' w'):(Code.region id ops true).wp P Q a w:=by
 simp only [BV,I!,afj] at h;split at h
 . rename_i i0 t L hp;obtain⟨d,hp⟩:=Uj hp;rw [cond_eq_ite] at h;split at h
   . rename_i hn;split at h
     . rename_i c q hq;cases h;have e0:=Gn st (dK ops.toList)
       have e1:∀i,aB (cy (st.ahead (dK ops.toList)).cut.kb ((dK (ops.toList.map (eB L))).map .dst)) ((st.ahead (dK ops.toList)).cut.t i)=(st.ahead (dK ops.toList)).cut.t i:=λi=>by
        rw [AU];simp [St.cut];conv=>rhs;rw [<-e0.1 i]
        simp only [cU];congr 1
        funext k;rw [Bool.or_comm];rfl
       have e2:∀k,bZ (cy (st.ahead (dK ops.toList)).cut.kb ((dK (ops.toList.map (eB L))).map .dst)) ((st.ahead (dK ops.toList)).cut.h k)=(st.ahead (dK ops.toList)).cut.h k:=λk=>by
        rw [AU];simp only [St.cut];conv=>rhs;rw [<-e0.2 k]
        simp only [fa];congr 1
        funext k;rw [Bool.or_comm];rfl
       obtain⟨es,sl,r0,r1,r2⟩:=K3 (P:=P) (ops:=ops) (iY:=(ops.toList.map (eB L)).toArray) z! (λi o o' h1 h2=>by
        simp only [List.getElem?_toArray,E?,U?,h1,Option.map_some,A!] at h2;rw [<-h2];exact zv.2.2) hq dm e1 e2
       obtain⟨A,β,hB⟩:=hR;obtain⟨oi,tE,_⟩:=hp.new
       have Ro:i0<ops.size:=by
        have:=(C?.1 tE).1;simpa using this
       have OV:∀j,(Array.replicate ops.size false).getD j false=false:=λj=>by
        simp [B?,Array.getElem?_replicate];split<;>rfl
       refine wp_region_any hm (r2 (RM C L ops.toList i0) Q _ _ (λ_ s r a w hs hr=>hr.seq hs) (λf listed s a w K yU hf hc cZ hl haf hR hK=>ab3 hE hp ?_ (r0 f yU).2.1 (r0 f yU).2.2 hf hc cZ hl haf hR hK) ⟨alf _,?_,A,β,.inl ⟨OV i0,λj _ _ _=>OV j,?_⟩⟩ λlisted a' w' lP cZ hR=>?_)
       . have:=(r0 f yU).1;simpa using this
       . have :st.h dq=none:=by simpa using hn
         simp [St.cut,St.ahead,this,bZ]
       . have pY:=(hB.ahead (dK ops.toList)).drew (w.drawn+1);refine⟨pY.defers,pY.size,λi=>aBA _ (λ_ _=>rfl) _ _ (pY.tmps i),λk ab h=>?_,λk k' b h1 h2=>pY.apart k k' b (Gp h1) (Gp h2),pY.bound,pY.frame,pY.gH,pY.base,λk b h=>pY.lK k b (Gp h),pY.nR,pY.laid,pY.held⟩;simp [St.cut] at h;cases hk:(st.ahead (dK ops.toList)).h k with
         |none=>rw [hk] at h;cases h
         |some x=>
          rw [hk] at h;cases h;exact xb _ (pY.blocks k x hk)
       . obtain⟨_,Um,A',aw,hR⟩:=hR;rcases hR with⟨g1,_⟩|⟨b,es,ck,_,g2,g3⟩
         . rw [<-ir w!,lP] at g1;cases g1
         . exact hQ _ _ (ab4 g2 Um g3 lP (by simpa using cZ) r1)
     grind
   grind
 grind[NY]
theorem uU(hE:cQ P C E)(hm:P.follows .mixedOrders=true){id:Nat}{ops:Array Oper}{d:Bool}{st:St}{a:Act}{w:World}{cs:List Prop}{m:St}(h:BV E d ops.toList st=some (cs,m))(dm:∀p∈cs,p)
  (hR:Rel C st a w) {Q:Exit->Act->World->Prop} (hQ:∀a' w',Rel C m a' w'->Q .normal a' w'):(Code.region id ops d).wp P Q a w:=by
 cases d
 . grind[Rf]
 grind[NZ]
end
end Go.Vg

end
section
namespace Go.Vg
open Go
variable [HP]
section
variable {P:Program} {C:Ctx} {E:Env} {A:Nat->Prop} {β:Nat->Value} {st:St} {a:Act} {w:World}
theorem eo.clear {W:List Nat}{s m:St}(h:eo W s.clear m):eo W s.clear m:=h
theorem aq.clear(hB:aq C A β st a w):aq C A β st.clear a w:=hB.seq ⟨rfl,rfl,rfl,rfl,rfl⟩
def W3(hB:aq C A β st a w){c:Operand}(h:ev st c= .tt):a.eval c= .bool true:=by
 have:=az hB c;grind[aa]
def W4(hB:aq C A β st a w){c:Operand}(h:ev st c= .ff):a.eval c= .bool false:=by
 have:=az hB c;grind[aa]
def K5(hB:aq C A β st a w){c:Operand}{b:Bool}(h:ev st c= .bool b):a.eval c= .bool b:=by
 have:=az hB c;grind[aa]
def Uq(hB:aq C A β st a w){c:Operand}{row:List Ty}{l:List (Row row)}(h:ev st c= .oC row l):∃b,a.eval c= .bool b/\(b=true->l=[]):=by
 have:=az hB c;grind[aa]
def sI {W W':List Nat}:∀i,au (W++W') i=false->au W i=false:=by
 grind[cR,Bool.or_eq_false_iff]
def zx {W W':List Nat}:∀i,au (W++W') i=false->au W' i=false:=by
 grind[cR,Bool.or_eq_false_iff]
def mc:∀(c:Code) (st:St) (cs:List Prop) (m:St),gK E c st=some (cs,m)->eo (yr c) st m
 |.skip,st,cs,m,h=>by
   grind[gK,Option.some.injEq,Prod.mk.injEq,eo.refl]
 |.region id ops d,st,cs,m,h=>by
   exact KK h
 |.seq x y,st,cs,m,h=>by
   simp [gK] at h;split at h
   . rename_i c aS hx;obtain⟨c',hy,_⟩:=ny h;exact(mc x _ _ _ hx).trans (mc y _ _ _ hy)
   . cases h
 |.cond c x y,st,cs,m,h=>by
   simp [gK] at h;split at h
   . exact(mc x _ _ _ h).mono sI
   . exact(mc y _ _ _ h).mono zx
   . obtain⟨c1,s1,c2,s2,r1,r2,hm,rfl⟩:=AT h;exact eo.merge hm
   . cases h
 |.block id b,st,cs,m,h=>by
   exact mc b _ _ _ h
 |.loop _,st,cs,m,h|.rangeFunc _ _ _ _,st,cs,m,h|.exit _,st,cs,m,h|.scope _,st,cs,m,h|.label _,st,cs,m,h|.goto _,st,cs,m,h=>by grind[gK]
 |.ret,st,cs,m,h=>by grind[gK]
 |.refuse _,st,cs,m,h=>by grind[gK]
def jm(hE:cQ P C E)(hm:P.follows .mixedOrders=true):∀(c:Code) (st:St) (cs:List Prop) (m:St) (a:Act) (w:World) (Q:Exit->Act->World->Prop),gK E c st=some (cs,m)->(∀p∈cs,p)->Rel C st a w->
  (∀a' w',Rel C m a' w'->Q .normal a' w')->c.wp P Q a w
 |.skip,st,cs,m,a,w,Q,h,dm,hR,hQ=>by
   grind[gK,Option.some.injEq,Prod.mk.injEq,wp_skip]
 |.region id ops d,st,cs,m,a,w,Q,h,dm,hR,hQ=>by
   grind[gK,uU]
 |.seq x y,st,cs,m,a,w,Q,h,dm,hR,hQ=>by
   simp [gK] at h;split at h
   . rename_i c aS hx;obtain⟨c',hy,rfl⟩:=ny h
     exact wp_seq (jm hE hm x st _ _ a w _ hx (λp hp=>dm p (U! _ hp)) hR λa' w' eQ=>
      jm hE hm y aS _ _ a' w' Q hy (λp hp=>dm p (A? _ hp)) eQ hQ)
   . cases h
 |.cond c x y,st,cs,m,a,w,Q,h,dm,hR,hQ=>by
   obtain⟨A,β,hB⟩:=hR;simp [gK] at h;split at h
   . rename_i hv;exact wp_cond_true (W3 hB hv) (jm hE hm x st _ _ a w Q h dm ⟨A,β,hB⟩ hQ)
   . rename_i hv;exact wp_cond_false (W4 hB hv) (jm hE hm y st _ _ a w Q h dm ⟨A,β,hB⟩ hQ)
   . rename_i b hv;obtain⟨c1,s1,c2,s2,r1,r2,hmg,rfl⟩:=AT h;have hc:=HT dm;have f1:=(mc x _ _ _ r1).mono (W':=yr x++yr y) sI;have f2:=(mc y _ _ _ r2).mono (W':=yr x++yr y) zx;refine wp_cond_split (K5 hB hv) (λhb=>?_) (λhb=>?_)
     . subst hb
       exact jm hE hm x st.clear _ _ a w Q r1 (hc.1 rfl) ⟨A,β,hB.clear⟩ λa' w' ⟨A',aw,pY⟩=>
        hQ _ _ ⟨A',aw,pY.merge (b:=true) hmg f1 (λ_ _=>rfl) rfl rfl rfl f2 (λ_ _=>rfl) rfl rfl rfl⟩
     . subst hb
       exact jm hE hm y st.clear _ _ a w Q r2 (hc.2 rfl) ⟨A,β,hB.clear⟩ λa' w' ⟨A',aw,pY⟩=>
        hQ _ _ ⟨A',aw,pY.merge (b:=false) hmg f1 (λ_ _=>rfl) rfl rfl rfl f2 (λ_ _=>rfl) rfl rfl rfl⟩
   grind
 |.block id b,st,cs,m,a,w,Q,h,dm,hR,hQ=>by
   exact wp_block (jm hE hm b st _ _ a w _ h dm hR hQ)
 |.loop _,st,cs,m,a,w,Q,h,_,_,_|.rangeFunc _ _ _ _,st,cs,m,a,w,Q,h,_,_,_|.exit _,st,cs,m,a,w,Q,h,_,_,_|.scope _,st,cs,m,a,w,Q,h,_,_,_|.label _,st,cs,m,a,w,Q,h,_,_,_|.goto _,st,cs,m,a,w,Q,h,_,_,_|.ret,st,cs,m,a,w,Q,h,_,_,_|.refuse _,st,cs,m,a,w,Q,h,_,_,_=>by grind[gK]
structure lA (W:List Nat) (base s:St):Prop where
 pF:∃p,(∀k,p k=true->cy base.kb s.news k=true)/\(∀i,au W i=false->s.t i=aB p (base.t i))/\
  ∀k,au s.b9 k=false->cy base.kb s.news k=false->s.h k=bZ p (base.h k)
 n:s.n=base.n
 kb:s.kb=base.kb
 b9:∀k,au base.b9 k=true->au s.b9 k=true
 news:∀k,cy base.kb base.news k=true->cy base.kb s.news k=true
 g:s.g=base.g
def eo.loose {W:List Nat}{s m:St}(h:eo W s m):lA W s m:=by
 obtain⟨p,h1,h2,h3⟩:=h.pF;exact⟨⟨p,h1,h2,λk hk _=>h3 k hk⟩,h.n,h.kb,h.b9,h.news,h.g⟩
theorem lA.refl(W:List Nat)(s:St):lA W s s:=(eo.refl W s).loose
theorem lA.mono {W W':List Nat}{s0 s1:St}(h:lA W s0 s1)(hw:∀i,au W' i=false->au W i=false):lA W' s0 s1:=by
 obtain⟨p,a1,a2,a3⟩:=h.pF;exact⟨⟨p,a1,λi hi=>a2 i (hw i hi),a3⟩,h.n,h.kb,h.b9,h.news,h.g⟩
theorem lA.trans {W W':List Nat}{s0 s1 s2:St}(h1:lA W s0 s1)(h2:lA W' s1 s2):lA (W++W') s0 s2:=by
 obtain⟨p,a1,a2,a3⟩:=h1.pF;obtain⟨q,b1,b2,b3⟩:=h2.pF
 have auL:∀k,cy s0.kb s1.news k=true->cy s0.kb s2.news k=true:=by
  intro k h;have:=h2.news k (by rw [h1.kb];exact h);rwa [h1.kb] at this
 refine⟨⟨λk=>p k || q k,λk hk=>?_,λi hi=>?_,λk hk hn=>?_⟩,h2.n.trans h1.n,h2.kb.trans h1.kb,λk h=>h2.b9 k (h1.b9 k h),λk h=>auL k (h1.news k h),h2.g.trans h1.g⟩
 . rcases e? _ _ |>.mp hk with h|h
   . grind
   . have:=b1 k h;rwa [h1.kb] at this
 . grind[cR,Bool.or_eq_false_iff,cU]
 . have I1:au s1.b9 k=false:=by
    cases h:au s1.b9 k with
    |false=>rfl
    |true=>rw [h2.b9 k h] at hk;omega
   have Ts:cy s0.kb s1.news k=false:=by
    grind
   rw [b3 k hk (by rw [h1.kb];omega),a3 k I1 Ts,fa]
def ry:Value:=.slice none 0 0
def kI(bad:Nat->Bool)(s:List (Nat×Option Nat))(β:Nat->Value)(k:Nat):Value:=bif bad k then(match cn s k with
 |some (some j)=>β j
 |some none=>ry
 |none=>β k) else β k
def kJ {r r':List Ty}{l:List (Row r)}{m:List (Row r')}(h:eU r r' l=some m):∃e:r=r',m=e▸l:=by
 grind[eU,Option.some.injEq,Ty.lT]
def kK:∀ {a b:List Prop},(∀p∈a++b,p)->(∀p∈a,p)/\∀p∈b,p:=by
 intro a b h;exact⟨λp hp=>h p (U! _ hp),λp hp=>h p (A? _ hp)⟩
def aQ {p:Prop}(h:∀q∈ [p],q):p:=h p z!
variable {bad:Nat->Bool} {s:List (Nat×Option Nat)}
structure Keyed (bad:Nat->Bool) (s:List (Nat×Option Nat)) (β aw:Nat->Value):Prop where
 src:∀K k,cn s K=some (some k)->aw K=β k
 nil:∀K,cn s K=some none->aw K=ry
 same:∀K,cn s K=none->bad K=false->aw K=β K
 aAx:∀K,bad K=false->aw K=β K
def Ur(β aw:Nat->Value):Keyed (λ_=>true) [] β aw:=⟨(λ_ _ h=>nomatch h),(λ_ h=>nomatch h),(λ_ _ h=>nomatch h),(λ_ h=>nomatch h)⟩
def oT {aw:Nat->Value}(hK:Keyed bad s β aw){k K:Nat}(h:sy s bad k K=true):aw K=β k:=by
 unfold sy at h;split at h
 . rename_i j hj;rw [hK.src K j hj,C! h]
 . cases h
 . simp only [B!,J?] at h;have:=C! h.1;subst this;exact hK.aAx k h.2
mutual
theorem p9 {aw:Nat->Value}(hK:Keyed bad s β aw):∀(x y:AV) (v:Value),(∀p∈KD s bad x y,p)->aa w A β v x->aa w A aw v y
 |x,y,v,h,hr=>by
  unfold KD at h;split at h
  . simp [aa]
  . simpa only [aa] using hr
  . rename_i k n k' m;split at h
    . rename_i hk;subst hk;have:=aQ h;subst this;simpa only [aa] using hr
    . exact(aQ h).elim
  . simpa only [aa] using hr
  . simpa only [aa] using hr
  . have:=aQ h;subst this;simpa only [aa] using hr
  . have:=aQ h;subst this;simpa only [aa] using hr
  . have:=aQ h;subst this;simpa only [aa] using hr
  . have:=aQ h;subst this;simpa only [aa] using hr
  . simpa only [aa] using hr
  . simpa only [aa] using hr
  . simpa only [aa] using hr
  . rename_i r l;have:=aQ h;subst this;simp only [aa] at hr |-;subst hr;simp only [Rd];exact⟨none,0,[],rfl,z!,by simp [maxLen],by simp [dc],z!⟩
  . rename_i r l r' l';split at h
    . rename_i m hm;obtain⟨e,he⟩:=kJ hm;subst e;have:=aQ h;subst he;subst this;simpa only [aa] using hr
    . exact(aQ h).elim
  . rename_i r l r' l';split at h
    . rename_i m hm;obtain⟨e,he⟩:=kJ hm;subst e;have:=aQ h;subst he;subst this;simp only [aa] at hr |-;exact hr.1
    . exact(aQ h).elim
  . rename_i k K;simp only [aa] at hr |-;split at h
    . rename_i j hj;cases hb:Nat.beq k j with
      |false=>rw [hb] at h;exact(aQ h).elim
      |true=>
       have:=C! hb;subst this;rw [hK.src K k hj];exact hr
    . exact(aQ h).elim
    . rename_i hj;cases hb:(Nat.beq k K&& !bad K) with
      |false=>rw [hb] at h;exact(aQ h).elim
      |true=>
       simp only [B!,J?] at hb;have:=C! hb.1;subst this;rw [hK.same k hj hb.2];exact hr
  . rename_i K;simp only [aa] at hr |-;split at h
    . rename_i hj;rw [hK.nil K hj];subst hr;exact⟨rfl,rfl⟩
    . exact(aQ h).elim
  . rename_i k o k' o';simp only [aa] at hr |-;cases hb:sy s bad k k' with
    |false=>rw [hb] at h;exact(aQ h).elim
    |true=>
     rw [hb] at h;have:=aQ h;subst this;rw [oT hK hb];exact hr
  . rename_i xs ys;simp only [aa] at hr |-;obtain⟨arr,h1,h2⟩:=hr;exact⟨arr,h1,kz hK xs ys _ h h2⟩
  . rename_i xs ys;simp only [aa] at hr |-;obtain⟨arr,h1,h2⟩:=hr;exact⟨arr,h1,kz hK xs ys _ h h2⟩
  . rename_i f xs us f' ys vs;split at h
    . rename_i hf;subst hf;simp only [aa] at hr |-;obtain⟨a1,a2,h1,h2,h3⟩:=hr;obtain⟨g1,g2⟩:=kK h;exact⟨a1,a2,h1,kz hK xs ys _ g1 h2,kz hK us vs _ g2 h3⟩
    . exact(aQ h).elim
  . rename_i ks xs ks' ys;split at h
    . rename_i nr;subst nr;simp only [aa] at hr |-;obtain⟨b,es,ck,h1,h2,h3,h4,h5⟩:=hr;exact⟨b,es,ck,h1,h2,h3,h4,kz hK xs ys _ h h5⟩
    . exact(aQ h).elim
  . split at h
    . rename_i m hm;obtain⟨e,he⟩:=kJ hm;subst e;subst he;have h1:=h _ (H! ..);have h2:=h _ (E! _ (H! ..));simp only [f?,t?] at h1;subst h1;subst h2;simpa only [aa] using hr
    . exact(aQ h).elim
  . exact(aQ h).elim
theorem kz {aw:Nat->Value}(hK:Keyed bad s β aw):∀(xs ys:List AV) (vs:List Value),(∀p∈xZ s bad xs ys,p)->ae w A β vs xs->ae w A aw vs ys
 |[],[],vs,_,hr=>by simpa only [ae] using hr
 |x::xs,y::ys,vs,h,hr=>by
  simp only [xZ] at h;obtain⟨g1,g2⟩:=kK h;simp only [ae] at hr |-;obtain⟨v,bS,h1,h2,h3⟩:=hr;exact⟨v,bS,h1,p9 hK x y v g1 h2,kz hK xs ys bS g2 h3⟩
 |[],_::_,vs,h,_|_::_,[],vs,h,_=>by simp only [xZ] at h;exact(aQ h).elim
end
def xk {aw:Nat->Value}(hK:Keyed bad s β aw){k K:Nat}{c b:AB}(hk:aw K=β k)(h:∀p∈NU s bad (some c) b,p)(hr:BR w A β k c):BR w A aw K b:=by
 unfold NU at h;split at h
 . rename_i xs ys heq;simp only [A!] at heq;subst heq;obtain⟨g,arr,e,h1,h2,h3,h4,h5⟩:=hr;exact⟨g,arr,e,hk.trans h1,h2,h3,kz hK xs ys _ h h4,h5⟩
 . rename_i e r l fr e' r' l' FW heq;simp only [A!] at heq;subst heq;split at h
   . rename_i m hm;obtain⟨er,he⟩:=kJ hm;subst er;subst he;cases hb:(Nat.beq e e'&&(fr==FW)) with
     |false=>rw [hb] at h;exact(aQ h).elim
     |true=>
      rw [hb] at h;simp only [B!,beq_iff_eq] at hb;have he:=C! hb.1;have hf:=hb.2;subst he;subst hf;have:=aQ h;subst this;obtain⟨xs,h1,h2,h3⟩:=hr;simp only [BR,hk];exact⟨xs,h1,h2,h3⟩
   . exact(aQ h).elim
 . rename_i r l r' l' heq;simp only [A!] at heq;subst heq;split at h
   . rename_i m hm;obtain⟨er,he⟩:=kJ hm;subst er;subst he;have:=aQ h;subst this;obtain⟨g,arr,e,h1,h2,h3,h4⟩:=hr;exact⟨g,arr,e,hk.trans h1,h2,h3,h4⟩
   . exact(aQ h).elim
 . rename_i e j r l i e' j' r' l' i' heq;simp only [A!] at heq;subst heq;split at h
   . rename_i m hm;obtain⟨er,he⟩:=kJ hm;subst er;subst he;cases hb:(Nat.beq e e'&&sy s bad j j') with
     |false=>rw [hb] at h;exact(aQ h).elim
     |true=>
      rw [hb] at h;simp only [B!] at hb;have he:=C! hb.1;have hj:=oT hK hb.2;subst he;have hl:=h _ (H! ..);have hi:i=i':=h _ (E! _ (H! ..));subst hl;subst hi;obtain⟨xs,v0,h1,h2,h3,h4⟩:=hr;simp only [BR,hk];refine⟨xs,v0,h1,h2,h3,λq hq=>?_⟩;simp only [A!] at hq;subst hq;rw [hj];exact h4 j rfl
   . exact(aQ h).elim
 . rename_i e r l e' jj n m sz heq;simp only [A!] at heq;subst heq;cases hb:(Nat.beq e e'&&Nat.beq r.length 1) with
   |false=>rw [hb] at h;exact(aQ h).elim
   |true=>
    rw [hb] at h;simp only [B!] at hb;have he:=C! hb.1;have hr1:=C! hb.2;subst he;have hn:l.length=n:=h _ (H! ..);have hm:m=0:=h _ (E! _ (H! ..));subst hn;subst hm;obtain⟨xs,h1,h2,h3⟩:=hr;simp only [BR,hk];rw [hr1] at h1;exact⟨xs,h1,λb hb=>by simpa using h3 b hb,λj' _ i hi=>absurd hi (Nat.not_lt_zero _)⟩
 . rename_i e j n m sz e' j' n' m' WN heq;simp only [A!] at heq;subst heq;cases hb:(Nat.beq e e'&&sy s bad j j') with
   |false=>rw [hb] at h;exact(aQ h).elim
   |true=>
    rw [hb] at h;simp only [B!] at hb;have he:=C! hb.1;have hj:=oT hK hb.2;subst he;have hn:n=n':=h _ (H! ..);have hm:m=m':=h _ (E! _ (H! ..));have hs:sz=WN:=h _ (E! _ (E! _ (H! ..)));subst hn;subst hm;subst hs;obtain⟨xs,h1,h2,h3⟩:=hr;simp only [BR,hk];refine⟨xs,h1,h2,λq hq i hi=>?_⟩;simp only [A!] at hq;subst hq;obtain⟨v,e1,e2⟩:=h3 j rfl i hi;refine⟨v,e1,?_⟩;simp only [aa] at e2 |-;rw [hj];exact e2
 . rename_i e j l e' j' l' heq;simp only [A!] at heq;subst heq;cases hb:(Nat.beq e e'&&asI s bad j j') with
   |false=>rw [hb] at h;exact(aQ h).elim
   |true=>
    rw [hb] at h;simp only [B!] at hb;have he:=C! hb.1;have hl:=aQ h;subst he;subst hl;obtain⟨xs,h1,h2,h3⟩:=hr;simp only [BR,hk];refine⟨xs,h1,h2,λq hq=>h3 q λi hi=>?_⟩;subst hi;have hb:=hb.2;cases j' with
    |none=>cases hb
    |some j'=>exact(hq j' rfl).trans (oT hK hb)
 . rename_i e j xs i e' j' xs' i' heq;simp only [A!] at heq;subst heq;cases hb:(Nat.beq e e'&&sy s bad j j') with
   |false=>rw [hb] at h;exact(aQ h).elim
   |true=>
    rw [hb] at h;simp only [B!] at hb;have he:=C! hb.1;have hj:=oT hK hb.2;have g1:xs=xs':=h _ (H! ..);have g2:i=i':=h _ (E! _ (H! ..));subst he;subst g1;subst g2;obtain⟨ys,h1,h2,h3,h4⟩:=hr;simp only [BR,hk];refine⟨ys,h1,h2,h3,λq hq=>?_⟩;cases hq;rw [hj];exact h4 j rfl
 . rename_i e sz n cs e' WN n' fi heq;simp only [A!] at heq;subst heq;cases hb:(Nat.beq e e'&&(Nat.beq sz WN&&Nat.beq n n')) with
   |false=>rw [hb] at h;exact(aQ h).elim
   |true=>
    rw [hb] at h;simp only [B!] at hb;obtain⟨h1,h2,h3⟩:=hb;have h1:=C! h1;have h2:=C! h2;have h3:=C! h3;subst h1;subst h2;subst h3;obtain⟨xs,g1,g2,g3⟩:=hr;simp only [BR,hk];exact⟨xs,g1,g2,λej=>kz (Ur β ej) cs fi xs h (g3 β)⟩
 simp_all
end
end Go.Vg

end
section
namespace Go.Vg
open Go
variable [HP]
section
variable {P:Program} {C:Ctx} {E:Env} {A:Nat->Prop} {β aw:Nat->Value} {st:St} {a:Act} {w:World}
def Rp(p:Nat->Bool)(bt:∀k,p k=false->aw k=β k){k:Nat}(hk:aw k=β k){ab:AB}(h:BR w A β k ab):BR w A aw k (cd p ab):=by
 cases ab with
 |cells cs=>
  obtain⟨b,arr,e,h1,h2,h3,h4,h5⟩:=h;exact⟨b,arr,e,hk.trans h1,h2,h3,gf p bt _ _ h4,h5⟩
 |row e row l fr=>
  grind[cd,BR]
 |arr row l=>
  obtain⟨b,arr,e,h1,h2,h3,h4⟩:=h;exact⟨b,arr,e,hk.trans h1,h2,h3,h4⟩
 |gG e j row l i=>
  obtain⟨xs,v0,h1,h2,h3,h4⟩:=h;simp [cd,BR,hk];cases j with
  |none=>grind[de]
  |some j0=>
   grind[de]
 |dM e j xs i=>
  obtain⟨ys,h1,h2,h3,h4⟩:=h;simp only [cd,BR,hk];refine⟨ys,h1,h2,h3,λj' fk=>?_⟩;cases j with
  |none=>cases fk
  |some j0=>
   simp only [de] at fk;cases hp:p j0 with
   |true=>rw [hp] at fk;cases fk
   |false=>
    rw [hp] at fk;simp only [L!,A!] at fk;subst fk;rw [bt _ hp];exact h4 _ rfl
 |fvar row x=>
  obtain⟨b,arr,e,h1,h2,h3,h4⟩:=h;exact⟨b,arr,e,hk.trans h1,h2,h3,h4⟩
 |mp b es ck=>exact⟨hk.trans h.1,h.2⟩
 |aX e sz n cs=>
  obtain⟨xs,h1,h2,h3⟩:=h;exact⟨xs,hk▸h1,hk▸h2,h3⟩
 |eE e j l=>
  obtain⟨xs,h1,h2,h3⟩:=h;cases j with
  |none=>
   simp only [cd,BR,hk];exact⟨xs,h1,h2,λq _=>h3 q (λ_ h=>by cases h)⟩
  |some j=>
   simp only [cd];cases hp:p j with
   |true=>
    simp only [wI,I!,BR,hk];exact⟨xs,h1,h2,λ_ h=>by cases h⟩
   |false=>
    simp only [wI,L!,BR,hk];exact⟨xs,h1,h2,λq hq=>h3 q λj' hj=>(hq j' hj).trans (by cases hj;exact bt j hp)⟩
 |views e j n m sz=>
  obtain⟨xs,h1,h2,h3⟩:=h;simp [cd,BR,hk];refine⟨xs,h1,h2,λj' fk i hi=>?_⟩;cases j with
  |none=>grind[de]
  |some j0=>
   simp [de] at fk;cases hp:p j0 with
   |true=>grind
   |false=>
    grind[yH]
def nz:∀(yu:List (Loc×Nat)) (s:List (Nat×Option Nat)),sources st yu=some s->∀K r,cn s K=some r->∃l,(l,K)∈yu
 |[],s,h,K,r,hl=>by
   simp [sources,A!] at h;subst h;cases hl
 |(l,K0)::yu,s,h,K,r,hl=>by
  simp [sources] at h;split at h
  . rename_i k s' jU jb;simp at h;subst h;simp [cn] at hl;cases hb:Nat.beq K K0 with
    |true=>exact⟨l,by rw [C! hb];exact H! ..⟩
    |false=>
     rw [hb] at hl;obtain⟨l',h'⟩:=nz yu s' jb K r hl;exact⟨l',E! _ h'⟩
  . rename_i k o s' jU jb;simp at h;subst h;simp [cn] at hl;cases hb:Nat.beq K K0 with
    |true=>exact⟨l,by rw [C! hb];exact H! ..⟩
    |false=>
     rw [hb] at hl;obtain⟨l',h'⟩:=nz yu s' jb K r hl;exact⟨l',E! _ h'⟩
  . rename_i s' jU jb;simp at h;subst h;simp [cn] at hl;cases hb:Nat.beq K K0 with
    |true=>exact⟨l,by rw [C! hb];exact H! ..⟩
    |false=>
     rw [hb] at hl;obtain⟨l',h'⟩:=nz yu s' jb K r hl;exact⟨l',E! _ h'⟩
  . cases h
def Us(kb:Nat):∀(yu:List (Loc×Nat)) (l:Loc) (K:Nat),(l,K)∈yu->cy kb (yu.map λx=>KS.one x.2) K=true
 |(l0,K0)::yu,l,K,h=>by
  simp only [M?,cy,KS.has,e?];rcases N!.1 h with h|h
  . simp at h;rw [h.2];exact .inl (ct _)
  . exact .inr (Us kb yu l K h)
def H5 {τ:Type}{s:List (Nat×Option Nat)}{bad:Nat->Bool}{x:τ}:∀(l:List (Nat×(τ->AV))) (i:Nat) (f:τ->AV),ga l i=some f->∀p∈KD s bad (st.t i) (f x),p∈Jo s bad st x l
 |(j,g)::r,i,f,h,p,hp=>by
  simp [ga] at h;simp [Jo,G!];cases hb:Nat.beq i j with
  |true=>
   simp_all
  |false=>
   rw [hb] at h;exact .inr (H5 r i f h p hp)
def afF {τ:Type}(s:List (Nat×Option Nat))(bad:Nat->Bool)(st:St)(x:τ)(K:Nat)(f:τ->AB):List Prop:=match cn s K with
 |some (some k)=>NU s bad (st.h k) (f x)
 |some none=>match f x with
  |.row _ _ l false=>[[]=l]
  |_=>[False]
 |none=>bif bad K then [False] else NU s bad (st.h K) (f x)
def K6 {τ:Type}{s:List (Nat×Option Nat)}{bad:Nat->Bool}{x:τ}:∀(l:List (Nat×(τ->AB))) (i:Nat) (f:τ->AB),ga l i=some f->∀p∈afF s bad st x i f,p∈Ra s bad st x l
 |(j,g)::r,i,f,h,p,hp=>by
  simp [ga] at h;simp only [Ra,G!];cases hb:Nat.beq i j with
  |true=>
   rw [hb] at h;simp at h;have:=C! hb;subst this;subst h;exact .inl hp
  |false=>
   rw [hb] at h;exact .inr (K6 r i f h p hp)
def jn:∀(s:List (Nat×Option Nat)) (K k:Nat),cn s K=some (some k)->k∈dS s
 |(j,r)::s,K,k,h=>by
  simp [cn] at h;cases hb:Nat.beq K j with
  |true=>
   simp_all[I!,A!,dS]
  |false=>
   rw [hb] at h;have:=jn s K k h;cases r<;>simp [dS,this]
def xl:∀(s:List (Nat×Option Nat)),jK (dS s)=true->∀K K' k,cn s K=some (some k)->cn s K'=some (some k)->K=K'
 |(j,r)::s,hn,K,K',k,h,h'=>by
  have hn':jK (dS s)=true:=by
   cases r with
   |none=>exact hn
   |some j'=>simp_all[dS,jK,B!]
  simp [cn] at h h';cases hb:Nat.beq K j with
  |true=>
   cases ek:Nat.beq K' j with
   |true=>simp_all
   |false=>
    rw [ek] at h';have:=jn s K' k h';simp_all[dS,jK,B!,J?,absurd,ic]
  |false=>
   cases ek:Nat.beq K' j with
   |true=>
    rw [hb] at h;rw [ek] at h';have:=jn s K k h;simp_all[dS,jK,B!,J?,absurd,ic]
   |false=>
    rw [hb] at h;rw [ek] at h';exact xl s hn' K K' k h h'
def vV {s:List (Nat×Option Nat)}{bad:Nat->Bool}{o:Option AB}{b:AB}(h:∀p∈NU s bad o b,p):∃c,o=some c:=by
 cases o with
 |some c=>grind
 |none=>exact(aQ h).elim
def Rq {β:Nat->Value}{k e:Nat}{row:List Ty}{l:List (Row row)}(hk:β k=ry)(hl: []=l):BR w A β k (.row e row l false):=by
 subst hl;refine⟨[],⟨z!,.inl ⟨hk,rfl⟩⟩,by rfl,λb hb=>?_⟩;grind[ry,ag]
def ab5 {L:bq}{W:List Nat}{base:St}{s:List (Nat×Option Nat)}{x:L.τ}(gI:sources st L.yu=some s)(Rr:AR L W base st s=true)(hm:∀p∈AS L W base st s x,p)(hB:aq C A β st a w)
  (hT:∀i,au W i=false->∃p,(∀k,p k=true->cy base.kb (cK L W) k=true)/\st.t i=aB p (base.t i))
  (hH:∀k,au st.b9 k=false->cy base.kb (cK L W) k=false->ga L.keys k=none->∃p,(∀k,p k=true->cy base.kb (cK L W) k=true)/\st.h k=bZ p (base.h k))
  (hn:st.n=base.n) (hgg:st.g=base.g):aq C A (kI (cy base.kb (cK L W)) s β) (lO L W base x) a w:=by
 generalize K7:cy base.kb (cK L W)=bad at *;simp only [AR,K7,B!] at Rr;obtain⟨⟨⟨⟨⟨⟨⟨o1,o2⟩,oP2⟩,o3⟩,o4⟩,o5⟩,o6⟩,o7⟩:=Rr;rw [X!] at oP2 o3 o4 o5 o6 o7
 have afG:∀K r,cn s K=some r->bad K=true:=by
  intro K r h;obtain⟨l,hl⟩:=nz _ _ gI K r h;rw [<-K7];simp only [cK,cP,Us base.kb _ l K hl,Bool.true_or,Bool.or_true]
 have zy:∀K,bad K=false->kI bad s β K=β K:=by
  intro K h;simp only [kI,h,L!]
 have Bw:Keyed bad s β (kI bad s β):=by
  refine⟨λK k h=>?_,λK h=>?_,λK _ h=>zy K h,zy⟩
  . simp only [kI,afG K _ h,I!,h]
  . simp only [kI,afG K _ h,I!,h]
 have hm1:∀i f,ga L.uQ i=some f->∀p∈KD s bad (st.t i) (f x),p:=by
  intro i f hf p hp;refine hm p ?_;simp only [AS,K7,G!];exact .inl (H5 _ i f hf p hp)
 have hm2:∀K f,ga L.keys K=some f->∀p∈afF s bad st x K f,p:=by
  intro K f hf p hp;refine hm p ?_;simp only [AS,K7,G!];exact .inr (K6 _ K f hf p hp)
 have eV:∀K ab,(lO L W base x).h K=some ab->BR w A (kI bad s β) K ab/\(kI bad s β K=ry\/∃j,kI bad s β K=β j/\(st.h j).isSome/\((bad K=false/\j=K)\/(bad K=true/\cn s K=some (some j)))):=by
  intro K ab h;simp only [lO,K7] at h;cases hf:ga L.keys K with
  |some f=>
   rw [hf] at h;simp at h;subst h;have hc:=hm2 K f hf;unfold afF at hc;split at hc
   . rename_i k hk;obtain⟨c,qY⟩:=vV hc;rw [qY] at hc;exact⟨xk Bw (Bw.src K k hk) hc (hB.blocks k c qY),.inr ⟨k,Bw.src K k hk,by simp [qY],.inr ⟨afG K _ hk,hk⟩⟩⟩
   . rename_i hk;refine⟨?_,.inl (Bw.nil K hk)⟩;split at hc
     . rename_i e row l hfx;rw [hfx];exact Rq (Bw.nil K hk) (aQ hc)
     . exact(aQ hc).elim
   . rename_i hk;cases hb:bad K with
     |true=>rw [hb] at hc;exact(aQ hc).elim
     |false=>
      rw [hb] at hc;obtain⟨c,qY⟩:=vV hc;rw [qY] at hc;exact⟨xk Bw (zy K hb) hc (hB.blocks K c qY),.inr ⟨K,zy K hb,by simp [qY],.inl ⟨rfl,rfl⟩⟩⟩
  |none=>
   rw [hf] at h;cases hb:bad K with
   |true=>rw [hb] at h;cases h
   |false=>
    rw [hb] at h;simp only [L!] at h
    have hd:au st.b9 K=false:=by
     cases hq:au st.b9 K with
     |false=>rfl
     |true=>
      have:=o7 K ((AX _ _).1 hq);rw [hf,hb] at this;cases this
    obtain⟨p,p1,p2⟩:=hH K hd hb hf;cases Cq:base.h K with
    |none=>rw [Cq] at h;cases h
    |some b0=>
     rw [Cq] at h p2;simp only [bZ,A!] at h p2;subst h;have eu:=Rp (aw:=kI bad s β) bad zy (zy K hb) (hB.blocks K _ p2);rw [iq] at eu
     have hpq:(λk=>p k || bad k)=bad:=by
      funext k;cases hp:p k with
      |false=>rfl
      |true=>rw [p1 k hp];rfl
     rw [hpq] at eu;exact⟨eu,.inr ⟨K,zy K hb,by simp [p2],.inl ⟨rfl,rfl⟩⟩⟩
 have NQ:∀K,((lO L W base x).h K).isSome->∀b,ag (kI bad s β K)=some b->∃j,kI bad s β K=β j/\(st.h j).isSome/\((bad K=false/\j=K)\/(bad K=true/\cn s K=some (some j))):=by
  intro K hK b hb;obtain⟨ab,ku⟩:=P!.1 hK;rcases(eV K ab ku).2 with h|h
  . rw [h] at hb;simp [ry,ag] at hb
  . exact h
 have hsb:∀K j,cn s K=some (some j)->bad j=true:=λK j h=>o6 j (jn s K j h)
 refine⟨hB.defers,hB.size.trans hn,λi=>?_,λK ab h=>(eV K ab h).1,λK K' b h1 h2 g1 g2=>?_,hB.bound,hB.frame,hB.gH,hB.base,λK b h1 g1=>?_,λi d hd=>hB.nR i d ((congrFun hgg i).trans hd),hB.laid,λK hK=>by
  have :kI bad s β K=β K:=by
   unfold kI;cases bad K with
   |false=>rfl
   |true=>
    cases hl:cn s K with
    |none=>rfl
    |some y=>
     obtain⟨l,hl⟩:=nz _ _ gI K y hl;have:=oP2 _ hl;rw [hK] at this;cases this
  exact this.trans (hB.held K hK)⟩
 . have hi:=hB.tmps i
   show aa w A _ _ (match ga L.uQ i with
    |some f=>f x
    |none=>bif au W i then .cr else aB (cy base.kb (cK L W)) (base.t i))
   rw [K7];cases hf:ga L.uQ i with
   |some f=>exact p9 Bw _ _ _ (hm1 i f hf) hi
   |none=>
    simp only;cases hW:au W i with
    |true=>simp [aa]
    |false=>
     obtain⟨p,p1,p2⟩:=hT i hW;rw [p2] at hi;have:=aBA (aw:=kI bad s β) bad zy _ _ hi;rw [cU] at this
     have hpq:(λk=>p k || bad k)=bad:=by
      funext k;cases hp:p k with
      |false=>rfl
      |true=>rw [p1 k hp];rfl
     rwa [hpq] at this
 . obtain⟨j,e1,l1,c1⟩:=NQ K h1 b g1;obtain⟨j',e2,l2,c2⟩:=NQ K' h2 b g2;rw [e1] at g1;rw [e2] at g2;have hj:j=j':=hB.apart j j' b l1 l2 g1 g2;subst hj;rcases c1 with⟨b1,rfl⟩|⟨b1,k1⟩<;>rcases c2 with⟨b2,h⟩|⟨b2,k2⟩
   . exact h
   . rw [hsb K' _ k2] at b1;cases b1
   . subst h;rw [hsb K _ k1] at b2;cases b2
   . exact xl s o2 K K' j k1 k2
 . obtain⟨j,e1,l1,c1⟩:=NQ K h1 b g1;rw [e1] at g1;exact hB.lK j b l1 g1
def B0 {L:bq}{W:List Nat}{base:St}{Pp:L.τ->Prop}(h:Er L W base st Pp)(hR:Rel C st a w)
  (hT:∀i,au W i=false->∃p,(∀k,p k=true->cy base.kb (cK L W) k=true)/\st.t i=aB p (base.t i))
  (hH:∀k,au st.b9 k=false->cy base.kb (cK L W) k=false->ga L.keys k=none->∃p,(∀k,p k=true->cy base.kb (cK L W) k=true)/\st.h k=bZ p (base.h k))
  (hn:st.n=base.n) (hgg:st.g=base.g):∃x,Pp x/\Rel C (lO L W base x) a w:=by
 obtain⟨A,β,hB⟩:=hR;unfold Er at h;split at h
 . grind
 . rename_i s hs;cases hk:AR L W base st s with
   |false=>grind
   |true=>
    rw [hk] at h;obtain⟨x,h1,h2⟩:=h;exact⟨x,h2,A,_,ab5 hs hk (vT _ h1) hB hT hH hn hgg⟩
def OW:Ex->Exit
 |.norm=>.normal
 |.exit i=>.exit i
 |.ret=>.ret
def nZ:∀ {cs:List Prop} {k:Prop},zh cs k->(∀p∈cs,p)/\k
 |[],k,h=>⟨λp hp=>x!,h⟩
 |p::ps,k,h=>by
  obtain⟨h1,h2⟩:=nZ (cs:=ps) h.2;refine⟨λq hq=>?_,h2⟩;rcases N!.1 hq with rfl|hq
  . exact h.1
  . exact h1 q hq
theorem ab6(kb:Nat){W:List Nat}{d k:Nat}(h:(KS.dst d).has kb k=true):au W d=true->cy kb (W.map .dst) k=true:=by
 induction W with
 |nil=>intro hd;cases hd
 |cons j W ih=>
  intro hd;simp [au,Bool.or_eq_true] at hd;simp [List.map_cons,cy,Bool.or_eq_true];grind[Nat.eq_of_beq_eq_true]
def EH {L:bq}{W:List Nat}{base:St}:∀ {news:List KS},Jp L W base news=true->∀k,cy base.kb news k=true->cy base.kb (cK L W) k=true
 |[],_,k,hk=>by cases hk
 |x::news,h,k,hk=>by
  simp only [Jp,List.all_cons,B!] at h;simp [cy,e?] at hk;rcases hk with hk|hk
  . cases x with
    |one j=>
     grind[KS.has,Nat.eq_of_beq_eq_true]
    |dst d=>
     simp [cK,cP,Bool.or_eq_true];grind[ab6]
  . exact EH (news:=news) h.2 k hk
theorem lA.back {L:bq}{W:List Nat}{base:St}{x:L.τ}{m:St}(h:lA W (lO L W base x) m)(Eh:∀y∈L.uQ,au W y.1=true):lA W base (St.back L W base m):=by
 obtain⟨p,a1,a2,a3⟩:=h.pF;have nc:(lO L W base x).kb=base.kb:=rfl;refine⟨⟨λk=>cy base.kb (cK L W) k || p k,λk hk=>?_,λi hi=>?_,λk hk Gj=>?_⟩,h.n,h.kb,λk hk=>?_,λk hk=>?_,h.g⟩
 . simp only [St.back,cP,Bool.or_eq_true] at hk |-;grind
 . show m.t i=_;rw [a2 i hi,<-cU]
   have :(lO L W base x).t i=aB (cy base.kb (cK L W)) (base.t i):=by
    show(match ga L.uQ i with
     |some f=>f x
     |none=>bif au W i then .cr else aB (cy base.kb (cK L W)) (base.t i))=_
    have hls:∀(l:List (Nat×(L.τ->AV))),(∀y∈l,au W y.1=true)->ga l i=none:=by
     intro l;induction l with
     |nil=>intro _;rfl
     |cons y l ih=>
      grind[g,ga,Nat.beq,aG,hi,List.mem_cons_of_mem]
    grind
   grind
 . have ew:au m.b9 k=false/\au (L.keys.map (·.1)) k=false:=by
    grind[St.back,cR,Bool.or_eq_false_iff]
   have hn':cy base.kb (cK L W) k=false/\cy base.kb m.news k=false:=by
    grind[St.back,cP,Bool.or_eq_false_iff]
   show m.h k=_;rw [a3 k ew.1 hn'.2,<-fa]
   have :(lO L W base x).h k=bZ (cy base.kb (cK L W)) (base.h k):=by
    show(match ga L.keys k with
     |some f=>some (f x)
     |none=>bif cy base.kb (cK L W) k then none else bZ (cy base.kb (cK L W)) (base.h k))=_
    have hls:∀(l:List (Nat×(L.τ->AB))),au (l.map (·.1)) k=false->ga l k=none:=by
     intro l;induction l with
     |nil=>intro _;rfl
     |cons y l ih=>
      simp_all[g,M?,au,c?,ga,L!]
    grind
   grind
 . simp_all[St.back,cR,Bool.or_true]
 simp_all[St.back,cP,Bool.true_or]
abbrev W5(C:Ctx)(W:List Nat)(st:St)(K:Ex->St->Prop)(Q:Exit->Act->World->Prop):Prop:=
 ∀e aS a' w',K e aS->lA W st aS->Rel C aS a' w'->Q (OW e) a' w'
def Ut {L:bq}{W:List Nat}{b:Code}{K:Ex->St->Prop}{V:(Ex->St->Prop)->St->Prop}{Q:Exit->Act->World->Prop}
  (hV:∀K' aS a' w' Q',V K' aS->Rel C aS a' w'->W5 C W aS K' Q'->b.wp P Q' a' w')
  (h:å L W K V st) (hR:Rel C st a w) (hQ:W5 C W st K Q):(Code.loop b).wp P Q a w:=by
 obtain⟨h0,aln⟩:=h
 have Eh:∀y∈L.uQ,au W y.1=true:=by
  unfold Er at h0;split at h0
  . grind
  . rename_i s hs;cases hk:AR L W st st.clear s with
    |false=>grind
    |true=>
     simp only [AR,Bool.and_eq_true] at hk;grind
 have hRc:Rel C st.clear a w:=by
  obtain⟨A,β,hB⟩:=hR;exact⟨A,β,hB.clear⟩
 obtain⟨x0,Ro,hr0⟩:=B0 h0 hRc (λi _=>⟨λ_=>false,z!,(rK _).symm⟩) (λk _ _ _=>⟨λ_=>false,z!,(BX _).symm⟩) rfl rfl;refine wp_loop_ghost (λn a w=>∃x,L.inv x/\L.al x=n/\Rel C (lO L W st x) a w) (L.al x0) ⟨x0,Ro,rfl,hr0⟩ ?_;intro n a w hI;obtain⟨x,hx,rfl,hRx⟩:=hI;refine hV _ _ _ _ _ (aln x hx) hRx ?_;intro e aS a' w' hk hF eQ;cases e with
 |norm=>
  simp only [T4] at hk;cases hn:Jp L W st aS.news with
  |false=>grind
  |true=>
   rw [hn] at hk;obtain⟨p,a1,a2,a3⟩:=hF.pF;have nc:(lO L W st x).kb=st.kb:=rfl;rw [nc] at a1 a3;have K7:∀k,cy st.kb aS.news k=true->cy st.kb (cK L W) k=true:=EH hn;have hb:=hF.back Eh
   obtain⟨x',Bq,oH⟩:=B0 hk eQ (λi hi=>by
     refine⟨λk=>cy st.kb (cK L W) k || p k,λk hk=>?_,?_⟩
     . grind
     . rw [a2 i hi,<-cU]
       have :(lO L W st x).t i=aB (cy st.kb (cK L W)) (st.t i):=by
        show(match ga L.uQ i with
         |some f=>f x
         |none=>bif au W i then .cr else aB (cy st.kb (cK L W)) (st.t i))=_
        have hls:∀(l:List (Nat×(L.τ->AV))),(∀y∈l,au W y.1=true)->ga l i=none:=by
         intro l;induction l with
         |nil=>intro _;rfl
         |cons y l ih=>
          grind[ga,Nat.beq,aG,hi,List.mem_cons_of_mem]
        grind
       grind)
    (λk hd QC hls=>by
      grind[cy,cK,fa,lO,bZ,ga]) hF.n hF.g
   exact⟨L.al x',Bq.2,x',Bq.1,rfl,oH⟩
 |exit i=>
  obtain⟨A,β,hB⟩:=eQ;exact hQ _ _ _ _ hk (hF.back Eh) ⟨A,β,hB.seq ⟨rfl,rfl,rfl,rfl,rfl⟩⟩
 |ret=>
  obtain⟨A,β,hB⟩:=eQ;exact hQ _ _ _ _ hk (hF.back Eh) ⟨A,β,hB.seq ⟨rfl,rfl,rfl,rfl,rfl⟩⟩
end
end Go.Vg

end
section
namespace Go.Vg
open Go
variable [HP]
section
variable {P:Program} {C:Ctx} {E:Env} {A:Nat->Prop} {β aw:Nat->Value} {st:St} {a:Act} {w:World}
def K8 {W:List Nat}{K:Ex->St->Prop}{Q:Exit->Act->World->Prop}(id:Nat)(hQ:W5 C W st K Q):W5 C W st (HS id K) (Exit.inBlock id Q):=by
 intro e aS a' w' hk hF hR;cases e with
 |norm=>exact hQ .norm _ _ _ hk hF hR
 |ret=>exact hQ .ret _ _ _ hk hF hR
 |exit j=>
  simp only [HS] at hk;by_cases hj:j=id
  . subst hj;simp at hk;simp [OW,Exit.inBlock,R?];exact hQ .norm _ _ _ hk hF hR
  . simp [aG hj,L!] at hk;simp [OW,Exit.inBlock,Q! hj];exact hQ (.exit j) _ _ _ hk hF hR
def Uu(n:Int)(ks:List Int)(f:Nat->Prop)(h:Jq n ks f 0 ks):∃j,f j:=by
 have :∀(r:List Int) (i:Nat),Jq n ks f i r->(∃j,f j)\/(n∉r/\(wM n ks->∃j,f j)):=by
  intro r;induction r with
  |nil=>intro i h;exact .inr ⟨z!,λq=>⟨i,h q⟩⟩
  |cons k r ih=>
   intro i h;by_cases hk:n=k
   . exact .inl ⟨i,h.1 hk⟩
   . rcases ih (i+1) h.2 with g|⟨g1,g2⟩
     . grind
     grind
 grind[yP]
theorem cV(hE:cQ P C E)(hm:P.follows .mixedOrders=true){L:Nat->Option bq}:∀(c:Code) (K:Ex->St->Prop) (st:St) (a:Act) (w:World) (Q:Exit->Act->World->Prop),
  pw E L c K st->Rel C st a w->W5 C (yr c) st K Q->c.wp P Q a w
 |.skip,K,st,a,w,Q,h,hR,hQ=>by
   exact wp_skip (hQ .norm _ _ _ h (lA.refl _ _) hR)
 |.region id ops d,K,st,a,w,Q,h,hR,hQ=>by
   have fin:∀E',cQ P C E'->Rc E' K st ops.toList d->(Code.region id ops d).wp P Q a w:=by
    intro E' hE' h;unfold Rc at h;split at h
    . rename_i cs m hr;obtain⟨h1,h2⟩:=nZ h;exact uU hE' hm hr h1 hR λa' w' eQ=>hQ .norm _ _ _ h2 (KK hr).loose eQ
    grind
   simp only [pw] at h;split at h
   . rename_i n ks hw;obtain⟨i,hi⟩:=Uu n ks _ h;exact fin {E with DO:=i} ⟨⟨hE.ok.eA,hE.ok.sig,hE.ok.qG,hE.ok.hp,hE.ok.ca⟩,hE.g⟩ hi
   grind
 |.seq x y,K,st,a,w,Q,h,hR,hQ=>by
   refine wp_seq (cV hE hm x _ st a w _ h hR λe aS a' w' hk hF eQ=>?_);cases e with
   |norm=>
    exact cV hE hm y K aS a' w' Q hk eQ λe aET a'' NC ew hF' aAB=>hQ e _ _ _ ew (hF.trans hF') aAB
   |exit i=>exact hQ (.exit i) _ _ _ hk (hF.mono sI) eQ
   |ret=>exact hQ .ret _ _ _ hk (hF.mono sI) eQ
 |.cond c x y,K,st,a,w,Q,h,hR,hQ=>by
   simp only [pw] at h;have hx:W5 C (yr x) st K Q:=λe aS a' w' hk hF eQ=>hQ e _ _ _ hk (hF.mono sI) eQ;have hy:W5 C (yr y) st K Q:=λe aS a' w' hk hF eQ=>hQ e _ _ _ hk (hF.mono zx) eQ;split at h
   . rename_i cs m hr;obtain⟨h1,h2⟩:=nZ h;unfold æ at hr;cases hs:(!Rb E c&&(jY x&&jY y)) with
     |false=>grind
     |true=>
      rw [hs] at hr;exact jm hE hm _ st _ _ a w Q hr h1 hR λa' w' eQ=>hQ .norm _ _ _ h2 (mc _ _ _ _ hr).loose eQ
   . obtain⟨A,β,hB⟩:=hR;split at h
     . rename_i hv;exact wp_cond_true (W3 hB hv) (cV hE hm x K st a w Q h ⟨A,β,hB⟩ hx)
     . rename_i hv;exact wp_cond_false (W4 hB hv) (cV hE hm y K st a w Q h ⟨A,β,hB⟩ hy)
     . rename_i b hv;exact wp_cond_split (K5 hB hv) (λhb=>cV hE hm x K st a w Q (h.1 hb) ⟨A,β,hB⟩ hx) (λhb=>cV hE hm y K st a w Q (h.2 hb) ⟨A,β,hB⟩ hy)
     . rename_i row l hv;obtain⟨b,hb,hl⟩:=Uq hB hv;exact wp_cond_split hb (λht=>cV hE hm x K st a w Q (h.1 (hl ht)) ⟨A,β,hB⟩ hx) (λ_=>cV hE hm y K st a w Q h.2 ⟨A,β,hB⟩ hy)
     grind
 |.block id b,K,st,a,w,Q,h,hR,hQ=>by
   have afH:pw E L b (HS id K) st->(Code.block id b).wp P Q a w:=λh=>wp_block (cV hE hm b _ st a w _ h hR (K8 id hQ));cases b with
   |loop b=>
    simp only [pw] at h;split at h
    . rename_i An hA;exact wp_block (Ut (λK' aS a' w' Q' hv eQ hQ'=>cV hE hm b K' aS a' w' Q' hv eQ hQ') h hR (K8 id hQ))
    . exact h.elim
   |_=>exact afH (by first|exact h|(simp only [pw] at h |-))
 |.exit i,K,st,a,w,Q,h,hR,hQ=>by
   exact wp_exit (hQ (.exit i) _ _ _ h (lA.refl _ _) hR)
 |.ret,K,st,a,w,Q,h,hR,hQ=>by
   exact wp_ret (hQ .ret _ _ _ h (lA.refl _ _) hR)
 |.loop _,K,st,a,w,Q,h,_,_|.rangeFunc _ _ _ _,K,st,a,w,Q,h,_,_=>by grind[pw]
 |.scope c,K,st,a,w,Q,h,hR,hQ=>by
   simp only [pw] at h;refine wp_scope_straight (cV hE hm c K st a w _ h hR λe aS a' w' hk hF eQ=>?_);have:=hQ e aS a' w' hk hF eQ;cases e<;>exact this
 |.label _,K,st,a,w,Q,h,hR,hQ=>by
   simp only [pw] at h;exact wp_label (hQ .norm _ _ _ h (lA.refl _ _) hR)
 |.goto _,K,st,a,w,Q,h,_,_|.refuse _,K,st,a,w,Q,h,_,_=>by grind[pw]
termination_by c=>SizeOf.sizeOf c
end
end Go.Vg

end
section
namespace Go.Vg
open Go
variable [HP]
section
variable {P:Program} {C:Ctx} {E:Env} {A A':Nat->Prop} {β aw:Nat->Value} {st:St} {a:Act} {w:World} {T:bY}
def K9:Keyed (λ_=>true) [] β aw:=⟨λK k h=>(by cases h),λK h=>(by cases h),λK _ h=>(by cases h),λK h=>(by cases h)⟩
def Js(tmps:Array Value):ResultVar->Sem Value
 |.tmp t=>pure (tmps.getD t undef)
 |.cell x t=>do loadVar t (<-asAddr (tmps.getD x undef))
theorem H6(fn:Func)(tmps:Array Value):results fn tmps=(do
  let vs <-fn.results.mapM (Js tmps)
  pure (if h:vs.size=1 then vs[0] else .tuple vs)):=by
 rfl
def rM(hT:bx T P)(hB:aq C A β st a w):∀(rs:List ResultVar) (as_:List AV),mH T st rs=some as_->
  ∃vs,(rs.mapM (Js a.tmps)).run P w= .ok vs w/\ae w A β vs as_
 |[],as_,h=>by
   simp_all[mH,A!,ae]
 |.tmp t::rs,as_,h=>by
   simp [mH] at h;split at h
   . rename_i l hl;simp at h;subst h;obtain⟨vs,h1,h2⟩:=rM hT hB rs l hl;refine⟨a.tmps.getD t undef::vs,?_,?_⟩
     . simp [List.mapM_cons,Js,Sem.run_bind,Sem.run_pure,Result.andThen_ok,h1]
     . exact⟨_,_,rfl,hB.tmps t,h2⟩
   . cases h
 |.cell x t::rs,as_,h=>by
   simp [mH] at h;split at h
   . rename_i k off hk;split at h
     . rename_i out l ho hl;obtain⟨vs,h1,h2⟩:=rM hT hB rs l hl;have hx:=hB.tmps x;rw [hk] at hx
       have nU:out.cond=[]:=by
        grind[oE,Option.some.injEq]
       obtain⟨_,v,g1,g2⟩:=yL hT hB hx ho x!;obtain⟨b,Kw,I3⟩:=hx;refine⟨v::vs,?_,?_⟩
       . simp only [Instr.loadAt,Instr.sureAddr,Sem.run_bind,Sem.run_pure,Result.andThen_ok] at g1;grind[asAddr,undef,Sem.run_pure,Js,Sem.run_bind,Result.andThen_ok]
       grind[ae]
     grind
   grind
def Uv {α:Type}{R:List Value->α->Prop}:∀(xs:List Value) (l:List α),xs.length=l.length->(∀(i:Nat) (v:Value) (x:α),xs[i]? =some v->l[i]? =some x->R [v] x)->dc R xs l
 |[],[],_,_=>by rfl
 |v::xs,x::l,hl,h=>by
  exact⟨[v],xs,rfl,h 0 v x rfl rfl,Uv xs l (by simpa using hl) λi v x h1 h2=>h (i+1) v x (by simpa using h1) (by simpa using h2)⟩
 |[],_::_,hl,_|_::_,[],hl,_=>by grind
def EI(hB:aq C A β st a w)(hA:∀b,A b->A' b)(r:List Ty)(l:List (Row r))(k:Nat)(v:Value)(h:∀p∈(CI st.h r l k).1,p)(hF:∀k'∈(CI st.h r l k).2,∀b,ag (β k')=some b->A' b)
  (hr:aa w A β v (.own k)):aa w A' aw v (.sl r l)/\∀k'∈(CI st.h r l k).2,(st.h k').isSome:=by
 generalize he:CI st.h r l k=g at h hF |-;unfold CI at he;split at he
 . rename_i e j n m sz hk;split at he
   . rename_i e2 é bytes fr hj;cases hb:Nat.beq é.length 1 with
     |false=>rw [hb] at he;subst he;exact(aQ h).elim
     |true=>
      rw [hb] at he;have hr2:=C! hb;split at he
      . rename_i g' hg;subst he;obtain⟨er,NJ⟩:=kJ hg;subst er;subst NJ;have Um:m=n:=h _ (H! ..);have hgl:tU sz n bytes=l:=h _ (E! _ (H! ..));subst Um;subst hgl;have hFk:∀b,ag (β k)=some b->A' b:=hF k z!;have hFj:∀b,ag (β j)=some b->A' b:=hF j z!;refine⟨?_,λk' ew=>?_⟩
        . obtain⟨rfl,_⟩:=hr;have hlen:(tU sz m bytes).length=m:=by simp [tU]
          rcases pW hB hk with⟨h1,h2⟩|⟨b,cap,cur,h1,h2,h3,h4,h5,h6,h7⟩
          . subst h2;exact⟨none,0,[],by rw [h1];simp [tU],by simp [tU],z!,by simp [tU,dc],z!⟩
          . refine⟨_,cap,cur.toList.take m,by rw [h1,hlen],by rw [hlen];exact h3,h4,?_,λ_=>⟨b,0,rfl,hFk b (by rw [h1];rfl),?_⟩⟩
            . refine Uv _ _ (by simp;omega) λi u x hu hx=>?_
              have hi:i<m:=by
               have:=(C?.1 hx).1;omega
              obtain⟨v',e1,e3⟩:=h7 j rfl i hi;rw [hu] at e1;simp at e1;subst e1
              have Bq:x=(bytes.drop (i*sz)).take sz:=by
               simp [tU,E?,List.getElem?_range hi,Option.map_some,A!] at hx;exact hx.symm
              have hp:=(sa (A':=A') hB e3 hA (λq hq=>by
               have Bx:=CK _ q hq;simp [ao,p?] at Bx;subst Bx;exact hFj)).1
              simp [hX,hj,hr2,ct,I!,aa] at hp;refine⟨u,[],rfl,?_,rfl⟩;rw [Bq];exact hp
            . intro q u hq;rw [v?] at hq;split at hq
              . simp [World.cell?,h2];simpa using hq
              . cases hq
        . simp at ew;rcases ew with rfl|rfl
          . simp [hk]
          . simp [hj]
      . subst he;exact(aQ h).elim
   . subst he;exact(aQ h).elim
 . subst he;obtain⟨g1,g2⟩:=sa hB hr hA hF;exact⟨p9 K9 _ _ _ h g1,λk hk=>by obtain⟨e,row,l,fr,hr⟩:=g2 k hk;simp [hr]⟩
mutual
theorem H7(hB:aq C A β st a w){s:List (Nat×Option Nat)}(hA:∀b,A b->A' b)(h1:∀i k,cn s i=some (some k)->aw i=β k)(h2:∀i,cn s i=some none->aw i=ry):∀(x y:AV) (v:Value),
  (∀p∈(zi st.h s x y).1,p)->(∀k∈(zi st.h s x y).2,∀b,ag (β k)=some b->A' b)->aa w A β v y->aa w A' aw v x/\∀k∈(zi st.h s x y).2,(st.h k).isSome
 |x,y,v,h,hF,hr=>by
  generalize he:zi st.h s x y=r at h hF |-;unfold zi at he;split at he
  . rename_i i k;subst he;simp only at h hF |-;refine⟨?_,λk hk=>(by cases hk)⟩;simp only [aa] at hr |-;split at h
    . rename_i j hj;cases hb:Nat.beq k j with
      |false=>rw [hb] at h;exact(aQ h).elim
      |true=>
       have:=C! hb;subst this;rw [h1 i k hj];exact hr
    . exact(aQ h).elim
  . rename_i i;subst he;simp only at h hF |-;refine⟨?_,λk hk=>(by cases hk)⟩;simp only [aa] at hr |-;split at h
    . rename_i hj;rw [h2 i hj];subst hr;exact⟨rfl,rfl⟩
    . exact(aQ h).elim
  . rename_i r0 l0 k;subst he;exact EI hB hA r0 l0 k v h hF hr
  . rename_i xs ys;subst he;simp only [aa] at hr |-;obtain⟨arr,e1,e2⟩:=hr;obtain⟨g1,g2⟩:=xm hB hA h1 h2 xs ys _ h hF e2;exact⟨⟨arr,e1,g1⟩,g2⟩
  . rename_i xs ys;subst he;simp only [aa] at hr |-;obtain⟨arr,e1,e2⟩:=hr;obtain⟨g1,g2⟩:=xm hB hA h1 h2 xs ys _ h hF e2;exact⟨⟨arr,e1,g1⟩,g2⟩
  . subst he;obtain⟨g1,g2⟩:=sa hB hr hA hF;exact⟨p9 K9 _ _ _ h g1,λk hk=>by obtain⟨e,row,l,fr,hr⟩:=g2 k hk;simp [hr]⟩
theorem xm(hB:aq C A β st a w){s:List (Nat×Option Nat)}(hA:∀b,A b->A' b)(h1:∀i k,cn s i=some (some k)->aw i=β k)(h2:∀i,cn s i=some none->aw i=ry):∀(xs ys:List AV) (vs:List Value),
  (∀p∈(sB st.h s xs ys).1,p)->(∀k∈(sB st.h s xs ys).2,∀b,ag (β k)=some b->A' b)->ae w A β vs ys->ae w A' aw vs xs/\∀k∈(sB st.h s xs ys).2,(st.h k).isSome
 |[],[],vs,_,_,hr=>by
   simp only [ae] at hr |-;exact⟨hr,λk hk=>by simp [sB] at hk⟩
 |x::xs,y::ys,vs,h,hF,hr=>by
  simp only [sB] at h hF |-;obtain⟨g1,g2⟩:=kK h;simp only [ae] at hr |-;obtain⟨v,bS,e,r1,r2⟩:=hr;obtain⟨q1,q2⟩:=H7 hB hA h1 h2 x y v g1 (λk hk=>hF k (U! _ hk)) r1;obtain⟨q3,q4⟩:=xm hB hA h1 h2 xs ys bS g2 (λk hk=>hF k (A? _ hk)) r2;refine⟨⟨v,bS,e,q1,q3⟩,λk hk=>?_⟩;rcases G!.1 hk with hk|hk
  . exact q2 k hk
  . exact q4 k hk
 |[],_::_,vs,h,_,_|_::_,[],vs,h,_,_=>by simp only [sB] at h;exact(aQ h).elim
end
def vW(h:aJ)(s:List (Nat×Option Nat))(i:Nat)(b:AB):List Prop:=match cn s i with
 |some (some k)=>NU s (λ_=>true) (h k) b
 |some none=>match b with
  |.row _ _ l false=>[[]=l]
  |_=>[False]
 |none=>[False]
theorem La {h:aJ}{s:List (Nat×Option Nat)}:∀(bs:List AB) (i j:Nat) (b:AB),bs[j]? =some b->∀p∈vW h s (i+j) b,p∈KE h s i bs
 |b0::bs,i,0,b,hb,p,hp=>by
  simp at hb;subst hb;simp only [KE,G!];exact .inl hp
 |b0::bs,i,j+1,b,hb,p,hp=>by
  simp [KE,G!];refine .inr (La bs (i+1) j b (by simpa using hb) p ?_);rw [show i+1+j=i+(j+1) by omega];exact hp
theorem aq.init {G:Nat->Option GD}{args:List Value}{aX:List AV}{n:Nat}(hA:∀b,A b->b<w.heap.size)(hG:∀i d,G i=some d->na w A i d)(hr:ae w A β args aX)(hn:aX.length<=n):
  aq ⟨w,A,λ_=>False,G,β⟩ A β (St.init G n aX) {tmps:=args.toArray++Array.replicate (n-args.toArray.size) undef,defers:=[]} w:=by
 have hlen:=cT aX args hr
 have qM:∀(as_:List AV) (vs:List Value) (i:Nat),ae w A β vs as_->aa w A β (vs.getD i undef) (as_.getD i .undef):=by
  intro as_;induction as_ with
  |nil=>grind[ae,aa]
  |cons x as_ ih=>
   intro vs i h;obtain⟨v,bS,rfl,h1,h2⟩:=h;cases i with
   |zero=>grind
   |succ i=>simp_all
 refine⟨rfl,?_,λi=>?_,λk ab h=>(by cases h),λk k' b h=>(by cases h),hA,⟨rfl,rfl,rfl,S! _,λb _ _=>rfl⟩,λb _ h=>.inl h,λb h=>h,λk b h=>(by cases h),λi d h=>h,hG,λk _=>rfl⟩
 . grind[St.init]
 . show aa w A β _ (aX.getD i .undef)
   have e:(args.toArray++Array.replicate (n-args.toArray.size) undef).getD i undef=args.getD i undef:=by
    rw [Array.getD_eq_getD_getElem?];grind
   grind
def Lb(hT:bx T P){fn:Func}{w0:World}{A0:Nat->Prop}{G:Nat->Option GD}{DW:Nat->Value}(hB:aq ⟨w0,A0,λ_=>False,G,DW⟩ A β st a w){want:AV}{bs:List AB}(h:OM T st fn.results.toList want bs):
  ∃v,(results fn a.tmps).run P w= .ok v w/\∃A' aw,jX w0 A0 w v want bs A' aw:=by
 unfold OM at h;split at h
 . grind
 . rename_i as_ has;cases hq:(jK (dS (rJ st.h want (gb as_) bs))&&((zi st.h (rJ st.h want (gb as_) bs) want (gb as_)).2.all λk=>!au (dS (rJ st.h want (gb as_) bs)) k)&&gJ bs.length bs) with
   |false=>grind
   |true=>
    rw [hq] at h;simp only [I!] at h;simp only [B!,X!] at hq;obtain⟨⟨q1,q2⟩,q3⟩:=hq;obtain⟨c1,c2⟩:=kK (vT _ h);generalize hs:rJ st.h want (gb as_) bs=s at *;obtain⟨vs,p1,p2⟩:=rM hT hB fn.results.toList as_ has
    have hv:∃v,(results fn a.tmps).run P w= .ok v w/\aa w A β v (gb as_):=by
     have hl:=cT as_ vs p2;refine⟨if h:vs.toArray.size=1 then vs.toArray[0] else .tuple vs.toArray,?_,?_⟩
     . grind[H6,Array.mapM_eq_mapM_toList,Sem.run_bind,map_eq_pure_bind,Result.andThen_ok,Sem.run_pure]
     . match as_,vs,hl,p2 with
       |[x],[v],_,p2=>
         grind[ae,List.cons.injEq,gb]
       |[],[],_,p2=>
         grind[gb,aa,ae]
       |x::y::l,v::u::m,_,p2=>
        have dU:¬(v::u::m).toArray.size=1:=by simp
        rw [dif_neg dU];simp only [gb,aa];grind
    obtain⟨v,hv1,I2⟩:=hv;let F:=(zi st.h s want (gb as_)).2
    let ej:Nat->Value:=λi=>match cn s i with
     |some (some k)=>β k
     |_=>ry
    obtain⟨r1,r2⟩:=H7 (A':=cc A β F) (aw:=ej) hB (λb hb=>.inl hb) (λi k hk=>by grind) (λi hk=>by grind) want (gb as_) v c1 (λk hk b hb=>.inr ⟨k,hk,hb⟩) I2;have hK:b7 w w A (cc A β F):=λb hb=>⟨.inl hb,rfl⟩
    have k8:∀i ab,bs[i]? =some ab->BR w (cc A β F) ej i ab/\(ej i=ry\/∃k,cn s i=some (some k)/\ej i=β k/\(st.h k).isSome):=by
     intro i ab hi;have hc:∀p∈vW st.h s i ab,p:=λp hp=>c2 p (La bs 0 i ab hi p (by rw [Nat.zero_add];exact hp));unfold vW at hc;have alo:Keyed (λ_=>true) s β ej:=⟨λK k h=>by simp only [ej,h],λK h=>by simp only [ej,h],λK _ h=>(by cases h),λK h=>(by cases h)⟩
     have TI:∀k c,cn s i=some (some k)->st.h k=some c->BR w A ej i ab->BR w (cc A β F) ej i ab:=by
      intro k c hk qY eu;have H9:ej i=β k:=by simp only [ej,hk]
      have tG:∀b,ag (ej i)=some b->¬A b->¬cc A β F b:=by
       rintro b hb kD (Jb|⟨j,hj,yW⟩)
       . exact kD Jb
       . rw [H9] at hb;have :j=k:=hB.apart j k b (r2 j hj) (by simp [qY]) yW hb;subst this;have Gj:=q2 j hj;rw [J?] at Gj;exact ic.1 Gj (jn s i j hk)
      rcases rH bs i ab q3 hi with⟨e,row,l,rfl⟩|⟨e,j,n,m,sz,rfl,_⟩
      . obtain⟨xs,x1,x2,x3⟩:=eu;refine⟨xs,x1,bm (λc x hx=>bw hK row c x hx) l xs x2,λb hb=>?_⟩;have:=x3 b hb;exact tG b hb this
      . obtain⟨xs,x1,x2,x3⟩:=eu;refine⟨xs,x1,λb hb=>tG b hb (x2 b hb),λj' fk i' e7=>?_⟩;obtain⟨v,e1,e2⟩:=x3 j' fk i' e7;exact⟨v,e1,yH rfl e2⟩
     split at hc
     . rename_i k hk;obtain⟨c,qY⟩:=vV hc;rw [qY] at hc;have H9:ej i=β k:=by simp only [ej,hk]
       have eu:=xk (aw:=ej) alo H9 hc (hB.blocks k c qY);exact⟨TI k c hk qY eu,.inr ⟨k,hk,H9,by simp [qY]⟩⟩
     . rename_i hk;have H9:ej i=ry:=by simp only [ej,hk]
       split at hc
       . exact⟨Rq H9 (aQ hc),.inl H9⟩
       . exact(aQ hc).elim
     . exact(aQ hc).elim
    have eV:∀i ab b,bs[i]? =some ab->ag (ej i)=some b->∃k,cn s i=some (some k)/\ag (β k)=some b/\(st.h k).isSome:=by
     intro i ab b hi hb;rcases(k8 i ab hi).2 with hn|⟨k,h1,h2,h3⟩
     . rw [hn] at hb;simp [ry,ag] at hb
     . exact⟨k,h1,by rw [<-h2];exact hb,h3⟩
    refine⟨v,hv1,cc A β F,ej,⟨hB.frame.os,hB.frame.tape,hB.frame.output,hB.frame.size,λb hb=>hB.frame.block b hb (λh=>h),λb hb=>.inl (hB.base b hb),λb hb J2=>?_,λb hb=>?_,r1,λi ab hi=>⟨(k8 i ab hi).1,λb hb=>?_⟩,λi j b hi hj hb ek=>?_⟩⟩
    . rcases J2 with J2|⟨j,hj,yW⟩
      . rcases hB.gH b hb J2 with h|h
        . exact h
        . exact h.elim
      . rcases hB.lK j b (r2 j hj) yW with h|h
        . exact absurd hb (Nat.not_lt.2 h)
        . exact h.elim
    . rcases hb with hb|⟨j,hj,yW⟩
      . exact hB.bound b hb
      . exact l4 hB (r2 j hj) yW
    . obtain⟨k,_,g2,g3⟩:=eV i ab b hi hb;rcases hB.lK k b g3 g2 with h|h
      . exact h
      . exact h.elim
    . obtain⟨x,hx⟩:∃x,bs[i]? =some x:=⟨_,D! hi⟩;obtain⟨y,hy⟩:∃y,bs[j]? =some y:=⟨_,D! hj⟩;obtain⟨k,g1,g2,g3⟩:=eV i x b hx hb;obtain⟨k',g1',WL,g3'⟩:=eV j y b hy ek;have :k=k':=hB.apart k k' b g3 g3' g2 WL;subst this;exact xl s q1 i j k g1 g1'
theorem Rt(hE:aU P E)(hm:P.follows .mixedOrders=true){f:FuncId}{fn:Func}{c:Code}{s:Qz}(L:List AV->Nat->Option bq)(hf:P.funcs[f]? =some fn)(hb:fn.body=some c)
  (h:∀aX pre res bs,s aX=some (pre,res,bs)->pre->KG E (L aX) c fn.ntmps fn.results.toList aX res bs):Valid P E.fQ f s:=by
 intro w A β args aX pre res bs hA hG bj hs hp;have Gq:=h aX pre res bs hs hp;unfold KG at Gq;cases hn:Nat.ble aX.length fn.ntmps with
 |false=>grind
 |true=>
  rw [hn] at Gq;refine calls_of_wp hf hb (cV (C:=⟨w,A,λ_=>False,E.fQ,β⟩) ⟨hE,rfl⟩ hm c _ _ _ w _ Gq ⟨A,β,aq.init hA hG bj (M! hn)⟩ ?_);intro e aS a' w' hk _ hR;obtain⟨A',aw,hB⟩:=hR
  have key:OM E.T aS fn.results.toList res bs->bodyPost P fn (λe w'=>∃v,e= .returned v/\∃A' aw,jX w A w' v res bs A' aw) .ret a' w':=by
   intro hk;obtain⟨v,h1,A2,ej,h2⟩:=Lb hE.eA hB hk;exact⟨hB.defers,v,h1,v,rfl,A2,ej,h2⟩
  cases e with
  |norm=>exact key hk
  |ret=>exact key hk
  |exit i=>exact hk.elim
end
end Go.Vg

end
section
namespace Go.Vg
open Go
variable [HP]
mutual
def Lc:Ty->Bool
 |.int k=>!(decide (k= .u8))
 |.bool|.str=>true
 |.slice row=>dJ row
def dJ:List Ty->Bool
 |[]=>true
 |t::ts=>Lc t&&dJ ts
end
def Ty.W6:Ty->Bool
 |.slice row=>dJ row
 |_=>true
mutual
def AV.quiet:AV->Bool
 |.sl row _|.full row _|.cN row _ _|.pB row _=>dJ row
 |.agg cs=>rN cs
 |.bn vs=>rN vs
 |.fn _ first aR=>rN first&&rN aR
 |.gp _ cs=>rN cs
 |_=>true
def rN:List AV->Bool
 |[]=>true
 |a::as_=>a.quiet&&rN as_
end
def AB.quiet:AB->Bool
 |.cells cs=>rN cs
 |.row _ r _ _=>r.all Ty.W6
 |_=>false
structure OX (w w':World):Prop where
 cell:∀b o v,w.cell? ⟨b,o,none⟩=some v->(∀m,v≠ .int .u8 m)->w'.cell? ⟨b,o,none⟩=some v
 map:∀(b:Nat) es ck,w.heap[b]? =some (.map es ck)->w'.heap[b]? =some (.map es ck)
section
variable {w w':World} {A:Nat->Prop} {β:Nat->Value}
def Ld:∀ {ts:List Ty} {vs:List Value} {x:Row ts},br w A ts vs x->dJ ts=true->∀v∈vs,∀m,v≠ .int .u8 m
 |[],vs,x,h,_,v,hv,m=>by
   grind[br]
 |t::ts,vs,x,h,hq,v,hv,m=>by
  obtain⟨u,us,rfl,h1,h2⟩:=h;simp [dJ,B!] at hq;rcases N!.1 hv with rfl|hv
  . intro e;subst e;cases t with
    |int k=>
     obtain⟨h1,_⟩:=h1;grind[Value.int.injEq,Lc,absurd]
    |bool=>cases h1
    |str=>cases h1.1
    |slice row=>
     obtain⟨a,cap,cs,h1,_⟩:=h1;grind
  . exact Ld h2 hq.2 v hv m
def EJ {ts:List Ty}:∀ {l:List (Row ts)} {cs:List Value},dc (br w A ts) cs l->dJ ts=true->∀v∈cs,∀m,v≠ .int .u8 m
 |[],cs,h,_,v,hv,m=>by
   grind[dc]
 |x::l,cs,⟨c1,c2,hc,h1,h2⟩,hq,v,hv,m=>by
  subst hc;rcases G!.1 hv with hv|hv
  . exact Ld h1 hq v hv m
  . exact EJ h2 hq v hv m
def tZ(hp:OX w w'){b o:Nat}{cs:List Value}(h:w.rangeAt b o cs)(hn:∀v∈cs,∀m,v≠ .int .u8 m):w'.rangeAt b o cs:=λj v hj=>
 hp.cell b (o+j) v (h j v hj) (hn v (K? hj))
def EK:∀ {ts:List Ty},dJ ts=true->ts.all Ty.W6=true
 |[],_=>rfl
 |t::ts,h=>by
  simp [dJ,B!] at h;simp only [List.all_cons,B!];refine⟨?_,EK h.2⟩;cases t with
  |slice row=>simpa only [Ty.W6,Lc] using h.1
  |_=>rfl
mutual
theorem Le(hp:OX w w'):∀(t:Ty) (v:Value) (x:D t),Rd w A t v x->t.W6=true->Rd w' A t v x
 |.int _,_,_,hr,_|.bool,_,_,hr,_|.str,_,_,hr,_=>by simpa only [Rd] using hr
 |.slice row,v,l,hr,hq=>by
   simp only [Rd] at hr |-;have hq:dJ row=true:=hq;obtain⟨a,cap,cs,h1,h2,h3,h4,h5⟩:=hr;refine⟨a,cap,cs,h1,h2,h3,bm (λc x hx=>qa hp row c x hx (EK hq)) l cs h4,λdU=>?_⟩;obtain⟨b,o,ha,hA,hra⟩:=h5 dU;exact⟨b,o,ha,hA,tZ hp hra (EJ h4 hq)⟩
theorem qa(hp:OX w w'):∀(ts:List Ty) (vs:List Value) (x:Row ts),br w A ts vs x->ts.all Ty.W6=true->br w' A ts vs x
 |[],vs,x,hr,_=>by simpa only [br] using hr
 |t::ts,vs,x,hr,hq=>by
  obtain⟨v,bS,h1,h2,h3⟩:=hr;simp only [List.all_cons,B!] at hq;exact⟨v,bS,h1,Le hp t v _ h2 hq.1,qa hp ts bS _ h3 hq.2⟩
end
mutual
theorem Ia(hp:OX w w'):∀(x:AV) (v:Value),aa w A β v x->x.quiet=true->aa w' A β v x
 |.cr,_,_,_=>trivial
 |.undef,_,h,_|.int _ _,_,h,_|.bool _,_,h,_|.tt,_,h,_|.ff,_,h,_|.str _,_,h,_|.nil,_,h,_|.jQ,_,h,_|.k7,_,h,_|.own _,_,h,_|.pre _ _,_,h,_|.view _ _ _ _,_,h,_|.ref _ _,_,h,_|.elem _ _ _ _,_,h,_|.oC _ _,_,h,_=>h
 |.sl row l,v,h,hq=>Le hp (.slice row) v l h (by simpa only [Ty.W6,AV.quiet] using hq)
 |.full row l,v,h,hq=>⟨Le hp (.slice row) v l h.1 (by simpa only [Ty.W6,AV.quiet] using hq),h.2⟩
 |.cN row x j,v,⟨b,o,cs,h1,h2,h3,h4⟩,hq=>⟨b,o,cs,h1,h2,tZ hp h3 (Ld h4 (by simpa only [AV.quiet] using hq)),qa hp row cs x h4 (EK (by simpa only [AV.quiet] using hq))⟩
 |.pB row l,v,⟨b,o,cs,h1,h2,h3,h4⟩,hq=>⟨b,o,cs,h1,h2,tZ hp h3 (EJ h4 (by simpa only [AV.quiet] using hq)),bm (λc x hx=>qa hp row c x hx (EK (by simpa only [AV.quiet] using hq))) l cs h4⟩
 |.agg cs,v,⟨arr,h1,h2⟩,hq|.bn cs,v,⟨arr,h1,h2⟩,hq=>⟨arr,h1,kL hp cs _ h2 (by simpa only [AV.quiet] using hq)⟩
 |.fn f first aR,v,⟨a1,a2,h1,h2,h3⟩,hq=>by
   simp only [AV.quiet,B!] at hq;exact⟨a1,a2,h1,kL hp first _ h2 hq.1,kL hp aR _ h3 hq.2⟩
 |.gp ks cs,v,h,hq=>by
   simp only [aa] at h |-;obtain⟨b,es,ck,h1,h2,⟨wN,h3,h4⟩,h5,h6⟩:=h;exact⟨b,es,ck,h1,h2,⟨wN,hp.map b wN ck h3,h4⟩,h5,kL hp cs _ h6 (by simpa only [AV.quiet] using hq)⟩
theorem kL(hp:OX w w'):∀(as_:List AV) (vs:List Value),ae w A β vs as_->rN as_=true->ae w' A β vs as_
 |[],_,h,_=>h
 |a::as_,vs,⟨v,bS,h1,h2,h3⟩,hq=>by
  simp only [rN,B!] at hq;exact⟨v,bS,h1,Ia hp a v h2 hq.1,kL hp as_ bS h3 hq.2⟩
end
end
def St.OY(st:St)(k:Nat)(b:AB):St:={st with
 t:=λi=>bif (st.t i).quiet then st.t i else .cr
 h:=λj=>bif Nat.beq j k then some b else match st.h j with
  |some ab=>bif ab.quiet then some ab else none
  |none=>none}
section
variable {P:Program} {C:Ctx} {A:Nat->Prop} {β:Nat->Value} {st:St} {a:Act} {w:World} {T:bY}
def xn {k k':Nat}{b:AB}(hk:(st.h k).isSome)(h:((st.OY k b).h k').isSome):(st.h k').isSome:=by
 simp [St.OY] at h;cases hb:Nat.beq k' k with
 |true=>simp_all
 |false=>
  grind
def Uw(hT:bx T P)(hB:aq C A β st a w)(hG:∀i d,C.G i=some d->dJ d.row=true){t:TypeId}{k i e:Nat}{x:AV}{vp vx:Value}(hp:aa w A β vp (.elem k 1 i 0))(hx:aa w A β vx x)
  {l:List (Row [.int .u8])} (hk:st.h k=some (.row e [.int .u8] l true)) (hs:gT T t x.cells.length=true) (hi:i<l.length) {y:Row [.int .u8]} (hy:nm [.int .u8] l[i] 0 x.cells=some y) (h1:x.cells.length=1):
  ∃w',(Instr.storeAt t vp vx).run P w= .ok () w'/\aq C A β (st.OY k (.row e [.int .u8] (l.set i y) true)) a w':=by
 simp only [aa] at hp;obtain⟨b,m,cap,bt,rfl⟩:=hp;rcases fJ hB hk with⟨_,hl⟩|⟨b',jg,cur,hv,hg,hle,yo,dm,hL,hA⟩
 . grind
 rw [bt] at hv;obtain⟨rfl,rfl,rfl⟩:=hv;have hA:A b:=hA;have hb:ag (β k)=some b:=by rw [bt];rfl
 obtain⟨ii,gV,oK⟩:=nV hT hs;have sn:l.length* [Ty.int .u8].length<=cur.size:=by grind
 obtain⟨c1,c,c2,e1,e2,e3,e4,e5⟩:=qH l _ i hi hL;have Ed:=wX hx e3 hy;have nb:vx.cells.size=ii.size:=by omega
 have uK:vx.cells.toList.length=1:=by grind
 have hyy:∀c,br w A [.int .u8] c l[i]->br w A [.int .u8] (c.take 0++vx.cells.toList++c.drop (0+vx.cells.toList.length)) y/\(vx.cells.toList≠ []->0+vx.cells.toList.length<=c.length):=
  λc hc=>let h:=wX hx hc hy;⟨h.2.1,h.2.2.2.1⟩
 rcases Eb hi hL hyy sn with⟨g1,g2,g3⟩|aAC;case inr=>grind
 refine⟨_,kF gV nb Ed.2.2.1 hg w!,?_⟩;generalize hnw:(cur.toList.take (i* [Ty.int .u8].length+0)++vx.cells.toList++cur.toList.drop (i* [Ty.int .u8].length+0+vx.cells.toList.length)).toArray=new at g1 g2;have dV:(w.setRow b new).heap[b]? =some (.cells new e (0,0)):=setRow_heap w b cur new e _ hg;have jJ:∀b',b'≠b->(w.setRow b new).heap[b']? =w.heap[b']? :=λb' h=>setRow_other w b b' new (λh'=>h h')
 have hP:OX w (w.setRow b new):=by
  refine⟨λb' o v hc hn=>?_,λb' es ck hm=>?_⟩
  . by_cases IZ:b'=b
    . subst IZ;have q1:w.cell? ⟨b',o,none⟩=cur[o]? :=by simp [World.cell?,hg]
      have q2:(w.setRow b' new).cell? ⟨b',o,none⟩=new[o]? :=by simp [World.cell?,dV]
      rw [q1] at hc;rw [q2];by_cases ho:o=i
      . exfalso;subst ho;obtain⟨u,us,rfl,hu,hz⟩:=e3;have hu:=hu.1
        have :(cur.toList.take (l.length* [Ty.int .u8].length))[o]? =some u:=by
         rw [e1];simp at e2;simp [<-e2]
        rw [v?] at this;split at this
        . rw [U?,hc] at this;simp only [A!] at this;exact hn _ (this.trans hu)
        . cases this
      . rw [<-hnw];have :cur.toList[o]? =some v:=by rw [U?];exact hc
        rw [List.getElem?_toArray,<-this];simp only [G?,List.length_nil,q?,Nat.mul_one,Nat.add_zero]
        obtain⟨u,hu⟩:∃u,vx.cells.toList=[u]:=by
         match h:vx.cells.toList,uK with
         |[u],_=>exact⟨u,rfl⟩
        have hil:i<cur.toList.length:=by
         rw [uK] at g3;simp at g3;simp;omega
        have:=m? (l:=cur.toList) (i:=i) (a:=u);rw [R! hil] at this;rw [hu,Y!,List.singleton_append,W!,<-this,List.getElem?_set_ne (Ne.symm ho)]
    grind[World.cell?_of_block]
  grind
 refine⟨hB.defers,hB.size,λj=>?_,λj ab hj=>?_,λp q b' hp hq=>hB.apart p q b' (xn (by simp [hk]) hp) (xn (by simp [hk]) hq),λb' h=>?_,⟨hB.frame.os,hB.frame.tape,hB.frame.output,?_,λb' h1 h2=>?_⟩,hB.gH,hB.base,λp b' hp=>hB.lK p b' (xn (by simp [hk]) hp),hB.nR,λp d hd=>?_,hB.held⟩
 . simp only [St.OY];cases hq:(st.t j).quiet with
   |true=>exact Ia hP _ _ (hB.tmps j) hq
   |false=>exact Tl _
 . simp only [St.OY] at hj;cases CA:Nat.beq j k with
   |true=>
    have:=C! CA;subst this;rw [CA,I!,A!] at hj;subst hj;refine⟨_,⟨?_,.inr ⟨b,cap,new,by rw [bt];simp,w!,dV,by simpa using hle,yo,g1.trans dm,rfl⟩⟩,?_,λb' ek=>?_⟩
    . rw [T?];refine Nat.min_eq_left ?_;rw [n?];exact h? sn (Nat.le_of_eq g1.symm)
    . simp only [n?];exact bm (λc x hx=>qa hP [.int .u8] c x hx rfl) _ _ g2
    . rw [hb] at ek;simp only [A!] at ek;subst ek;exact hA
   |false=>
    rw [CA,L!] at hj;have dU:j≠k:=λh=>by subst h;rw [ct] at CA;cases CA
    cases hh:st.h j with
    |none=>rw [hh] at hj;cases hj
    |some Bp=>
     rw [hh] at hj;cases hq:Bp.quiet with
     |false=>simp only [hq,L!] at hj;cases hj
     |true=>
      simp only [hq,I!,A!] at hj;subst hj;have eu:=hB.blocks j _ hh;have tF:∀b',ag (β j)=some b'->b'≠b:=λb' h h'=>dU (hB.apart j k b' (by simp [hh]) (by simp [hk]) h (h'▸hb));cases Bp with
      |cells cs=>
       obtain⟨b',arr,e',k1,k2,k3,k4,k5⟩:=eu;exact⟨b',arr,e',k1,(jJ b' (tF b' (by rw [k1];rfl))).trans k2,k3,kL hP cs _ k4 hq,k5⟩
      |row e' r l' fr=>
       obtain⟨xs,k1,k2,k3⟩:=eu;exact⟨xs,cI k1 (λb' h=>jJ b' (tF b' h)),bm (λc x hx=>qa hP r c x hx hq) _ _ k2,k3⟩
      |_=>cases hq
 . rw [(uI b new).2.2.2];exact hB.bound b' h
 . rw [(uI b new).2.2.2];exact hB.frame.size
 . rw [jJ b' λh=>?_]
   . exact hB.frame.block b' h1 h2
   . subst h;rcases hB.lK k b' (by simp [hk]) hb with h|h
     . exact absurd h1 (Nat.not_lt.2 h)
     . exact h2 h
 . obtain⟨k1,cs,k2,k3⟩:=hB.laid p d hd;have hq:=hG p d hd;exact⟨k1,cs,tZ hP k2 (EJ k3 hq),bm (λc x hx=>qa hP _ c x hx (EK hq)) _ _ k3⟩
end
end Go.Vg

end
section
namespace Go.Vg
open Go
variable [HP]
def Ux(T:bY)(st:St)(t:TypeId)(k sz i j e:Nat):(row:List Ty)->List (Row row)->AV->Option (List Prop×((St->Prop)->Prop))
 |[.int .u8],l,v=>bif Nat.beq sz 1&&Nat.beq j 0&&Nat.beq v.cells.length 1&&gT T t v.cells.length then match nm [.int .u8] (l.getD i (Row.zero [.int .u8])) 0 v.cells with
     |some y=>some ([i<l.length],λK=>∀l',l'=l.set i y->K (st.OY k (.row e [.int .u8] l' true)))
     |none=>none
   else none
 |_,_,_=>none
def Ru(E:Env)(st:St)(o:Oper):Option (List Prop×((St->Prop)->Prop)):=match o.op,o.dst,o.guard with
 |.store t x y,none,none=>match ev st x with
   |.elem k sz i j=>match st.h k with
     |some (.row e row l true)=>Ux E.T st t k sz i j e row l (ev st y)
     |_=>none
   |_=>none
 |_,_,_=>none
def Rv(E:Env)(K:Ex->St->Prop)(st:St)(ops:List Oper)(d:Bool):Prop:=match ops.getLast?,d with
 |some o,false=>match pE E false ops 0 [] ops.dropLast st with
  |some (c,m)=>match Ru E m o with
   |some (c',f)=>zh c (zh c' (f (K .norm)))
   |none=>False
  |none=>False
 |_,_=>False
def sJ(E:Env)(L:Nat->Option bq):Code->(Ex->St->Prop)->St->Prop
 |.region id ops d,K,st=>match è E st ops.toList with
   |some _=>pw E L (.region id ops d) K st
   |none=>match BV E d ops.toList st with
    |some (c,aS)=>zh c (K .norm aS)
    |none=>Rv E K st ops.toList d
 |.seq x y,K,st=>sJ E L x (afl K (sJ E L y K)) st
 |.cond c x y,K,st=>match æ E c x y st with
   |some (cs,aS)=>zh cs (K .norm aS)
   |none=>match ev st c with
    |.tt=>sJ E L x K st
    |.ff=>sJ E L y K st
    |.bool b=>(b=true->sJ E L x K st)/\(b=false->sJ E L y K st)
    |.oC _ l=>(l=[]->sJ E L x K st)/\sJ E L y K st
    |_=>False
 |.block id (.loop b),K,st=>pw E L (.block id (.loop b)) K st
 |.block id b,K,st=>sJ E L b (HS id K) st
 |.exit i,K,st=>K (.exit i) st
 |.ret,K,st=>K .ret st
 |.skip,K,st=>K .norm st
 |.scope c,K,st=>sJ E L c K st
 |c,K,st=>pw E L c K st
def Rw(E:Env)(L:Nat->Option bq)(c:Code)(n:Nat)(rs:List ResultVar)(aX:List AV)(want:AV)(bs:List AB):Prop:=
 bif Nat.ble aX.length n then sJ E L c (afn E.T rs want bs) (St.init E.fQ n aX) else False
section
variable {P:Program} {C:Ctx} {E:Env} {A:Nat->Prop} {β:Nat->Value} {st:St} {a:Act} {w:World}
def EL(hE:cQ P C E){ops:Array Oper}{Q:Exit->Act->World->Prop}{rest:List Nat}:∀(es:List Ev) (s s':St) (a:Act) (w:World),sC E ops.toList es s s'->Rel C s a w->
  (∀a' w',Rel C s' a' w'->wpOps P ops Q rest a' w')->wpOps P ops Q (es.map (·.i)++rest) a w
 |[],s,s',a,w,hx,hR,hQ=>by
   obtain⟨A,β,hB⟩:=hR;exact hQ _ _ ⟨A,β,hB.seq hx⟩
 |e::es,s,s',a,w,hx,hR,hQ=>by
  obtain⟨s1,h1,h2⟩:=hx;exact oQ hE h1 hR λa' w' eQ=>EL hE es s1 s' a' w' h2 eQ hQ
def zz {ops:List Oper}:∀(rest:List Oper) (i:Nat) (tr:List Ev) (st:St) (cs:List Prop) (m:St),pE E false ops i tr rest st=some (cs,m)->(∀p∈cs,p)->
  (∀k o,rest[k]? =some o->ops[i+k]? =some o)->
  ∃es sl,sC E ops es st sl/\es.map (·.i)=List.range' i rest.length/\∀(C:Ctx) A β a w,aq C A β sl a w->aq C A β m a w
 |[],i,tr,st,cs,m,h,dm,hl=>by
   simp [pE,Option.some.injEq,Prod.mk.injEq] at h;exact⟨[],st,gM.refl _,rfl,λ_ _ _ _ _ hB=>by grind⟩
 |o::rest,i,tr,st,cs,m,h,dm,hl=>by
  have h0:ops[i]? =some o:=by simpa using hl 0 o rfl
  have jU:∀k o',rest[k]? =some o'->ops[i+1+k]? =some o':=λk o' hk=>by have:=hl (k+1) o' x!;grind
  simp [pE] at h;split at h
  . cases h
  . rename_i hg;cases hq:(eJ st o&&lN st.kb false ops tr ⟨i,o,none,iX E st o,kG tr o.after.toList⟩) with
    |false=>grind
    |true=>
     simp [hq,cond_true] at h;rw [Bool.and_eq_true] at hq;obtain⟨es,sl,h1,h2,h4⟩:=zz rest _ _ _ _ _ h dm jU;refine⟨⟨i,o,none,iX E st o,kG tr o.after.toList⟩::es,sl,⟨st.put o.dst .skip,⟨h0,hq.1,rfl,hg,Es.symm⟩,h1⟩,?_,h4⟩;grind[List.length_cons,List.range'_succ]
  . rename_i hg;split at h
    . cases h
    . rename_i out l7;cases hq:(eJ st o&&(iy st.h out.new&&lN st.kb false ops tr ⟨i,o,some out,iX E st o,kG tr o.after.toList⟩)) with
      |false=>grind
      |true=>
       simp [hq,I!] at h;rw [B!,B!] at hq;obtain⟨c',h',rfl⟩:=ny h;obtain⟨s0,c,s,e1,e2,e3,e4⟩:=OQ h' (λp hp=>dm p (A? _ hp)) (λs0 c s hn=>l9 rest _ _ _ _ _ hn);obtain⟨es,sl,h1,h2,h4⟩:=zz rest _ _ _ _ _ e2 e3 jU;refine⟨⟨i,o,some out,iX E st o,kG tr o.after.toList⟩::es,sl,⟨s0,⟨h0,hq.1,rfl,⟨hg,l7,hq.2.1,λp hp=>dm p (U! _ hp)⟩,e1⟩,h1⟩,?_,λC A β a w hB=>e4 _ _ _ _ _ (h4 _ _ _ _ _ hB)⟩;rw [M?,h2,G?,List.range'_succ]
def N0(hE:cQ P C E)(hG:∀i d,C.G i=some d->dJ d.row=true){o:Oper}{cs:List Prop}{F:(St->Prop)->Prop}{κ:St->Prop}(h:Ru E st o=some (cs,F))(hc:∀p∈cs,p)(hF:F κ)(hB:aq C A β st a w)
  {K:Act->World->Prop} {Q:Exit->Act->World->Prop} (hK:∀m w',κ m->aq C A β m a w'->K a w'):o.guard=none/\o.wp P a w K Q:=by
 obtain⟨dst,op,ty,pos,after,guard⟩:=o;unfold Ru at h;split at h
 . rename_i t x y h1 h2 h3;subst h1 h2 h3;refine⟨rfl,?_⟩;split at h
   . rename_i k sz i j hx;split at h
     . rename_i e row l hk;unfold Ux at h;split at h
       . cases hq:(Nat.beq sz 1&&Nat.beq j 0&&Nat.beq (ev st y).cells.length 1&&gT E.T t (ev st y).cells.length) with
         |false=>grind
         |true=>
          rw [hq,I!] at h;simp only [B!] at hq;have q1:=C! hq.1.1.1;have q2:=C! hq.1.1.2;have q3:=C! hq.1.2;subst q1 q2;split at h
          . rename_i z hz;obtain⟨rfl,rfl⟩:=h;have hi:=hc _ (H! ..);rw [getD_eq _ _ _ hi] at hz;have hvx:=az hB x;rw [hx] at hvx;obtain⟨w',g1,g2⟩:=Uw hE.eA hB hG hvx (az hB y) hk hq.2 hi hz q3;exact mA (w':=w') (by simp [execOp,g1]) (hK _ w' (hF _ rfl) g2)
          grind
       grind
     grind
   grind
 grind
def N1(hE:cQ P C E)(hG:∀i d,C.G i=some d->dJ d.row=true){K:Ex->St->Prop}{id:Nat}{ops:Array Oper}{d:Bool}(h:Rv E K st ops.toList d)(hR:Rel C st a w){Q:Exit->Act->World->Prop}
  (hQ:∀aS a' w',K .norm aS->Rel C aS a' w'->Q .normal a' w'):(Code.region id ops d).wp P Q a w:=by
 unfold Rv at h;split at h
 . rename_i o Q6;split at h
   . rename_i c m fg;split at h
     . rename_i c' F hp;obtain⟨k1,h⟩:=nZ h;obtain⟨k2,h⟩:=nZ h
       obtain⟨es,sl,h1,h2,h4⟩:=zz (ops:=ops.toList) ops.toList.dropLast 0 [] st _ m fg k1 (λk o' hk=>by
        grind)
       refine wp_region ?_
       have hlen:ops.size=ops.toList.dropLast.length+1:=by
        grind
       have WY:ops[ops.toList.dropLast.length]? =some o:=by
        grind
       have:=EL (Q:=Q) hE (rest:=[ops.toList.dropLast.length]) es st sl a w h1 hR λa' w' eQ=>by
        obtain⟨A',aw,pY⟩:=eQ;have pY:=h4 _ _ _ _ _ pY;obtain⟨g1,g2⟩:=N0 (Q:=Q) (K:=wpOps P ops Q []) hE hG hp k2 h pY λm' NC hk aAE=>hQ _ _ _ hk ⟨A',aw,aAE⟩;exact zk WY g1 g2
       grind[List.range_succ,List.range_eq_range']
     grind
   grind
 grind
def iD(hE:cQ P C E)(hG:∀i d,C.G i=some d->dJ d.row=true)(hm:P.follows .mixedOrders=true){L:Nat->Option bq}:∀(c:Code) (K:Ex->St->Prop) (st:St) (a:Act) (w:World) (Q:Exit->Act->World->Prop),
  sJ E L c K st->Rel C st a w->(∀e aS a' w',K e aS->Rel C aS a' w'->Q (OW e) a' w')->c.wp P Q a w
 |.skip,K,st,a,w,Q,h,hR,hQ=>wp_skip (hQ .norm _ _ _ h hR)
 |.region id ops d,K,st,a,w,Q,h,hR,hQ=>by
   simp [sJ] at h;split at h
   . grind[cV]
   . split at h
     . rename_i c aS hr;obtain⟨h1,h2⟩:=nZ h;exact uU hE hm hr h1 hR λa' w' eQ=>hQ .norm _ _ _ h2 eQ
     . exact N1 hE hG h hR λaS a' w' hk eQ=>hQ .norm _ _ _ hk eQ
 |.seq x y,K,st,a,w,Q,h,hR,hQ=>by
   refine wp_seq (iD hE hG hm x _ st a w _ h hR λe aS a' w' hk eQ=>?_);cases e with
   |norm=>exact iD hE hG hm y K aS a' w' Q hk eQ hQ
   |exit i=>exact hQ (.exit i) _ _ _ hk eQ
   |ret=>exact hQ .ret _ _ _ hk eQ
 |.cond c x y,K,st,a,w,Q,h,hR,hQ=>by
   simp [sJ] at h;split at h
   . rename_i cs m hr;obtain⟨h1,h2⟩:=nZ h;unfold æ at hr;cases hs:(!Rb E c&&(jY x&&jY y)) with
     |false=>grind
     |true=>
      rw [hs] at hr;exact jm hE hm _ st _ _ a w Q hr h1 hR λa' w' eQ=>hQ .norm _ _ _ h2 eQ
   . obtain⟨A,β,hB⟩:=hR;split at h
     . rename_i hv;exact wp_cond_true (W3 hB hv) (iD hE hG hm x K st a w Q h ⟨A,β,hB⟩ hQ)
     . rename_i hv;exact wp_cond_false (W4 hB hv) (iD hE hG hm y K st a w Q h ⟨A,β,hB⟩ hQ)
     . rename_i b hv;exact wp_cond_split (K5 hB hv) (λhb=>iD hE hG hm x K st a w Q (h.1 hb) ⟨A,β,hB⟩ hQ) (λhb=>iD hE hG hm y K st a w Q (h.2 hb) ⟨A,β,hB⟩ hQ)
     . rename_i row l hv;obtain⟨b,hb,hl⟩:=Uq hB hv;exact wp_cond_split hb (λht=>iD hE hG hm x K st a w Q (h.1 (hl ht)) ⟨A,β,hB⟩ hQ) (λ_=>iD hE hG hm y K st a w Q h.2 ⟨A,β,hB⟩ hQ)
     grind
 |.block id b,K,st,a,w,Q,h,hR,hQ=>by
   have afH:sJ E L b (HS id K) st->(Code.block id b).wp P Q a w:=λh=>wp_block (iD hE hG hm b _ st a w _ h hR λe aS a' w' hk eQ=>by
    cases e with
    |norm=>exact hQ .norm _ _ _ hk eQ
    |ret=>exact hQ .ret _ _ _ hk eQ
    |exit j=>
     simp only [HS] at hk;by_cases hj:j=id
     . subst hj;simp at hk;simp [OW,Exit.inBlock,R?];exact hQ .norm _ _ _ hk eQ
     . simp [aG hj,L!] at hk;simp [OW,Exit.inBlock,Q! hj];exact hQ (.exit j) _ _ _ hk eQ)
   cases b with
   |loop b=>grind[cV,sJ]
   |_=>grind[sJ]
 |.exit i,K,st,a,w,Q,h,hR,hQ=>wp_exit (hQ (.exit i) _ _ _ h hR)
 |.ret,K,st,a,w,Q,h,hR,hQ=>wp_ret (hQ .ret _ _ _ h hR)
 |.loop b,K,st,a,w,Q,h,hR,hQ=>cV hE hm _ K st a w Q (by simpa only [sJ] using h) hR λe aS a' w' hk _ eQ=>hQ e aS a' w' hk eQ
 |.rangeFunc x y z u,K,st,a,w,Q,h,hR,hQ=>cV hE hm _ K st a w Q (by simpa only [sJ] using h) hR λe aS a' w' hk _ eQ=>hQ e aS a' w' hk eQ
 |.scope c,K,st,a,w,Q,h,hR,hQ=>by
   refine wp_scope_straight (iD hE hG hm c K st a w _ h hR λe aS a' w' hk eQ=>?_);have:=hQ e aS a' w' hk eQ;cases e<;>exact this
 |.label l,K,st,a,w,Q,h,hR,hQ|.goto l,K,st,a,w,Q,h,hR,hQ=>cV hE hm _ K st a w Q (by simpa only [sJ] using h) hR λe aS a' w' hk _ eQ=>hQ e aS a' w' hk eQ
 |.refuse s,K,st,a,w,Q,h,hR,hQ=>cV hE hm _ K st a w Q (by simpa only [sJ] using h) hR λe aS a' w' hk _ eQ=>hQ e aS a' w' hk eQ
termination_by c=>SizeOf.sizeOf c
theorem N2(hE:aU P E)(hG:∀i d,E.fQ i=some d->dJ d.row=true)(hm:P.follows .mixedOrders=true){f:FuncId}{fn:Func}{c:Code}{s:Qz}(L:List AV->Nat->Option bq)(hf:P.funcs[f]? =some fn)(hb:fn.body=some c)
  (h:∀aX pre res bs,s aX=some (pre,res,bs)->pre->Rw E (L aX) c fn.ntmps fn.results.toList aX res bs):Valid P E.fQ f s:=by
 intro w A β args aX pre res bs hA hG' bj hs hp;have Gq:=h aX pre res bs hs hp;unfold Rw at Gq;cases hn:Nat.ble aX.length fn.ntmps with
 |false=>grind
 |true=>
  rw [hn] at Gq;refine calls_of_wp hf hb (iD (C:=⟨w,A,λ_=>False,E.fQ,β⟩) ⟨hE,rfl⟩ hG hm c _ _ _ w _ Gq ⟨A,β,aq.init hA hG' bj (M! hn)⟩ ?_);intro e aS a' w' hk hR;obtain⟨A',aw,hB⟩:=hR
  have key:OM E.T aS fn.results.toList res bs->bodyPost P fn (λe w'=>∃v,e= .returned v/\∃A' aw,jX w A w' v res bs A' aw) .ret a' w':=by
   intro hk;obtain⟨v,h1,A2,ej,h2⟩:=Lb hE.eA hB hk;exact⟨hB.defers,v,h1,v,rfl,A2,ej,h2⟩
  cases e with
  |norm=>exact key hk
  |ret=>exact key hk
  |exit i=>exact hk.elim
end
end Go.Vg

end
section
namespace Go.Vg
open Go
variable [HP]
@[reducible] def me (α:Type):List α:=[]
mutual
def D.ok:(t:Ty)->D t->Prop
 |.int k,x=>lo k<=DI.toInt k x/\DI.toInt k x<=hi k
 |.bool,_=>True
 |.str,s=>s.length<=9223372036854775807
 |.slice row,l=>l.length<=9223372036854775807/\∀x,x∈l->Row.ok row x
def Row.ok:(ts:List Ty)->Row ts->Prop
 |[],_=>True
 |t::ts,x=>D.ok t (Row.hd x)/\Row.ok ts (Row.tl x)
end
mutual
def AV.facts:AV->Prop
 |.int k n=>lo k<=n/\n<=hi k
 |.str s=>s.length<=9223372036854775807
 |.sl row l|.full row l=>D.ok (.slice row) l
 |.agg cs|.bn cs=>AZ cs
 |_=>True
def AZ:List AV->Prop
 |[]=>True
 |a::as_=>a.facts/\AZ as_
end
section
variable {P:Program} {E:Env} {w:World} {A:Nat->Prop} {β:Nat->Value}
def Rx {α:Type}{R:List Value->α->Prop}{p:α->Prop}(h:∀c x,R c x->p x):∀(l:List α) (cs:List Value),dc R cs l->∀x,x∈l->p x
 |[],_,_,x,hx=>by grind
 |y::l,_,⟨c1,c2,hc,h1,h2⟩,x,hx=>by
  rcases N!.1 hx with rfl|hx
  . grind
  . exact Rx h l c2 h2 x hx
mutual
theorem W8:∀(t:Ty) (v:Value) (x:D t),Rd w A t v x->D.ok t x
 |.int k,v,x,h=>by simp only [Rd] at h;simp only [D.ok];exact h.2
 |.bool,v,x,h=>by simp only [D.ok]
 |.str,v,s,h=>by simp only [Rd] at h;simp only [D.ok];exact h.2
 |.slice row,v,l,h=>by
   simp only [Rd] at h;obtain⟨a,cap,cs,h1,h2,h3,h4,h5⟩:=h;simp only [D.ok];exact⟨h? h2 h3,Rx (λc x hx=>EM row c x hx) l cs h4⟩
theorem EM:∀(ts:List Ty) (vs:List Value) (x:Row ts),br w A ts vs x->Row.ok ts x
 |[],vs,x,h=>by simp only [Row.ok]
 |t::ts,vs,x,h=>by
  simp only [br] at h;obtain⟨v,bS,h1,h2,h3⟩:=h;simp only [Row.ok];exact⟨W8 t v _ h2,EM ts bS _ h3⟩
end
mutual
theorem Ry:∀(a:AV) (v:Value),aa w A β v a->a.facts
 |.int k n,v,h=>by simp only [aa] at h;simp only [AV.facts];exact h.2
 |.str s,v,h=>by simp only [aa] at h;simp only [AV.facts];exact h.2
 |.sl row l,v,h=>by simp only [aa] at h;simp only [AV.facts];exact W8 _ _ _ h
 |.full row l,v,h=>by simp only [aa] at h;simp only [AV.facts];exact W8 _ _ _ h.1
 |.agg cs,v,h=>by
   simp only [aa] at h;obtain⟨arr,_,h2⟩:=h;simp only [AV.facts];exact uV cs _ h2
 |.bn cs,v,h=>by
   simp only [aa] at h;obtain⟨arr,_,h2⟩:=h;simp only [AV.facts];exact uV cs _ h2
 |.cr,_,_|.undef,_,_|.bool _,_,_|.tt,_,_|.ff,_,_|.nil,_,_|.jQ,_,_|.oC _ _,_,_|.k7,_,_|.cN _ _ _,_,_|.pB _ _,_,_|.own _,_,_|.pre _ _,_,_|.view _ _ _ _,_,_|.ref _ _,_,_|.elem _ _ _ _,_,_|.fn _ _ _,_,_|.gp _ _,_,_=>by simp only [AV.facts]
theorem uV:∀(as_:List AV) (vs:List Value),ae w A β vs as_->AZ as_
 |[],_,_=>by simp only [AZ]
 |a::as_,vs,h=>by
  simp only [ae] at h;obtain⟨v,bS,_,h1,h2⟩:=h;simp only [AZ];exact⟨Ry a v h1,uV as_ bS h2⟩
end
end
def bY.Ok(P:Program):bY->Prop
 |.leaf=>True
 |.node l k v r=>l.Ok P/\r.Ok P/\P.underlying k=some v.desc/\Wn P k v.desc/\∃i,P.info? k=some i/\i.size=v.size/\i.bytes=v.bytes/\i.zero=some v.zero
theorem bY.Ok.at {P:Program}{T:bY}(h:T.Ok P):∀t te,T.find t=some te->(P.underlying t=some te.desc/\∃i,P.info? t=some i/\i.size=te.size/\i.bytes=te.bytes/\i.zero=some te.zero)/\Wn P t te.desc:=by
 induction T with
 |leaf=>intro t te ht;cases ht
 |node l k v r ihl ihr=>
  obtain⟨h1,h2,h3,h5,h4⟩:=h;intro t te ht;simp [bY.find] at ht;cases hb:Nat.beq t k with
  |true=>
   simp_all
  |false=>
   grind
theorem bx.of {P:Program}{T:bY}(h:T.Ok P):bx T P:=⟨λt te ht=>(h.at t te ht).1,λt te ht=>(h.at t te ht).2⟩
end Go.Vg

end
section
namespace Go.Vg
open Go
variable [HP]
inductive PS where
 |one (t:Ty)
 |agg (ts:List Ty)
 |var (ts:List Ty)
@[reducible] def PS.flat:List PS->List Ty
  |[]=>[]
  |.one t::ps=>t::PS.flat ps
  |.agg ts::ps|.var ts::ps=>ts++PS.flat ps
def PS.cells:List PS->List AV->Option (List AV)
 |[],[]=>some []
 |.one _::ps,a::as_=>match PS.cells ps as_ with
   |some l=>some (a::l)
   |none=>none
 |.agg ts::ps,.agg cs::as_=>bif Nat.beq cs.length ts.length then match PS.cells ps as_ with
   |some l=>some (cs++l)
   |none=>none
   else none
 |.var ts::ps,.cN Ez x 0::as_=>match eU Ez ts [x],PS.cells ps as_ with
   |some (y::_),some l=>some (aF ts y++l)
   |_,_=>none
 |_,_=>none
def xo(ts:List Ty)(cs:List AV):AV:=match jR ts cs with
 |some x=>.cN ts x 0
 |none=>.cr
def PS.group:List PS->List AV->List AV
 |[],_=>[]
 |.one _::ps,cs=>cs.headD .cr::PS.group ps cs.tail
 |.agg ts::ps,cs=>.agg (cs.take ts.length)::PS.group ps (cs.drop ts.length)
 |.var ts::ps,cs=>xo ts (cs.take ts.length)::PS.group ps (cs.drop ts.length)
def Gr(ps:List PS)(aX:List AV):Option (Row (PS.flat ps)):=match PS.cells ps aX with
 |some cs=>jR (PS.flat ps) cs
 |none=>none
def mf(ps:List PS)(x:Row (PS.flat ps)):List AV:=PS.group ps (aF (PS.flat ps) x)
def eM(ps:List PS)(f:Row (PS.flat ps)->Prop×AV×List AB):Qz:=λaX=>match Gr ps aX with
 |some x=>some (f x)
 |none=>none
section
variable {P:Program} {E:Env} {w:World} {A:Nat->Prop} {β:Nat->Value}
theorem gv:∀(as_ bs:List AV) (us vs:List Value),ae w A β us as_->ae w A β vs bs->ae w A β (us++vs) (as_++bs)
 |[],bs,us,vs,h,g=>by
   grind[ae]
 |a::as_,bs,us,vs,h,g=>by
  obtain⟨v,FZ,rfl,h1,h2⟩:=h;exact⟨v,FZ++vs,rfl,h1,gv as_ bs FZ vs h2 g⟩
theorem j4:∀(as_ bs:List AV) (vs:List Value),ae w A β vs (as_++bs)->∃us ws,vs=us++ws/\ae w A β us as_/\ae w A β ws bs
 |[],bs,vs,h=>⟨[],vs,rfl,by rfl,h⟩
 |a::as_,bs,vs,h=>by
  obtain⟨v,bS,rfl,h1,h2⟩:=h;obtain⟨us,ws,rfl,h3,h4⟩:=j4 as_ bs bS h2;exact⟨v::us,ws,rfl,by exact⟨v,us,rfl,h1,h3⟩,h4⟩
theorem ua(as_:List AV)(vs:List Value)(h:ae w A β vs as_):vs.length=as_.length:=(cT as_ vs h).symm▸rfl
def rO:∀(ps:List PS) (aX cs:List AV) (args:List Value),PS.cells ps aX=some cs->ae w A β args aX->
  cs.length=(PS.flat ps).length/\∃vs,ae w A β vs cs/\∀fi,fi.length=cs.length->ae w A β vs fi->ae w A β args (PS.group ps fi)
 |[],[],cs,args,h,hr=>by
   simp only [PS.cells,Option.some.injEq] at h;subst h;exact⟨rfl,[],by rfl,λfi _ _=>by grind[PS.group]⟩
 |.one t::ps,a::as_,cs,args,h,hr=>by
   simp only [PS.cells] at h;split at h
   . rename_i l hl;simp only [Option.some.injEq] at h;subst h;simp only [ae] at hr;obtain⟨v,Gs,rfl,h1,h2⟩:=hr;obtain⟨g1,vs,g2,g3⟩:=rO ps as_ l Gs hl h2;refine⟨x!,v::vs,by simp only [ae];grind,λfi jU oH=>?_⟩;cases fi with
     |nil=>grind
     |cons c fi=>
      simp only [ae] at oH;obtain⟨v',bS,e,r1,r2⟩:=oH;simp only [List.cons.injEq] at e;obtain⟨rfl,rfl⟩:=e;simp only [PS.group,List.headD,List.tail,ae];grind
   grind
 |.agg ts::ps,a::as_,cs,args,h,hr=>by
   cases a with
   |agg Cz=>
    simp only [PS.cells] at h;cases hb:Nat.beq Cz.length ts.length with
    |false=>grind
    |true=>
     rw [hb] at h;have hlen:=C! hb;simp only [I!] at h;split at h
     . rename_i l hl;simp only [Option.some.injEq] at h;subst h;simp only [ae] at hr;obtain⟨v,Gs,rfl,h1,h2⟩:=hr;simp only [aa] at h1;obtain⟨arr,rfl,h1⟩:=h1;obtain⟨g1,vs,g2,g3⟩:=rO ps as_ l Gs hl h2;refine⟨x!,arr.toList++vs,gv _ _ _ _ h1 g2,λfi jU oH=>?_⟩;grind[j4,List.take_append_drop,ua,List.append_inj,PS.group,ae,aa]
     grind
   |_=>grind[PS.cells]
 |.var ts::ps,a::as_,cs,args,h,hr=>by
   obtain⟨v,Gs,rfl,h1,h2⟩:=hr;unfold PS.cells at h;split at h
   . rename_i e1 _;cases e1
   . rename_i e1 _;cases e1
   . rename_i e1 _;cases e1
   . rename_i ts0 ps0 Ez x as0 e1 e2;simp only [f?,PS.var.injEq] at e1 e2;obtain⟨e1,e3⟩:=e1;obtain⟨e2,e4⟩:=e2;subst e1 e2 e3 e4;split at h
     . rename_i y r l hy hl;simp only [A!] at h;subst h;obtain⟨b,o,Cz,g0,gA,gr,gd⟩:=h1;obtain⟨e,he⟩:=im hy;subst e;simp only [f?] at he;obtain⟨rfl,he2⟩:=he;subst he2;obtain⟨g1,vs,g2,g3⟩:=rO ps as_ l Gs hl h2;refine⟨by simp [eH,g1,PS.flat],Cz++vs,gv _ _ _ _ (fY _ _ _ gd) g2,λfi jU oH=>?_⟩
       have hlen:Cz.length=Ez.length:=by
        have:=ua _ _ (fY (β:=β) _ _ _ gd);rw [this,eH]
       rw [<-Z? Ez.length fi] at oH;obtain⟨us,ws,e,q1,q2⟩:=j4 _ _ _ oH
       have iU:(fi.take Ez.length).length=Ez.length:=by
        rw [T?,jU,K!,eH];omega
       have:=ua _ _ q1;obtain⟨rfl,rfl⟩:=List.append_inj e w!;refine⟨v,Gs,rfl,?_,g3 _ (by rw [List.length_drop,jU,List.length_append,eH];omega) q2⟩;unfold xo;split
       . rename_i x hx;exact⟨b,o,Cz,g0,gA,gr,lY _ _ _ _ q1 hx⟩
       . trivial
     . cases h
   . cases h
 |.var _::_,[],cs,args,h,_|[],_::_,cs,args,h,_|.one _::_,[],cs,args,h,_|.agg _::_,[],cs,args,h,_=>by grind[PS.cells]
def qb(ps:List PS){aX:List AV}{args:List Value}{x:Row (PS.flat ps)}(h:Gr ps aX=some x)(hr:ae w A β args aX):
  ae w A β args (mf ps x)/\Row.ok (PS.flat ps) x:=by
 unfold Gr at h;split at h
 . rename_i cs dm;obtain⟨g1,vs,g2,g3⟩:=rO ps aX cs args dm hr;have hv:=lY _ _ _ _ g2 h;exact⟨g3 _ (by rw [eH,g1]) (fY _ _ _ hv),EM _ _ _ hv⟩
 grind
def Rz(hE:aU P E)(hm:P.follows .mixedOrders=true){f:FuncId}{fn:Func}{c:Code}(ps:List PS){F:Row (PS.flat ps)->Prop×AV×List AB}
  (L:Row (PS.flat ps)->Nat->Option bq) (hf:P.funcs[f]? =some fn) (hb:fn.body=some c)
  (h:∀x,(F x).1->Row.ok (PS.flat ps) x->KG E (L x) c fn.ntmps fn.results.toList (mf ps x) (F x).2.1 (F x).2.2):Valid P E.fQ f (eM ps F):=by
 intro w A β args aX pre res bs hA hG bj hs hp;unfold eM at hs;split at hs
 . rename_i x hx;obtain⟨g1,g2⟩:=qb ps hx bj
   have hv:Valid P E.fQ f (λEN=>open Classical in if EN=mf ps x then some (F x) else none):=by
    refine Rt hE hm (λ_=>L x) hf hb λEN aAH aAI bs' jb zA=>?_;grind
   exact hv w A β args (mf ps x) pre res bs hA hG g1 x! hp
 grind
theorem cO.of {f:FuncId} {fn:Func} {c:Code}(hf:P.funcs[f]? =some fn)(hb:fn.body=some c)(hn:(fn.name== "runtime.NumGoroutine")=false):cO P f:=by
 intro args w;simp_all[callFunc,Sem.run_bind,Result.andThen_ok,Option.isNone_some]
def Env.cons(f:Nat)(s:Qz)(E:Env):Env:={E with sig:=λg=>bif Nat.beq g f then some s else E.sig g}
theorem aU.cons(hE:aU P E){f:FuncId}{s:Qz}(h:Valid P E.fQ f s)(hf:cO P f):aU P (E.cons f s):=by
 refine⟨hE.eA,λg t hg=>?_,hE.qG,hE.hp,hE.ca⟩;simp [Env.cons] at hg;cases hb:Nat.beq g f with
 |true=>
  rw [hb] at hg;simp at hg;have:=C! hb;subst this;subst hg;exact⟨h,hf⟩
 |false=>
  rw [hb] at hg;exact hE.sig g t hg
theorem aU.none {T:bY}(G:Nat->Option GD)(hT:bx T P)(hP:∀Q,HP.is Q↔Q=P:=by exact λ_=>Iff.rfl):aU P {T:=T,sig:=λ_=>none,fQ:=G}:=⟨hT,nofun,nofun,hP,nofun⟩
end
end Go.Vg

end
section
namespace Go.Vg
open Go
variable [HP]
def EO(T:bY)(off:Nat):List Field->Bool
 |[]=>true
 |f::fs=>Nat.beq f.offset off&&(match T.find f.type with
  |some te=>EO T (off+te.size) fs
  |none=>false)
def Uy(T:bY):List Field->Nat
 |[]=>0
 |f::fs=>(match T.find f.type with
  |some te=>te.size
  |none=>0)+Uy T fs
def xp(T:bY):Nat->TypeId->Bool
 |0,_=>false
 |n+1,t=>match T.find t with
  |none=>false
  |some te=>match te.desc with
   |.slice e=>xp T n e&&(match T.find e with
     |some ee=>Nat.blt 0 ee.size
     |none=>false)
   |.struct fs=>EO T 0 fs.toList&&Nat.beq te.size (Uy T fs.toList)&&fs.toList.all (λf=>xp T n f.type)
   |.array k e=>xp T n e&&(match T.find e with
     |some ee=>Nat.beq te.size (k*ee.size)
     |none=>false)
   |_=>true
section
variable {P:Program} {E:Env} {w:World} {A:Nat->Prop} {T:bY} {H:Type} {enc:TypeId×Value->H} {sp:Nat->Bool} {held:Bool}
theorem bx.cells(hT:bx T P){t:TypeId}{te:TE}(h:T.find t=some te):P.cellsOf t=te.size:=by
 obtain⟨_,i,h1,h2,_⟩:=hT.ok t te h;grind[Program.cellsOf]
def sK:∀(r1 r2:List Ty) (c1 c2:List Value) (x:Row r1) (y:Row r2),br w A r1 c1 x->br w A r2 c2 y->∃z:Row (r1++r2),br w A (r1++r2) (c1++c2) z
 |[],r2,c1,c2,x,y,h1,h2=>by
   grind[br]
 |t::ts,r2,c1,c2,x,y,h1,h2=>by
  obtain⟨v,vs,rfl,g1,g2⟩:=h1;obtain⟨z,hz⟩:=sK ts r2 vs c2 _ y g2 h2;refine⟨Row.mk (Row.hd x) z,?_⟩;show br w A (t::(ts++r2)) (v::(vs++c2)) (Row.mk (Row.hd x) z);grind[br,uJ,yX]
def OZ {row:List Ty}{sz:Nat}{a:Addr}(cZ:0<sz):∀(k:Nat),(∀i,i<k->∃fi r,fi.length=sz/\(∀j,j<sz->w.cell? ((a.add (i*sz)).add j)=fi[j]?)/\br w A row fi r)->
  ∃(l:List (Row row)) (cs:List Value),l.length=k/\cs.length=k*sz/\dc (br w A row) cs l/\(∀j,j<k*sz->w.cell? (a.add j)=cs[j]?)
 |0,_=>⟨[],[],rfl,z!,by rfl,λj hj=>by omega⟩
 |k+1,h=>by
  obtain⟨l,cs,h1,h2,h3,h4⟩:=OZ cZ k λi hi=>h i w!;obtain⟨fi,r,g1,g2,g3⟩:=h k w!;refine⟨l++[r],cs++fi,x!,x!,jh l [r] cs fi h3 ⟨fi,[],z!,g3,by rfl⟩,λj hj=>?_⟩;grind[List.getElem?_append_right,Addr.add]
def Lf(hT:bx T P){n m:Nat}(cs:List Value)
  (ih:∀t row (cs:List Value) x,rowOf T n t=some row->xp T n t=true->DataW.trod enc P w 0 sp held m t cs=some x->∃r:Row row,br w A row cs r):
  ∀(fs:List Field) (off:Nat) (row:List Ty),fs.foldr (λf acc=>BC (rowOf T n f.type) acc) (some [])=some row->EO T off fs=true->(fs.all λf=>xp T n f.type)=true->
   (∀f∈fs,∃x,DataW.trod enc P w 0 sp held m f.type ((cs.drop f.offset).take (P.cellsOf f.type))=some x)->cs.length=off+Uy T fs->
   ∃r:Row row,br w A row (cs.drop off) r
 |[],off,row,hr,_,_,_,hl=>by
   simp at hr;subst hr;simp_all[br,Uy,x?]
 |f::fs,off,row,hr,hf,ha,hx,hl=>by
  simp at hr;generalize auQ:fs.foldr (λf acc=>BC (rowOf T n f.type) acc) (some [])=rest at hr;unfold BC at hr;split at hr
  . rename_i r1 r2 h1;simp at hr;subst hr;simp only [EO,B!] at hf;obtain⟨W9,Xa⟩:=hf;have ho:=C! W9;simp only [List.all_cons,B!] at ha;split at Xa
    . rename_i te iz;have hc:=hT.cells iz;obtain⟨x,NG⟩:=hx f (List.mem_cons_self ..);obtain⟨y,hy⟩:=ih _ _ _ _ h1 ha.1 NG;simp only [Uy,iz] at hl;obtain⟨z,hz⟩:=Lf hT cs ih fs (off+te.size) r2 auQ Xa ha.2 (λg hg=>hx g (List.mem_cons_of_mem _ hg)) w!;obtain⟨u,hu⟩:=sK _ _ _ _ _ _ hy hz;grind[List.drop_drop,List.take_append_drop]
    grind
  grind
def O0 {r:List Ty}(cs:List Value)(sz:Nat):∀(k off:Nat),(∀i,i<k->∃x:Row r,br w A r ((cs.drop (off+i*sz)).take sz) x)->cs.length=off+k*sz->
  ∃x:Row ((List.replicate k r).flatten),br w A ((List.replicate k r).flatten) (cs.drop off) x
 |0,off,_,hl=>⟨(),by
  grind[br,List.drop_eq_nil_of_le]⟩
 |k+1,off,h,hl=>by
  obtain⟨x,hx⟩:=h 0 w!
  obtain⟨y,hy⟩:=O0 cs sz k (off+sz) (λi hi=>by
   obtain⟨z,hz⟩:=h (i+1) w!;refine⟨z,?_⟩;grind) x!
  obtain⟨u,hu⟩:=sK _ _ _ _ _ _ hx hy;grind[List.drop_drop,List.take_append_drop]
def qP {t:Ty}{v:Value}{x:D t}(h:Rd w A t v x):br w A [t] [v] (Row.mk x ()):=by
 grind[br,uJ]
def A3(hT:bx T P)(hA:∀b,b<w.heap.size->A b):∀(n m:Nat) (t:TypeId) (row:List Ty) (cs:List Value) (x:DataW H×List MemPlace),rowOf T n t=some row->xp T n t=true->
  DataW.trod enc P w 0 sp held m t cs=some x->∃r:Row row,br w A row cs r
 |0,m,t,row,cs,x,hr,_,_=>by grind[rowOf]
 |n+1,m,t,row,cs,x,hr,hf,h=>by
  unfold rowOf at hr;unfold xp at hf;split at hr
  . grind
  . rename_i te iz;rw [iz] at hf;obtain⟨hu,_⟩:=hT.ok t te iz;have dm:=hT.cells iz;simp only at hf;split at hr
    . rename_i k hd;simp only [A!] at hr;subst hr;rw [hd] at hu;obtain⟨z,rfl,_,hw⟩:=DataW.trod_int hu h
      have hz:lo k<=z/\z<=hi k:=by
       cases k<;>simpa [Lit.wf,IntKind.min,IntKind.max,IntKind.signed,IntKind.bits,lo,hi] using hw
      refine⟨Row.mk (DI.ofInt k z:D (.int k)) (),qP ?_⟩;simp_all[Rd,Ou,trivial]
    . rename_i hd;simp only [A!] at hr;subst hr;rw [hd] at hu;obtain⟨b,rfl,_⟩:=DataW.trod_bool hu h;exact⟨Row.mk (b:D .bool) (),qP (by rfl)⟩
    . rename_i hd;simp only [A!] at hr;subst hr;rw [hd] at hu;obtain⟨s,rfl,_,hs⟩:=DataW.trod_string hu h;refine⟨Row.mk (s.data.toList:D .str) (),qP ?_⟩;simp_all[Rd,trivial]
    . rename_i e hd;split at hr
      . rename_i r hre;simp only [A!] at hr;subst hr;rw [hd] at hu hf;simp only [B!] at hf;obtain⟨W9,Xa⟩:=hf;split at Xa
        . rename_i ee uH;have cZ:0<ee.size:=by simp_all
          have RA:=hT.cells uH;rcases DataW.trod_slice hu h with⟨rfl,_⟩|⟨a,len,cap,elems,rest,m',_,rfl,_,hb,hl,hm,hlen,Kf,_⟩
          . refine⟨Row.mk (([]:List (Row r)):D (.slice r)) (),qP ?_⟩;simp only [Rd];exact⟨none,0,[],rfl,z!,z!,by rfl,z!⟩
          . rw [RA] at Kf
            obtain⟨l,cs,g1,g2,g3,g4⟩:=OZ (w:=w) (A:=A) (row:=r) (a:=a) cZ len λi hi=>by
             have h1:=Kf i hi;rw [List.getElem?_eq_getElem w!,Option.bind_eq_some_iff] at h1;obtain⟨fi,c1,c2⟩:=h1;obtain⟨_,d1,d2⟩:=World.cells?_some c1;obtain⟨y,hy⟩:=A3 hT hA n m' e r fi _ hre W9 c2;grind
            refine⟨Row.mk (l:D (.slice r)) (),qP ?_⟩;simp only [Rd];refine⟨some a,cap,cs,by rw [g1],w!,hm,g3,λdU=>?_⟩
            have lL:0<len*ee.size:=by
             grind
            have h0:=g4 0 lL;obtain⟨b,o,s⟩:=a;simp only [Addr.add,R?,World.cell?] at h0
            have hs:s=none:=by
             cases s with
             |none=>rfl
             |some q=>grind
            subst hs;refine⟨b,o,rfl,hA b ?_,λj v hj=>?_⟩
            . grind
            grind[List.getElem?_eq_some_iff,Addr.add]
        grind
      grind
    . rename_i fs hd;rw [hd] at hu hf;simp only [B!] at hf;obtain⟨⟨W9,Xa⟩,hf3⟩:=hf;obtain⟨xs,m',_,_,hl,Ja,hx⟩:=DataW.trod_struct hu h
      have:=Lf (A:=A) hT cs (λt row cs x h1 h2 h3=>A3 hT hA n m' t row cs x h1 h2 h3) fs.toList 0 row hr W9 hf3 (λf hf=>by
       grind[List.getElem?_of_mem,List.getElem?_eq_some_iff,List.getElem?_eq_getElem]) (by simp_all)
      grind
    . rename_i k e hd;rw [hd] at hu hf;split at hr
      . rename_i r hre;simp only [A!] at hr;subst hr;simp only [B!] at hf;obtain⟨W9,Xa⟩:=hf;split at Xa
        . rename_i ee uH;have RA:=hT.cells uH;obtain⟨xs,m',_,_,hl,Ja,hx⟩:=DataW.trod_array hu h
          have:=O0 (w:=w) (A:=A) (r:=r) cs ee.size k 0 (λi hi=>by
           have h1:=hx i hi;rw [List.getElem?_eq_getElem w!,RA] at h1;obtain⟨y,hy⟩:=A3 hT hA n m' e r _ _ hre W9 h1;grind) (by simp_all)
          grind
        grind
      grind
    grind
end
end Go.Vg

end
