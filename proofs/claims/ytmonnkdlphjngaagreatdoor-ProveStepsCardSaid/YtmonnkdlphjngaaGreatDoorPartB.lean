import Derived.Test.YtmonnkdlphjngaaGreatDoorPartA
import Derived.Orders
import Derived.Deep.LoopGhost
import Derived.Scope
import Derived.WalkKit
import Derived.ProofKit
import Derived.OpenShut
import Derived.SizedLaws
set_option linter.unusedVariables false
set_option linter.unusedSimpArgs false
section
namespace Go.Vg
open Go
def sJ:List AV->Option (List AV×Nat)
 | []=>none
 |a::r=>match r with
  | []=>match a with
    | .own k=>some ([],k)
    |_=>none
  |_::_=>match sJ r with
   |some (x,k)=>some (a::x,k)
   |none=>none
def Ay(E:Env)(h:bg)(t:TypeId):AV->AV->Option Out
 | .elem k sz i j, .agg cs=>match h k,sJ cs with
   |some (.row e row l false),some (xs,k5)=>match h k5 with
    |some (.row _ _ _ false)=>bif E.jc t&&Nat.beq j 0&&Nat.beq sz row.length&&mC E.T t row.length&&Nat.blt 0 row.length&& !(Nat.beq k5 k) then
      match nd row (xs++ [.nil]) with
       |some x=>some {cond:= [i<l.length],res:= .undef,jq:= [(k, .jc e (some k5) row (l.set i x) i)]}
       |none=>none
     else none
    |_=>none
   |_,_=>none
 |_,_=>none
def sf(E:Env)(h:bg)(t:TypeId):AV->Option Out
 | .elem k sz i j=>match E.T.find t,h k with
   |some te,some (.jc _ (some k5) row l i0)=>match h k5 with
    |some (.row _ _ _ _)=>bif Nat.beq sz row.length&&Nat.beq j (row.length-1)&&Nat.blt 0 row.length then
      match pick te [.own k5] 0 with
       |some a=>some {cond:= [i<l.length,i=i0],res:=a}
       |none=>none
     else none
    |_=>none
   |_,_=>none
 |_=>none
def vG(E:Env)(h:bg)(t:TypeId):AV->AV->Option Out
 | .own k, .int _ i=>match h k with
   |some (.jc _ _ row l _)=>bif bC E.T t row.length then some {cond:= [0<=i/\i<(l.length:Int)],res:= .elem k row.length i.toNat 0} else none
   |_=>none
 |_,_=>none
def closing(h:bg)(k:Nat):Option (Prop×List (Nat×AB)):=match h k with
 |some (.jc e (some k5) row l i)=>match h k5 with
  |some (.row e5 tZ l5 false)=>bif Nat.blt 0 row.length&& !(Nat.beq k5 k) then match qG row (l.getD i (Row.zero row)) (row.length-1) [.sl tZ l5] with
    |some y=>some (i<l.length,[(k, .row e row (l.set i y) false),(k5, .row e5 tZ l5 true)])
    |none=>none
   else none
  |_=>none
 |_=>none
def isNil {α:Type}:List α->Bool
 | []=>true
 |_::_=>false
def vI(E:Env)(h:bg)(o:Oper):Option (Prop×List (Nat×AB)):=match o.dst with
 |some d=>match E.cls d with
  |some k=>closing h k
  |none=>none
 |none=>none
def Sf(E:Env)(st:St)(o:Oper):Option Out:=match vI E st.h o with
 |some (c,u)=>match JZ E st o with
  |some out=>bif isNil out.jq&&isNil out.del&&isNil out.new&&isNil out.raw then some {out with cond:=c::out.cond,jq:=u} else none
  |none=>none
 |none=>match o.op with
  | .store t p v=>Ay E st.h t (ev st p) (ev st v)
  | .load t p=>sf E st.h t (ev st p)
  | .indexAddr t x i=>vG E st.h t (ev st x) (ev st i)
  |_=>none
def act(E:Env)(st:St)(o:Oper):Option Out:=match Sf E st o with
 |some out=>some out
 |none=>JZ E st o
section
variable {P:Program} {C:Ctx} {A A':Nat->Prop} {β aS:Nat->Value} {st:St} {a:Act} {w:World} {E:Env} {T:cJ}
theorem D4:∀(cs:List AV) (vs:List Value) (xs:List AV) (k:Nat),sJ cs=some (xs,k)->ak w A β vs cs->∃us,vs=us++ [β k]/\ak w A β us xs/\(β k).oneCell'=true
 | [],vs,xs,k,h,_=>by cases h
 |a::r,vs,xs,k,h,hr=>by
  obtain⟨v,cK,rfl,h1,h2⟩:=hr;unfold sJ at h;cases r with
  |nil=>
   subst h2;cases a with
   |own k'=>
    obtain⟨rfl,rfl⟩:=h;exact⟨[],by rw [h1.1];rfl,by simp [ak],by rw [<-h1.1];exact h1.2⟩
   |_=>cases h
  |cons b r=>
   simp at h;split at h
   . rename_i x k' hl;simp at h;obtain⟨rfl,rfl⟩:=h;obtain⟨us,e1,e2,e3⟩:=D4 (b::r) cK x k' hl h2;refine⟨v::us,by rw [e1];rfl,?_,e3⟩;exact⟨v,us,rfl,h1,e2⟩
   . cases h
theorem ahN {α:Type}(p s:List α)(x y:α):(p++x::s).set p.length y=p++y::s:=by
 grind
theorem Az {α:Type}:∀(l:List α) (i:Nat) (x:α),l[i]? =some x->l.set i x=l
 | [],_,_,h=>by rfl
 |a::l,0,x,h=>by grind
 |a::l,i+1,x,h=>by
  rw [List.set_cons_succ,Az l i x (by simpa using h)]
theorem CF(hB:aJ C A β st a w) {k e i:Nat} {j:Option Nat} {row:List Ty} {l:List (Row row)}(h:st.h k=some (.jc e j row l i)):
  (β k= .slice none 0 0/\l= [])\/∃b cap cur v0,β k= .slice (some ⟨b,0,none⟩) l.length cap/\w.heap[b]? =some (.cells cur e (0,0))/\l.length<=cap/\cap<=maxLen/\cur.size=cap*row.length/\¬A b/\
    eu (bT w A row) ((cur.toList.take (l.length*row.length)).set (i*row.length+(row.length-1)) v0) l/\
    ∀j',j=some j'->(cur.toList.take (l.length*row.length))[i*row.length+(row.length-1)]? =some (β j'):=by
 obtain⟨xs,v0,h1,h2,h3,h4⟩:=hB.blocks k _ h;rcases h1.2 with⟨hv,hn⟩|⟨g,cap,cur,hv,_,hg,g4,g5,g6,g7⟩
 . grind
 . exact .inr ⟨g,cap,cur,v0,hv,hg,g4,g5,g6,h2 g (by rw [hv];rfl),x!,x!⟩
theorem J0(hB:aJ C A β st a w) {k e:Nat} {row:List Ty} {l:List (Row row)} {fr:Bool}(h:st.h k=some (.row e row l fr)):(β k).oneCell'=true :=by
 rcases ib hB h with⟨h1,_⟩|⟨b,cap,cur,h1,_⟩<;>rw [h1]<;>rfl
theorem Iw(hT:bD E.T P)(hB:aJ C A β st a w) {t:TypeId} {x:AV} {vx:Value}(hx:af w A β vx x) {out:Out}(h:sf E st.h t x=some out)(hc:∀p∈out.cond,p):
  Reads P A β w (Instr.loadAt t vx) out:=by
 unfold sf at h;split at h
 . rename_i k sz i j;split at h
   . rename_i te e k5 row l i0 ht hk;split at h
     . rename_i e5 tZ l5 fr5 CG;cases hq:(Nat.beq sz row.length&&Nat.beq j (row.length-1)&&Nat.blt 0 row.length) with
       |false=>grind
       |true=>
        simp [hq,L!] at h;simp only [B!] at hq;obtain⟨⟨q1,q2⟩,q3⟩:=hq;have q1:=D! q1;have q2:=D! q2;subst q1;subst q2;split at h
        . rename_i av hpk;simp at h;subst h;have mF:i=i0:=hc _ z!;subst mF;obtain⟨b,m,cap,cY,rfl⟩:=hx;rcases CF hB hk with⟨_,hl⟩|⟨b',l4,cur,v0,hv,hg,hle,Bl,fx,l9,hL,hch⟩
          . grind
          . rw [cY] at hv;obtain⟨rfl,rfl,rfl⟩:=hv;have pV:=hch k5 rfl;rw [m?] at pV;split at pV
            . have hr:w.rangeAt b (i*row.length+(row.length-1)) [β k5]:=by
               intro jj u hj;cases jj with
               |zero=>
                simp at hj;subst hj;simp [World.cell?,hg];simpa using pV
               |succ jj=>simp at hj
              have PQ:ak w A β [β k5] [.own k5]:=by
               exact⟨_,[],rfl,⟨rfl,J0 hB CG⟩,rfl⟩
              obtain⟨v',g1,g2⟩:=nY (β:=β) hT ht PQ hpk hr;exact⟨⟨rfl,rfl,rfl⟩,v',g1,g2⟩
            grind
        grind
     grind
   grind
 grind
theorem J1(hT:bD E.T P)(hB:aJ C A β st a w) {t:TypeId} {x i:AV} {vx vi:Value}(hx:af w A β vx x)(hi:af w A β vi i) {out:Out}
  (h:vG E st.h t x i=some out) (hc:∀p∈out.cond,p):Reads P A β w (Instr.indexAt t vx vi) out:=by
 unfold vG at h;split at h
 . rename_i k kk n;split at h
   . rename_i e' j row l i0 hk;cases hs:bC E.T t row.length with
     |false=>grind
     |true=>
      simp [hs,L!,A!] at h;subst h;obtain⟨h0,h1⟩:=fu hc;obtain⟨e,ii,hu,mF,fj,mZ⟩:=fP hT hs;simp [af] at hx hi;rcases CF hB hk with⟨_,hl⟩|⟨b,cap,cur,v0,hv,_⟩
      . grind
      . refine⟨⟨rfl,rfl,rfl⟩, .pointer (some ⟨b,0+n.toNat*row.length,none⟩),?_,?_⟩
        . simp_all[hi,kW]
        grind[af]
   grind
 grind
theorem Np(hT:bD E.T P)(hB:aJ C A β st a w) {dst:Option Nat}(hd:∀t,dst=some t->t<st.n) {t:TypeId} {p x:AV} {vp vx:Value}(hp:af w A β vp p)(hx:af w A β vx x) {out:Out}
  (h:Ay E st.h t p x=some out) (hc:∀p∈out.cond,p):∃w',(Instr.storeAt t vp vx).run P w= .ok () w'/\Rel C (st.put dst out) (a.put dst undef) w':=by
 unfold Ay at h;split at h
 . rename_i k sz i j cs;split at h
   . rename_i e row l xs k5 hk ahO;split at h
     . rename_i e5 tZ l5 CG;cases hq:(E.jc t&&Nat.beq j 0&&Nat.beq sz row.length&&mC E.T t row.length&&Nat.blt 0 row.length&& !(Nat.beq k5 k)) with
       |false=>grind
       |true=>
        simp only [hq,L!] at h;simp only [B!] at hq;obtain⟨⟨⟨⟨⟨_,q0⟩,q1⟩,q2⟩,q3⟩,q4⟩:=hq;have q0:=D! q0;have q1:=D! q1;subst q0;subst q1;have q3:=M! q3;split at h
        . rename_i y hy;simp only [A!] at h;subst h;have hi:i<l.length:=fu hc;simp only [af] at hp hx;obtain⟨b,m,cap,cY,rfl⟩:=hp;obtain⟨arr,rfl,hx⟩:=hx;obtain⟨us,e1,e2,e3⟩:=D4 cs arr.toList xs k5 ahO hx;rcases ib hB hk with⟨_,hl⟩|⟨b',l4,cur,hv,hg,hle,Bl,fx,hL,l9⟩
          . grind
          . rw [cY] at hv;simp only [Value.slice.injEq,A!,Addr.mk.injEq,and_true] at hv;obtain⟨rfl,rfl,rfl⟩:=hv;simp only [H?,h?] at l9;have hb:aB (β k)=some b:=by rw [cY];rfl
            obtain⟨ii,mF,BI⟩:=sC hT q2
            have hyr:bT w A row (us++ [Value.slice none 0 0]) y:=by
             refine sD (β:=β) row (xs++ [.nil]) _ y ?_ hy;grind[ym,ak,af]
            have hlen:us.length+1=row.length:=by
             have :=iI row _ y hyr;grind
            have oT:arr.size=ii.size:=by
             have :arr.toList.length=arr.size:=by simp
             grind
            have ma:∀u∈arr.toList,u.oneCell'=true :=by
             grind[yr,List.mem_append_left,List.mem_singleton]
            have DX:l.length*row.length<=cur.size:=by simp_all[D?]
            have hyy:∀c,bT w A row c l[i]->bT w A row (c.take 0++(us++ [Value.slice none 0 0])++c.drop (0+(us++ [Value.slice none 0 0]).length)) y/\((us++ [Value.slice none 0 0])≠ []->0+(us++ [Value.slice none 0 0]).length<=c.length):=fun c rq=>by
             have rp:=iI row c _ rq;simp_all[q?,N?,List.take_zero,z?,A?]
            rcases JN hi hL hyy DX with⟨g1,g2,g3⟩|Bm
            . have hul:(us++ [Value.slice none 0 0]).length=row.length:=by grind
              have hal:arr.toList.length=row.length:=by grind
              rw [hul] at g3
              have Hc:i*row.length+0+arr.size<=cur.size:=by
               omega
              have tW:(Value.agg arr).cells=arr:=rfl;refine⟨_,oW mF (v:= .agg arr) x! x! hg x!,?_⟩;rw [tW];refine hB.write hd (k:=k) (fz:= []) (ab:= .jc e (some k5) row (l.set i y) i) x! hb l9 hg ⟨rfl,rfl,rfl⟩ z! ?_ (by rfl);intro A2 h1 h2 h3
              have hA2:∀b',A2 b'->A b':=fun b' h=>by
               grind
              have hKp:dC w (w.setRow b (cur.toList.take (i*row.length+0)++arr.toList++cur.toList.drop (i*row.length+0+arr.toList.length)).toArray) A A2:=fun b' h=>⟨h1 b' h,setRow_other w b b' _ (fun h'=>l9 (h'▸h))⟩
              have hP:cur.toList.take (i*row.length+0)++arr.toList++cur.toList.drop (i*row.length+0+arr.toList.length)=(cur.toList.take (i*row.length)++us)++β k5::cur.toList.drop (i*row.length+row.length):=by
               grind
              have hPl:(cur.toList.take (i*row.length)++us).length=i*row.length+(row.length-1):=by
               grind
              have kU:i*row.length+row.length<=l.length*row.length:=by
               have :(i+1)*row.length<=l.length*row.length:=Nat.mul_le_mul_right _ hi;grind
              refine⟨_, .slice none 0 0,⟨?_, .inr ⟨b,cap,_,x!,w!,setRow_heap w b cur _ e _ hg,x!,Bl,?_,rfl⟩⟩,fun b' fv=> ?_,?_,fun j' lU=> ?_⟩
              . grind
              . grind
              . grind
              . simp only [List.length_set]
                have hg2:(cur.toList.take (i*row.length+0)++(us++ [Value.slice none 0 0])++cur.toList.drop (i*row.length+0+(us++ [Value.slice none 0 0]).length))=(cur.toList.take (i*row.length)++us)++Value.slice none 0 0::cur.toList.drop (i*row.length+row.length):=by
                 simp only [Nat.add_zero,hul,U!,List.singleton_append]
                have g2':=g2;simp only [hg2] at g2';simp only [hP] at hKp |-;rw [<-List.take_set,<-hPl,ahN];exact bZ (fun c x hx=>b4 hKp row c x hx) _ _ g2'
              . simp only [A!] at lU;subst lU;simp only [List.length_set,hP];rw [m?,R! w!,<-hPl,List.getElem?_append_right (O! _),Nat.sub_self];rfl
            grind
        grind
     grind
   grind
 grind
theorem aJ.close(hB:aJ C A β st a w) {k e k5 e5 i:Nat} {row tZ:List Ty} {l:List (Row row)} {l5:List (Row tZ)} {y:Row row}
  (hk:st.h k=some (.jc e (some k5) row l i)) (CG:st.h k5=some (.row e5 tZ l5 false)) (gI:k5≠k) (mZ:0<row.length) (hi:i<l.length)
  (hy:qG row (l.getD i (Row.zero row)) (row.length-1) [.sl tZ l5]=some y) {cN:St} (hn:cN.n=st.n) (ht:cN.t=st.t) (hg:cN.g=st.g)
  (hh:∀q,cN.h q=if q=k then some (.row e row (l.set i y) false) else if q=k5 then some (.row e5 tZ l5 true) else st.h q):Rel C cN a w:=by
 let A1:Nat->Prop :=fun b=>A b\/aB (β k5)=some b
 have hK:dC w w A A1:=fun b h=>⟨.inl h,rfl⟩
 have ahP:∀q,(cN.h q).isSome↔(st.h q).isSome:=by
  grind
 have aL6:(pv st.h (.own k5))=(.sl tZ l5,[k5]):=by grind[pv,iF]
 have FZ:af w A1 β (β k5) (.sl tZ l5):=by
  have :=(yz (A':=A1) hB (fun b h=> .inl h) (.own k5) (β k5) (by simp only [af];exact⟨trivial,J0 hB CG⟩) (fun q hq b hb=>by
   grind)).1
  grind
 refine⟨A1,β,?_⟩;refine⟨hB.defers,by rw [hn];exact hB.size,fun q=>by rw [ht];exact kD hK _ _ (hB.tmps q),fun q ab hq=> ?_,fun q q' b h1 h2=>hB.apart q q' b ((ahP q).1 h1) ((ahP q').1 h2),fun b hb=> ?_,hB.frame,fun b hb hA=> ?_,fun b hb=> .inl (hB.base b hb),fun q b hq hb=>hB.qI q b ((ahP q).1 hq) hb,fun q d hq=>hB.uO q d x!,fun q d hd=>(hB.laid q d hd).mono hK,hB.held⟩
 . rw [hh] at hq;by_cases h1:q=k
   . subst h1;rw [R! rfl] at hq;simp only [A!] at hq;subst hq;rcases CF hB hk with⟨_,hl⟩|⟨b,cap,cur,v0,hv,hgc,hle,Bl,fx,l9,hL,hch⟩
     . grind
     . have hN:(cur.toList.take (l.length*row.length)).length=l.length*row.length:=by
        simp_all
       have pV:=hch k5 rfl;have hL1:=bZ (fun c x hx=>b4 hK row c x hx) l _ hL;rw [getD_eq l _ _ hi] at hy
       have BJ:=JN (A:=A1) (w:=w) (i:=i) (j:=row.length-1) (cur:=((cur.toList.take (l.length*row.length)).set (i*row.length+(row.length-1)) v0).toArray) (us:= [β k5]) (y:=y) hi (by
        grind[List.take_of_length_le,List.length_set]) (fun c hc=>by
        have :=wT (β:=β) row [.sl tZ l5] l[i] (row.length-1) c [β k5] y hc (by grind[ak]) hy;omega) x!
       rcases BJ with⟨g1,g2,g3⟩|Bm
       . refine⟨cur.toList.take (l.length*row.length),⟨x!, .inr ⟨b,cap,cur,x!,w!,hgc,x!,Bl,fx,x!⟩⟩,?_,fun b' fv=> ?_⟩
         . have hp:i*row.length+(row.length-1)<l.length*row.length:=by
            have :(i+1)*row.length<=l.length*row.length:=D? _ hi;rw [j?,Nat.one_mul] at this;omega
           have hC:((cur.toList.take (l.length*row.length)).set (i*row.length+(row.length-1)) v0).take (i*row.length+(row.length-1))++ [β k5]++((cur.toList.take (l.length*row.length)).set (i*row.length+(row.length-1)) v0).drop (i*row.length+(row.length-1)+ [β k5].length)=cur.toList.take (l.length*row.length):=by
            have h2:((cur.toList.take (l.length*row.length)).set (i*row.length+(row.length-1)) v0).set (i*row.length+(row.length-1)) (β k5)=cur.toList.take (l.length*row.length):=by
             rw [List.set_set];exact Az _ _ _ pV
            rw [t?,R! (by rw [List.length_set,hN];exact hp)] at h2;simpa using h2
           simp only [hC] at g2;rw [J? w!] at g2;exact g2
         . rw [hv] at fv;simp only [aB,A!] at fv;subst fv;simp only [H?,h?];rintro(h|h)
           . exact l9 h
           . exact gI (hB.apart k5 q b (by simp [CG]) (by simp [hk]) h (by rw [hv];rfl))
       grind
   . rw [N! h1] at hq;by_cases h2:q=k5
     . subst h2;rw [R! rfl] at hq;simp only [A!] at hq;subst hq;obtain⟨xs,g1,g2,g3⟩:=hB.blocks q _ CG;refine⟨xs,g1,bZ (fun c x hx=>b4 hK tZ c x hx) _ _ g2,fun b hb=> ?_⟩;simp only [K?];exact .inr hb
     . rw [N! h2] at hq
       have :=yj (w':=w) (A':=A1) (aS:=β) (new:= []) (k:=q) (fun _ _=>rfl) rfl (fun b hb=>⟨rfl,fun h=>by
        rcases h with h|h
        . exact h
        . exact absurd (hB.apart q k5 b (by simp [hq]) (by simp [CG]) hb h) h2⟩) hK (hB.blocks q ab hq)
       simpa [dF] using this
 . rcases hb with hb|hb
   . exact hB.bound b hb
   . exact nv hB (by simp [CG]) hb
 . rcases hA with hA|hA
   . exact hB.nh b hb hA
   . rcases hB.qI k5 b (by simp [CG]) hA with h|h
     . omega
     . exact .inr h
theorem AA {α:Type}:∀ {l:List α},isNil l=true->l= []
 | [],_=>rfl
 |_::_,h=>by cases h
theorem Vq(hE:hJ P C E)(hB:aJ C A β st a w) {o:Oper} {out:Out}(h:act E st o=some out)(Sb:j6 st o=true)(hC:kT st.h out.new=true)(hc:∀p∈out.cond,p)
  {K:Act->World->Prop} {Q:Exit->Act->World->Prop} (hK:∀a' w',Rel C (st.put o.dst out) a' w'->K a' w'):o.wp P a w K Q:=by
 unfold act at h;split at h
 . rename_i aL7 h0;simp only [A!] at h;subst h
   have hd:∀t,o.dst=some t->t<st.n:=by
    intro t ht;simp_all[j6,M!]
   unfold Sf at h0;split at h0
   . rename_i c u rp;split at h0
     . rename_i Sh h1;cases hq:(isNil Sh.jq&&isNil Sh.del&&isNil Sh.new&&isNil Sh.raw) with
       |false=>grind
       |true=>
        simp only [hq,cond_true,Option.some.injEq] at h0;subst h0;simp only [Bool.and_eq_true] at hq;obtain⟨⟨⟨q1,q2⟩,q3⟩,q4⟩:=hq;have q1:=AA q1;have q2:=AA q2;have q3:=AA q3;have q4:=AA q4;have hcc:c:=hc c z!;refine Hj hE hB h1 Sb w! (fun p hp=>hc p x!) (fun a' w' hr=>hK a' w' ?_);obtain⟨A',aS,Vr⟩:=hr
        have Si:∀q,(st.put o.dst Sh).h q=st.h q:=by
         intro q;simp only [St.put,Jy,q1,q2,q3,ay,aM];grind[dF]
        have :∃k,closing st.h k=some (c,u):=by
         grind[vI]
        obtain⟨k,rp⟩:=this;unfold closing at rp;split at rp
        . rename_i e k5 row l i hk;split at rp
          . rename_i e5 tZ l5 CG;cases hqq:(Nat.blt 0 row.length&& !(Nat.beq k5 k)) with
            |false=>grind
            |true=>
             simp only [hqq,L!] at rp;simp only [B!,I?] at hqq;split at rp
             . rename_i y hy;obtain⟨rfl,rfl⟩:=rp;have gI:k5≠k:=fun h=>by grind
               refine aJ.close Vr (k:=k) (k5:=k5) (by rw [Si];exact hk) (by rw [Si];exact CG) gI (M! hqq.1) hcc hy rfl ?_ rfl (fun q=> ?_)
               . rfl
               . rw [Si];simp only [St.put,Jy,q2,q3,ay,aM,BD,q4];by_cases e1:q=k
                 . subst e1;simp [dF]
                 . by_cases e2:q=k5
                   . subst e2;simp [e1,bh e1,dF]
                   . simp only [bh e1,bh e2,Q!,N! e1,N! e2];cases st.h q with
                     |none=>rfl
                     |some ab=>simp [dF]
             grind
          grind
        grind
     grind
   . rename_i pU;clear pU;obtain⟨dst,op,type,pos,after,guard⟩:=o;simp only at hd hK h0;split at h0
     . rename_i t p v;obtain⟨w',g1,g2⟩:=Np hE.gY hB hd (bk hB p) (bk hB v) h0 hc;refine vD (w':=w') ?_ (hK _ _ g2);simp only [execOp,Sem.run_bind,g1,Result.andThen_ok,Sem.run_pure]
     . rename_i t p;exact c5 (s:=Instr.loadAt t (a.eval p)) (fun w=>by simp [execOp]) (Reads.sF hB hd (Iw hE.gY hB (bk hB p) h0 hc)) hK
     . rename_i t x i;exact c5 (s:=Instr.indexAt t (a.eval x) (a.eval i)) (fun w=>by simp [execOp]) (Reads.sF hB hd (J1 hE.gY hB (bk hB x) (bk hB i) h0 hc)) hK
     . cases h0
 grind[Hj]
end
end Go.Vg

end
section
namespace Go.Vg
open Go
mutual
def aR(p:Nat->Bool):AV->AV
 | .own k=>bif p k then .dU else .own k
 | .pre k n=>bif p k then .dU else .pre k n
 | .view k sz off n=>bif p k then .dU else .view k sz off n
 | .ref k off=>bif p k then .dU else .ref k off
 | .elem k sz i j=>bif p k then .dU else .elem k sz i j
 | .agg cs=> .agg (fF p cs)
 | .bA vs=> .bA (fF p vs)
 | .fn f first bH=> .fn f (fF p first) (fF p bH)
 | .je ks cs=> .je ks (fF p cs)
 |a=>a
def fF(p:Nat->Bool):List AV->List AV
 | []=> []
 |a::aK=>aR p a::fF p aK
end
def fS(p:Nat->Bool):Option Nat->Option Nat
 |some k=>bif p k then none else some k
 |none=>none
def ew(p:Nat->Bool):AB->AB
 | .cells cs=> .cells (fF p cs)
 | .views e j n m sz=> .views e (fS p j) n m sz
 | .jc e j row l i=> .jc e (fS p j) row l i
 |b=>b
def c6(p:Nat->Bool):Option AB->Option AB
 |some b=>some (ew p b)
 |none=>none
def KS.has(kb:Nat):KS->Nat->Bool
 | .one j,k=>Nat.beq k j
 | .dst d,k=>Nat.beq k (kb+d) || (Nat.ble (ow (kb+d)) k&&Nat.blt k (ow (kb+d)+100))
def dm(kb:Nat):List KS->Nat->Bool
 | [],_=>false
 |x::r,k=>x.has kb k || dm kb r k
def PV(ops:List Oper)(j:Nat):Option Nat:=match ops[j]? with
 |some o=>o.dst
 |none=>none
def qM(ops:List Oper)(i:Nat):Bool:=ops.any fun o=>match o.guard with
 |some (j,_)=>Nat.beq j i
 |none=>false
def Sj(ops:List Oper)(t:Nat->AV)(o:Oper):Option Bool:=match o.guard with
 |none=>some true
 |some (j,want)=>match PV ops j with
  |none=>none
  |some g=>match t g with
   | .tt=>some want
   | .ff=>some (!want)
   | .undef=>some false
   |_=>none
def nA:List Oper->List Nat
 | []=> []
 |o::r=>match o.dst with
  |some d=>d::nA r
  |none=>nA r
def Out.wr(o:Out):List Nat:=o.jq.map (·.1)++(o.del++o.new.map (·.1))
def Out.CH(o:Out):List Nat:=aE o.res++(yJ o.jq++yJ o.new)
def Out.skip:Out:= {cond:= [],res:= .undef}
def sK(a b:List Nat):Bool:=a.all fun k=> !aM b k
structure Ev where
 i:Nat
 o:Oper
 out:Option Out
 kr:List Nat
 pre:List Nat
def Ev.eZ(e:Ev):Out:=match e.out with
 |some out=>out
 |none=> .skip
def ua(st:St)(o:Oper):List Nat:=match o.op with
 | .call _=>behind st.h (aW (o.op.operands.toList.map (ev st)))
 |_=> []
def gK(h:bg):List Nat->List Nat
 | []=> []
 |k::r=>match h k with
  |some (.jc _ (some j) _ _ _)=>j::gK h r
  |_=>gK h r
def sL(E:Env)(h:bg)(o:Oper):List Nat:=match o.dst with
 |some d=>match E.cls d with
  |some k=>k::gK h [k]
  |none=> []
 |none=> []
def nB(E:Env)(st:St)(o:Oper):List Nat:=(match o.dst with
 |some d=>st.kb+d
 |none=>st.kb)::(aW (o.op.operands.toList.map (ev st))++(ua st o++(gK st.h (aW (o.op.operands.toList.map (ev st)))++sL E st.h o)))
def slotsOf:List Operand->List Nat
 | []=> []
 | .tmp i::r=>i::slotsOf r
 |_::r=>slotsOf r
def looks(ops:List Oper)(o:Oper):List Nat:=(match o.guard with
 |some (j,_)=>match PV ops j with
  |some g=> [g]
  |none=> []
 |none=> [])++slotsOf o.op.operands.toList
def waits(f e:Ev):Bool:=aM f.pre e.i
def D5:List Nat->List Nat->List Nat
 | [],b=>b
 |k::r,b=>bif aM b k then D5 r b else D5 r (k::b)
def PW(k:Nat):List Ev->List Nat
 | []=> []
 |e::r=>bif Nat.beq e.i k then e.pre else PW k r
def n0(tr:List Ev):List Edge->List Nat
 | []=> []
 |x::r=>bif Region.binds .any x then D5 (x.on::PW x.on tr) (n0 tr r) else n0 tr r
def J2(l:List Nat):Option Nat->Bool
 |some d=> !aM l d
 |none=>true
def rQ(ops:List Oper)(e f:Ev):Bool:=
 J2 (looks ops f.o) e.o.dst&&J2 (looks ops e.o) f.o.dst&&
 (match e.o.dst,f.o.dst with
   |some d,some d'=> !Nat.beq d d'
   |_,_=>true)&&
 sK e.eZ.wr f.kr&&sK f.eZ.wr e.kr&&sK e.eZ.wr f.eZ.wr&&sK e.eZ.CH (f.eZ.new.map (·.1))&&sK f.eZ.CH (e.eZ.new.map (·.1))
def BP(kb:Nat)(dr:Bool)(ops:List Oper)(tr:List Ev)(f:Ev):Bool:=
 bif dr then(tr.all fun e=>sK e.eZ.CH (f.eZ.new.map (·.1))&&(waits f e || rQ ops e f))&&(f.o.after.toList.all fun x=> !Region.binds .any x || Nat.blt x.on f.i)&&
  (f.eZ.new.all fun x=>dm kb ((nA ops).map .dst) x.1) else true
def J3:AV->AV
 | .bool b=>bif b then .tt else .ff
 |a=>a
def St.lit(st:St)(d:Nat)(a:AV):St:= {st with t:=fun i=>bif Nat.beq i d then a else st.t i,ct:= [],news:= [],G5:= []}
def St.clear(st:St):St:= {st with ct:= [],news:= [],G5:= []}
def vJ(b:Bool)(W:List Nat)(base s1 s2:St):Option St:=
 match s1.G5,s2.G5 with
 | [],[]=>some {base with
     t:=fun i=>bif aM W i then DC b (s1.t i) (s2.t i) else aR (dm base.kb (s1.news++s2.news)) (base.t i)
     h:=fun k=>bif aM (s1.ct++s2.ct) k then DD b (s1.h k) (s2.h k) else c6 (dm base.kb (s1.news++s2.news)) (base.h k)
     ct:=(s1.ct++s2.ct)++base.ct
     news:=base.news++(s1.news++s2.news)}
 |_,_=>none
def IY(b:Bool)(c1 c2:List Prop):List Prop :=match c1,c2 with
 | [],[]=> []
 |_,_=> [(b=true->G7 c1)/\(b=false->G7 c2)]
def both(b:Bool)(W:List Nat)(base:St)(r1 r2:Option (List Prop×St)):Option (List Prop×St):=match r1,r2 with
 |some (c1,s1),some (c2,s2)=>match vJ b W base s1 s2 with
  |some s=>some (IY b c1 c2,s)
  |none=>none
 |_,_=>none
def AD(c:List Prop):Option (List Prop×St)->Option (List Prop×St)
 |some (c',s)=>some (c++c',s)
 |none=>none
def fork(g:Bool)(W:List Nat)(d:Option Nat)(st:St)(next :St->Option (List Prop×St)):Option (List Prop×St):=match d with
 |some d=>bif g then(match st.t d with
  | .bool b=>both b (d::W) st (next (st.lit d .tt)) (next (st.lit d .ff))
  |_=>next st) else next st
 |none=>next st
def yN(E:Env)(dr:Bool)(ops:List Oper):Nat->List Ev->List Oper->St->Option (List Prop×St)
 |_,_,[],st=>some ([],st)
 |i,tr,o::rest,st=>match Sj ops st.t o with
  |none=>none
  |some false=>bif j6 st o&&BP st.kb dr ops tr ⟨i,o,none,nB E st o,n0 tr o.after.toList⟩ then
    yN E dr ops (i+1) (⟨i,o,none,nB E st o,n0 tr o.after.toList⟩::tr) rest (st.put o.dst .skip) else none
  |some true=>match act E st o with
   |none=>none
   |some out=>bif j6 st o&&(kT st.h out.new&&BP st.kb dr ops tr ⟨i,o,some out,nB E st o,n0 tr o.after.toList⟩) then
     AD out.cond (fork (qM ops i) (nA rest) o.dst (st.put o.dst out) (yN E dr ops (i+1) (⟨i,o,some out,nB E st o,n0 tr o.after.toList⟩::tr) rest)) else none
def St.ahead(st:St)(W:List Nat):St:= {st with
 t:=fun i=>aR (dm st.kb (W.map .dst)) (st.t i)
 h:=fun k=>c6 (dm st.kb (W.map .dst)) (st.h k)
 news:=st.news++W.map .dst}
def PX(d:Nat)(o:Oper):Option (TypeId×Int×Operand):=match o.op,o.dst,o.guard with
 | .insert t (.tmp d') (.const (.int .i64 k)) x,none,none=>bif Nat.beq d' d then some (t,k,x) else none
 |_,_,_=>none
def AE(d:Nat):Operand->Bool
 | .tmp i=> !Nat.beq i d
 |_=>true
def dZ(st:St)(t:TypeId)(d:Nat):List Oper->List Int×List AV×List Oper
 | []=>([],[],[])
 |o::r=>match PX d o with
  |some (t',k,x)=>bif Nat.beq t' t&&AE d x&&decide (lo .i64<=k/\k<=hi .i64) then(k::(dZ st t d r).1,ev st x::(dZ st t d r).2.1,(dZ st t d r).2.2) else([],[],o::r)
  |none=>([],[],o::r)
def wX(T:cJ)(st:St):List Oper->Option (Nat×List Int×List AV×List Oper)
 | []=>none
 |o::r=>match o.op,o.dst,o.guard with
  | .makeMap t none,some d,none=>match T.find t with
    |some te=>match te.desc with
     | .map kt _=>bif eH T kt Ct&&kQ (dZ st t d r).1&&Nat.blt d st.n then some (d,dZ st t d r) else none
     |_=>none
    |none=>none
  |_,_,_=>none
def Hk(E:Env)(dr:Bool)(ops:List Oper)(st:St):Option (List Prop×St):=
 bif dr then yN E true ops 0 [] ops (st.ahead (nA ops)) else match wX E.T st ops with
  |some (d,ks,cs,rest)=>yN E false ops (cs.length+1) [] rest (st.put (some d) {cond:= [],res:= .je ks cs})
  |none=>yN E false ops 0 [] ops st
inductive Ex where
 |norm
 |exit (i:Nat)
 |ret
def xY:Code->List Nat
 | .region _ ops _=>nA ops.toList
 | .seq x y=>xY x++xY y
 | .cond _ x y=>xY x++xY y
 | .block _ b=>xY b
 | .loop b=>xY b
 | .scope b=>xY b
 |_=> []
def mL:Code->Bool
 | .skip=>true
 | .region _ _ _=>true
 | .seq x y=>mL x&&mL y
 | .cond _ x y=>mL x&&mL y
 | .block _ b=>mL b
 |_=>false
def ir(E:Env):Code->St->Option (List Prop×St)
 | .skip,st=>some ([],st)
 | .region _ ops d,st=>Hk E d ops.toList st
 | .seq x y,st=>match ir E x st with
   |some (c,cN)=>AD c (ir E y cN)
   |none=>none
 | .cond c x y,st=>match ev st c with
   | .tt=>ir E x st
   | .ff=>ir E y st
   | .bool b=>both b (xY x++xY y) st (ir E x st.clear) (ir E y st.clear)
   |_=>none
 | .block _ b,st=>ir E b st
 |_,_=>none
def PY:List Prop->Prop->Prop
 | [],k=>k
 |p::ps,k=>p/\PY ps k
inductive Loc where
 |slot (i:Nat)
 |cell (k off:Nat)
structure b6 where
 τ:Type
 uY:List (Nat×(τ->AV))
 keys:List (Nat×(τ->AB)):= []
 xZ:List (Loc×Nat):= []
 drop:List Nat:= []
 ay7:List (Nat×(τ->AV)):= []
 inv:τ->Prop
 ag:τ->Nat
def gM {α β:Type}(l:List (Nat×(α->β)))(k:Nat):Option (α->β):=match l with
 | []=>none
 |(j,a)::r=>bif Nat.beq k j then some a else gM r k
def aA8(st:St):Loc->AV
 | .slot i=>st.t i
 | .cell k off=>match st.h k with
   |some (.cells cs)=>cs.getD off .dU
   |_=> .dU
def sources(st:St):List (Loc×Nat)->Option (List (Nat×Option Nat))
 | []=>some []
 |(l,K)::r=>match aA8 st l,sources st r with
  | .own k,some s=>some ((K,some k)::s)
  | .ref k _,some s=>some ((K,some k)::s)
  | .nil,some s=>some ((K,none)::s)
  |_,_=>none
def eM:List (Nat×Option Nat)->List Nat
 | []=> []
 |(_,some k)::r=>k::eM r
 |(_,none)::r=>eM r
def cC(s:List (Nat×Option Nat))(k:Nat):Option (Option Nat):=match s with
 | []=>none
 |(j,a)::r=>bif Nat.beq k j then some a else cC r k
def dj(L:b6)(W:List Nat):List KS:=W.map .dst++(L.xZ.map (fun x=> .one x.2)++L.drop.map .one)
def lL(L:b6)(W:List Nat)(base:St)(x:L.τ):St:=
 {base with
  t:=fun i=>match gM L.uY i with
   |some f=>f x
   |none=>bif aM W i then .dU else aR (dm base.kb (dj L W)) (base.t i)
  h:=fun k=>match gM L.keys k with
   |some f=>some (f x)
   |none=>bif dm base.kb (dj L W) k then none else c6 (dm base.kb (dj L W)) (base.h k)
  ct:= [],news:= [],G5:= []}
def yO(s:List (Nat×Option Nat))(bad:Nat->Bool)(k K:Nat):Bool:=match cC s K with
 |some (some j)=>Nat.beq k j
 |some none=>false
 |none=>Nat.beq k K&& !bad K
mutual
def J4(s:List (Nat×Option Nat))(bad:Nat->Bool):AV->AV->List Prop
 |_, .dU=> []
 | .undef, .undef=> []
 | .int k n, .int k' m=>if k=k' then [n=m] else [False]
 | .tt, .tt=> []
 | .ff, .ff=> []
 | .tt, .bool b=> [true=b]
 | .ff, .bool b=> [false=b]
 | .bool b, .bool c=> [b=c]
 | .str a, .str b=> [a=b]
 | .nil, .nil=> []
 | .lp, .lp=> []
 | .lW, .lW=> []
 | .nil, .sl r l=> [([]:List (Row r))=l]
 | .sl r l, .sl r' l'=>match gu r r' l with
   |some m=> [m=l']
   |none=> [False]
 | .full r l, .sl r' l'=>match gu r r' l with
   |some m=> [m=l']
   |none=> [False]
 | .own k, .own K=>match cC s K with
   |some (some j)=>bif Nat.beq k j then [] else [False]
   |some none=> [False]
   |none=>bif Nat.beq k K&& !(bad K) then [] else [False]
 | .nil, .own K=>match cC s K with
   |some none=> []
   |_=> [False]
 | .ref k o, .ref k' o'=>bif yO s bad k k' then [o=o'] else [False]
 | .agg xs, .agg ys=>yP s bad xs ys
 | .bA xs, .bA ys=>yP s bad xs ys
 | .fn f xs us, .fn f' ys vs=>if f=f' then yP s bad xs ys++yP s bad us vs else [False]
 | .je ks xs, .je ks' ys=>if ks=ks' then yP s bad xs ys else [False]
 |_,_=> [False]
def yP(s:List (Nat×Option Nat))(bad:Nat->Bool):List AV->List AV->List Prop
 | [],[]=> []
 |x::xs,y::ys=>J4 s bad x y++yP s bad xs ys
 |_,_=> [False]
end
def Nq(s:List (Nat×Option Nat))(bad:Nat->Bool):Option AB->AB->List Prop
 |some (.cells xs), .cells ys=>yP s bad xs ys
 |some (.row e r l fr), .row e' r' l' FF=>match gu r r' l with
  |some m=>bif Nat.beq e e'&&(fr==FF) then [m=l'] else [False]
  |none=> [False]
 |some (.arr r l), .arr r' l'=>match gu r r' l with
  |some m=> [m=l']
  |none=> [False]
 |some (.jc e (some j) r l i), .jc e' (some j') r' l' i'=>match gu r r' l with
  |some m=>bif Nat.beq e e'&&yO s bad j j' then [m=l',i=i'] else [False]
  |none=> [False]
 |some (.row e r l false), .views e' _ n m _=>bif Nat.beq e e'&&Nat.beq r.length 1 then [l.length=n,m=0] else [False]
 |some (.views e (some j) n m sz), .views e' (some j') n' m' sz'=>bif Nat.beq e e'&&yO s bad j j' then [n=n',m=m',sz=sz'] else [False]
 |_,_=> [False]
def IZ {τ:Type}(s:List (Nat×Option Nat))(bad:Nat->Bool)(st:St)(x:τ):List (Nat×(τ->AV))->List Prop
 | []=> []
 |(i,f)::r=>J4 s bad (st.t i) (f x)++IZ s bad st x r
def PZ {τ:Type}(s:List (Nat×Option Nat))(bad:Nat->Bool)(st:St)(x:τ):List (Nat×(τ->AB))->List Prop
 | []=> []
 |(K,f)::r=>(match cC s K with
  |some (some k)=>Nq s bad (st.h k) (f x)
  |some none=>match f x with
   | .row _ _ l false=> [[]=l]
   |_=> [False]
  |none=>bif bad K then [False] else Nq s bad (st.h K) (f x))++PZ s bad st x r
def AF(L:b6)(W:List Nat)(base st:St)(s:List (Nat×Option Nat)):Bool:=
 jV (L.xZ.map (·.2))&&jV (eM s)&&
 (L.xZ.all fun x=> !(rK x.2))&&
 (L.uY.all fun x=>aM W x.1)&&
 (L.xZ.all fun x=>(gM L.keys x.2).isSome)&&
 (L.keys.all fun x=>(cC s x.1).isSome || !(dm base.kb (dj L W) x.1))&&
 ((eM s).all fun k=>dm base.kb (dj L W) k)&&
 (st.ct.all fun k=>(gM L.keys k).isSome || dm base.kb (dj L W) k)
def I0(L:b6)(W:List Nat)(base:St)(news:List KS):Bool:=
 news.all fun x=>match x with
  | .one k=>dm base.kb (dj L W) k
  | .dst d=>aM W d
def aBa(st:St):AV->AV
 | .own k=>match st.h k with
   |some (.row _ r l _)=> .sl r l
   |_=> .undef
 |v=>v
def ahQ {τ:Type}(st:St)(x:τ):List (Nat×(τ->AV))->List Prop
 | []=> []
 |(i,f)::r=>J4 [] (fun _=>true) (aBa st (st.t i)) (f x)++ahQ st x r
def b6.tied(L:b6)(st:St):b6:=match L.ay7 with
 | []=>L
 |t::ts=> {L with inv:=fun x=>L.inv x/\G7 (ahQ st x (t::ts)),ay7:= []}
def Sk(id:Nat)(K:Ex->St->Prop)(e:Ex)(st:St):Prop :=match e with
 | .exit j=>bif Nat.beq j id then K .norm st else K (.exit j) st
 |e=>K e st
def AG(L:b6)(W:List Nat)(base st:St)(s:List (Nat×Option Nat))(x:L.τ):List Prop :=
 IZ s (dm base.kb (dj L W)) st x L.uY++PZ s (dm base.kb (dj L W)) st x L.keys
def D6(L:b6)(W:List Nat)(base st:St)(P:L.τ->Prop):Prop :=match sources st L.xZ with
 |none=>False
 |some s=>bif AF L W base st s then ∃x,G7 (AG L W base st s x)/\P x else False
def St.back(L:b6)(W:List Nat)(base st:St):St:=
 {st with ct:=st.ct++(L.keys.map (·.1)++base.ct),news:=base.news++(dj L W++st.news)}
def Sl(L:b6)(W:List Nat)(base:St)(x:L.τ)(K:Ex->St->Prop)(e:Ex)(st:St):Prop :=match e with
 | .norm=>bif I0 L W base st.news then D6 L W base st fun x'=>L.inv x'/\L.ag x'<L.ag x else False
 |e=>K e (St.back L W base st)
def ZV(L:b6)(W:List Nat)(K:Ex->St->Prop)(body:(Ex->St->Prop)->St->Prop)(st:St):Prop :=
 D6 L W st st.clear L.inv/\∀x,L.inv x->body (Sl L W st x K) (lL L W st x)
def aBb(E:Ex->St->Prop)(next :St->Prop)(e:Ex)(st:St):Prop :=match e with
 | .norm=>next st
 |e=>E e st
def ZW(E:Env):Operand->Bool
 | .tmp i=>E.UY i
 |_=>false
def ay8(E:Env)(c:Operand)(x y:Code)(st:St):Option (List Prop×St):=
 bif !ZW E c&&(mL x&&mL y) then ir E (.cond c x y) st else none
def apX:Op->Bool
 | .lookup _ _ _ _=>true
 |_=>false
def ahR(E:Env):List Oper->St->Option (Int×List Int)
 | [],_=>none
 |o::r,st=>match o.op with
  | .lookup _ m x _=>match ev st m,ev st x with
    | .je ks _, .int .i64 n=>some (n,ks)
    |_,_=>none
  |_=>match act E st o with
   |some out=>ahR E r (st.put o.dst out)
   |none=>none
def apY(E:Env)(st:St)(ops:List Oper):Option (Int×List Int):=
 bif ops.any fun o=>apX o.op then ahR E ops st else none
def P0(E:Env)(K:Ex->St->Prop)(st:St)(ops:List Oper)(d:Bool):Prop :=match Hk E d ops st with
 |some (c,cN)=>PY c (K .norm cN)
 |none=>False
def I1(n:Int)(ks:List Int)(f:Nat->Prop):Nat->List Int->Prop
 |i,[]=>wJ n ks->f i
 |i,k::r=>(n=k->f i)/\I1 n ks f (i+1) r
def ru(E:Env)(L:Nat->Option b6):Code->(Ex->St->Prop)->St->Prop
 | .skip,K,st=>K .norm st
 | .region _ ops d,K,st=>match apY E st ops.toList with
   |some (n,ks)=>I1 n ks (fun i=>P0 {E with Na:=i} K st ops.toList d) 0 ks
   |none=>P0 E K st ops.toList d
 | .seq x y,K,st=>ru E L x (aBb K (ru E L y K)) st
 | .cond c x y,K,st=>match ay8 E c x y st with
   |some (cs,cN)=>PY cs (K .norm cN)
   |none=>match ev st c with
    | .tt=>ru E L x K st
    | .ff=>ru E L y K st
    | .bool b=>(b=true->ru E L x K st)/\(b=false->ru E L y K st)
    | .rD _ l=>(l= []->ru E L x K st)/\ru E L y K st
    |_=>False
 | .block id (.loop b),K,st=>match L id with
   |some A=>ZV (A.tied st) (xY b) (Sk id K) (ru E L b) st
   |none=>False
 | .block id b,K,st=>ru E L b (Sk id K) st
 | .exit i,K,st=>K (.exit i) st
 | .ret,K,st=>K .ret st
 | .scope c,K,st=>ru E L c K st
 | .label _,K,st=>K .norm st
 |_,_,_=>False
def St.init(G:Nat->Option GD)(n:Nat)(cZ:List AV):St:= {t:=fun i=>cZ.getD i .undef,h:=fun _=>none,ct:= [],news:= [],G5:= [],n:=n,kb:=0,g:=G}
def mM(T:cJ)(st:St):List ResultVar->Option (List AV)
 | []=>some []
 | .tmp t::r=>match mM T st r with
   |some l=>some (st.t t::l)
   |none=>none
 | .cell a ty::r=>match st.t a with
   | .ref k off=>match qH T st.h ty (.ref k off),mM T st r with
     |some out,some l=>some (out.res::l)
     |_,_=>none
   |_=>none
def gN:List AV->AV
 | [a]=>a
 |aK=> .bA aK
def ub {α:Type}(sz n:Nat)(l:List α):List (List α):=(List.range n).map fun i=>(l.drop (i*sz)).take sz
def CI(h:bg)(r:List Ty)(l:List (Row r))(k:Nat):List Prop×List Nat:=match h k with
 |some (.views _ (some j) n m sz)=>match h j with
  |some (.row _ ZX bytes _)=>bif Nat.beq ZX.length 1 then(match gu [.slice ZX] r (ub sz n bytes) with
   |some g=>([m=n,g=l],[k,j])
   |none=>([False],[])) else([False],[])
  |_=>([False],[])
 |_=>(J4 [] (fun _=>true) (iF h (.own k)).1 (.sl r l),(iF h (.own k)).2)
mutual
def I2:AV->AV->List (Nat×Option Nat)
 | .own i, .own k=> [(i,some k)]
 | .own i, .nil=> [(i,none)]
 | .ref i _, .ref k _=> [(i,some k)]
 | .fn _ xs us, .fn _ ys vs=>sM xs ys++sM us vs
 | .agg xs, .agg ys=>sM xs ys
 | .bA xs, .bA ys=>sM xs ys
 |_,_=> []
def sM:List AV->List AV->List (Nat×Option Nat)
 |x::xs,y::ys=>I2 x y++sM xs ys
 |_,_=> []
end
mutual
def yQ(h:bg)(s:List (Nat×Option Nat)):AV->AV->List Prop×List Nat
 | .own i, .own k=>(match cC s i with
   |some (some j)=>bif Nat.beq k j then [] else [False]
   |_=> [False],[])
 | .own i, .nil=>(match cC s i with
   |some none=> []
   |_=> [False],[])
 | .sl r l, .own k=>CI h r l k
 | .agg xs, .agg ys=>sN h s xs ys
 | .bA xs, .bA ys=>sN h s xs ys
 |x,y=>(J4 [] (fun _=>true) (iF h y).1 x,(iF h y).2)
def sN(h:bg)(s:List (Nat×Option Nat)):List AV->List AV->List Prop×List Nat
 | [],[]=>([],[])
 |x::xs,y::ys=>((yQ h s x y).1++(sN h s xs ys).1,(yQ h s x y).2++(sN h s xs ys).2)
 |_,_=>([False],[])
end
def J5(h:bg)(s:List (Nat×Option Nat)):Nat->List AB->List Prop
 |_,[]=> []
 |i,b::bs=>(match cC s i with
  |some (some k)=>Nq s (fun _=>true) (h k) b
  |some none=>match b with
   | .row _ _ l false=> [[]=l]
   |_=> [False]
  |none=> [False])++J5 h s (i+1) bs
def J6(h:bg)(s:List (Nat×Option Nat)):Nat->List AB->List (Nat×Option Nat)
 |_,[]=> []
 |i, .views _ (some j) _ _ _::bs=>(match cC s i with
  |some (some k)=>match h k with
   |some (.views _ (some j') _ _ _)=> [(j,some j')]
   |_=> []
  |_=> [])++J6 h s (i+1) bs
 |i,_::bs=>J6 h s (i+1) bs
def rR(h:bg)(want r:AV)(bs:List AB):List (Nat×Option Nat):=I2 want r++J6 h (I2 want r) 0 bs
def Sm(T:cJ)(st:St)(rs:List ResultVar)(want:AV)(bs:List AB):Prop :=match mM T st rs with
 |none=>False
 |some aK=>bif jV (eM (rR st.h want (gN aK) bs))&&((yQ st.h (rR st.h want (gN aK) bs) want (gN aK)).2.all fun k=> !aM (eM (rR st.h want (gN aK) bs)) k)&&iq bs.length bs then
   G7 ((yQ st.h (rR st.h want (gN aK) bs) want (gN aK)).1++J5 st.h (rR st.h want (gN aK) bs) 0 bs) else False
def aBc(T:cJ)(rs:List ResultVar)(want:AV)(bs:List AB)(e:Ex)(st:St):Prop :=match e with
 | .norm=>Sm T st rs want bs
 | .ret=>Sm T st rs want bs
 |_=>False
def J7(E:Env)(L:Nat->Option b6)(c:Code)(n:Nat)(rs:List ResultVar)(cZ:List AV)(want:AV)(bs:List AB):Prop :=
 bif Nat.ble cZ.length n then ru E L c (aBc E.T rs want bs) (St.init E.lq n cZ) else False
end Go.Vg

end
section
namespace Go.Vg
open Go
section
variable {P:Program} {C:Ctx} {A:Nat->Prop} {β:Nat->Value} {w:World}
mutual
theorem qv(p:Nat->Bool) {aS:Nat->Value}(cY:∀k,p k=false->aS k=β k):∀(a:AV) (v:Value),af w A β v a->af w A aS v (aR p a)
 | .dU,_,hr=>by simp [aR,af]
 | .undef,_,hr=>by simpa only [aR,af] using hr
 | .int _ _,_,hr=>by simpa only [aR,af] using hr
 | .bool _,_,hr=>by simpa only [aR,af] using hr
 | .tt,_,hr=>by simpa only [aR,af] using hr
 | .ff,_,hr=>by simpa only [aR,af] using hr
 | .str _,_,hr=>by simpa only [aR,af] using hr
 | .nil,_,hr=>by simpa only [aR,af] using hr
 | .lp,_,hr=>by simpa only [aR,af] using hr
 | .rD _ _,_,hr=>by simpa only [aR,af] using hr
 | .lW,_,hr=>by simpa only [aR,af] using hr
 | .sl _ _,_,hr=>by simpa only [aR,af] using hr
 | .full _ _,_,hr=>by simpa only [aR,af] using hr
 | .iM _ _ _,_,hr=>by simpa only [aR,af] using hr
 | .sq _ _,_,hr=>by simpa only [aR,af] using hr
 | .own k,v,hr=>by
   simp only [aR];cases hk:p k with
   |true=>simp [af]
   |false=>simp only [Q!];simpa only [af,cY k hk] using hr
 | .pre k n,v,hr=>by
   simp only [aR];cases hk:p k with
   |true=>simp [af]
   |false=>simp only [Q!];simpa only [af,cY k hk] using hr
 | .view k sz off n,v,hr=>by
   simp only [aR];cases hk:p k with
   |true=>simp [af]
   |false=>simp only [Q!];simpa only [af,cY k hk] using hr
 | .ref k off,v,hr=>by
   simp only [aR];cases hk:p k with
   |true=>simp [af]
   |false=>simp only [Q!];simpa only [af,cY k hk] using hr
 | .elem k sz i j,v,hr=>by
   simp only [aR];cases hk:p k with
   |true=>simp [af]
   |false=>simp only [Q!];simpa only [af,cY k hk] using hr
 | .agg cs,v,hr=>by
   simp only [aR,af] at hr |-;obtain⟨arr,h1,h2⟩:=hr;exact⟨arr,h1,gO p cY cs _ h2⟩
 | .je ks cs,v,hr=>by
   simp only [aR,af] at hr |-;obtain⟨b,es,ck,h1,h2,h3,h4,h5⟩:=hr;exact⟨b,es,ck,h1,h2,h3,h4,gO p cY cs _ h5⟩
 | .bA cs,v,hr=>by
   simp only [aR,af] at hr |-;obtain⟨arr,h1,h2⟩:=hr;exact⟨arr,h1,gO p cY cs _ h2⟩
 | .fn f first bH,v,hr=>by
   simp only [aR,af] at hr |-;obtain⟨a1,a2,h1,h2,h3⟩:=hr;exact⟨a1,a2,h1,gO p cY first _ h2,gO p cY bH _ h3⟩
theorem gO(p:Nat->Bool) {aS:Nat->Value}(cY:∀k,p k=false->aS k=β k):∀(aK:List AV) (vs:List Value),ak w A β vs aK->ak w A aS vs (fF p aK)
 | [],_,hr=>by simpa only [fF,ak] using hr
 |a::aK,vs,hr=>by
  simp only [fF,ak] at hr |-;obtain⟨v,cK,h1,h2,h3⟩:=hr;exact⟨v,cK,h1,qv p cY a v h2,gO p cY aK cK h3⟩
end
theorem CJ(p:Nat->Bool) {k:Nat} {ab:AB}(h:BR w A β k ab):BR w A β k (ew p ab):=by
 cases ab with
 |cells cs=>
  obtain⟨b,arr,e,h1,h2,h3,h4,h5⟩:=h;exact⟨b,arr,e,h1,h2,h3,gO p (fun _ _=>rfl) _ _ h4,h5⟩
 |row e row l fr=>exact h
 |arr row l=>exact h
 |jc e j row l i=>
  obtain⟨xs,v0,h1,h2,h3,h4⟩:=h;refine⟨xs,v0,h1,h2,h3,fun j' lU=> ?_⟩;cases j with
  |none=>simp [fS] at lU
  |some j0=>
   simp only [fS] at lU;cases hp:p j0 with
   |true=>rw [hp] at lU;simp at lU
   |false=>
    rw [hp] at lU;exact h4 j' lU
 |views e j n m sz=>
  obtain⟨xs,h1,h2,h3⟩:=h;refine⟨xs,h1,h2,fun j' lU i hi=> ?_⟩;cases j with
  |none=>simp [fS] at lU
  |some j0=>
   simp only [fS] at lU;cases hp:p j0 with
   |true=>rw [hp] at lU;simp at lU
   |false=>
    rw [hp] at lU;exact h3 j' lU i hi
mutual
theorem fl(p q:Nat->Bool):∀a,aR q (aR p a)=aR (fun k=>p k || q k) a
 | .own k=>by cases hk:p k<;>simp [aR,hk]
 | .pre k _=>by cases hk:p k<;>simp [aR,hk]
 | .view k _ _ _=>by cases hk:p k<;>simp [aR,hk]
 | .ref k _=>by cases hk:p k<;>simp [aR,hk]
 | .elem k _ _ _=>by cases hk:p k<;>simp [aR,hk]
 | .agg cs=>by simp [aR,fG p q cs]
 | .bA cs=>by simp [aR,fG p q cs]
 | .je _ cs=>by simp [aR,fG p q cs]
 | .fn f first bH=>by simp [aR,fG p q first,fG p q bH]
 | .dU| .undef| .int _ _| .bool _| .tt| .ff| .str _| .nil| .lp| .rD _ _| .lW| .sl _ _| .full _ _| .iM _ _ _| .sq _ _=>by simp [aR]
theorem fG(p q:Nat->Bool):∀aK,fF q (fF p aK)=fF (fun k=>p k || q k) aK
 | []=>rfl
 |a::aK=>by simp [fF,fl p q a,fG p q aK]
end
theorem pW(p q:Nat->Bool)(j:Option Nat):fS q (fS p j)=fS (fun k=>p k || q k) j:=by
 cases j with
 |none=>rfl
 |some k=>cases hp:p k<;>simp [fS,hp]
theorem iK(p q:Nat->Bool)(b:AB):ew q (ew p b)=ew (fun k=>p k || q k) b:=by
 cases b<;>simp [ew,fG,pW]
theorem j7(p q:Nat->Bool)(b:Option AB):c6 q (c6 p b)=c6 (fun k=>p k || q k) b:=by
 cases b<;>simp [c6,iK]
mutual
theorem N3(d:Nat):∀a,eI d a=aR (fun k=>Nat.beq k d) a
 | .own k=>rfl
 | .pre k _=>rfl
 | .view k _ _ _=>rfl
 | .ref k _=>rfl
 | .elem k _ _ _=>rfl
 | .agg cs=>by simp [eI,aR,oa d cs]
 | .bA cs=>by simp [eI,aR,oa d cs]
 | .je _ cs=>by simp [eI,aR,oa d cs]
 | .fn f first bH=>by simp [eI,aR,oa d first,oa d bH]
 | .dU| .undef| .int _ _| .bool _| .tt| .ff| .str _| .nil| .lp| .rD _ _| .lW| .sl _ _| .full _ _| .iM _ _ _| .sq _ _=>by simp [eI,aR]
theorem oa(d:Nat):∀aK,gz d aK=fF (fun k=>Nat.beq k d) aK
 | []=>rfl
 |a::aK=>by simp [gz,fF,N3 d a,oa d aK]
end
mutual
theorem rS:∀a,aR (fun _=>false) a=a
 | .own k=>rfl
 | .pre k _=>rfl
 | .view k _ _ _=>rfl
 | .ref k _=>rfl
 | .elem k _ _ _=>rfl
 | .agg cs=>by simp [aR,jH cs]
 | .bA cs=>by simp [aR,jH cs]
 | .je _ cs=>by simp [aR,jH cs]
 | .fn f first bH=>by simp [aR,jH first,jH bH]
 | .dU| .undef| .int _ _| .bool _| .tt| .ff| .str _| .nil| .lp| .rD _ _| .lW| .sl _ _| .full _ _| .iM _ _ _| .sq _ _=>by simp [aR]
theorem jH:∀aK,fF (fun _=>false) aK=aK
 | []=>rfl
 |a::aK=>by simp [fF,rS a,jH aK]
end
theorem Nr(j:Option Nat):fS (fun _=>false) j=j:=by cases j<;>rfl
theorem BQ(b:AB):ew (fun _=>false) b=b:=by cases b<;>simp [ew,jH,Nr]
theorem BS(b:Option AB):c6 (fun _=>false) b=b:=by cases b<;>simp [c6,BQ]
def iw:List (Nat×AB)->Nat->Bool
 | [],_=>false
 |(j,_)::r,k=>Nat.beq k j || iw r k
theorem sO:∀(new:List (Nat×AB)) (a:AV),qo new a=aR (iw new) a
 | [],a=>by
   have :iw []=fun _=>false :=rfl;rw [this,rS];rfl
 |(j,b)::r,a=>by
  simp only [qo];rw [sO r,N3,fl];rfl
theorem yR(new:List (Nat×AB))(b:AB):dF new b=ew (iw new) b:=by
 induction new generalizing b with
 |nil=>
  have :iw []=fun _=>false :=rfl;rw [this,BQ];rfl
 |cons x r ih=>
  obtain⟨k0,y⟩:=x;simp only [dF];rw [ih];cases b with
  |cells cs=>simp only [qn,oa,ew,fG];rfl
  |row _ _ _ _=>rfl
  |arr _ _=>rfl
  |views e j n m sz=>
   have :wG k0 j=fS (fun k=>Nat.beq k k0) j:=by cases j<;>rfl
   simp only [qn,this,ew,pW];rfl
  |jc e j row l i=>
   have :wG k0 j=fS (fun k=>Nat.beq k k0) j:=by cases j<;>rfl
   simp only [qn,this,ew,pW];rfl
theorem wY:∀(new:List (Nat×AB)) (k:Nat),iw new k=(ay new k).isSome
 | [],_=>rfl
 |(j,b)::r,k=>by
  simp only [iw,ay,wY r k];cases Nat.beq k j<;>simp
structure gj (W:List Nat) (base s:St):Prop where
 uc:∃p,(∀k,p k=true->dm base.kb s.news k=true)/\(∀i,aM W i=false->s.t i=aR p (base.t i))/\
  ∀k,aM s.ct k=false->s.h k=c6 p (base.h k)
 n:s.n=base.n
 kb:s.kb=base.kb
 ct:∀k,aM base.ct k=true->aM s.ct k=true
 news:∀k,dm base.kb base.news k=true->dm base.kb s.news k=true
 g:s.g=base.g
theorem dO:∀(a b:List Nat) (k:Nat),aM (a++b) k=(aM a k || aM b k)
 | [],_,_=>rfl
 |j::a,b,k=>by simp only [g?,aM,dO a b k,Bool.or_assoc]
theorem ej(kb:Nat):∀(a b:List KS) (k:Nat),dm kb (a++b) k=(dm kb a k || dm kb b k)
 | [],_,_=>rfl
 |j::a,b,k=>by simp only [g?,dm,ej kb a b k,Bool.or_assoc]
theorem gj.refl(W:List Nat)(s:St):gj W s s:=
 ⟨⟨fun _=>false,z!,fun i _=>(rS _).symm,fun k _=>(BS _).symm⟩,rfl,rfl,fun _ h=>h,fun _ h=>h,rfl⟩
theorem gj.trans {W W':List Nat} {s0 s1 s2:St}(h1:gj W s0 s1)(h2:gj W' s1 s2):gj (W++W') s0 s2:=by
 obtain⟨p,a1,a2,a3⟩:=h1.uc;obtain⟨q,b1,b2,b3⟩:=h2.uc;refine⟨⟨fun k=>p k || q k,fun k hk=> ?_,fun i hi=> ?_,fun k hk=> ?_⟩,h2.n.trans h1.n,h2.kb.trans h1.kb,fun k h=>h2.ct k (h1.ct k h),fun k h=> ?_,h2.g.trans h1.g⟩
 . rcases X? _ _ |>.mp hk with h|h
   . have :=h2.news k (by rw [h1.kb];exact a1 k h);rwa [h1.kb] at this
   . have :=b1 k h;rwa [h1.kb] at this
 . rw [dO,U?] at hi;rw [b2 i hi.2,a2 i hi.1,fl]
 . have RX:aM s1.ct k=false :=by
    cases h:aM s1.ct k with
    |false=>rfl
    |true=>rw [h2.ct k h] at hk;cases hk
   rw [b3 k hk,a3 k RX,j7]
 . have :=h2.news k (by rw [h1.kb];exact h1.news k h);rwa [h1.kb] at this
theorem gj.mono {W W':List Nat} {s0 s1:St}(h:gj W s0 s1)(hw:∀i,aM W' i=false->aM W i=false):gj W' s0 s1:=by
 obtain⟨p,a1,a2,a3⟩:=h.uc;exact⟨⟨p,a1,fun i hi=>a2 i (hw i hi),a3⟩,h.n,h.kb,h.ct,h.news,h.g⟩
theorem N4(kb:Nat):∀(new:List (Nat×AB)) (k:Nat),dm kb (new.map fun x=>KS.one x.1) k=iw new k
 | [],_=>rfl
 |(j,b)::r,k=>by simp only [V?,dm,iw,KS.has,N4 kb r k]
theorem iP:∀(l:List (Nat×AB)) (k:Nat),aM (l.map (·.1)) k=false->ay l k=none
 | [],_,_=>rfl
 |(j,b)::r,k,h=>by
  simp only [V?,aM,U?] at h;simp only [ay,h.1,Q!];exact iP r k h.2
theorem gj.put(st:St)(d:Option Nat)(out:Out)(W:List Nat)(hd:∀t,d=some t->aM W t=true):gj W st (st.put d out):=by
 refine⟨⟨iw out.new,fun k hk=> ?_,fun i hi=> ?_,fun k hk=> ?_⟩,rfl,rfl,fun k hk=> ?_,fun k hk=> ?_,rfl⟩
 . show dm st.kb (st.news++_) k=true;rw [ej,N4,hk];simp
 . cases d with
   |none=>exact sO _ _
   |some t=>
    show(bif Nat.beq i t then out.res else qo out.new (st.t i))=_;have :Nat.beq i t=false :=bh (fun h=>by subst h;rw [hd i rfl] at hi;cases hi);rw [this];exact sO _ _
 . have gg:aM (out.jq.map (·.1)) k=false/\aM out.del k=false/\aM (out.new.map (·.1)) k=false :=by
    simp only [St.put,dO,U?] at hk;exact⟨hk.1,hk.2.1,hk.2.2.1⟩
   show Jy st.h out k=_;simp only [Jy,iP _ _ gg.2.2,gg.2.1,Q!,iP _ _ gg.1];cases st.h k with
   |none=>rfl
   |some b=>simp only [c6,yR]
 . simp only [St.put,dO,hk,u?]
 . show dm st.kb (st.news++_) k=true;rw [ej,hk];rfl
theorem Sn(b:Bool) {k:Nat} {x y:Option AB} {ab:AB}(h:DD b x y=some ab):(if b then x else y).isSome/\
  ∀c,(if b then x else y)=some c->BR w A β k c->BR w A β k ab:=by
 unfold DD at h;split at h
 . rename_i xs ys;cases hl:Nat.beq xs.length ys.length with
   |false=>simp [hl] at h
   |true=>
    simp only [hl,L!,A!] at h;subst h;refine⟨by cases b<;>rfl,fun c hc hr=> ?_⟩;have rq:c= .cells (if b then xs else ys):=by cases b<;>simp_all
    subst rq;obtain⟨g,arr,e,h1,h2,h3,h4,h5⟩:=hr;refine⟨g,arr,e,h1,h2,h3,jE b xs ys _ (D! hl) ?_,h5⟩;cases b<;>simpa using h4
 . rename_i e r l fr e' r' m FF;split at h
   . rename_i m' hm;cases hq:(Nat.beq e e'&&(fr==FF)) with
     |false=>simp [hq] at h
     |true=>
      simp only [hq,cond_true,Option.some.injEq] at h;subst h;simp only [Bool.and_eq_true,beq_iff_eq] at hq;have he:=Nat.eq_of_beq_eq_true hq.1;have hf:=hq.2;subst he;subst hf;unfold gu at hm;split at hm
      . rename_i hr;have hrr:=Ty.lX _ _ hr;subst hrr;simp only [A!] at hm;subst hm;refine⟨by cases b<;>rfl,fun c hc hr=> ?_⟩;cases b<;>(simp at hc;subst hc;exact hr)
      . cases hm
   . cases h
 . cases h
theorem aJ.merge {b:Bool} {W:List Nat} {base b1 b2 s1 s2 m:St} {a:Act}(hm:vJ b W base s1 s2=some m)
  (f1:gj W b1 s1) (e1:∀i,aM W i=false->b1.t i=base.t i) (g1:b1.h=base.h) (n1:b1.n=base.n) (k1:b1.kb=base.kb)
  (f2:gj W b2 s2) (e2:∀i,aM W i=false->b2.t i=base.t i) (g2:b2.h=base.h) (n2:b2.n=base.n) (k2:b2.kb=base.kb) (hB:aJ C A β (if b then s1 else s2) a w) (y1:b1.g=base.g:=by rfl) (y2:b2.g=base.g:=by rfl):aJ C A β m a w:=by
 unfold vJ at hm;split at hm
 . simp only [A!] at hm;subst hm
   have ht:∀i,aM W i=false->∀v,af w A β v ((if b then s1 else s2).t i)->af w A β v (aR (dm base.kb (s1.news++s2.news)) (base.t i)):=by
    intro i hi v h;have h':=qv (aS:=β) (dm base.kb (s1.news++s2.news)) (fun _ _=>rfl) _ _ h;obtain⟨p1,a1,a2,_⟩:=f1.uc;obtain⟨p2,c1,c2,_⟩:=f2.uc;cases b with
    |true=>
     simp only [K?,a2 i hi,e1 i hi,fl] at h'
     have :(fun k=>p1 k || dm base.kb (s1.news++s2.news) k)=dm base.kb (s1.news++s2.news):=by
      funext k;cases hp:p1 k with
      |false=>rfl
      |true=>rw [ej,<-k1,a1 k hp];rfl
     rwa [this] at h'
    |false=>
     simp only [H?,h?,c2 i hi,e2 i hi,fl] at h'
     have :(fun k=>p2 k || dm base.kb (s1.news++s2.news) k)=dm base.kb (s1.news++s2.news):=by
      funext k;cases hp:p2 k with
      |false=>rfl
      |true=>rw [ej,<-k2,c1 k hp];simp
     rwa [this] at h'
   have hh:∀k,aM (s1.ct++s2.ct) k=false->∀ab,c6 (dm base.kb (s1.news++s2.news)) (base.h k)=some ab->∃c,(if b then s1 else s2).h k=some c/\(BR w A β k c->BR w A β k ab):=by
    intro k hk ab h;rw [dO,U?] at hk;obtain⟨p1,a1,_,a3⟩:=f1.uc;obtain⟨p2,c1,_,c3⟩:=f2.uc;cases hb:base.h k with
    |none=>rw [hb] at h;simp [c6] at h
    |some x=>
     rw [hb] at h;simp only [c6,A!] at h;subst h;cases b with
     |true=>
      refine⟨ew p1 x,by simp only [K?,a3 k hk.1,g1,hb,c6],fun hr=> ?_⟩;have h':=CJ (dm base.kb (s1.news++s2.news)) hr;rw [iK] at h'
      have :(fun k=>p1 k || dm base.kb (s1.news++s2.news) k)=dm base.kb (s1.news++s2.news):=by
       funext k;cases hp:p1 k with
       |false=>rfl
       |true=>rw [ej,<-k1,a1 k hp];rfl
      rwa [this] at h'
     |false=>
      refine⟨ew p2 x,by simp only [H?,h?,c3 k hk.2,g2,hb,c6],fun hr=> ?_⟩;have h':=CJ (dm base.kb (s1.news++s2.news)) hr;rw [iK] at h'
      have :(fun k=>p2 k || dm base.kb (s1.news++s2.news) k)=dm base.kb (s1.news++s2.news):=by
       funext k;cases hp:p2 k with
       |false=>rfl
       |true=>rw [ej,<-k2,c1 k hp];simp
      rwa [this] at h'
   have hl:∀k ab,(bif aM (s1.ct++s2.ct) k then DD b (s1.h k) (s2.h k) else c6 (dm base.kb (s1.news++s2.news)) (base.h k))=some ab->
     ∃c,(if b then s1 else s2).h k=some c/\(BR w A β k c->BR w A β k ab):=by
    intro k ab h;cases hd:aM (s1.ct++s2.ct) k with
    |false=>rw [hd] at h;exact hh k hd ab h
    |true=>
     rw [hd] at h;simp only [L!] at h;obtain⟨x1,x2⟩:=Sn (w:=w) (A:=A) (β:=β) (k:=k) b h;obtain⟨c,hc⟩:=T!.1 x1;refine⟨c,by cases b<;>simpa using hc,x2 c hc⟩
   have gJ:∀k,(bif aM (s1.ct++s2.ct) k then DD b (s1.h k) (s2.h k) else c6 (dm base.kb (s1.news++s2.news)) (base.h k)).isSome->((if b then s1 else s2).h k).isSome:=by
    intro k hk;obtain⟨ab,mE⟩:=T!.1 hk;obtain⟨c,hc,_⟩:=hl k ab mE;simp [hc]
   refine⟨hB.defers,?_,?_,?_,fun k k' b' h1 h2=>hB.apart k k' b' (gJ k h1) (gJ k' h2),hB.bound,hB.frame,hB.nh,hB.base,fun k b' h1=>hB.qI k b' (gJ k h1),fun i d hd=>hB.uO i d (by
    cases b
    . exact(congrFun (f2.g.trans y2) i).trans hd
    . exact(congrFun (f1.g.trans y1) i).trans hd),hB.laid,hB.held⟩
   . rw [hB.size];cases b
     . exact f2.n.trans n2
     . exact f1.n.trans n1
   . intro i;have hi:=hB.tmps i;show af w A β _ (bif aM W i then DC b (s1.t i) (s2.t i) else _);cases hW:aM W i with
     |false=>exact ht i hW _ hi
     |true=>
      refine BF b _ _ ?_;cases b<;>simpa using hi
   . intro k ab mE;obtain⟨c,hc,hr⟩:=hl k ab mE;exact hr (hB.blocks k c hc)
 . cases hm
theorem gj.merge {b:Bool} {W:List Nat} {base s1 s2 m:St}(hm:vJ b W base s1 s2=some m):gj W base m:=by
 unfold vJ at hm;split at hm
 . simp only [A!] at hm;subst hm;refine⟨⟨dm base.kb (s1.news++s2.news),fun k hk=> ?_,fun i hi=> ?_,fun k hk=> ?_⟩,rfl,rfl,fun k hk=> ?_,fun k hk=> ?_,rfl⟩
   . simp only [ej] at hk |-;simp [hk]
   . simp only [hi,Q!]
   . simp only [dO,U?] at hk;simp only [dO,hk.1.1,hk.1.2,Bool.or_self,Q!]
   . simp only [dO,hk,u?]
   . simp only [ej,hk,Bool.true_or]
 . cases hm
end
end Go.Vg

end
section
namespace Go.Vg
open Go
def j8(s r:St):Prop :=s.t=r.t/\s.h=r.h/\s.n=r.n/\s.kb=r.kb/\s.g=r.g
theorem j8.refl(s:St):j8 s s:=⟨rfl,rfl,rfl,rfl,rfl⟩
theorem j8.symm {s r:St}(h:j8 s r):j8 r s:=⟨h.1.symm,h.2.1.symm,h.2.2.1.symm,h.2.2.2.1.symm,h.2.2.2.2.symm⟩
theorem j8.trans {s r q:St}(h:j8 s r)(g:j8 r q):j8 s q:=⟨h.1.trans g.1,h.2.1.trans g.2.1,h.2.2.1.trans g.2.2.1,h.2.2.2.1.trans g.2.2.2.1,h.2.2.2.2.trans g.2.2.2.2⟩
def jg(g:Bool)(d:Option Nat)(st:St):St:=match d with
 |some d=>bif g then {st with t:=fun i=>bif Nat.beq i d then J3 (st.t i) else st.t i} else st
 |none=>st
structure nj (E:Env) (ops:List Oper) (e:Ev) (s s':St):Prop where
 op:ops[e.i]? =some e.o
 dst:j6 s e.o=true
 kr:e.kr=nB E s e.o
 step:match e.out with
  |none=>Sj ops s.t e.o=some false
  |some out=>Sj ops s.t e.o=some true/\act E s e.o=some out/\kT s.h out.new=true/\∀p∈out.cond,p
 next :j8 s' (jg (qM ops e.i) e.o.dst (s.put e.o.dst e.eZ))
def vK(E:Env)(ops:List Oper):List Ev->St->St->Prop
 | [],s,s'=>j8 s' s
 |e::es,s,s'=>∃s1,nj E ops e s s1/\vK E ops es s1 s'
def P1(kb:Nat)(ops:List Oper):List Ev->List Ev->Prop
 |_,[]=>True
 |tr,f::es=>BP kb true ops tr f=true/\f.pre=n0 tr f.o.after.toList/\P1 kb ops (f::tr) es
section
variable {P:Program} {C:Ctx} {A:Nat->Prop} {β:Nat->Value} {st:St} {a:Act} {w:World} {E:Env}
theorem aJ.seq {s r:St}(hB:aJ C A β s a w)(h:j8 r s):aJ C A β r a w:=by
 obtain⟨h1,h2,h3,h4,h5⟩:=h;refine⟨hB.defers,by rw [h3];exact hB.size,by rw [h1];exact hB.tmps,by rw [h2];exact hB.blocks,by rw [h2];exact hB.apart,hB.bound,hB.frame,hB.nh,hB.base,by rw [h2];exact hB.qI,by rw [h5];exact hB.uO,hB.laid,hB.held⟩
theorem aeg {x:AV} {v:Value}(h:af w A β v x):af w A β v (J3 x):=by
 cases x with
 |bool b=>grind[J3,af]
 |_=>exact h
theorem aJ.lit(g:Bool)(d:Option Nat)(hB:aJ C A β st a w):aJ C A β (jg g d st) a w:=by
 cases d with
 |none=>exact hB
 |some d=>
  cases g with
  |false=>exact hB
  |true=>
   refine⟨hB.defers,hB.size,fun i=> ?_,hB.blocks,hB.apart,hB.bound,hB.frame,hB.nh,hB.base,hB.qI,hB.uO,hB.laid,hB.held⟩;show af w A β _ (bif Nat.beq i d then J3 (st.t i) else st.t i);cases Nat.beq i d with
   |false=>exact hB.tmps i
   |true=>exact aeg (hB.tmps i)
theorem j8.jg {s r:St}(h:j8 s r)(g:Bool)(d:Option Nat):j8 (jg g d s) (jg g d r):=by
 obtain⟨h1,h2,h3,h4⟩:=h;cases d with
 |none=>exact⟨h1,h2,h3,h4⟩
 |some d=>
  cases g with
  |false=>exact⟨h1,h2,h3,h4⟩
  |true=>exact⟨by simp_all[Vg.jg,L!],h2,h3,h4⟩
theorem getD_some {a:Array Value} {i:Nat} {v:Value}(h:a.getD i undef=v)(hv:v≠undef):a[i]? =some v:=by
 rw [Array.getD_eq_getD_getElem?] at h;grind
theorem N5(hB:aJ C A β st a w) {ops:Array Oper} {o:Oper} {x:Bool}(h:Sj ops.toList st.t o=some x):Region.wanted o (yielded ops a.tmps)=x:=by
 unfold Sj at h;unfold Region.wanted;cases hg:o.guard with
 |none=>grind
 |some jw=>
  obtain⟨j,want⟩:=jw;rw [hg] at h;simp only at h |-;unfold PV at h;cases ho:ops[j]? with
  |none=>grind
  |some oj=>
   simp only [c?,ho] at h;cases hd:oj.dst with
   |none=>grind
   |some g=>
    have ht:=hB.tmps g;cases hv:st.t g with
    |tt=>
     rw [hv] at ht;have :=getD_some ht (by simp [undef])
     simp_all[yielded,Option.bind_some]
    |ff=>
     rw [hv] at ht;have :=getD_some ht (by simp [undef])
     simp_all[yielded,Option.bind_some]
    |undef=>
     rw [hv] at ht;have :yielded ops a.tmps j=none:=by
      simp only [yielded,ho,hd,Option.bind_some];cases hx:a.tmps[g]? with
      |none=>rfl
      |some v=>
       rw [G?,hx] at ht;subst ht;rfl
     grind
    |_=>grind
theorem aJ.ahS(hB:aJ C A β st a w) {d:Option Nat}(hd:∀t,d=some t->t<st.n):aJ C A β (st.put d .skip) (a.put d undef) w:=
 hB.pure hd (c:= []) (r:= .undef) (by rfl)
theorem aeh {o:Oper}(h:j6 st o=true):∀t,o.dst=some t->t<st.n:=by
 intro t ht;simp_all[j6,M!]
theorem D7(hE:hJ P C E) {ops:Array Oper} {e:Ev} {s s':St}(hf:nj E ops.toList e s s')(hR:Rel C s a w) {K:Act->World->Prop} {Q:Exit->Act->World->Prop}
  (hK:∀a' w',Rel C s' a' w'->K a' w'):wpOp P ops Q e.i K a w:=by
 obtain⟨A,β,hB⟩:=hR;have ho:ops[e.i]? =some e.o:=by have :=hf.op;grind
 unfold wpOp;simp [ho];have sx:=hf.step;have J8:=hf.next;unfold Ev.eZ at J8;cases tS:e.out with
 |none=>
  rw [tS] at sx J8;rw [N5 hB sx];exact hK _ _ ⟨A,β,((hB.ahS (aeh hf.dst)).lit _ _).seq J8⟩
 |some out=>
  rw [tS] at sx J8;obtain⟨h1,h2,h3,h4⟩:=sx;rw [N5 hB h1];refine .inl (Vq hE hB h2 hf.dst h3 h4 fun a' w' oY=> ?_);obtain⟨A',aS,Vr⟩:=oY;exact hK _ _ ⟨A',aS,(Vr.lit _ _).seq J8⟩
theorem yS(hE:hJ P C E) {ops:Array Oper} {Q:Exit->Act->World->Prop}:∀(es:List Ev) (s s':St) (a:Act) (w:World),vK E ops.toList es s s'->Rel C s a w->
  (∀a' w',Rel C s' a' w'->Q .normal a' w')->wpOps P ops Q (es.map (·.i)) a w
 | [],s,s',a,w,hx,hR,hQ=>by
   obtain⟨A,β,hB⟩:=hR;exact hQ _ _ ⟨A,β,hB.seq hx⟩
 |e::es,s,s',a,w,hx,hR,hQ=>by
  obtain⟨s1,h1,h2⟩:=hx;exact D7 hE h1 hR fun a' w' oY=>yS hE es s1 s' a' w' h2 oY hQ
theorem vL:∀(ps:List Prop),G7 ps->∀p∈ps,p
 | [],_,p,hp=>by grind
 | [q],h,p,hp=>by
   rcases P!.1 hp with rfl|hp
   . exact h
   grind
 |q::r::rs,h,p,hp=>by
  rcases P!.1 hp with rfl|hp
  . exact h.1
  . exact vL (r::rs) h.2 p hp
theorem AH {b:Bool} {W:List Nat} {base:St} {r1 r2:Option (List Prop×St)} {cs:List Prop} {m:St}(h:both b W base r1 r2=some (cs,m)):
  ∃c1 s1 c2 s2,r1=some (c1,s1)/\r2=some (c2,s2)/\vJ b W base s1 s2=some m/\cs=IY b c1 c2:=by
 unfold both at h;grind
theorem Hl {b:Bool} {c1 c2:List Prop}(h:∀p∈IY b c1 c2,p):(b=true->∀p∈c1,p)/\(b=false->∀p∈c2,p):=by
 unfold IY at h;grind[List.mem_cons_self,vL]
theorem qw {c:List Prop} {r:Option (List Prop×St)} {cs:List Prop} {m:St}(h:AD c r=some (cs,m)):∃c',r=some (c',m)/\cs=c++c':=by
 unfold AD at h;grind
theorem Sq {d:Nat} {b:Bool}(hv:st.t d= .bool b):j8 (st.lit d (bif b then .tt else .ff)) (jg true (some d) st):=by
 refine⟨?_,rfl,rfl,rfl,rfl⟩;funext i;simp [St.lit,jg,L!];by_cases hi:i=d
 . simp_all[hi,ek,L!,J3]
 simp_all[bh,hi,Q!]
theorem Sr {d:Nat}(hv:∀b,st.t d≠ .bool b):j8 st (jg true (some d) st):=by
 refine⟨?_,rfl,rfl,rfl,rfl⟩;funext i;simp [jg,L!];by_cases hi:i=d
 . subst hi;simp;cases hx:st.t i with
   |bool b=>grind
   |_=>rfl
 simp_all[bh,hi,Q!]
theorem Vs {g:Bool} {W:List Nat} {d:Option Nat} {next :St->Option (List Prop×St)} {cs:List Prop} {m:St}(h:fork g W d st next=some (cs,m))
  (hF:∀s0 c s,next s0=some (c,s)->gj W s0 s) {W':List Nat} (hW:∀i,aM W' i=false->aM W i=false) (ht:∀t,d=some t->aM W' t=true):gj W' st m:=by
 unfold fork at h;cases d with
 |none=>exact(hF _ _ _ h).mono hW
 |some d=>
  simp at h;cases g with
  |false=>exact(hF _ _ _ h).mono hW
  |true=>
   split at h
   . obtain⟨c1,s1,c2,s2,r1,r2,hm,rfl⟩:=AH h;refine(gj.merge hm).mono fun i hi=> ?_;grind[aM,Bool.or_eq_false_iff,bh]
   . exact(hF _ _ _ h).mono hW
theorem aei {g:Bool} {W:List Nat} {d:Option Nat} {next :St->Option (List Prop×St)} {cs:List Prop} {m:St}(h:fork g W d st next=some (cs,m))(fx:∀p∈cs,p)
  (hF:∀s0 c s,next s0=some (c,s)->gj W s0 s):
  ∃s0 c s,j8 s0 (jg g d st)/\next s0=some (c,s)/\(∀p∈c,p)/\(∀(C:Ctx) A β a w,aJ C A β s a w->aJ C A β m a w):=by
 unfold fork at h;cases d with
 |none=>exact⟨st,cs,m,j8.refl _,h,fx,fun _ _ _ _ _ hB=>hB⟩
 |some d=>
  simp at h;cases g with
  |false=>exact⟨st,cs,m,j8.refl _,h,fx,fun _ _ _ _ _ hB=>hB⟩
  |true=>
   split at h
   . rename_i b hv;obtain⟨c1,s1,c2,s2,r1,r2,hm,rfl⟩:=AH h;have hc:=Hl fx
     have e:∀x,∀i,aM (d::W) i=false->(st.lit d x).t i=st.t i:=by
      intro x i hi;simp [aM,U?] at hi;simp [St.lit,hi.1,Q!]
     refine⟨st.lit d (bif b then .tt else .ff),if b then c1 else c2,if b then s1 else s2,Sq hv,?_,?_,fun C A β a w hB=> ?_⟩
     . cases b
       . exact r2
       . exact r1
     . cases b
       . exact hc.2 rfl
       . exact hc.1 rfl
     . have f1:=hF _ _ _ r1;have f2:=hF _ _ _ r2
       exact hB.merge hm (f1.mono fun i hi=>by simp [aM,U?] at hi;exact hi.2) (e _) rfl rfl rfl
        (f2.mono fun i hi=>by simp [aM,U?] at hi;exact hi.2) (e _) rfl rfl rfl
   grind[Sr]
theorem F6 {o:Oper} {rest:List Oper}:∀t,o.dst=some t->aM (nA (o::rest)) t=true :=by
 simp_all[nA,aM,ek,Bool.true_or]
theorem J9 {o:Oper} {rest:List Oper}:∀i,aM (nA (o::rest)) i=false->aM (nA rest) i=false :=by
 grind[hi,nA,aM,Bool.or_eq_false_iff]
theorem pX {dr:Bool} {ops:List Oper}:∀(rest:List Oper) (i:Nat) (tr:List Ev) (st:St) (cs:List Prop) (m:St),yN E dr ops i tr rest st=some (cs,m)->gj (nA rest) st m
 | [],i,tr,st,cs,m,h=>by
   grind[yN,Option.some.injEq,Prod.mk.injEq,gj.refl]
 |o::rest,i,tr,st,cs,m,h=>by
  have ahT:∀W i,aM W i=false->aM (W++W) i=false :=fun W i hi=>by grind[dO]
  simp [yN] at h;split at h
  . cases h
  . cases hq:(j6 st o&&BP st.kb dr ops tr ⟨i,o,none,nB E st o,n0 tr o.after.toList⟩) with
    |false=>grind
    |true=>
     simp [hq,L!] at h;have :=pX rest _ _ _ _ _ h;exact((gj.put st o.dst .skip _ F6).trans (this.mono J9)).mono (ahT _)
  . split at h
    . cases h
    . rename_i out ny;cases hq:(j6 st o&&(kT st.h out.new&&BP st.kb dr ops tr ⟨i,o,some out,nB E st o,n0 tr o.after.toList⟩)) with
      |false=>grind
      |true=>
       simp [hq,L!] at h;obtain⟨c',h',_⟩:=qw h;have :=Vs h' (fun s0 c s hn=>pX rest _ _ _ _ _ hn) J9 F6;exact((gj.put st o.dst out _ F6).trans this).mono (ahT _)
theorem P2 {g:Bool} {d:Option Nat}:j8 (jg g d (st.put d .skip)) (st.put d .skip):=by
 cases d with
 |none=>exact j8.refl _
 |some d=>
  cases g with
  |false=>exact j8.refl _
  |true=>
   refine⟨?_,rfl,rfl,rfl,rfl⟩;funext i;simp [jg,L!,St.put,Out.skip];by_cases hi:i=d
   . simp_all[hi,ek,L!,J3]
   simp_all[bh,hi,Q!]
theorem Ka {kb:Nat} {dr:Bool} {ops:List Oper} {tr:List Ev} {f:Ev}(h:BP kb dr ops tr f=true)(hd:dr=true):BP kb true ops tr f=true :=by grind
theorem sP {dr:Bool} {ops:List Oper}:∀(rest:List Oper) (i:Nat) (tr:List Ev) (st:St) (cs:List Prop) (m:St),yN E dr ops i tr rest st=some (cs,m)->(∀p∈cs,p)->
  (∀k,rest[k]? =ops[i+k]?)->
  ∃es sl,vK E ops es st sl/\es.map (·.i)=List.range' i rest.length/\(dr=true->P1 st.kb ops tr es)/\∀(C:Ctx) A β a w,aJ C A β sl a w->aJ C A β m a w
 | [],i,tr,st,cs,m,h,fx,hl=>by
   simp [yN,Option.some.injEq,Prod.mk.injEq] at h;exact⟨[],st,j8.refl _,rfl,fun _=>trivial,fun _ _ _ _ _ hB=>by grind⟩
 |o::rest,i,tr,st,cs,m,h,fx,hl=>by
  have h0:ops[i]? =some o:=by simpa using(hl 0).symm
  have l8:∀k,rest[k]? =ops[i+1+k]? :=fun k=>by have :=hl (k+1);grind
  simp [yN] at h;split at h
  . cases h
  . rename_i hg;cases hq:(j6 st o&&BP st.kb dr ops tr ⟨i,o,none,nB E st o,n0 tr o.after.toList⟩) with
    |false=>grind
    |true=>
     simp [hq,cond_true] at h;rw [Bool.and_eq_true] at hq;obtain⟨es,sl,h1,h2,h3,h4⟩:=sP rest _ _ _ _ _ h fx l8;refine⟨⟨i,o,none,nB E st o,n0 tr o.after.toList⟩::es,sl,⟨st.put o.dst .skip,⟨h0,hq.1,rfl,hg,P2.symm⟩,h1⟩,?_,fun hd=>⟨Ka hq.2 hd,rfl,h3 hd⟩,h4⟩;grind[List.length_cons,List.range'_succ]
  . rename_i hg;split at h
    . cases h
    . rename_i out ny;cases hq:(j6 st o&&(kT st.h out.new&&BP st.kb dr ops tr ⟨i,o,some out,nB E st o,n0 tr o.after.toList⟩)) with
      |false=>grind
      |true=>
       simp [hq,L!] at h;rw [B!,B!] at hq;obtain⟨c',h',rfl⟩:=qw h;obtain⟨s0,c,s,e1,e2,e3,e4⟩:=aei h' (fun p hp=>fx p (Y! _ hp)) (fun s0 c s hn=>pX rest _ _ _ _ _ hn);obtain⟨es,sl,h1,h2,h3,h4⟩:=sP rest _ _ _ _ _ e2 e3 l8;refine⟨⟨i,o,some out,nB E st o,n0 tr o.after.toList⟩::es,sl,⟨s0,⟨h0,hq.1,rfl,⟨hg,ny,hq.2.1,fun p hp=>fx p (Z! _ hp)⟩,e1⟩,h1⟩,?_,fun hd=>⟨Ka hq.2.2 hd,rfl,by have :=h3 hd;rw [show s0.kb=st.kb from e1.2.2.2.1.trans (by cases o.dst<;>cases qM ops i<;>rfl)] at this;exact this⟩,fun C A β a w hB=>e4 _ _ _ _ _ (h4 _ _ _ _ _ hB)⟩;rw [V?,h2,F?,List.range'_succ]
theorem Hm {ops:Array Oper} {Q:Exit->Act->World->Prop} {i:Nat} {rest:List Nat} {o:Oper}(h:ops[i]? =some o)(hg:o.guard=none)(hw:o.wp P a w (wpOps P ops Q rest) Q):wpOps P ops Q (i::rest) a w:=by
 simp_all[wpOps,R!,Region.wanted]
structure ZY (w w':World) (es:Array MapEntry) (ck:Nat):Prop where
 os:w'.os=w.os
 tape:w'.tape=w.tape
 output:w'.output=w.output
 size:w'.heap.size=w.heap.size+1
 same:∀b,b<w.heap.size->w'.heap[b]? =w.heap[b]?
 there:w'.heap[w.heap.size]? =some (.map es ck)
theorem Vt {d:Nat} {o:Oper} {t:TypeId} {k:Int} {x:Operand}(h:PX d o=some (t,k,x)):o.op= .insert t (.tmp d) (.const (.int .i64 k)) x/\o.dst=none/\o.guard=none:=by
 unfold PX at h;split at h
 . rename_i t' d' k' x' h1 h2 h3;cases hb:Nat.beq d' d with
   |false=>grind
   |true=>
    simp_all
 grind
theorem D8(st:St)(t d:Nat):∀r,(dZ st t d r).2.2=r.drop (dZ st t d r).1.length/\(dZ st t d r).1.length<=r.length
 | []=>⟨rfl,O! _⟩
 |o::r=>by
  simp [dZ];split
  . rename_i t' k x hx;cases hb:(Nat.beq t' t&&AE d x&&decide (lo .i64<=k/\k<=hi .i64)) with
    |false=>grind
    |true=>
     simp_all[D8,L!,F?,List.drop_succ_cons]
  grind
theorem Hn(st:St)(t d:Nat):∀r,(dZ st t d r).2.1.length=(dZ st t d r).1.length
 | []=>rfl
 |o::r=>by
  simp only [dZ];split
  . rename_i t' k x hx;cases hb:(Nat.beq t' t&&AE d x&&decide (lo .i64<=k/\k<=hi .i64)) with
    |false=>rfl
    |true=>simp_all[L!,F?,Hn]
  . rfl
theorem ud {T:cJ} {ops rest:List Oper} {d:Nat} {ks:List Int} {vs:List AV}(h:wX T st ops=some (d,ks,vs,rest)):
  ∃o r t te kt et,ops=o::r/\o.op= .makeMap t none/\o.dst=some d/\o.guard=none/\T.find t=some te/\te.desc= .map kt et/\eH T kt Ct=true/\kQ ks=true/\d<st.n/\dZ st t d r=(ks,vs,rest):=by
 cases ops with
 |nil=>grind[wX]
 |cons o r=>
  simp [wX] at h;split at h
  . rename_i t d' h1 h2 h3;split at h
    . rename_i te nu;split at h
      . rename_i kt et hd;cases hb:(eH T kt Ct&&kQ (dZ st t d' r).1&&Nat.blt d' st.n) with
        |false=>grind
        |true=>
         rw [hb] at h;simp at h;obtain⟨rfl,h⟩:=h;simp only [Bool.and_eq_true] at hb;exact⟨o,r,t,te,kt,et,rfl,h1,h2,h3,nu,hd,hb.1.1,x!,Nat.le_of_ble_eq_true hb.2,h⟩
      grind
    grind
  grind
theorem D9 {T:cJ} {ops rest:List Oper} {d:Nat} {ks:List Int} {vs:List AV}(h:wX T st ops=some (d,ks,vs,rest)):rest=ops.drop (ks.length+1):=by
 grind[ud,D8]
theorem Ss {T:cJ} {ops rest:List Oper} {d:Nat} {ks:List Int} {vs:List AV}(h:wX T st ops=some (d,ks,vs,rest)):vs.length=ks.length:=by
 grind[ud,Hn]
theorem Ho {k:Int}:∀ {l:List Int},kQ (l++ [k])=true->k∉l
 | [],_=>by simp
 |j::l,h=>by
  simp [g?,kQ,B!,I?] at h;have h1:=Ho h.2;rintro(_|q)
  . have :Jx k (l++ [k])=true :=(vF _ _).2 z!;rw [this] at h;cases h.1
  . exact h1 (by assumption)
theorem Kb:∀ {l m:List Int},kQ (l++m)=true->kQ l=true
 | [],_,_=>rfl
 |j::l,m,h=>by
  simp [g?,kQ,B!,I?] at h |-;refine⟨?_,Kb h.2⟩;cases q:Jx j l with
  |false=>rfl
  |true=>rw [(vF _ _).2 (Z! _ ((vF _ _).1 q))] at h;cases h.1
theorem Ea:∀(aK:List AV) (vs:List Value) (x:AV) (v:Value),ak w A β vs aK->af w A β v x->ak w A β (vs++ [v]) (aK++ [x])
 | [],vs,x,v,h,hx=>by
   grind[ak]
 |a::aK,vs,x,v,h,hx=>by
  obtain⟨u,cK,rfl,h1,h2⟩:=h;exact⟨u,cK++ [v],rfl,h1,Ea aK cK x v h2 hx⟩
theorem aej {d:Nat} {v:Value} {x:Operand}(h:AE d x=true):(a.put (some d) v).eval x=a.eval x:=by
 cases x with
 |tmp i=>
  simp [AE,Bool.not_eq_true'] at h;have :i≠d:=by grind[ek]
  simp only [Act.eval,Act.put];rw [Array.getD_eq_getD_getElem?,Array.getD_eq_getD_getElem?,Array.getElem?_setIfInBounds];grind
 |_=>rfl
theorem Su {T:cJ}(hT:bD T P)(hB:aJ C A β st a w) {ops:Array Oper} {Q:Exit->Act->World->Prop} {d t kt et:Nat}(hd:d<st.n)(ht:P.underlying t=some (.map kt et))(PA:P.underlying kt=some (.int .i64)):
  ∀(r:List Oper) (i:Nat) (es:Array MapEntry) (ck:Nat) (w':World) (k0:List Int) (c0:List AV),(∀k,r[k]? =ops[i+k]?)->ZY w w' es ck->es.toList.map (·.key)=k0.map (Value.int .i64)->ak w A β (es.toList.map (·.val)) c0->
   kQ (k0++(dZ st t d r).1)=true->
   (∀w'' es' ck',ZY w w'' es' ck'->es'.toList.map (·.key)=(k0++(dZ st t d r).1).map (Value.int .i64)->ak w A β (es'.toList.map (·.val)) (c0++(dZ st t d r).2.1)->
     wpOps P ops Q (List.range' (i+(dZ st t d r).1.length) (dZ st t d r).2.2.length) (a.put (some d) (.map (some w.heap.size))) w'')->
   wpOps P ops Q (List.range' i r.length) (a.put (some d) (.map (some w.heap.size))) w'
 | [],i,es,ck,w',k0,c0,_,hm,hk,hv,_,hK=>by
   grind[dZ]
 |o::r,i,es,ck,w',k0,c0,hl,hm,hk,hv,hn,hK=>by
  have stop:dZ st t d (o::r)=([],[],o::r)->wpOps P ops Q (List.range' i (o::r).length) (a.put (some d) (.map (some w.heap.size))) w':=by
   grind
  cases ho:PX d o with
  |none=>grind[dZ]
  |some p=>
   obtain⟨t',k,x⟩:=p;cases hb:(Nat.beq t' t&&AE d x&&decide (lo .i64<=k/\k<=hi .i64)) with
   |false=>exact stop (by simp only [dZ,ho,hb,Q!])
   |true=>
    have e:dZ st t d (o::r)=(k::(dZ st t d r).1,ev st x::(dZ st t d r).2.1,(dZ st t d r).2.2):=by simp_all[dZ,L!]
    obtain⟨o1,o2,o3⟩:=Vt ho;simp only [B!] at hb;have htt:=D! hb.1.1;subst htt;rw [e] at hn hK;simp only at hn hK;have h0:ops[i]? =some o:=by simpa using(hl 0).symm
    have l8:∀k,r[k]? =ops[i+1+k]? :=fun k=>by have :=hl (k+1);grind
    have hnk:k∉k0:=Ho (Kb (m:=(dZ st t' d r).1) x!);have hx:=bk hB x;have fj:d<a.tmps.size:=by rw [hB.size];omega
    have hem:(a.put (some d) (.map (some w.heap.size))).eval (.tmp d)= .map (some w.heap.size):=by
     simp_all[Act.eval,Act.put]
    have kF:(Instr.mapUpdate t' (.map (some w.heap.size)) (.int .i64 k) (a.eval x)).run P w'= .ok () {w' with heap:=w'.heap.setIfInBounds w.heap.size (.map (es.push {key:= .int .i64 k,val:=a.eval x,born:=ck}) (ck+1))}:=by
     have hc:(Instr.checkKey false 10000 kt (.int .i64 k)).run P w'= .ok () w':=MapKept.run_checkKey PA (by rfl) false 9999;simp [Instr.mapUpdate,run_underlying ht,MapKept.run_getObj_map hm.there,hc,MapKept.run_findKey PA (uS k es.toList k0 0 hk hnk),MapKept.run_setObj_map _ hm.there,Result.andThen]
    have Si:∀(v:Value) (b:Act),b.put none v=b:=fun _ _=>rfl;refine(Hm h0 o3 ?_);refine vD (w':= {w' with heap:=w'.heap.setIfInBounds w.heap.size (.map (es.push {key:= .int .i64 k,val:=a.eval x,born:=ck}) (ck+1))}) ?_ ?_
    . simp only [execOp,o1,hem,aej hb.1.2];have :(a.put (some d) (.map (some w.heap.size))).eval (.const (.int .i64 k))= .int .i64 k:=rfl;simp_all
    . rw [o2,Si];refine Su hT hB hd ht PA r (i+1) (es.push {key:= .int .i64 k,val:=a.eval x,born:=ck}) (ck+1) _ (k0++ [k]) (c0++ [ev st x]) l8 ⟨hm.os,hm.tape,hm.output,?_,?_,?_⟩ ?_ ?_ x! ?_
      . simp [hm.size]
      . intro b fv;rw [(MapKept.heap_set hm.there).2 b w!];exact hm.same b fv
      . exact(MapKept.heap_set hm.there).1
      . grind
      . grind[Array.toList_push,Ea]
      grind
theorem Sv {T:cJ}(hT:bD T P) {ops:Array Oper} {rest:List Oper} {d:Nat} {ks:List Int} {vs:List AV} {Q:Exit->Act->World->Prop}(h:wX T st ops.toList=some (d,ks,vs,rest))(hR:Rel C st a w)
  (hK:∀a' w',Rel C (st.put (some d) {cond:= [],res:= .je ks vs}) a' w'->wpOps P ops Q (List.range' (ks.length+1) rest.length) a' w'):wpOps P ops Q (List.range' 0 ops.toList.length) a w:=by
 obtain⟨A,β,hB⟩:=hR;obtain⟨o,r,t,te,kt,et,ho,o1,o2,o3,nu,hd,RX,hk2,hdn,hi⟩:=ud h;obtain⟨hu,_⟩:=hT.ok t te nu;rw [hd] at hu
 have PA:P.underlying kt=some (.int .i64):=by
  unfold eH at RX;split at RX
  . rename_i tk Cx;obtain⟨hku,_⟩:=hT.ok kt tk Cx;grind[Ct]
  grind
 have h0:ops[0]? =some o:=by rw [<-c?,ho];rfl
 have l8:∀k,r[k]? =ops[0+1+k]? :=fun k=>by
  rw [<-c?,ho,show 0+1+k=k+1 by omega];rfl
 rw [ho,F?,List.range'_succ];refine Hm h0 o3 ?_;refine dM (v:= .map (some w.heap.size)) (w':=w.alloc (.map #[] 0)) ?_ ?_
 . simp [execOp,o1,Instr.makeMap]
 . rw [o2];have hn:kQ ([]++(dZ st t d r).1)=true :=by grind
   refine Su hT hB hdn hu PA r (0+1) #[] 0 _ [] [] l8 ⟨rfl,rfl,rfl,z!,fun b hb=>pR _ b hb,heap_alloc_new w _⟩ rfl (by rfl) hn ?_;intro w'' es ck m1 m2 m3;rw [hi] at m2 m3 |-;have e:0+1+ks.length=ks.length+1:=by omega
   simp only [e];refine hK _ _ ⟨fun b=>A b\/b=w.heap.size,β,?_⟩;have hKp:dC w w'' A (fun b=>A b\/b=w.heap.size):=fun b hb=>⟨.inl hb,m1.same b (hB.bound b hb)⟩
   refine hB.step (out:= {cond:= [],res:= .je ks vs}) (fun t ht=>by grind) (fun k b hk=>by grind[ay]) (fun k b hk=>by grind[ay]) (fun _ _=>rfl) hKp m1.os m1.tape m1.output (by rw [m1.size];omega)
    (fun b hb _=>m1.same b hb) (fun b hb=> ?_) (fun b hb=> ?_) (fun k ab hk=>by grind[ay]) (fun k ab hk=>by grind[ay]) (fun k b ab hk=>by grind[ay]) (fun k k' b hk=>by grind[ay]) ?_
   . rw [m1.size];rcases hb with hb|hb
     . have :=hB.bound b hb;omega
     omega
   . grind
   . exact⟨w.heap.size,es,ck,rfl, .inr rfl,m1.there,m2,fO hKp _ _ m3⟩
theorem P3(hE:hJ P C E) {id:Nat} {ops:Array Oper} {cs:List Prop} {m:St}(h:Hk E false ops.toList st=some (cs,m))(fx:∀p∈cs,p)
  (hR:Rel C st a w) {Q:Exit->Act->World->Prop} (hQ:∀a' w',Rel C m a' w'->Q .normal a' w'):(Code.region id ops false).wp P Q a w:=by
 simp [Hk,Q!] at h;split at h
 . rename_i d ks vs rest hp;refine wp_region ?_;have hl:=D9 hp;rw [Ss hp] at h
   have :=Sv (Q:=Q) hE.gY hp hR fun a' w' oY=>by
    obtain⟨es,sl,h1,h2,_,h4⟩:=sP rest (ks.length+1) [] _ cs m h fx (fun k=>by grind);have :=yS (Q:=Q) hE es _ sl a' w' h1 oY (fun a'' w'' ⟨A,β,hB⟩=>hQ _ _ ⟨A,β,h4 _ _ _ _ _ hB⟩);grind
   grind[Array.length_toList,List.range_eq_range']
 obtain⟨es,sl,h1,h2,_,h4⟩:=sP ops.toList 0 [] st cs m h fx (fun k=>by simp);refine wp_region ?_;have :=yS (Q:=Q) hE es st sl a w h1 hR (fun a' w' ⟨A,β,hB⟩=>hQ _ _ ⟨A,β,h4 _ _ _ _ _ hB⟩);grind[Array.length_toList,List.range_eq_range']
theorem gj.ahead(st:St)(W:List Nat):gj W st (st.ahead W):=by
 refine⟨⟨dm st.kb (W.map .dst),fun k hk=> ?_,fun i _=>rfl,fun k _=>rfl⟩,rfl,rfl,fun k h=>h,fun k h=> ?_,rfl⟩
 . simp_all[St.ahead,ej,u?]
 simp_all[St.ahead,ej,Bool.true_or]
theorem Kc {dr:Bool} {ops:List Oper} {st:St} {cs:List Prop} {m:St}(h:Hk E dr ops st=some (cs,m)):gj (nA ops) st m:=by
 unfold Hk at h;cases dr with
 |false=>
  split at h
  . rename_i d ks vs rest hp;obtain⟨o,r,t,te,kt,et,rfl,_,h2,_,_,_,_,_,_,hi⟩:=ud hp;have hdr:=D9 hp;have h1:gj [d] st (st.put (some d) {cond:= [],res:= .je ks vs}):=gj.put st (some d) _ [d] (fun t ht=>by grind[aM,ek]);refine(h1.trans (pX _ _ _ _ _ _ h)).mono fun i jO=> ?_
    have N2:∀(l:List Oper) (n:Nat),aM (nA l) i=false->aM (nA (l.drop n)) i=false :=by
     intro l;induction l with
     |nil=>grind
     |cons q l ih=>
      intro n hh;cases n with
      |zero=>grind
      |succ n=>
       grind[nA,aM,Bool.or_eq_false_iff]
    grind[nA,aM,Bool.or_eq_false_iff,List.singleton_append]
  grind[pX]
 |true=>exact((gj.ahead st _).trans (pX _ _ _ _ _ _ h)).mono (fun i hi=>by grind[dO])
theorem aJ.ahead(hB:aJ C A β st a w)(W:List Nat):aJ C A β (st.ahead W) a w:=by
 have hl:∀k ab,(st.ahead W).h k=some ab->∃c,st.h k=some c/\ab=ew (dm st.kb (W.map .dst)) c:=by
  intro k ab h;simp [St.ahead] at h;cases hk:st.h k with
  |none=>rw [hk] at h;cases h
  |some c=>grind[c6,Option.some.injEq]
 have hs:∀k,((st.ahead W).h k).isSome->(st.h k).isSome:=by
  grind[Option.isSome_iff_exists]
 refine⟨hB.defers,hB.size,fun i=>qv _ (fun _ _=>rfl) _ _ (hB.tmps i),fun k ab h=> ?_,fun k k' b h1 h2=>hB.apart k k' b (hs k h1) (hs k' h2),hB.bound,hB.frame,hB.nh,hB.base,fun k b h=>hB.qI k b (hs k h),hB.uO,hB.laid,hB.held⟩;obtain⟨c,hc,rfl⟩:=hl k ab h;exact CJ _ (hB.blocks k c hc)
end
end Go.Vg

end
section
namespace Go.Vg
open Go
theorem yT {h h':bg}:∀(x:AV),(∀k∈aE x,h' k=h k)->iF h' x=iF h x:=by
 intro x hx;cases x<;>simp_all [iF,aE]
theorem Hp {h h':bg}:∀(xs:List AV),(∀k∈aW xs,h' k=h k)->oP h' xs=oP h xs
 | [],_=>rfl
 |x::xs,hx=>by
  simp [aW,F!] at hx;simp [oP,yT x (fun k hk=>hx k (.inl hk)),Hp xs (fun k hk=>hx k (.inr hk))]
theorem wZ {h h':bg}(x:AV)(hx:∀k∈aE x,h' k=h k):pv h' x=pv h x:=by
 unfold pv;grind[Hp,aE,yT]
theorem yU {h h':bg}:∀(xs:List AV),(∀k∈aW xs,h' k=h k)->lY h' xs=lY h xs
 | [],_=>rfl
 |x::xs,hx=>by
  simp [aW,F!] at hx;simp [lY,wZ x (fun k hk=>hx k (.inl hk)),yU xs (fun k hk=>hx k (.inr hk))]
theorem Hq {h h':bg}:∀(ps:List (Nat×AV)),(∀k∈aW (ps.map (·.2)),h' k=h k)->oQ h' ps=oQ h ps
 | [],_=>rfl
 |(i,x)::ps,hx=>by
  simp [V?,aW,F!] at hx;simp [oQ,wZ x (fun k hk=>hx k (.inl hk)),Hq ps (fun k hk=>hx k (.inr hk))]
theorem CK {h:bg}(x:AV):∀k∈(iF h x).2,k∈aE x:=by
 intro k hk;cases x<;>simp [iF] at hk;case own j=>grind[aE]
 case pre j n=>grind[aE]
 case view j sz off n=>
  grind[Nat.beq,aE]
theorem Kd {h:bg}:∀(xs:List AV),∀k∈(oP h xs).2,k∈aW xs
 | [],k,hk=>by grind[oP]
 |x::xs,k,hk=>by
  simp [oP,F!] at hk;simp [aW,F!];exact hk.imp (CK x k) (Kd xs k)
theorem AI {h:bg}(x:AV):∀k∈(pv h x).2,k∈aE x:=by
 intro k hk;unfold pv at hk;grind[aE,Kd,CK]
theorem CL {h:bg}:∀(xs:List AV),∀k∈(lY h xs).2,k∈aW xs
 | [],k,hk=>by grind[lY]
 |x::xs,k,hk=>by
  simp [lY,F!] at hk;simp [aW,F!];exact hk.imp (AI x k) (CL xs k)
theorem Ke {h:bg}:∀(ps:List (Nat×AV)),∀k∈(oQ h ps).2,k∈aW (ps.map (·.2))
 | [],k,hk=>by grind[oQ]
 |(i,x)::ps,k,hk=>by
  simp [oQ,F!] at hk;simp [V?,aW,F!];exact hk.imp (AI x k) (Ke ps k)
theorem j9 {h h':bg}:∀(ks:List Nat),(∀k∈ks,h' k=h k)->cU h' ks=cU h ks
 | [],_=>rfl
 |k::ks,hx=>by
  simp [cU,hx k (S! ..),j9 ks (fun j hj=>hx j (G! _ hj))]
theorem P4 {h h':bg}(x:AV)(hx:∀k∈aE x,h' k=h k):FD h' x=FD h x:=by
 cases x<;>simp_all [FD,aE]
theorem Bn {h h':bg}(T:cJ)(t:TypeId)(x i:AV)(hx:∀k∈aE x,h' k=h k):gA T h' t x i=gA T h t x i:=by
 cases x<;>cases i<;>simp_all [gA,aE]
theorem Kf {h h':bg}(T:cJ)(t:TypeId)(x:AV)(hx:∀k∈aE x,h' k=h k):qH T h' t x=qH T h t x:=by
 cases x<;>simp_all [qH,aE]
theorem Ix {h h':bg}(T:cJ)(t:TypeId)(x v:AV)(hx:∀k∈aE x,h' k=h k)(hv:∀k∈aE v,h' k=h k):ly T h' t x v=ly T h t x v:=by
 cases x;case ref k off=>grind[ly,aE]
 case elem k sz i j=>
  grind[ly,aE,wZ,j9,pv,AI]
 all_goals rfl
theorem w2 {h h':bg}(row:List Ty)(x:AV)(hx:∀k∈aE x,h' k=h k):ng h' row x=ng h row x:=by
 have :=yT x hx;cases x<;>simp_all [ng]
theorem F7 {h h':bg}(T:cJ)(d:Nat)(t t':TypeId)(s x:AV)(hs:∀k∈aE s,h' k=h k)(hx:∀k∈aE x,h' k=h k):pK T h' d t t' s x=pK T h d t t' s x:=by
 unfold pK;split
 . split
   . rename_i row lK;rw [w2 row x hx];cases s;case own k=>simp [hs k (by simp [aE])]
     case pre k n=>simp [hs k (by simp [aE])]
     all_goals rfl
   . rfl
 . rfl
theorem Kg {h h':bg}(T:cJ)(t t':TypeId)(s x:AV)(hs:∀k∈aE s,h' k=h k)(hx:∀k∈aE x,h' k=h k):su T h' t t' s x=su T h t t' s x:=by
 have il:∀row,ng h' row x=ng h row x:=fun row=>w2 row x hx;cases s;case own k=>grind[su,aE]
 case view k sz off n=>grind[su,aE]
 all_goals rfl
theorem Iy {h h':bg}(T:cJ)(t:TypeId)(x:AV)(hx:∀k∈aE x,h' k=h k):sb T h' t x=sb T h t x:=by
 cases x;case view k sz off n=>grind[sb,aE]
 all_goals rfl
theorem Iz {h h':bg}(T:cJ)(t:TypeId)(x:AV)(lo hi mx:Option AV)(hx:∀k∈aE x,h' k=h k):sa T h' t x lo hi mx=sa T h t x lo hi mx:=by
 unfold sa;grind[tR,lo,hi,aE]
theorem Ns {h h':bg}(T:cJ)(s d:TypeId)(k:Nat)(hx:h' k=h k):Av T h' s d k=Av T h s d k:=by grind[Av]
theorem Eb {h h':bg}(T:cJ)(s d:TypeId)(x:AV)(hx:∀k∈aE x,h' k=h k):ov T h' s d x=ov T h s d x:=by
 have hs:∀row,ng h' row x=ng h row x:=fun row=>w2 row x hx;grind[ov,Ns,aE]
theorem yV {h h':bg}(T:cJ)(d:Nat)(t:TypeId)(len:Nat)(ps:List (Nat×AV))(hx:∀k∈aW (ps.map (·.2)),h' k=h k):jY T h' d t len ps=jY T h d t len ps:=by
 unfold jY;simp [Hq ps hx,j9 (oQ h ps).2 (fun j hj=>hx j (Ke ps j hj))]
theorem Kh {h h':bg}(E:Env)(d f:Nat)(xs:List AV)(hx:∀k∈aW xs,h' k=h k):oR E h' d f xs=oR E h d f xs:=by
 grind[oR,yU,j9,lY,CL]
theorem jl:∀(a b:List AV),aW (a++b)=aW a++aW b
 | [],_=>rfl
 |x::a,b=>by simp [g?,aW,jl a b,U!]
theorem mN {x:AV}:∀ {xs:List AV},x∈xs->∀k∈aE x,k∈aW xs
 |y::ys,hx,k,hk=>by
  simp [aW,F!];rcases P!.1 hx with rfl|hx
  . exact .inl hk
  . exact .inr (mN hx k hk)
theorem Sw {E:Env} {st cN:St} {o:Oper}(ht:∀x∈o.op.operands.toList,ev cN x=ev st x)(hh:∀k∈nB E st o,cN.h k=st.h k)(tJ:cN.kb=st.kb):
  dR E cN o=dR E st o:=by
 have hk:∀x∈o.op.operands.toList,∀k∈aE (ev st x),cN.h k=st.h k:=by
  intro x hx k hk;exact hh k (G! _ (Z! _ (mN (Z? hx) k hk)))
 have hd:∀d,o.dst=some d->cN.h (st.kb+d)=st.h (st.kb+d):=by
  intro d hd;exact hh _ (by simp [nB,hd])
 obtain⟨dst,op,type,pos,after,guard⟩:=o;simp only at ht hk hd
 have hfr:∀d,dst=some d->fresh cN.h (st.kb+d)=fresh st.h (st.kb+d):=by
  intro d h;simp only [fresh,hd d h]
 cases op with
 |move x=>simp only [dR,ht x (by simp [Op.operands])]
 |assign x=>simp only [dR,ht x (by simp [Op.operands])]
 |pick c x y=>simp only [dR,ht c (by simp [Op.operands]),ht x (by simp [Op.operands]),ht y (by simp [Op.operands])]
 |alloc t=>simp only [dR,tJ]
 |box t x=>simp only [dR,ht x (by simp [Op.operands]),tJ]
 |build t parts=>
  have :(parts.toList.map fun p=>(p.1,ev cN p.2))=parts.toList.map fun p=>(p.1,ev st p.2):=by
   apply k?;intro p hp;rw [ht p.2 (by simp only [Op.operands];exact Z? hp)]
  simp only [dR,this]
 |buildSlice t len parts=>
  have :(parts.toList.map fun p=>(p.1,ev cN p.2))=parts.toList.map fun p=>(p.1,ev st p.2):=by
   apply k?;intro p hp;rw [ht p.2 (by simp only [Op.operands];exact Z? hp)]
  simp only [dR,this,tJ];cases dst with
  |none=>rfl
  |some d=>
   simp only [hfr d rfl];rw [yV];intro k gg;refine hh k (G! _ (Z! _ ?_));simp only [Op.operands,List.map_map] at gg |-;exact gg
 |load t x=>simp only [dR,ht x (by simp [Op.operands]),Kf _ t _ (hk x (by simp [Op.operands]))]
 |store t x y=>simp only [dR,ht x (by simp [Op.operands]),ht y (by simp [Op.operands]),Ix _ t _ _ (hk x (by simp [Op.operands])) (hk y (by simp [Op.operands]))]
 |nilCheck x=>simp only [dR,ht x (by simp [Op.operands])]
 |binOp op t x y yt=>simp only [dR,ht x (by simp [Op.operands]),ht y (by simp [Op.operands])]
 |unOp op t x=>simp only [dR,ht x (by simp [Op.operands])]
 |convert s d x=>grind[dR,Op.operands,Eb]
 |makeFunc f first bH=>
  grind[ev,List.map_congr_left,Op.operands,dR]
 |makeSlice t l c=>
  simp only [dR,ht l (by simp [Op.operands]),ht c (by simp [Op.operands]),tJ];grind
 |slice t x l hi mx=>
  have h1:l.map (ev cN)=l.map (ev st):=by cases l with|none=>rfl|some y=>simp only [Option.map_some,ht y (by simp [Op.operands])]
  have h2:hi.map (ev cN)=hi.map (ev st):=by cases hi with|none=>rfl|some y=>grind[Op.operands]
  have h3:mx.map (ev cN)=mx.map (ev st):=by cases mx with|none=>rfl|some y=>grind[Op.operands]
  grind[dR,Op.operands,Iz]
 |fieldAddr s x f=>simp only [dR,ht x (by simp [Op.operands])]
 |field s x f=>simp only [dR,ht x (by simp [Op.operands])]
 |indexAddr t x i=>simp only [dR,tU,ht x (by simp [Op.operands]),ht i (by simp [Op.operands]),Bn _ t _ _ (hk x (by simp [Op.operands]))]
 |index t x i=>simp only [dR,ht x (by simp [Op.operands]),ht i (by simp [Op.operands])]
 |extract x i=>simp only [dR,ht x (by simp [Op.operands])]
 |lookup t x i ok=>simp only [dR,ht x (by simp [Op.operands]),ht i (by simp [Op.operands])]
 |call c=>
  obtain⟨callee,args,argTypes⟩:=c
  have cw:∀x∈args.toList,x∈(Op.call ⟨callee,args,argTypes⟩).operands.toList:=by
   grind[Op.operands,Call.operands,Array.toList_append]
  have yW:args.toList.map (ev cN)=args.toList.map (ev st):=k? fun x hx=>ht x (cw x hx);cases callee with
  |invoke r m=>rfl
  |builtin b=>
   simp only [dR];cases hl:args.toList with
   |nil=>grind
   |cons x xs=>
    have hx:ev cN x=ev st x:=ht x (cw x x!);have kx:=hk x (cw x x!);cases xs with
    |nil=>
     cases b<;>first|rfl|(cases argTypes.toList with
      |nil=>rfl
      |cons t ts=>cases ts with
       |nil=>first|(simp only [hx,P4 _ kx];done)|(simp only [hx,Iy _ t _ kx];done)
       |cons _ _=>rfl)
    |cons y ys=>
     have hy:ev cN y=ev st y:=ht y (cw y x!);have ky:=hk y (cw y x!);cases ys with
     |cons z zs=>cases b<;>rfl
     |nil=>
      cases b
      case append=>
       cases Nj:argTypes.toList with
       |nil=>rfl
       |cons t ts=>cases ts with
        |nil=>rfl
        |cons t' ts'=>grind[F7]
      case copy=>
       grind[Kg]
      all_goals first|rfl|simp only [hx,hy]
  |value f=>
   have Vu:f∈(Op.call ⟨.value f,args,argTypes⟩).operands.toList:=by simp [Op.operands,Call.operands]
   have hf:ev cN f=ev st f:=ht f Vu;have kf:=hk f Vu;simp only [dR,hf,yW,tJ];cases D3:ev st f with
   |fn pS first bH=>
    cases pS with
    |func g=>
     have Hr:∀d,oR E cN.h d g (first++args.toList.map (ev st)++bH)=oR E st.h d g (first++args.toList.map (ev st)++bH):=by
      intro d;refine Kh E d g _ fun k gg=> ?_;simp only [jl,F!] at gg;rw [D3] at kf;simp only [aE,F!] at kf;rcases gg with(gg|gg)|gg
      . grind
      . refine hh k (List.mem_cons_of_mem _ (List.mem_append_left _ ?_));grind[Op.operands,Call.operands,Array.toList_append,jl]
      grind
     grind
    |_=>rfl
   |_=>rfl
 |_=>rfl
theorem IA {h h':bg}(E:Env)(d f:Nat)(xs:List AV)(hx:∀k∈aW xs,h' k=h k):mI E h' d f xs=mI E h d f xs:=by
 grind[mI,yU,j9,lY,CL]
theorem Sx {E:Env} {st cN:St} {o:Oper}(ht:∀x∈o.op.operands.toList,ev cN x=ev st x)(hh:∀k∈nB E st o,cN.h k=st.h k)(tJ:cN.kb=st.kb):
  BO E cN o=BO E st o:=by
 have hk:∀x∈o.op.operands.toList,∀k∈aE (ev st x),cN.h k=st.h k:=by
  intro x hx k hk;exact hh k (G! _ (Z! _ (mN (Z? hx) k hk)))
 obtain⟨dst,op,type,pos,after,guard⟩:=o;cases op with
 |load t p=>
  grind[BO,Op.operands,ev,aE]
 |store t p v=>
  grind[BO,Op.operands,ev,aE]
 |slice t x l hi mx=>
  cases l with
  |none=>rfl
  |some l=>
   cases hi with
   |none=>rfl
   |some hi=>
    cases mx with
    |none=>rfl
    |some mx=>
     grind[BO,Op.operands,hi,ev,aE]
 |indexAddr t x i=>
  grind[BO,Op.operands,ev,aE]
 |call c=>
  obtain⟨callee,args,argTypes⟩:=c
  have cw:∀x∈args.toList,x∈(Op.call ⟨callee,args,argTypes⟩).operands.toList:=by
   grind[Op.operands,Call.operands,Array.toList_append]
  have yW:args.toList.map (ev cN)=args.toList.map (ev st):=k? fun x hx=>ht x (cw x hx);cases callee with
  |invoke r m=>rfl
  |builtin b=>
   simp only [BO];grind[ev,aE]
  |value f=>
   have Vu:f∈(Op.call ⟨.value f,args,argTypes⟩).operands.toList:=by simp [Op.operands,Call.operands]
   have hf:ev cN f=ev st f:=ht f Vu;have kf:=hk f Vu;simp only [BO,hf,yW,tJ];cases D3:ev st f with
   |fn pS first bH=>
    cases pS with
    |func g=>
     have Hr:∀d,mI E cN.h d g (first++args.toList.map (ev st)++bH)=mI E st.h d g (first++args.toList.map (ev st)++bH):=by
      intro d;refine IA E d g _ fun k gg=> ?_;simp only [jl,F!] at gg;rw [D3] at kf;simp only [aE,F!] at kf;rcases gg with(gg|gg)|gg
      . grind
      . refine hh k (List.mem_cons_of_mem _ (List.mem_append_left _ ?_));grind[Op.operands,Call.operands,Array.toList_append,jl]
      grind
     grind
    |_=>rfl
   |_=>rfl
 |_=>rfl
theorem Sy {E:Env} {st cN:St} {o:Oper}(ht:∀x∈o.op.operands.toList,ev cN x=ev st x)(hh:∀k∈nB E st o,cN.h k=st.h k)(tJ:cN.kb=st.kb):
  JW E cN o=JW E st o:=by
 have hk:∀x∈o.op.operands.toList,∀k∈aE (ev st x),cN.h k=st.h k:=by
  intro x hx k hk;exact hh k (G! _ (Z! _ (mN (Z? hx) k hk)))
 obtain⟨dst,op,type,pos,after,guard⟩:=o;cases op with
 |alloc t=>simp_all[JW]
 |load t p=>
  grind[JW,Op.operands,ev,aE]
 |store t p v=>
  grind[JW,Op.operands,ev,aE]
 |_=>rfl
theorem Ht {h:bg}(x:AV):∀k∈aE (iF h x).1,k∈aE x:=by
 intro k hk;cases x with
 |own j=>grind[iF,aE]
 |pre j n=>grind[iF,aE]
 |view j sz off n=>
  grind[iF,Nat.beq,aE]
 |_=>exact hk
theorem Hu {h:bg}:∀(xs:List AV),∀k∈aW (oP h xs).1,k∈aW xs
 | [],k,hk=>hk
 |x::xs,k,hk=>by
  simp [oP,aW,F!] at hk |-;rcases hk with hk|hk
  . exact .inl (Ht x k hk)
  . exact .inr (Hu xs k hk)
theorem Vv {h:bg}(x:AV):∀k∈aE (pv h x).1,k∈aE x:=by
 intro k hk;unfold pv at hk;grind[aE,Hu,Ht]
theorem yX {h:bg}:∀(m:List Bool) (xs:List AV),(∀k∈aW (dN h m xs).1,k∈aW xs)/\∀k∈(dN h m xs).2,k∈aW xs
 |m,[]=>⟨fun k hk=>hk,fun k hk=>by cases hk⟩
 |m,x::xs=>by
  obtain⟨g1,g2⟩:=yX (h:=h) m.tail xs;cases hm:m.headD false with
  |true=>
   simp only [dN,hm,cond_true,aW,List.mem_append];grind
  |false=>
   simp only [dN,hm,cond_false,aW,List.mem_append];grind[Vv,AI]
theorem xJ {h h':bg}:∀(m:List Bool) (xs:List AV),(∀k∈aW xs,h' k=h k)->dN h' m xs=dN h m xs
 |m,[],_=>rfl
 |m,x::xs,hx=>by
  have h1:=xJ (h:=h) (h':=h') m.tail xs (fun k hk=>hx k (by simp [aW,F!];exact .inr hk));have h2:=wZ (h:=h) (h':=h') x (fun k hk=>hx k (by simp [aW,F!];exact .inl hk));simp [dN,h1,h2]
theorem uZ {h h':bg}:∀(ks:List Nat),(∀k∈ks,h' k=h k)->behind h' ks=behind h ks
 | [],_=>rfl
 |k::ks,hk=>by
  simp [behind,hk k (S! ..),uZ ks fun j hj=>hk j (G! _ hj)]
theorem yY {h:bg}:∀(ks ls:List Nat),(∀k∈ks,k∈ls)->∀j∈behind h ks,j∈behind h ls
 | [],ls,_,j,hj=>by cases hj
 |k::ks,ls,hk,j,hj=>by
  simp [behind,F!] at hj;rcases hj with hj|hj
  . have :∀(ls:List Nat),k∈ls->j∈behind h ls:=by
     intro ls;induction ls with
     |nil=>intro h;cases h
     |cons l ls ih=>
      intro hl;simp [behind,F!];rcases P!.1 hl with rfl|hl
      . exact .inl hj
      . exact .inr (ih hl)
    exact this ls (hk k (S! ..))
  . exact yY ks ls (fun i hi=>hk i (G! _ hi)) j hj
theorem CM:∀(l acc:List Nat) (k:Nat),k∈dedup acc l->k∈acc\/k∈l
 | [],acc,k,h=> .inl (by grind[dedup])
 |x::l,acc,k,h=>by
  simp [dedup] at h;cases hm:aM acc x with
  |true=>
   rw [hm] at h;rcases CM l acc k h with h|h
   . exact .inl h
   . exact .inr (G! _ h)
  |false=>
   rw [hm] at h;rcases CM l (x::acc) k h with h|h
   . rcases P!.1 h with rfl|h
     . exact .inr (S! ..)
     . exact .inl h
   . exact .inr (G! _ h)
theorem xK {h h':bg}:∀(K:List Nat),(∀k∈K,h' k=h k)->contents h' K=contents h K
 | [],_=>rfl
 |k::K,hk=>by simp [contents,hk k (S! ..),xK K fun j hj=>hk j (G! _ hj)]
theorem IB {h h':bg}(E:Env)(d f:Nat)(xs:List AV)(hx:∀k∈aW xs++behind h (aW xs),h' k=h k):mJ E h' d f xs=mJ E h d f xs:=by
 have Nc:∀k∈aW xs,h' k=h k:=fun k hk=>hx k (List.mem_append_left _ hk);unfold mJ;split
 . rename_i m s hs;obtain⟨p1,p2⟩:=yX (h:=h) m xs;rw [xJ m xs Nc,uZ (h:=h) (h':=h') _ (fun k hk=>Nc k (p1 k hk))];unfold PT
   rw [xK (h:=h) (h':=h') _ (fun k hk=>by
    rcases CM _ _ k hk with hk|hk
    . grind
    grind[List.mem_append_right,yY]),j9 (h:=h) (h':=h') _ (fun k hk=>Nc k (p2 k hk))]
 . rfl
theorem Sz {E:Env} {st cN:St} {o:Oper}(ht:∀x∈o.op.operands.toList,ev cN x=ev st x)(hh:∀k∈nB E st o,cN.h k=st.h k)(tJ:cN.kb=st.kb):
  Se E cN o=Se E st o:=by
 obtain⟨dst,op,type,pos,after,guard⟩:=o;cases op with
 |call c=>
  obtain⟨callee,args,argTypes⟩:=c;cases callee with
  |value f=>
   have cw:∀x∈args.toList,x∈(Op.call ⟨.value f,args,argTypes⟩).operands.toList:=by
    grind[Op.operands,Call.operands,Array.toList_append]
   have yW:args.toList.map (ev cN)=args.toList.map (ev st):=k? fun x hx=>ht x (cw x hx);have hf:ev cN f=ev st f:=ht f (by simp [Op.operands,Call.operands]);simp [Se,hf,yW,tJ];cases D3:ev st f with
   |fn pS first bH=>
    cases pS with
    |func g=>
     have N2:∀k∈aW (first++args.toList.map (ev st)++bH),k∈aW ((Op.call ⟨.value f,args,argTypes⟩).operands.toList.map (ev st)):=by
      have Vu:f∈(Op.call ⟨.value f,args,argTypes⟩).operands.toList:=by simp [Op.operands,Call.operands]
      have hfk:=mN (List.mem_map_of_mem (f:=ev st) Vu);grind[aE,jl,Op.operands,Call.operands,Array.toList_append]
     have Hr:∀d,mJ E cN.h d g (first++args.toList.map (ev st)++bH)=mJ E st.h d g (first++args.toList.map (ev st)++bH):=by
      intro d;refine IB E d g _ fun k hk=> ?_;rcases F!.1 hk with hk|hk
      . exact hh k (G! _ (Z! _ (N2 k hk)))
      . exact hh k (G! _ (Y! _ (Z! _ (yY _ _ N2 k hk))))
     grind
    |_=>rfl
   |_=>rfl
  |_=>rfl
 |_=>rfl
theorem oZ {h:bg} {k e i j:Nat} {row:List Ty} {l:List (Row row)}(hk:h k=some (.jc e (some j) row l i)):∀ {ks:List Nat},k∈ks->j∈gK h ks
 |q::ks,hm=>by
  simp [gK];rcases P!.1 hm with rfl|hm
  . rw [hk];simp
  . split
    . exact G! _ (oZ hk hm)
    . exact oZ hk hm
theorem BT:∀ {cs xs:List AV} {k:Nat},sJ cs=some (xs,k)->k∈aW cs
 | [],_,_,h=>by cases h
 |a::r,xs,k,h=>by
  unfold sJ at h;simp [aW,List.mem_append];cases r with
  |nil=>
   cases a<;>first|(obtain⟨_,rfl⟩:=h;simp [aE])|cases h
  |cons b r=>
   simp at h;split at h
   . rename_i x k' hl;obtain⟨_,rfl⟩:=h;exact .inr (BT hl)
   . cases h
theorem Nt {E:Env} {h h':bg} {t:TypeId}(p v:AV)(hp:∀k∈aE p,h' k=h k)(hv:∀k∈aE v,h' k=h k):Ay E h' t p v=Ay E h t p v:=by
 unfold Ay;grind[aE,sJ,BT]
theorem IC {E:Env} {h h':bg} {t:TypeId}(p:AV)(hp:∀k∈aE p,h' k=h k)(ho:∀k∈gK h (aE p),h' k=h k):sf E h' t p=sf E h t p:=by
 unfold sf;grind[aE,oZ]
theorem Ki {E:Env} {h h':bg} {t:TypeId}(x i:AV)(hp:∀k∈aE x,h' k=h k):vG E h' t x i=vG E h t x i:=by
 unfold vG;grind[aE]
theorem Kj {h h':bg} {k:Nat}(hk:h' k=h k)(ho:∀j∈gK h [k],h' j=h j):closing h' k=closing h k:=by
 unfold closing;rw [hk];cases hh:h k with
 |none=>rfl
 |some ab=>
  cases ab with
  |jc e j row l i=>
   cases j with
   |none=>rfl
   |some k5=>simp [ho k5 (oZ hh z!)]
  |_=>rfl
theorem w7 {h:bg}:∀ {a b:List Nat},(∀k∈a,k∈b)->∀j∈gK h a,j∈gK h b
 | [],_,_,j,hj=>by grind[gK]
 |k::a,b,hs,j,hj=>by
  simp [gK] at hj;split at hj
  . rename_i hk;rcases P!.1 hj with rfl|hj
    . exact oZ hk (hs k (S! ..))
    . exact w7 (fun q hq=>hs q (G! _ hq)) j hj
  . exact w7 (fun q hq=>hs q (G! _ hq)) j hj
theorem SA {E:Env} {st cN:St} {o:Oper}(ht:∀x∈o.op.operands.toList,ev cN x=ev st x)(hh:∀k∈nB E st o,cN.h k=st.h k)(tJ:cN.kb=st.kb):
  JZ E cN o=JZ E st o:=by
 unfold JZ ZT ZS;rw [Sw ht hh tJ,Sx ht hh tJ,Sy ht hh tJ,Sz ht hh tJ]
theorem Vw {E:Env} {st cN:St} {o:Oper}(ht:∀x∈o.op.operands.toList,ev cN x=ev st x)(hh:∀k∈nB E st o,cN.h k=st.h k)(tJ:cN.kb=st.kb):
  act E cN o=act E st o:=by
 have hN:=SA ht hh tJ;have ahX:∀x∈o.op.operands.toList,∀k∈aE (ev st x),k∈aW (o.op.operands.toList.map (ev st)):=fun x hx k hk=>mN (Z? hx) k hk
 have hk:∀x∈o.op.operands.toList,∀k∈aE (ev st x),cN.h k=st.h k:=fun x hx k hk=>
  hh k (G! _ (Z! _ (ahX x hx k hk)))
 have hk2:∀x∈o.op.operands.toList,∀k∈gK st.h (aE (ev st x)),cN.h k=st.h k:=fun x hx k hk=>
  hh k (G! _ (Y! _ (Y! _ (Z! _ (w7 (ahX x hx) k hk)))))
 have hc:∀k∈sL E st.h o,cN.h k=st.h k:=fun k hk=>hh k (G! _ (Y! _ (Y! _ (Y! _ hk))))
 have hO:Sf E cN o=Sf E st o:=by
  unfold Sf
  have rp:vI E cN.h o=vI E st.h o:=by
   grind[vI,sL,gK,Kj,List.mem_cons_self,List.mem_cons_of_mem]
  grind[guard,store,Op.operands,Nt,load,IC,Ki]
 grind[act]
end Go.Vg

end
section
namespace Go.Vg
open Go
theorem AJ:∀(l:List Nat) (k:Nat),aM l k=true↔k∈l
 | [],k=>by simp [aM]
 |j::l,k=>by
  simp_all[aM,X?,P!,AJ]
theorem iJ {l:List Nat} {k:Nat}:aM l k=false↔k∉l:=by
 rw [<-AJ,Bool.not_eq_true]
theorem CN {a b:List Nat}(h:sK a b=true):∀k∈a,k∉b:=by
 intro k hk;have :=(List.all_eq_true.1 h) k hk;grind[Bool.not_eq_true',iJ]
mutual
theorem Kk(p:Nat->Bool):∀(a:AV),(∀k∈aE a,p k=false)->aR p a=a
 | .own k,h=>by simp [aR,h k (by simp [aE])]
 | .pre k _,h=>by simp [aR,h k (by simp [aE])]
 | .view k _ _ _,h=>by simp [aR,h k (by simp [aE])]
 | .ref k _,h=>by simp [aR,h k (by simp [aE])]
 | .elem k _ _ _,h=>by simp [aR,h k (by simp [aE])]
 | .agg cs,h=>by simp only [aR,mc p cs (by simpa [aE] using h)]
 | .bA cs,h=>by simp only [aR,mc p cs (by simpa [aE] using h)]
 | .je _ cs,h=>by simp only [aR,mc p cs (by simpa [aE] using h)]
 | .fn f first bH,h=>by
   simp only [aE,F!] at h;simp only [aR,mc p first (fun k hk=>h k (.inl hk)),mc p bH (fun k hk=>h k (.inr hk))]
 | .dU,_| .undef,_| .int _ _,_| .bool _,_| .tt,_| .ff,_| .str _,_| .nil,_| .lp,_| .rD _ _,_| .lW,_| .sl _ _,_| .full _ _,_| .iM _ _ _,_| .sq _ _,_=>by simp [aR]
theorem mc(p:Nat->Bool):∀(aK:List AV),(∀k∈aW aK,p k=false)->fF p aK=aK
 | [],_=>rfl
 |a::aK,h=>by
  simp only [aW,F!] at h;simp only [fF,Kk p a (fun k hk=>h k (.inl hk)),mc p aK (fun k hk=>h k (.inr hk))]
end
theorem yZ(p:Nat->Bool)(b:AB)(h:∀k∈jU b,p k=false):ew p b=b:=by
 cases b with
 |cells cs=>grind[ew,mc,jU]
 |row _ _ _ _=>rfl
 |arr _ _=>rfl
 |views e j n m sz=>
  cases j with
  |none=>rfl
  |some j=>simp_all[ew,fS,jU,Q!]
 |jc e j row l i=>
  cases j with
  |none=>rfl
  |some j=>simp_all[ew,fS,jU,Q!]
theorem Ec {new:List (Nat×AB)} {k:Nat}(h:k∉new.map (·.1)):iw new k=false :=by
 grind[wY,iP,iJ]
def Clean(e:Ev)(s:St):Prop :=(∀i,aR (iw e.eZ.new) (s.t i)=s.t i)/\∀k,c6 (iw e.eZ.new) (s.h k)=s.h k
def ap(ops:List Oper)(e:Ev)(s:St):St:=jg (qM ops e.i) e.o.dst (s.put e.o.dst e.eZ)
def ay9(g:Bool)(a:AV):AV:=bif g then J3 a else a
def CO(e:Ev)(k:Nat):Option (Option AB):=match ay e.eZ.new k with
 |some b=>some (some b)
 |none=>bif aM e.eZ.del k then some none else match ay e.eZ.jq k with
  |some b=>some (some (BD e.eZ k b))
  |none=>none
section
variable {P:Program} {C:Ctx} {E:Env} {ops:List Oper}
theorem ahY {g:Bool} {d:Option Nat} {s:St}:(jg g d s).g=s.g:=by
 cases d<;>cases g<;>rfl
theorem Kl {g:Bool} {d:Option Nat} {s:St}:(jg g d s).h=s.h/\(jg g d s).n=s.n/\(jg g d s).kb=s.kb:=by
 cases d<;>cases g<;>exact⟨rfl,rfl,rfl⟩
theorem ahZ(e:Ev)(s:St):(ap ops e s).n=s.n:=Kl.2.1
theorem Vx(e:Ev)(s:St):(ap ops e s).kb=s.kb:=Kl.2.2
theorem ah0(e:Ev)(s:St):(ap ops e s).g=s.g:=ahY
theorem ZZ {e:Ev} {s:St}(hc:Clean e s)(i:Nat):(ap ops e s).t i=if e.o.dst=some i then ay9 (qM ops e.i) e.eZ.res else s.t i:=by
 unfold ap;cases hd:e.o.dst with
 |none=>
  simp [jg,St.put,reduceCtorEq,h?];rw [sO];exact hc.1 i
 |some d=>
  by_cases hi:i=d
  . subst hi;cases qM ops e.i<;>simp [jg,St.put,ay9]
  . have jO:¬(some d=some i):=fun h=>hi (M? h).symm;have :qo e.eZ.new (s.t i)=s.t i:=by rw [sO];exact hc.1 i
    cases qM ops e.i<;>simp only [jg,St.put,bh hi,Q!,L!,N! jO,this]
theorem Z0 {e:Ev} {s:St}(hc:Clean e s)(k:Nat):(ap ops e s).h k=match CO e k with
  |some v=>v
  |none=>s.h k:=by
 unfold ap;rw [Kl.1];have hk:=hc.2 k;simp [St.put,Jy,CO];cases ay e.eZ.new k with
 |some b=>rfl
 |none=>
  cases aM e.eZ.del k with
  |true=>rfl
  |false=>
   grind[ay,c6,Option.some.injEq,yR]
theorem y4 {e:Ev} {k:Nat}(h:k∉e.eZ.wr):CO e k=none:=by
 simp only [Out.wr,F!,not_or] at h;simp [CO,iP _ k (iJ.2 h.2.2),iP _ k (iJ.2 h.1),iJ.2 h.2.1,Q!]
theorem u0:∀(l:List (Nat×AB)) (k:Nat) (c:AB),ay l k=some c->∀j∈jU c,j∈yJ l
 |(j0,b0)::l,k,c,hc,j,hj=>by
  simp [ay] at hc;simp [yJ,F!];cases hb:Nat.beq k j0 with
  |true=>grind
  |false=>rw [hb] at hc;exact .inr (u0 l k c hc j hj)
theorem P5 {e g:Ev} {k:Nat} {b:AB}(hp:sK e.eZ.CH (g.eZ.new.map (·.1))=true)(h:CO e k=some (some b)):ew (iw g.eZ.new) b=b:=by
 have aHR:∀j∈e.eZ.CH,iw g.eZ.new j=false :=fun j hj=>Ec (CN hp j hj);unfold CO at h;split at h
 . grind[Option.some.injEq,yZ,Out.CH,u0]
 . cases hd:aM e.eZ.del k with
   |true=>grind
   |false=>
    rw [hd] at h;split at h
    . rename_i c hc;simp at h;subst h;have rp:∀j∈jU c,iw g.eZ.new j=false :=fun j hj=>aHR j (by grind[Out.CH,u0]);unfold BD;cases aM e.eZ.raw k with
      |true=>grind[yZ]
      |false=>
      simp;rw [yR,iK];have comm:(fun k=>iw e.eZ.new k || iw g.eZ.new k)=fun k=>iw g.eZ.new k || iw e.eZ.new k:=by grind
      rw [comm,<-iK,yZ _ c rp]
    grind
theorem Clean.ap {e g:Ev} {s:St}(hg:Clean g s)(he:Clean e s)(hp:sK e.eZ.CH (g.eZ.new.map (·.1))=true):Clean g (ap ops e s):=by
 refine⟨fun i=> ?_,fun k=> ?_⟩
 . rw [ZZ he];split
   . have :aR (iw g.eZ.new) e.eZ.res=e.eZ.res:=Kk _ _ fun k hk=>Ec (CN hp k (by grind[Out.CH]));cases hq:qM ops e.i with
     |false=>exact this
     |true=>
      cases hr:e.eZ.res with
      |bool b=>cases b<;>rfl
      |_=>rw [hr] at this;exact this
   . exact hg.1 i
 . rw [Z0 he];cases hw:CO e k with
   |none=>exact hg.2 k
   |some v=>
    cases v with
    |none=>rfl
    |some b=>grind[c6,P5]
theorem Ed {h h':bg}:∀(l:List (Nat×AB)),(∀k∈l.map (·.1),h' k=h k)->kT h' l=kT h l
 | [],_=>rfl
 |(k,b)::l,hx=>by
  simp [kT,hx k z!,Ed l (fun j hj=>hx j (by simp only [V?,P!];exact .inr hj))]
theorem Km {t t':Nat->AV} {o:Oper}(h:∀x∈looks ops o,t' x=t x):Sj ops t' o=Sj ops t o:=by
 grind[Sj,looks,PV]
theorem Ee:∀(xs:List Operand) (i:Nat), .tmp i∈xs->i∈slotsOf xs
 |x::xs,i,h=>by
  rcases P!.1 h with rfl|h
  . simp [slotsOf]
  . have :=Ee xs i h;cases x<;>simp [slotsOf,this]
theorem sQ {h h':bg}:∀(ks:List Nat),(∀k∈ks,h' k=h k)->gK h' ks=gK h ks
 | [],_=>rfl
 |k::ks,hk=>by simp [gK,hk k (S! ..),sQ ks fun j hj=>hk j (G! _ hj)]
theorem ael {s s':St} {o:Oper}(h:∀x∈looks ops o,s'.t x=s.t x)(hg:s'.g=s.g):∀x∈o.op.operands.toList,ev s' x=ev s x:=by
 intro x hx;cases x with
 |global i=>grind[ev]
 |tmp i=>exact h i (by grind[looks,List.mem_append_right,Ee])
 |_=>rfl
theorem nj.I3 {f:Ev} {s s1 s':St}(hf:nj E ops f s s1)(ht:∀x∈looks ops f.o,s'.t x=s.t x)(hk:∀k,k∈f.kr\/k∈f.eZ.wr->s'.h k=s.h k)(hn:s'.n=s.n)(tJ:s'.kb=s.kb)(hgg:s'.g=s.g):
  nj E ops f s' (ap ops f s'):=by
 have hev:=ael ht hgg
 have hkr:nB E s' f.o=nB E s f.o:=by
  have pQ:∀k∈aW (f.o.op.operands.toList.map (ev s)),s'.h k=s.h k:=fun k gg=>hk k (.inl (by rw [hf.kr];exact G! _ (Z! _ gg)))
  have hbc:ua s' f.o=ua s f.o:=by
   grind[ua,List.map_congr_left,uZ]
  have rp:sL E s'.h f.o=sL E s.h f.o:=by
   have hm:∀q∈sL E s.h f.o,s'.h q=s.h q:=fun q hq=>hk q (.inl (by
    rw [hf.kr];exact G! _ (Y! _ (Y! _ (Y! _ hq)))))
   grind[sL,sQ,List.mem_singleton,List.mem_cons_self]
  grind[nB,List.map_congr_left,sQ]
 refine⟨hf.op,?_,hf.kr.trans hkr.symm,?_,j8.refl _⟩
 . have :=hf.dst;grind[j6]
 . have sx:=hf.step;cases ho:f.out with
   |none=>
    grind[Km]
   |some out=>
    rw [ho] at sx;obtain⟨h1,h2,h3,h4⟩:=sx;have he:f.eZ=out:=by grind[Ev.eZ]
    refine⟨by grind[Km],?_,?_,h4⟩
    . rw [Vw hev (fun k gg=>hk k (.inl (by rw [hf.kr];omega))) tJ];omega
    grind[Ed,Out.wr]
theorem nj.seq {f:Ev} {s s1 r r1:St}(hf:nj E ops f s s1)(h:j8 r s)(h1:j8 r1 s1):nj E ops f r r1:=by
 have :=hf.I3 (s':=r) (fun x _=>by rw [h.1]) (fun k _=>by rw [h.2.1]) h.2.2.1 h.2.2.2.1 h.2.2.2.2;refine⟨this.op,this.dst,this.kr,this.step,?_⟩;refine h1.trans (hf.next.trans ?_);refine j8.jg ?_ _ _;obtain⟨e1,e2,e3,e4,e5⟩:=h;refine⟨?_,?_,e3.symm,e4.symm,e5.symm⟩
 . simp_all[St.put]
 simp_all[St.put]
theorem vK.seq:∀(es:List Ev) (s r q q':St),vK E ops es s q->j8 r s->j8 q' q->vK E ops es r q'
 | [],s,r,q,q',h,h1,h2=>h2.trans (j8.trans h h1.symm)
 |e::es,s,r,q,q',⟨s1,h,hx⟩,h1,h2=>⟨s1,h.seq h1 (j8.refl _),vK.seq es s1 s1 q q' hx (j8.refl _) h2⟩
theorem apart_spec {e f:Ev}(h:rQ ops e f=true):(∀d,e.o.dst=some d->d∉looks ops f.o)/\(∀d,f.o.dst=some d->d∉looks ops e.o)/\(∀d,e.o.dst=some d->f.o.dst≠some d)/\
  (∀k∈e.eZ.wr,k∉f.kr)/\(∀k∈f.eZ.wr,k∉e.kr)/\(∀k∈e.eZ.wr,k∉f.eZ.wr)/\sK e.eZ.CH (f.eZ.new.map (·.1))=true/\sK f.eZ.CH (e.eZ.new.map (·.1))=true :=by
 unfold rQ at h;grind[CN,J2,Bool.not_eq_true',iJ,ek,Bool.not_true]
theorem swap {e f:Ev} {s s1 s2:St}(he:nj E ops e s s1)(hf:nj E ops f s1 s2)(ha:rQ ops e f=true)(ce:Clean e s)(cf:Clean f s):
  nj E ops f s (ap ops f s)/\nj E ops e (ap ops f s) (ap ops e (ap ops f s))/\j8 (ap ops e (ap ops f s)) s2:=by
 obtain⟨a1,a2,a3,a4,a5,a6,a7,a8⟩:=apart_spec ha;have n1:j8 s1 (ap ops e s):=he.next;have cf1:Clean f (ap ops e s):=cf.ap ce a7;have ce1:Clean e (ap ops f s):=ce.ap cf a8;have hf':nj E ops f (ap ops e s) s2:=hf.seq n1.symm (j8.refl _)
 have hF:nj E ops f s (ap ops f s):=by
  refine hf'.I3 (fun x hx=> ?_) (fun k hk=> ?_) (ahZ _ _).symm (Vx _ _).symm (ah0 _ _).symm
  . rw [ZZ ce,N! (fun h=>a1 x h hx)]
  grind[Z0,y4]
 have hE:nj E ops e (ap ops f s) (ap ops e (ap ops f s)):=by
  refine he.I3 (fun x hx=> ?_) (fun k hk=> ?_) (ahZ _ _) (Vx _ _) (ah0 _ _)
  . rw [ZZ cf,N! (fun h=>a2 x h hx)]
  grind[Z0,y4]
 refine⟨hF,hE,j8.trans ?_ hf'.next.symm⟩;show j8 (ap ops e (ap ops f s)) (ap ops f (ap ops e s));refine⟨?_,?_,by grind[ahZ],by grind[Vx],by grind[ah0]⟩
 . grind[ZZ]
 grind[Z0,y4]
def sR(ops:List Oper):List Ev->Prop
 | []=>True
 |e::es=>(∀f∈es,sK e.eZ.CH (f.eZ.new.map (·.1))=true/\(waits f e=true\/rQ ops e f=true))/\sR ops es
theorem Z1:∀(es1:List Ev) (f:Ev) (qN:List Ev) (s q:St),vK E ops (es1++f::qN) s q->(∀e∈es1,rQ ops e f=true)->
  sR ops (es1++f::qN)->(∀g∈es1++f::qN,Clean g s)->nj E ops f s (ap ops f s)/\vK E ops (es1++qN) (ap ops f s) q
 | [],f,qN,s,q,hx,ha,_,hc=>by
   obtain⟨s1,h1,h2⟩:=hx;refine⟨h1.I3 (fun _ _=>rfl) (fun _ _=>rfl) rfl rfl rfl,vK.seq _ _ _ _ _ h2 h1.next.symm (j8.refl _)⟩
 |e::es1,f,qN,s,q,hx,ha,hP,hc=>by
  obtain⟨s1,h1,h2⟩:=hx;have ce:=hc e z!
  have hc1:∀g∈es1++f::qN,Clean g s1:=by
   intro g hg;have h:=(hc g x!).ap (ops:=ops) ce (hP.1 g hg).1;have hn:j8 s1 (ap ops e s):=h1.next;exact⟨fun i=>by rw [hn.1];exact h.1 i,fun k=>by rw [hn.2.1];exact h.2 k⟩
  obtain⟨b1,b2⟩:=Z1 es1 f qN s1 q h2 (fun e' he'=>ha e' (G! _ he')) hP.2 hc1;obtain⟨c1,c2,c3⟩:=swap h1 b1 (ha e z!) ce (hc f z!);exact⟨c1,ap ops e (ap ops f s),c2,vK.seq _ _ _ _ _ b2 c3 (j8.refl _)⟩
end
end Go.Vg

end
section
namespace Go.Vg
open Go
section
variable {P:Program} {C:Ctx} {E:Env}
theorem vM {l:Array Bool} {i:Nat}(h:i<l.size):l.getD i true=l.getD i false :=by
 grind
theorem sR.sub:∀ {es1:List Ev} {f:Ev} {qN:List Ev} {ops:List Oper},sR ops (es1++f::qN)->sR ops (es1++qN)
 | [],f,qN,ops,h=>h.2
 |e::es1,f,qN,ops,h=>by
  refine⟨fun g hg=>h.1 g ?_,sR.sub (es1:=es1) h.2⟩;have hg:g∈es1++qN:=hg;show g∈es1++f::qN;rw [F!] at hg |-;exact hg.imp id (G! _)
theorem sR.mid:∀ {es1:List Ev} {f:Ev} {qN:List Ev} {ops:List Oper},sR ops (es1++f::qN)->(∀e∈es1,sK e.eZ.CH (f.eZ.new.map (·.1))=true/\(waits f e=true\/rQ ops e f=true))/\
  ∀g∈qN,sK f.eZ.CH (g.eZ.new.map (·.1))=true
 | [],f,qN,ops,h=>⟨fun e he=>x!,fun g hg=>(h.1 g hg).1⟩
 |e::es1,f,qN,ops,h=>by
  obtain⟨h1,h2⟩:=sR.mid (es1:=es1) h.2;refine⟨fun e' he'=> ?_,h2⟩;rcases P!.1 he' with rfl|he'
  . exact h.1 f z!
  . exact h1 e' he'
def aBd(all:List Ev):Prop :=∀f∈all,∀k∈f.pre,∃x∈f.o.after.toList,Region.binds .any x=true/\(x.on=k\/∃g∈all,g.i=x.on/\k∈g.pre)
theorem Vy(hE:hJ P C E) {ops:Array Oper} {Q:Exit->Act->World->Prop}:∀(fuel:Nat) (listed:Array Bool) (es:List Ev) (s q:St) (a:Act) (w:World),
  es.length<=fuel->vK E ops.toList es s q->sR ops.toList es->(∀g∈es,Clean g s)->(es.map (·.i)).Pairwise (· < ·)->(∀i,listed.getD i true=false↔∃e∈es,e.i=i)->
  (∀e∈es,∀x∈e.o.after.toList,Region.binds .any x=true->x.on<e.i)->(∀e∈es,ops[e.i]? =some e.o)->∀(all:List Ev),(∀e∈es,e∈all)->(∀g∈all,ops[g.i]? =some g.o)->aBd all->(∀g∈all,listed.getD g.i true=true->∀k∈g.pre,listed.getD k false=true)->listed.size=ops.size->Rel C s a w->(∀a' w',Rel C q a' w'->Q .normal a' w')->wpAny P .any ops Q fuel listed a w:=by
 intro fuel;induction fuel with
 |zero=>
  intro listed es s q a w hl hx hP hc hi hm hb ho all na hao ah3 rp fj hR hQ;have :es= []:=R?.1 (Nat.le_zero.1 hl);subst this;obtain⟨A,β,hB⟩:=hR;refine⟨?_,hQ _ _ ⟨A,β,hB.seq hx⟩⟩;simp_all[List.eq_nil_iff_forall_not_mem,mem_ready]
 |succ fuel ih=>
  intro listed es s q a w hl hx hP hc hi hm hb ho all na hao ah3 rp fj hR hQ;refine⟨fun hr=> ?_,fun i jO=> ?_⟩
  . cases es with
    |nil=>
     obtain⟨A,β,hB⟩:=hR;exact hQ _ _ ⟨A,β,hB.seq hx⟩
    |cons e es=>
     exfalso;have hoe:=ho e z!;have kU:e.i<ops.size:=(E?.1 hoe).1
     have :e.i∈Region.ready .any ops listed:=by
      refine mem_ready.2 ⟨(hm e.i).2 ⟨e,z!,rfl⟩,e.o,hoe,fun x Iv hbx=> ?_⟩;have hon:=hb e z! x (by simpa using Iv) hbx;rw [<-vM (by rw [fj];omega)];cases hq:listed.getD x.on true with
      |true=>rfl
      |false=>
       obtain⟨g,hg,hgi⟩:=(hm x.on).1 hq;exfalso;rcases P!.1 hg with rfl|hg
       . omega
       . have :e.i<g.i:=(W?.1 hi).1 g.i (Z? hg);omega
     rw [hr] at this;cases this
  . obtain⟨h0,o,CP,Vz⟩:=mem_ready.1 jO;obtain⟨f,hf,hfi⟩:=(hm i).1 h0;obtain⟨es1,qN,rfl⟩:=List.append_of_mem hf;subst hfi;have hof:=ho f z!;rw [hof] at CP;simp only [A!] at CP;subst CP;obtain⟨m1,m2⟩:=hP.mid
    have aza:∀g∈all,ops[g.i]? =some f.o->∀k∈g.pre,listed.getD k false=true :=by
     intro g hg hgo k hk
     have hgf:g.o=f.o:=by
      have :=hao g hg;rw [hgo] at this;exact(M? this).symm
     obtain⟨x,Nc,hx2,hx3⟩:=ah3 g hg k hk;rw [hgf] at Nc;have VA:=Vz x (by simpa using Nc) hx2;rcases hx3 with rfl|⟨g',CQ,hgi,hkg⟩
     . exact VA
     . refine rp g' CQ ?_ k hkg;rw [hgi];rw [G?] at VA |-;cases hq:listed[x.on]? with
       |none=>rfl
       |some b=>rw [hq] at VA;exact VA
    have ID:∀e∈es1,rQ ops.toList e f=true :=by
     intro e he;rcases(m1 e he).2 with hw|hw
     . exfalso;have hmk:e.i∈f.pre:=(AJ _ _).1 hw;have this :=aza f (na f z!) hof e.i hmk;have he0:=(hm e.i).2 ⟨e,by simp [he],rfl⟩
       have kU:e.i<listed.size:=by
        rw [fj];exact(E?.1 (ho e (by simp [he]))).1
       rw [vM kU] at he0;rw [he0] at this;cases this
     . exact hw
    obtain⟨c1,c2⟩:=Z1 es1 f qN s q hx ID hP hc;refine D7 hE c1 hR fun a' w' oY=> ?_;have cf:=hc f z!
    have mF:∀e∈es1++qN,e∈es1++f::qN:=by
     intro e he;rw [F!] at he |-;exact he.imp id (G! _)
    have gI:∀e∈es1++qN,e.i≠f.i:=by
     intro e he;rw [s?,V?,List.pairwise_append] at hi;obtain⟨p1,p2,p3⟩:=hi;rcases F!.1 he with he|he
     . have :e.i<f.i:=p3 e.i (Z? he) f.i z!;omega
     . have :f.i<e.i:=(W?.1 p2).1 e.i (Z? he);omega
    have aHX:f.i<listed.size:=by rw [fj];exact(E?.1 hof).1
    refine ih (listed.setIfInBounds f.i true) (es1++qN) (ap ops.toList f s) q a' w' ?_ c2 hP.sub ?_ ?_ ?_ (fun e he=>hb e (mF e he)) (fun e he=>ho e (mF e he)) all (fun e he=>na e (mF e he)) hao ah3 ?_ (by simpa using fj) oY hQ
    . simp only [C!,F?] at hl |-;omega
    . intro g hg;refine(hc g (mF g hg)).ap cf ?_;rcases F!.1 hg with hg|hg
      . exact(apart_spec (ID g hg)).2.2.2.2.2.2.2
      . exact m2 g hg
    . refine hi.sublist ?_;rw [s?,s?,V?];exact List.Sublist.append (List.Sublist.refl _) (List.sublist_cons_self _ _)
    . intro i;by_cases hif:i=f.i
      . subst hif
        have :(listed.setIfInBounds f.i true).getD f.i true=true :=by
         rw [G?,Array.getElem?_setIfInBounds_self_of_lt aHX];rfl
        rw [this];constructor
        . intro h;cases h
        . rintro⟨e,he,h⟩;exact absurd h (gI e he)
      . rw [getD_set_ne true (fun h=>hif h.symm),hm i];constructor
        . rintro⟨e,he,rfl⟩;refine⟨e,?_,rfl⟩;rw [F!,P!] at he;rw [F!];rcases he with he|rfl|he
          . exact .inl he
          . exact absurd rfl hif
          . exact .inr he
        . rintro⟨e,he,rfl⟩;exact⟨e,mF e he,rfl⟩
    . intro g hg hlg k hk;by_cases hgf:g.i=f.i
      . exact getD_set_true (aza g hg (by rw [hgf];exact hof) k hk)
      . rw [getD_set_ne true (fun h=>hgf h.symm)] at hlg;exact getD_set_true (rp g hg hlg k hk)
theorem y5:∀(a b:List Nat) (k:Nat),k∈D5 a b->k∈a\/k∈b
 | [],b,k,h=> .inr h
 |j::a,b,k,h=>by
  simp [D5] at h;cases hj:aM b j with
  |true=>
   rw [hj] at h;rcases y5 a b k h with h|h
   . exact .inl (G! _ h)
   . exact .inr h
  |false=>
   rw [hj] at h;rcases y5 a (j::b) k h with h|h
   . exact .inl (G! _ h)
   . rcases P!.1 h with rfl|h
     . exact .inl (S! ..)
     . exact .inr h
theorem Kn:∀(tr:List Ev) (i k:Nat),k∈PW i tr->∃g∈tr,g.i=i/\k∈g.pre
 |e::tr,i,k,h=>by
  simp [PW] at h;cases hb:Nat.beq e.i i with
  |true=>rw [hb] at h;exact⟨e,S! ..,D! hb,h⟩
  |false=>
   rw [hb] at h;obtain⟨g,h1,h2⟩:=Kn tr i k h;exact⟨g,G! _ h1,h2⟩
 | [],_,_,h=>by cases h
theorem CR:∀(tr:List Ev) (xs:List Edge) (k:Nat),k∈n0 tr xs->∃x∈xs,Region.binds .any x=true/\(x.on=k\/∃g∈tr,g.i=x.on/\k∈g.pre)
 |tr,x::xs,k,h=>by
  simp [n0] at h;cases hb:Region.binds .any x with
  |true=>
   rw [hb] at h;rcases y5 _ _ k h with h|h
   . grind[List.mem_cons_self,Kn]
   . obtain⟨y,h1,h2⟩:=CR tr xs k h;exact⟨y,G! _ h1,h2⟩
  |false=>
   rw [hb] at h;obtain⟨y,h1,h2⟩:=CR tr xs k h;exact⟨y,G! _ h1,h2⟩
 |_,[],_,h=>by cases h
theorem VB {kb:Nat} {ops:List Oper}(es:List Ev):∀(tr:List Ev),P1 kb ops tr es->∀f∈es,∀k∈f.pre,∃x∈f.o.after.toList,Region.binds .any x=true/\(x.on=k\/∃g,(g∈tr\/g∈es)/\g.i=x.on/\k∈g.pre):=by
 induction es with
 |nil=>grind
 |cons e es ih=>
  intro tr h f hf k hk;obtain⟨_,hp,hr⟩:=h;grind[CR,List.mem_cons_self,List.mem_cons_of_mem]
theorem Ef {kb:Nat} {ops:List Oper}:∀(es tr:List Ev),P1 kb ops tr es->(∀e∈tr,∀f∈es,sK e.eZ.CH (f.eZ.new.map (·.1))=true/\(waits f e=true\/rQ ops e f=true))/\
  sR ops es/\(∀f∈es,∀x∈f.o.after.toList,Region.binds .any x=true->x.on<f.i)/\∀f∈es,∀x∈f.eZ.new,dm kb ((nA ops).map .dst) x.1=true
 | [],tr,_=>⟨fun _ _ f hf=>x!,trivial,fun f hf=>x!,fun f hf=>x!⟩
 |f::es,tr,⟨h,_,hr⟩=>by
  obtain⟨r1,r2,r3,r4⟩:=Ef es (f::tr) hr;simp only [BP,L!,B!,W!,X?] at h;obtain⟨⟨h1,h2⟩,h3⟩:=h;refine⟨fun e he g hg=> ?_,⟨fun g hg=>r1 f z! g hg,r2⟩,fun g hg x hx hb=> ?_,fun g hg x hx=> ?_⟩
  . grind
  . rcases P!.1 hg with rfl|hg
    . rcases h2 x hx with h|h
      . grind
      simp_all
    grind
  grind
theorem aJ.drew {A:Nat->Prop} {β:Nat->Value} {st:St} {a:Act} {w:World}(hB:aJ C A β st a w)(n:Nat):aJ C A β st a {w with drawn:=n}:=by
 have hK:dC w {w with drawn:=n} A A:=fun b hb=>⟨hb,rfl⟩;refine⟨hB.defers,hB.size,fun i=>kD hK _ _ (hB.tmps i),fun k ab h=> ?_,hB.apart,hB.bound,⟨hB.frame.os,hB.frame.tape,hB.frame.output,hB.frame.size,hB.frame.block⟩,hB.nh,hB.base,hB.qI,hB.uO,fun i d hd=>(hB.laid i d hd).mono hK,hB.held⟩;have :=yj (w:=w) (aS:=β) (new:= []) (w':= {w with drawn:=n}) (fun _ _=>rfl) rfl (fun b hb=>⟨rfl,id⟩) hK (hB.blocks k ab h);rwa [show dF [] ab=ab from rfl] at this
theorem N6 {ops:List Oper}(es:List Ev):∀(s q:St),vK E ops es s q->∀e∈es,ops[e.i]? =some e.o:=by
 induction es with
 |nil=>grind
 |cons e es ih=>
  intro s q hx f hf;obtain⟨s1,h1,h2⟩:=hx;rcases P!.1 hf with rfl|hf
  . exact h1.op
  grind
theorem Nu(hE:hJ P C E)(hm:P.follows .mixedOrders=true) {id:Nat} {ops:Array Oper} {st:St} {a:Act} {w:World} {cs:List Prop} {m:St}(h:Hk E true ops.toList st=some (cs,m))(fx:∀p∈cs,p)
  (hR:Rel C st a w) {Q:Exit->Act->World->Prop} (hQ:∀a' w',Rel C m a' w'->Q .normal a' w'):(Code.region id ops true).wp P Q a w:=by
 obtain⟨es,sl,h1,h2,h3,h4⟩:=sP ops.toList 0 [] _ cs m h fx (fun k=>by simp);obtain⟨_,p1,p2,p3⟩:=Ef es [] (h3 rfl);obtain⟨A,β,hB⟩:=hR
 have hlen:es.length=ops.size:=by
  have :=congrArg List.length h2;grind
 have azb:∀i,(∃e∈es,e.i=i)↔i<ops.size:=by
  intro i;have :(∃e∈es,e.i=i)↔i∈es.map (·.i):=by simp
  grind
 refine wp_region_any hm (Vy (C:=C) hE ops.size _ es _ sl _ _ w! h1 p1 (fun g hg=> ?_) ?_ (fun i=> ?_) p2 (fun e he=> ?_) es (fun _ h=>h) (fun e he=> ?_) ?_ ?_ z! ⟨A,β,(hB.ahead _).drew _⟩ (fun a' w' ⟨A,β,hB⟩=>hQ _ _ ⟨A,β,h4 _ _ _ _ _ hB⟩))
 . have hp:∀k,iw g.eZ.new k=true->dm st.kb ((nA ops.toList).map .dst) k=true :=by
    intro k hk
    have :∃x∈g.eZ.new,x.1=k:=by
     rw [wY] at hk
     have :k∈g.eZ.new.map (·.1):=by
      apply L?;intro hn;rw [iP _ k (iJ.2 hn)] at hk;cases hk
     simpa using this
    obtain⟨x,hx,rfl⟩:=this;exact p3 g hg x hx
   have azc:∀k,(dm st.kb ((nA ops.toList).map .dst) k || iw g.eZ.new k)=dm st.kb ((nA ops.toList).map .dst) k:=by
    intro k;cases hk:iw g.eZ.new k with
    |false=>rw [Bool.or_false]
    |true=>rw [hp k hk];rfl
   refine⟨fun i=> ?_,fun k=> ?_⟩
   . simp only [St.ahead,fl,azc]
   . simp only [St.ahead,j7,azc]
 . rw [h2];exact List.pairwise_lt_range'
 . rw [azb];constructor
   . intro h;by_cases hi:i<ops.size
     . exact hi
     . rw [G?,Array.getElem?_eq_none (by simpa using hi)] at h;cases h
   . intro hi;rw [G?,Array.getElem?_replicate,R! hi];rfl
 . have :=N6 es _ _ h1 e he;simpa using this
 . have :=N6 es _ _ h1 e he;simpa using this
 . intro f hf k hk;obtain⟨x,g1,g2,g3⟩:=VB es [] (h3 rfl) f hf k hk;refine⟨x,g1,g2,g3.imp (fun h=>h) ?_⟩;rintro⟨g,hg,h⟩;rcases hg with hg|hg
   . cases hg
   . exact⟨g,hg,h⟩
 . intro g hg hlg;have hgi:g.i<ops.size:=(azb g.i).1 ⟨g,hg,rfl⟩;rw [G?,Array.getElem?_replicate,R! hgi] at hlg;cases hlg
theorem BU(hE:hJ P C E)(hm:P.follows .mixedOrders=true) {id:Nat} {ops:Array Oper} {d:Bool} {st:St} {a:Act} {w:World} {cs:List Prop} {m:St}(h:Hk E d ops.toList st=some (cs,m))(fx:∀p∈cs,p)
  (hR:Rel C st a w) {Q:Exit->Act->World->Prop} (hQ:∀a' w',Rel C m a' w'->Q .normal a' w'):(Code.region id ops d).wp P Q a w:=by
 cases d
 . grind[P3]
 grind[Nu]
end
end Go.Vg

end
section
namespace Go.Vg
open Go
section
variable {P:Program} {C:Ctx} {E:Env} {A:Nat->Prop} {β:Nat->Value} {st:St} {a:Act} {w:World}
theorem gj.clear {W:List Nat} {s m:St}(h:gj W s.clear m):gj W s.clear m:=h
theorem aJ.clear(hB:aJ C A β st a w):aJ C A β st.clear a w:=hB.seq ⟨rfl,rfl,rfl,rfl,rfl⟩
theorem ah5(hB:aJ C A β st a w) {c:Operand}(h:ev st c= .tt):a.eval c= .bool true :=by
 have :=bk hB c;grind[af]
theorem ah6(hB:aJ C A β st a w) {c:Operand}(h:ev st c= .ff):a.eval c= .bool false :=by
 have :=bk hB c;grind[af]
theorem SB(hB:aJ C A β st a w) {c:Operand} {b:Bool}(h:ev st c= .bool b):a.eval c= .bool b:=by
 have :=bk hB c;grind[af]
theorem ah7(hB:aJ C A β st a w) {c:Operand} {row:List Ty} {l:List (Row row)}(h:ev st c= .rD row l):∃b,a.eval c= .bool b/\(b=true->l= []):=by
 have :=bk hB c;grind[af]
theorem sS {W W':List Nat}:∀i,aM (W++W') i=false->aM W i=false :=by
 grind[dO,Bool.or_eq_false_iff]
theorem y6 {W W':List Nat}:∀i,aM (W++W') i=false->aM W' i=false :=by
 grind[dO,Bool.or_eq_false_iff]
theorem me:∀(c:Code) (st:St) (cs:List Prop) (m:St),ir E c st=some (cs,m)->gj (xY c) st m
 | .skip,st,cs,m,h=>by
   grind[ir,Option.some.injEq,Prod.mk.injEq,gj.refl]
 | .region id ops d,st,cs,m,h=>by
   exact Kc h
 | .seq x y,st,cs,m,h=>by
   simp [ir] at h;split at h
   . rename_i c cN hx;obtain⟨c',hy,_⟩:=qw h;exact(me x _ _ _ hx).trans (me y _ _ _ hy)
   . cases h
 | .cond c x y,st,cs,m,h=>by
   simp [ir] at h;split at h
   . exact(me x _ _ _ h).mono sS
   . exact(me y _ _ _ h).mono y6
   . obtain⟨c1,s1,c2,s2,r1,r2,hm,rfl⟩:=AH h;exact gj.merge hm
   . cases h
 | .block id b,st,cs,m,h=>by
   exact me b _ _ _ h
 | .loop _,st,cs,m,h=>by grind[ir]
 | .rangeFunc _ _ _ _,st,cs,m,h=>by grind[ir]
 | .exit _,st,cs,m,h=>by grind[ir]
 | .scope _,st,cs,m,h=>by grind[ir]
 | .label _,st,cs,m,h=>by grind[ir]
 | .goto _,st,cs,m,h=>by grind[ir]
 | .ret,st,cs,m,h=>by grind[ir]
 | .refuse _,st,cs,m,h=>by grind[ir]
theorem kJ(hE:hJ P C E)(hm:P.follows .mixedOrders=true):∀(c:Code) (st:St) (cs:List Prop) (m:St) (a:Act) (w:World) (Q:Exit->Act->World->Prop),ir E c st=some (cs,m)->(∀p∈cs,p)->Rel C st a w->
  (∀a' w',Rel C m a' w'->Q .normal a' w')->c.wp P Q a w
 | .skip,st,cs,m,a,w,Q,h,fx,hR,hQ=>by
   grind[ir,Option.some.injEq,Prod.mk.injEq,wp_skip]
 | .region id ops d,st,cs,m,a,w,Q,h,fx,hR,hQ=>by
   grind[ir,BU]
 | .seq x y,st,cs,m,a,w,Q,h,fx,hR,hQ=>by
   simp [ir] at h;split at h
   . rename_i c cN hx;obtain⟨c',hy,rfl⟩:=qw h
     exact wp_seq (kJ hE hm x st _ _ a w _ hx (fun p hp=>fx p (Z! _ hp)) hR fun a' w' oY=>
      kJ hE hm y cN _ _ a' w' Q hy (fun p hp=>fx p (Y! _ hp)) oY hQ)
   . cases h
 | .cond c x y,st,cs,m,a,w,Q,h,fx,hR,hQ=>by
   obtain⟨A,β,hB⟩:=hR;simp [ir] at h;split at h
   . rename_i hv;exact wp_cond_true (ah5 hB hv) (kJ hE hm x st _ _ a w Q h fx ⟨A,β,hB⟩ hQ)
   . rename_i hv;exact wp_cond_false (ah6 hB hv) (kJ hE hm y st _ _ a w Q h fx ⟨A,β,hB⟩ hQ)
   . rename_i b hv;obtain⟨c1,s1,c2,s2,r1,r2,hmg,rfl⟩:=AH h;have hc:=Hl fx;have f1:=(me x _ _ _ r1).mono (W':=xY x++xY y) sS;have f2:=(me y _ _ _ r2).mono (W':=xY x++xY y) y6;refine wp_cond_split (SB hB hv) (fun hb=> ?_) (fun hb=> ?_)
     . subst hb
       exact kJ hE hm x st.clear _ _ a w Q r1 (hc.1 rfl) ⟨A,β,hB.clear⟩ fun a' w' ⟨A',aS,Vr⟩=>
        hQ _ _ ⟨A',aS,Vr.merge (b:=true) hmg f1 (fun _ _=>rfl) rfl rfl rfl f2 (fun _ _=>rfl) rfl rfl rfl⟩
     . subst hb
       exact kJ hE hm y st.clear _ _ a w Q r2 (hc.2 rfl) ⟨A,β,hB.clear⟩ fun a' w' ⟨A',aS,Vr⟩=>
        hQ _ _ ⟨A',aS,Vr.merge (b:=false) hmg f1 (fun _ _=>rfl) rfl rfl rfl f2 (fun _ _=>rfl) rfl rfl rfl⟩
   grind
 | .block id b,st,cs,m,a,w,Q,h,fx,hR,hQ=>by
   exact wp_block (kJ hE hm b st _ _ a w _ h fx hR hQ)
 | .loop _,st,cs,m,a,w,Q,h,_,_,_=>by grind[ir]
 | .rangeFunc _ _ _ _,st,cs,m,a,w,Q,h,_,_,_=>by grind[ir]
 | .exit _,st,cs,m,a,w,Q,h,_,_,_=>by grind[ir]
 | .scope _,st,cs,m,a,w,Q,h,_,_,_=>by grind[ir]
 | .label _,st,cs,m,a,w,Q,h,_,_,_=>by grind[ir]
 | .goto _,st,cs,m,a,w,Q,h,_,_,_=>by grind[ir]
 | .ret,st,cs,m,a,w,Q,h,_,_,_=>by grind[ir]
 | .refuse _,st,cs,m,a,w,Q,h,_,_,_=>by grind[ir]
structure lG (W:List Nat) (base s:St):Prop where
 uc:∃p,(∀k,p k=true->dm base.kb s.news k=true)/\(∀i,aM W i=false->s.t i=aR p (base.t i))/\
  ∀k,aM s.ct k=false->dm base.kb s.news k=false->s.h k=c6 p (base.h k)
 n:s.n=base.n
 kb:s.kb=base.kb
 ct:∀k,aM base.ct k=true->aM s.ct k=true
 news:∀k,dm base.kb base.news k=true->dm base.kb s.news k=true
 g:s.g=base.g
theorem gj.loose {W:List Nat} {s m:St}(h:gj W s m):lG W s m:=by
 obtain⟨p,h1,h2,h3⟩:=h.uc;exact⟨⟨p,h1,h2,fun k hk _=>h3 k hk⟩,h.n,h.kb,h.ct,h.news,h.g⟩
theorem lG.refl(W:List Nat)(s:St):lG W s s:=(gj.refl W s).loose
theorem lG.mono {W W':List Nat} {s0 s1:St}(h:lG W s0 s1)(hw:∀i,aM W' i=false->aM W i=false):lG W' s0 s1:=by
 obtain⟨p,a1,a2,a3⟩:=h.uc;exact⟨⟨p,a1,fun i hi=>a2 i (hw i hi),a3⟩,h.n,h.kb,h.ct,h.news,h.g⟩
theorem lG.trans {W W':List Nat} {s0 s1 s2:St}(h1:lG W s0 s1)(h2:lG W' s1 s2):lG (W++W') s0 s2:=by
 obtain⟨p,a1,a2,a3⟩:=h1.uc;obtain⟨q,b1,b2,b3⟩:=h2.uc
 have aBg:∀k,dm s0.kb s1.news k=true->dm s0.kb s2.news k=true :=by
  intro k h;have :=h2.news k (by rw [h1.kb];exact h);rwa [h1.kb] at this
 refine⟨⟨fun k=>p k || q k,fun k hk=> ?_,fun i hi=> ?_,fun k hk hn=> ?_⟩,h2.n.trans h1.n,h2.kb.trans h1.kb,fun k h=>h2.ct k (h1.ct k h),fun k h=>aBg k (h1.news k h),h2.g.trans h1.g⟩
 . rcases X? _ _ |>.mp hk with h|h
   . grind
   . have :=b1 k h;rwa [h1.kb] at this
 . grind[dO,Bool.or_eq_false_iff,fl]
 . have RX:aM s1.ct k=false :=by
    cases h:aM s1.ct k with
    |false=>rfl
    |true=>rw [h2.ct k h] at hk;omega
   have RU:dm s0.kb s1.news k=false :=by
    grind
   rw [b3 k hk (by rw [h1.kb];omega),a3 k RX RU,j7]
def rE:Value:= .slice none 0 0
def kZ(bad:Nat->Bool)(s:List (Nat×Option Nat))(β:Nat->Value)(k:Nat):Value:=bif bad k then(match cC s k with
 |some (some j)=>β j
 |some none=>rE
 |none=>β k) else β k
theorem mf {r r':List Ty} {l:List (Row r)} {m:List (Row r')}(h:gu r r' l=some m):∃e:r=r',m=e▸l:=by
 grind[gu,Option.some.injEq,Ty.lX]
theorem k6:∀ {a b:List Prop},(∀p∈a++b,p)->(∀p∈a,p)/\∀p∈b,p:=by
 intro a b h;exact⟨fun p hp=>h p (Z! _ hp),fun p hp=>h p (Y! _ hp)⟩
theorem bn {p:Prop}(h:∀q∈ [p],q):p:=h p z!
variable {bad:Nat->Bool} {s:List (Nat×Option Nat)}
structure Keyed (bad:Nat->Bool) (s:List (Nat×Option Nat)) (β aS:Nat->Value):Prop where
 src:∀K k,cC s K=some (some k)->aS K=β k
 nil:∀K,cC s K=some none->aS K=rE
 same:∀K,cC s K=none->bad K=false->aS K=β K
 aHZ:∀K,bad K=false->aS K=β K
theorem w8 {aS:Nat->Value}(hK:Keyed bad s β aS) {k K:Nat}(h:yO s bad k K=true):aS K=β k:=by
 unfold yO at h;split at h
 . rename_i j hj;rw [hK.src K j hj,D! h]
 . cases h
 . simp only [B!,I?] at h;have :=D! h.1;subst this;exact hK.aHZ k h.2
mutual
theorem pY {aS:Nat->Value}(hK:Keyed bad s β aS):∀(x y:AV) (v:Value),(∀p∈J4 s bad x y,p)->af w A β v x->af w A aS v y
 |x,y,v,h,hr=>by
  unfold J4 at h;split at h
  . simp [af]
  . simpa only [af] using hr
  . rename_i k n k' m;split at h
    . rename_i hk;subst hk;have :=bn h;subst this;simpa only [af] using hr
    . exact(bn h).elim
  . simpa only [af] using hr
  . simpa only [af] using hr
  . have :=bn h;subst this;simpa only [af] using hr
  . have :=bn h;subst this;simpa only [af] using hr
  . have :=bn h;subst this;simpa only [af] using hr
  . have :=bn h;subst this;simpa only [af] using hr
  . simpa only [af] using hr
  . simpa only [af] using hr
  . simpa only [af] using hr
  . rename_i r l;have :=bn h;subst this;simp only [af] at hr |-;subst hr;simp only [Rd];exact⟨none,0,[],rfl,z!,by simp [maxLen],by simp [eu],z!⟩
  . rename_i r l r' l';split at h
    . rename_i m hm;obtain⟨e,he⟩:=mf hm;subst e;have :=bn h;subst he;subst this;simpa only [af] using hr
    . exact(bn h).elim
  . rename_i r l r' l';split at h
    . rename_i m hm;obtain⟨e,he⟩:=mf hm;subst e;have :=bn h;subst he;subst this;simp only [af] at hr |-;exact hr.1
    . exact(bn h).elim
  . rename_i k K;simp only [af] at hr |-;split at h
    . rename_i j hj;cases hb:Nat.beq k j with
      |false=>rw [hb] at h;exact(bn h).elim
      |true=>
       have :=D! hb;subst this;rw [hK.src K k hj];exact hr
    . exact(bn h).elim
    . rename_i hj;cases hb:(Nat.beq k K&& !bad K) with
      |false=>rw [hb] at h;exact(bn h).elim
      |true=>
       simp only [B!,I?] at hb;have :=D! hb.1;subst this;rw [hK.same k hj hb.2];exact hr
  . rename_i K;simp only [af] at hr |-;split at h
    . rename_i hj;rw [hK.nil K hj];subst hr;exact⟨rfl,rfl⟩
    . exact(bn h).elim
  . rename_i k o k' o';simp only [af] at hr |-;cases hb:yO s bad k k' with
    |false=>rw [hb] at h;exact(bn h).elim
    |true=>
     rw [hb] at h;have :=bn h;subst this;rw [w8 hK hb];exact hr
  . rename_i xs ys;simp only [af] at hr |-;obtain⟨arr,h1,h2⟩:=hr;exact⟨arr,h1,mg hK xs ys _ h h2⟩
  . rename_i xs ys;simp only [af] at hr |-;obtain⟨arr,h1,h2⟩:=hr;exact⟨arr,h1,mg hK xs ys _ h h2⟩
  . rename_i f xs us f' ys vs;split at h
    . rename_i hf;subst hf;simp only [af] at hr |-;obtain⟨a1,a2,h1,h2,h3⟩:=hr;obtain⟨g1,g2⟩:=k6 h;exact⟨a1,a2,h1,mg hK xs ys _ g1 h2,mg hK us vs _ g2 h3⟩
    . exact(bn h).elim
  . rename_i ks xs ks' ys;split at h
    . rename_i pQ;subst pQ;simp only [af] at hr |-;obtain⟨b,es,ck,h1,h2,h3,h4,h5⟩:=hr;exact⟨b,es,ck,h1,h2,h3,h4,mg hK xs ys _ h h5⟩
    . exact(bn h).elim
  . exact(bn h).elim
theorem mg {aS:Nat->Value}(hK:Keyed bad s β aS):∀(xs ys:List AV) (vs:List Value),(∀p∈yP s bad xs ys,p)->ak w A β vs xs->ak w A aS vs ys
 | [],[],vs,_,hr=>by simpa only [ak] using hr
 |x::xs,y::ys,vs,h,hr=>by
  simp only [yP] at h;obtain⟨g1,g2⟩:=k6 h;simp only [ak] at hr |-;obtain⟨v,cK,h1,h2,h3⟩:=hr;exact⟨v,cK,h1,pY hK x y v g1 h2,mg hK xs ys cK g2 h3⟩
 | [],_::_,vs,h,_=>by simp only [yP] at h;exact(bn h).elim
 |_::_,[],vs,h,_=>by simp only [yP] at h;exact(bn h).elim
end
theorem w9 {aS:Nat->Value}(hK:Keyed bad s β aS) {k K:Nat} {c b:AB}(hk:aS K=β k)(h:∀p∈Nq s bad (some c) b,p)(hr:BR w A β k c):BR w A aS K b:=by
 unfold Nq at h;split at h
 . rename_i xs ys heq;simp only [A!] at heq;subst heq;obtain⟨g,arr,e,h1,h2,h3,h4,h5⟩:=hr;exact⟨g,arr,e,hk.trans h1,h2,h3,mg hK xs ys _ h h4,h5⟩
 . rename_i e r l fr e' r' l' FF heq;simp only [A!] at heq;subst heq;split at h
   . rename_i m hm;obtain⟨er,he⟩:=mf hm;subst er;subst he;cases hb:(Nat.beq e e'&&(fr==FF)) with
     |false=>rw [hb] at h;exact(bn h).elim
     |true=>
      rw [hb] at h;simp only [B!,beq_iff_eq] at hb;have he:=D! hb.1;have hf:=hb.2;subst he;subst hf;have :=bn h;subst this;obtain⟨xs,h1,h2,h3⟩:=hr;simp only [BR,hk];exact⟨xs,h1,h2,h3⟩
   . exact(bn h).elim
 . rename_i r l r' l' heq;simp only [A!] at heq;subst heq;split at h
   . rename_i m hm;obtain⟨er,he⟩:=mf hm;subst er;subst he;have :=bn h;subst this;obtain⟨g,arr,e,h1,h2,h3,h4⟩:=hr;exact⟨g,arr,e,hk.trans h1,h2,h3,h4⟩
   . exact(bn h).elim
 . rename_i e j r l i e' j' r' l' i' heq;simp only [A!] at heq;subst heq;split at h
   . rename_i m hm;obtain⟨er,he⟩:=mf hm;subst er;subst he;cases hb:(Nat.beq e e'&&yO s bad j j') with
     |false=>rw [hb] at h;exact(bn h).elim
     |true=>
      rw [hb] at h;simp only [B!] at hb;have he:=D! hb.1;have hj:=w8 hK hb.2;subst he;have hl:=h _ (S! ..);have hi:i=i':=h _ (G! _ (S! ..));subst hl;subst hi;obtain⟨xs,v0,h1,h2,h3,h4⟩:=hr;simp only [BR,hk];refine⟨xs,v0,h1,h2,h3,fun q hq=> ?_⟩;simp only [A!] at hq;subst hq;rw [hj];exact h4 j rfl
   . exact(bn h).elim
 . rename_i e r l e' jj n m sz heq;simp only [A!] at heq;subst heq;cases hb:(Nat.beq e e'&&Nat.beq r.length 1) with
   |false=>rw [hb] at h;exact(bn h).elim
   |true=>
    rw [hb] at h;simp only [B!] at hb;have he:=D! hb.1;have hr1:=D! hb.2;subst he;have hn:l.length=n:=h _ (S! ..);have hm:m=0:=h _ (G! _ (S! ..));subst hn;subst hm;obtain⟨xs,h1,h2,h3⟩:=hr;simp only [BR,hk];rw [hr1] at h1;exact⟨xs,h1,fun b hb=>by simpa using h3 b hb,fun j' _ i hi=>absurd hi (Nat.not_lt_zero _)⟩
 . rename_i e j n m sz e' j' n' m' sz' heq;simp only [A!] at heq;subst heq;cases hb:(Nat.beq e e'&&yO s bad j j') with
   |false=>rw [hb] at h;exact(bn h).elim
   |true=>
    rw [hb] at h;simp only [B!] at hb;have he:=D! hb.1;have hj:=w8 hK hb.2;subst he;have hn:n=n':=h _ (S! ..);have hm:m=m':=h _ (G! _ (S! ..));have hs:sz=sz':=h _ (G! _ (G! _ (S! ..)));subst hn;subst hm;subst hs;obtain⟨xs,h1,h2,h3⟩:=hr;simp only [BR,hk];refine⟨xs,h1,h2,fun q hq i hi=> ?_⟩;simp only [A!] at hq;subst hq;obtain⟨v,e1,e2⟩:=h3 j rfl i hi;refine⟨v,e1,?_⟩;simp only [af] at e2 |-;rw [hj];exact e2
 simp_all
end
end Go.Vg

end
section
namespace Go.Vg
open Go
section
variable {P:Program} {C:Ctx} {E:Env} {A:Nat->Prop} {β aS:Nat->Value} {st:St} {a:Act} {w:World}
theorem P6(p:Nat->Bool)(cY:∀k,p k=false->aS k=β k) {k:Nat}(hk:aS k=β k) {ab:AB}(h:BR w A β k ab):BR w A aS k (ew p ab):=by
 cases ab with
 |cells cs=>
  obtain⟨b,arr,e,h1,h2,h3,h4,h5⟩:=h;exact⟨b,arr,e,hk.trans h1,h2,h3,gO p cY _ _ h4,h5⟩
 |row e row l fr=>
  grind[ew,BR]
 |arr row l=>
  obtain⟨b,arr,e,h1,h2,h3,h4⟩:=h;exact⟨b,arr,e,hk.trans h1,h2,h3,h4⟩
 |jc e j row l i=>
  obtain⟨xs,v0,h1,h2,h3,h4⟩:=h;simp [ew,BR,hk];cases j with
  |none=>grind[fS]
  |some j0=>
   grind[fS]
 |views e j n m sz=>
  obtain⟨xs,h1,h2,h3⟩:=h;simp [ew,BR,hk];refine⟨xs,h1,h2,fun j' lU i hi=> ?_⟩;cases j with
  |none=>grind[fS]
  |some j0=>
   simp [fS] at lU;cases hp:p j0 with
   |true=>grind
   |false=>
    grind[yi]
theorem nC:∀(xZ:List (Loc×Nat)) (s:List (Nat×Option Nat)),sources st xZ=some s->∀K r,cC s K=some r->∃l,(l,K)∈xZ
 | [],s,h,K,r,hl=>by
   simp [sources,A!] at h;subst h;cases hl
 |(l,K0)::xZ,s,h,K,r,hl=>by
  simp [sources] at h;split at h
  . rename_i k s' l8 mO;simp at h;subst h;simp [cC] at hl;cases hb:Nat.beq K K0 with
    |true=>exact⟨l,by rw [D! hb];exact S! ..⟩
    |false=>
     rw [hb] at hl;obtain⟨l',h'⟩:=nC xZ s' mO K r hl;exact⟨l',G! _ h'⟩
  . rename_i k o s' l8 mO;simp at h;subst h;simp [cC] at hl;cases hb:Nat.beq K K0 with
    |true=>exact⟨l,by rw [D! hb];exact S! ..⟩
    |false=>
     rw [hb] at hl;obtain⟨l',h'⟩:=nC xZ s' mO K r hl;exact⟨l',G! _ h'⟩
  . rename_i s' l8 mO;simp at h;subst h;simp [cC] at hl;cases hb:Nat.beq K K0 with
    |true=>exact⟨l,by rw [D! hb];exact S! ..⟩
    |false=>
     rw [hb] at hl;obtain⟨l',h'⟩:=nC xZ s' mO K r hl;exact⟨l',G! _ h'⟩
  . cases h
theorem SC(kb:Nat):∀(xZ:List (Loc×Nat)) (l:Loc) (K:Nat),(l,K)∈xZ->dm kb (xZ.map fun x=>KS.one x.2) K=true
 |(l0,K0)::xZ,l,K,h=>by
  simp only [V?,dm,KS.has,X?];rcases P!.1 h with h|h
  . simp at h;rw [h.2];exact .inl (ek _)
  . exact .inr (SC kb xZ l K h)
theorem Hv {τ:Type} {s:List (Nat×Option Nat)} {bad:Nat->Bool} {x:τ}:∀(l:List (Nat×(τ->AV))) (i:Nat) (f:τ->AV),gM l i=some f->∀p∈J4 s bad (st.t i) (f x),p∈IZ s bad st x l
 |(j,g)::r,i,f,h,p,hp=>by
  simp [gM] at h;simp [IZ,F!];cases hb:Nat.beq i j with
  |true=>
   simp_all
  |false=>
   rw [hb] at h;exact .inr (Hv r i f h p hp)
def ah8 {τ:Type}(s:List (Nat×Option Nat))(bad:Nat->Bool)(st:St)(x:τ)(K:Nat)(f:τ->AB):List Prop :=match cC s K with
 |some (some k)=>Nq s bad (st.h k) (f x)
 |some none=>match f x with
  | .row _ _ l false=> [[]=l]
  |_=> [False]
 |none=>bif bad K then [False] else Nq s bad (st.h K) (f x)
theorem Ko {τ:Type} {s:List (Nat×Option Nat)} {bad:Nat->Bool} {x:τ}:∀(l:List (Nat×(τ->AB))) (i:Nat) (f:τ->AB),gM l i=some f->∀p∈ah8 s bad st x i f,p∈PZ s bad st x l
 |(j,g)::r,i,f,h,p,hp=>by
  simp [gM] at h;simp only [PZ,F!];cases hb:Nat.beq i j with
  |true=>
   rw [hb] at h;simp at h;have :=D! hb;subst this;subst h;exact .inl hp
  |false=>
   rw [hb] at h;exact .inr (Ko r i f h p hp)
theorem jt:∀(s:List (Nat×Option Nat)) (K k:Nat),cC s K=some (some k)->k∈eM s
 |(j,r)::s,K,k,h=>by
  simp [cC] at h;cases hb:Nat.beq K j with
  |true=>
   simp_all[L!,A!,eM]
  |false=>
   rw [hb] at h;have :=jt s K k h;cases r<;>simp [eM,this]
theorem xa:∀(s:List (Nat×Option Nat)),jV (eM s)=true->∀K K' k,cC s K=some (some k)->cC s K'=some (some k)->K=K'
 |(j,r)::s,hn,K,K',k,h,h'=>by
  have hn':jV (eM s)=true :=by
   cases r with
   |none=>exact hn
   |some j'=>simp_all[eM,jV,B!]
  simp [cC] at h h';cases hb:Nat.beq K j with
  |true=>
   cases fv:Nat.beq K' j with
   |true=>simp_all
   |false=>
    rw [fv] at h';have :=jt s K' k h';simp_all[eM,jV,B!,I?,absurd,iJ]
  |false=>
   cases fv:Nat.beq K' j with
   |true=>
    rw [hb] at h;rw [fv] at h';have :=jt s K k h;simp_all[eM,jV,B!,I?,absurd,iJ]
   |false=>
    rw [hb] at h;rw [fv] at h';exact xa s hn' K K' k h h'
theorem vN {s:List (Nat×Option Nat)} {bad:Nat->Bool} {o:Option AB} {b:AB}(h:∀p∈Nq s bad o b,p):∃c,o=some c:=by
 cases o with
 |some c=>grind
 |none=>exact(bn h).elim
theorem P7 {β:Nat->Value} {k e:Nat} {row:List Ty} {l:List (Row row)}(hk:β k=rE)(hl: []=l):BR w A β k (.row e row l false):=by
 subst hl;refine⟨[],⟨z!, .inl ⟨hk,rfl⟩⟩,by rfl,fun b hb=> ?_⟩;grind[rE,aB]
theorem aen {L:b6} {W:List Nat} {base:St} {s:List (Nat×Option Nat)} {x:L.τ}(il:sources st L.xZ=some s)(Nv:AF L W base st s=true)(hm:∀p∈AG L W base st s x,p)(hB:aJ C A β st a w)
  (hT:∀i,aM W i=false->∃p,(∀k,p k=true->dm base.kb (dj L W) k=true)/\st.t i=aR p (base.t i))
  (hH:∀k,aM st.ct k=false->dm base.kb (dj L W) k=false->gM L.keys k=none->∃p,(∀k,p k=true->dm base.kb (dj L W) k=true)/\st.h k=c6 p (base.h k))
  (hn:st.n=base.n) (hgg:st.g=base.g):aJ C A (kZ (dm base.kb (dj L W)) s β) (lL L W base x) a w:=by
 generalize Kp:dm base.kb (dj L W)=bad at *;simp only [AF,Kp,B!] at Nv;obtain⟨⟨⟨⟨⟨⟨⟨o1,o2⟩,oP2⟩,o3⟩,o4⟩,o5⟩,o6⟩,o7⟩:=Nv;rw [W!] at oP2 o3 o4 o5 o6 o7
 have ah9:∀K r,cC s K=some r->bad K=true :=by
  intro K r h;obtain⟨l,hl⟩:=nC _ _ il K r h;rw [<-Kp];simp only [dj,ej,SC base.kb _ l K hl,Bool.true_or,u?]
 have y7:∀K,bad K=false->kZ bad s β K=β K:=by
  intro K h;simp only [kZ,h,Q!]
 have Bo:Keyed bad s β (kZ bad s β):=by
  refine⟨fun K k h=> ?_,fun K h=> ?_,fun K _ h=>y7 K h,y7⟩
  . simp only [kZ,ah9 K _ h,L!,h]
  . simp only [kZ,ah9 K _ h,L!,h]
 have hm1:∀i f,gM L.uY i=some f->∀p∈J4 s bad (st.t i) (f x),p:=by
  intro i f hf p hp;refine hm p ?_;simp only [AG,Kp,F!];exact .inl (Hv _ i f hf p hp)
 have hm2:∀K f,gM L.keys K=some f->∀p∈ah8 s bad st x K f,p:=by
  intro K f hf p hp;refine hm p ?_;simp only [AG,Kp,F!];exact .inr (Ko _ K f hf p hp)
 have gJ:∀K ab,(lL L W base x).h K=some ab->BR w A (kZ bad s β) K ab/\(kZ bad s β K=rE\/∃j,kZ bad s β K=β j/\(st.h j).isSome/\((bad K=false/\j=K)\/(bad K=true/\cC s K=some (some j)))):=by
  intro K ab h;simp only [lL,Kp] at h;cases hf:gM L.keys K with
  |some f=>
   rw [hf] at h;simp at h;subst h;have hc:=hm2 K f hf;unfold ah8 at hc;split at hc
   . rename_i k hk;obtain⟨c,rq⟩:=vN hc;rw [rq] at hc;exact⟨w9 Bo (Bo.src K k hk) hc (hB.blocks k c rq), .inr ⟨k,Bo.src K k hk,by simp [rq], .inr ⟨ah9 K _ hk,hk⟩⟩⟩
   . rename_i hk;refine⟨?_, .inl (Bo.nil K hk)⟩;split at hc
     . rename_i e row l hfx;rw [hfx];exact P7 (Bo.nil K hk) (bn hc)
     . exact(bn hc).elim
   . rename_i hk;cases hb:bad K with
     |true=>rw [hb] at hc;exact(bn hc).elim
     |false=>
      rw [hb] at hc;obtain⟨c,rq⟩:=vN hc;rw [rq] at hc;exact⟨w9 Bo (y7 K hb) hc (hB.blocks K c rq), .inr ⟨K,y7 K hb,by simp [rq], .inl ⟨rfl,rfl⟩⟩⟩
  |none=>
   rw [hf] at h;cases hb:bad K with
   |true=>rw [hb] at h;cases h
   |false=>
    rw [hb] at h;simp only [Q!] at h
    have hd:aM st.ct K=false :=by
     cases hq:aM st.ct K with
     |false=>rfl
     |true=>
      have :=o7 K ((AJ _ _).1 hq);rw [hf,hb] at this;cases this
    obtain⟨p,p1,p2⟩:=hH K hd hb hf;cases Pw:base.h K with
    |none=>rw [Pw] at h;cases h
    |some b0=>
     rw [Pw] at h p2;simp only [c6,A!] at h p2;subst h;have iu:=P6 (aS:=kZ bad s β) bad y7 (y7 K hb) (hB.blocks K _ p2);rw [iK] at iu
     have hpq:(fun k=>p k || bad k)=bad:=by
      funext k;cases hp:p k with
      |false=>rfl
      |true=>rw [p1 k hp];rfl
     rw [hpq] at iu;exact⟨iu, .inr ⟨K,y7 K hb,by simp [p2], .inl ⟨rfl,rfl⟩⟩⟩
 have Nn:∀K,((lL L W base x).h K).isSome->∀b,aB (kZ bad s β K)=some b->∃j,kZ bad s β K=β j/\(st.h j).isSome/\((bad K=false/\j=K)\/(bad K=true/\cC s K=some (some j))):=by
  intro K hK b hb;obtain⟨ab,mE⟩:=T!.1 hK;rcases(gJ K ab mE).2 with h|h
  . rw [h] at hb;simp [rE,aB] at hb
  . exact h
 have hsb:∀K j,cC s K=some (some j)->bad j=true :=fun K j h=>o6 j (jt s K j h)
 refine⟨hB.defers,hB.size.trans hn,fun i=> ?_,fun K ab h=>(gJ K ab h).1,fun K K' b h1 h2 g1 g2=> ?_,hB.bound,hB.frame,hB.nh,hB.base,fun K b h1 g1=> ?_,fun i d hd=>hB.uO i d ((congrFun hgg i).trans hd),hB.laid,fun K hK=>by
  have :kZ bad s β K=β K:=by
   unfold kZ;cases bad K with
   |false=>rfl
   |true=>
    cases hl:cC s K with
    |none=>rfl
    |some y=>
     obtain⟨l,hl⟩:=nC _ _ il K y hl;have :=oP2 _ hl;rw [hK] at this;cases this
  exact this.trans (hB.held K hK)⟩
 . have hi:=hB.tmps i
   show af w A _ _ (match gM L.uY i with
    |some f=>f x
    |none=>bif aM W i then .dU else aR (dm base.kb (dj L W)) (base.t i))
   rw [Kp];cases hf:gM L.uY i with
   |some f=>exact pY Bo _ _ _ (hm1 i f hf) hi
   |none=>
    simp only;cases hW:aM W i with
    |true=>simp [af]
    |false=>
     obtain⟨p,p1,p2⟩:=hT i hW;rw [p2] at hi;have :=qv (aS:=kZ bad s β) bad y7 _ _ hi;rw [fl] at this
     have hpq:(fun k=>p k || bad k)=bad:=by
      funext k;cases hp:p k with
      |false=>rfl
      |true=>rw [p1 k hp];rfl
     rwa [hpq] at this
 . obtain⟨j,e1,l1,c1⟩:=Nn K h1 b g1;obtain⟨j',e2,l2,c2⟩:=Nn K' h2 b g2;rw [e1] at g1;rw [e2] at g2;have hj:j=j':=hB.apart j j' b l1 l2 g1 g2;subst hj;rcases c1 with⟨b1,rfl⟩|⟨b1,k1⟩<;>rcases c2 with⟨b2,h⟩|⟨b2,k2⟩
   . exact h
   . rw [hsb K' _ k2] at b1;cases b1
   . subst h;rw [hsb K _ k1] at b2;cases b2
   . exact xa s o2 K K' j k1 k2
 . obtain⟨j,e1,l1,c1⟩:=Nn K h1 b g1;rw [e1] at g1;exact hB.qI j b l1 g1
theorem BV {L:b6} {W:List Nat} {base:St} {Pp:L.τ->Prop}(h:D6 L W base st Pp)(hR:Rel C st a w)
  (hT:∀i,aM W i=false->∃p,(∀k,p k=true->dm base.kb (dj L W) k=true)/\st.t i=aR p (base.t i))
  (hH:∀k,aM st.ct k=false->dm base.kb (dj L W) k=false->gM L.keys k=none->∃p,(∀k,p k=true->dm base.kb (dj L W) k=true)/\st.h k=c6 p (base.h k))
  (hn:st.n=base.n) (hgg:st.g=base.g):∃x,Pp x/\Rel C (lL L W base x) a w:=by
 obtain⟨A,β,hB⟩:=hR;unfold D6 at h;split at h
 . grind
 . rename_i s hs;cases hk:AF L W base st s with
   |false=>grind
   |true=>
    rw [hk] at h;obtain⟨x,h1,h2⟩:=h;exact⟨x,h2,A,_,aen hs hk (vL _ h1) hB hT hH hn hgg⟩
def aia:Ex->Exit
 | .norm=> .normal
 | .exit i=> .exit i
 | .ret=> .ret
theorem CS:∀ {cs:List Prop} {k:Prop},PY cs k->(∀p∈cs,p)/\k
 | [],k,h=>⟨fun p hp=>x!,h⟩
 |p::ps,k,h=>by
  obtain⟨h1,h2⟩:=CS (cs:=ps) h.2;refine⟨fun q hq=> ?_,h2⟩;rcases P!.1 hq with rfl|hq
  . exact h.1
  . exact h1 q hq
theorem aeo(kb:Nat) {W:List Nat} {d k:Nat}(h:(KS.dst d).has kb k=true):aM W d=true->dm kb (W.map .dst) k=true :=by
 induction W with
 |nil=>intro hd;cases hd
 |cons j W ih=>
  intro hd;simp [aM,Bool.or_eq_true] at hd;simp [List.map_cons,dm,Bool.or_eq_true];grind[Nat.eq_of_beq_eq_true]
theorem Eg {L:b6} {W:List Nat} {base:St}:∀ {news:List KS},I0 L W base news=true->∀k,dm base.kb news k=true->dm base.kb (dj L W) k=true
 | [],_,k,hk=>by cases hk
 |x::news,h,k,hk=>by
  simp only [I0,List.all_cons,B!] at h;simp [dm,X?] at hk;rcases hk with hk|hk
  . cases x with
    |one j=>
     grind[KS.has,Nat.eq_of_beq_eq_true]
    |dst d=>
     simp [dj,ej,Bool.or_eq_true];grind[aeo]
  . exact Eg (news:=news) h.2 k hk
theorem lG.back {L:b6} {W:List Nat} {base:St} {x:L.τ} {m:St}(h:lG W (lL L W base x) m)(FZ:∀y∈L.uY,aM W y.1=true):lG W base (St.back L W base m):=by
 obtain⟨p,a1,a2,a3⟩:=h.uc;have tJ:(lL L W base x).kb=base.kb:=rfl;refine⟨⟨fun k=>dm base.kb (dj L W) k || p k,fun k hk=> ?_,fun i hi=> ?_,fun k hk hnk=> ?_⟩,h.n,h.kb,fun k hk=> ?_,fun k hk=> ?_,h.g⟩
 . simp only [St.back,ej,Bool.or_eq_true] at hk |-;grind
 . show m.t i=_;rw [a2 i hi,<-fl]
   have :(lL L W base x).t i=aR (dm base.kb (dj L W)) (base.t i):=by
    show(match gM L.uY i with
     |some f=>f x
     |none=>bif aM W i then .dU else aR (dm base.kb (dj L W)) (base.t i))=_
    have hls:∀(l:List (Nat×(L.τ->AV))),(∀y∈l,aM W y.1=true)->gM l i=none:=by
     intro l;induction l with
     |nil=>intro _;rfl
     |cons y l ih=>
      grind[g,gM,Nat.beq,bh,hi,List.mem_cons_of_mem]
    grind
   grind
 . have gg:aM m.ct k=false/\aM (L.keys.map (·.1)) k=false :=by
    grind[St.back,dO,Bool.or_eq_false_iff]
   have hn':dm base.kb (dj L W) k=false/\dm base.kb m.news k=false :=by
    grind[St.back,ej,Bool.or_eq_false_iff]
   show m.h k=_;rw [a3 k gg.1 hn'.2,<-j7]
   have :(lL L W base x).h k=c6 (dm base.kb (dj L W)) (base.h k):=by
    show(match gM L.keys k with
     |some f=>some (f x)
     |none=>bif dm base.kb (dj L W) k then none else c6 (dm base.kb (dj L W)) (base.h k))=_
    have hls:∀(l:List (Nat×(L.τ->AB))),aM (l.map (·.1)) k=false->gM l k=none:=by
     intro l;induction l with
     |nil=>intro _;rfl
     |cons y l ih=>
      simp_all[g,V?,aM,U?,gM,Q!]
    grind
   grind
 . simp_all[St.back,dO,u?]
 simp_all[St.back,ej,Bool.true_or]
abbrev VC(C:Ctx)(W:List Nat)(st:St)(K:Ex->St->Prop)(Q:Exit->Act->World->Prop):Prop :=
 ∀e cN a' w',K e cN->lG W st cN->Rel C cN a' w'->Q (aia e) a' w'
theorem SD {L:b6} {W:List Nat} {b:Code} {K:Ex->St->Prop} {V:(Ex->St->Prop)->St->Prop} {Q:Exit->Act->World->Prop}
  (hV:∀K' cN a' w' Q',V K' cN->Rel C cN a' w'->VC C W cN K' Q'->b.wp P Q' a' w')
  (h:ZV L W K V st) (hR:Rel C st a w) (hQ:VC C W st K Q):(Code.loop b).wp P Q a w:=by
 obtain⟨h0,ap4⟩:=h
 have FZ:∀y∈L.uY,aM W y.1=true :=by
  unfold D6 at h0;split at h0
  . grind
  . rename_i s hs;cases hk:AF L W st st.clear s with
    |false=>grind
    |true=>
     simp only [AF,Bool.and_eq_true] at hk;grind
 have hRc:Rel C st.clear a w:=by
  obtain⟨A,β,hB⟩:=hR;exact⟨A,β,hB.clear⟩
 obtain⟨x0,hi0,hr0⟩:=BV h0 hRc (fun i _=>⟨fun _=>false,z!,(rS _).symm⟩) (fun k _ _ _=>⟨fun _=>false,z!,(BS _).symm⟩) rfl rfl;refine wp_loop_ghost (fun n a w=>∃x,L.inv x/\L.ag x=n/\Rel C (lL L W st x) a w) (L.ag x0) ⟨x0,hi0,rfl,hr0⟩ ?_;intro n a w hI;obtain⟨x,hx,rfl,hRx⟩:=hI;refine hV _ _ _ _ _ (ap4 x hx) hRx ?_;intro e cN a' w' hk hF oY;cases e with
 |norm=>
  simp only [Sl] at hk;cases hn:I0 L W st cN.news with
  |false=>grind
  |true=>
   rw [hn] at hk;obtain⟨p,a1,a2,a3⟩:=hF.uc;have tJ:(lL L W st x).kb=st.kb:=rfl;rw [tJ] at a1 a3;have Kp:∀k,dm st.kb cN.news k=true->dm st.kb (dj L W) k=true :=Eg hn;have hb:=hF.back FZ
   obtain⟨x',Iv,nX⟩:=BV hk oY (fun i hi=>by
     refine⟨fun k=>dm st.kb (dj L W) k || p k,fun k hk=> ?_,?_⟩
     . grind
     . rw [a2 i hi,<-fl]
       have :(lL L W st x).t i=aR (dm st.kb (dj L W)) (st.t i):=by
        show(match gM L.uY i with
         |some f=>f x
         |none=>bif aM W i then .dU else aR (dm st.kb (dj L W)) (st.t i))=_
        have hls:∀(l:List (Nat×(L.τ->AV))),(∀y∈l,aM W y.1=true)->gM l i=none:=by
         intro l;induction l with
         |nil=>intro _;rfl
         |cons y l ih=>
          grind[gM,Nat.beq,bh,hi,List.mem_cons_of_mem]
        grind
       grind)
    (fun k hd Pu hls=>by
      grind[dm,dj,j7,lL,c6,gM]) hF.n hF.g
   exact⟨L.ag x',Iv.2,x',Iv.1,rfl,nX⟩
 |exit i=>
  obtain⟨A,β,hB⟩:=oY;exact hQ _ _ _ _ hk (hF.back FZ) ⟨A,β,hB.seq ⟨rfl,rfl,rfl,rfl,rfl⟩⟩
 |ret=>
  obtain⟨A,β,hB⟩:=oY;exact hQ _ _ _ _ hk (hF.back FZ) ⟨A,β,hB.seq ⟨rfl,rfl,rfl,rfl,rfl⟩⟩
end
end Go.Vg

end
section
namespace Go.Vg
open Go
section
variable {P:Program} {C:Ctx} {E:Env} {A:Nat->Prop} {β aS:Nat->Value} {st:St} {a:Act} {w:World}
theorem Kq {W:List Nat} {K:Ex->St->Prop} {Q:Exit->Act->World->Prop}(id:Nat)(hQ:VC C W st K Q):VC C W st (Sk id K) (Exit.inBlock id Q):=by
 intro e cN a' w' hk hF hR;cases e with
 |norm=>exact hQ .norm _ _ _ hk hF hR
 |ret=>exact hQ .ret _ _ _ hk hF hR
 |exit j=>
  simp only [Sk] at hk;by_cases hj:j=id
  . subst hj;simp at hk;simp [aia,Exit.inBlock,K?];exact hQ .norm _ _ _ hk hF hR
  . simp [bh hj,Q!] at hk;simp [aia,Exit.inBlock,N! hj];exact hQ (.exit j) _ _ _ hk hF hR
theorem SE(n:Int)(ks:List Int)(f:Nat->Prop)(h:I1 n ks f 0 ks):∃j,f j:=by
 have :∀(r:List Int) (i:Nat),I1 n ks f i r->(∃j,f j)\/(n∉r/\(wJ n ks->∃j,f j)):=by
  intro r;induction r with
  |nil=>intro i h;exact .inr ⟨z!,fun q=>⟨i,h q⟩⟩
  |cons k r ih=>
   intro i h;by_cases hk:n=k
   . exact .inl ⟨i,h.1 hk⟩
   . rcases ih (i+1) h.2 with g|⟨g1,g2⟩
     . grind
     grind
 grind[yq]
theorem gw(hE:hJ P C E)(hm:P.follows .mixedOrders=true) {L:Nat->Option b6}:∀(c:Code) (K:Ex->St->Prop) (st:St) (a:Act) (w:World) (Q:Exit->Act->World->Prop),
  ru E L c K st->Rel C st a w->VC C (xY c) st K Q->c.wp P Q a w
 | .skip,K,st,a,w,Q,h,hR,hQ=>by
   exact wp_skip (hQ .norm _ _ _ h (lG.refl _ _) hR)
 | .region id ops d,K,st,a,w,Q,h,hR,hQ=>by
   have fin:∀E',hJ P C E'->P0 E' K st ops.toList d->(Code.region id ops d).wp P Q a w:=by
    intro E' hE' h;unfold P0 at h;split at h
    . rename_i cs m hr;obtain⟨h1,h2⟩:=CS h;exact BU hE' hm hr h1 hR fun a' w' oY=>hQ .norm _ _ _ h2 (Kc hr).loose oY
    grind
   simp only [ru] at h;split at h
   . rename_i n ks hw;obtain⟨i,hi⟩:=SE n ks _ h;exact fin {E with Na:=i} ⟨⟨hE.ok.gY,hE.ok.sig,hE.ok.sv⟩,hE.g⟩ hi
   grind
 | .seq x y,K,st,a,w,Q,h,hR,hQ=>by
   refine wp_seq (gw hE hm x _ st a w _ h hR fun e cN a' w' hk hF oY=> ?_);cases e with
   |norm=>
    exact gw hE hm y K cN a' w' Q hk oY fun e aL8 a'' w'' gg hF' aH4=>hQ e _ _ _ gg (hF.trans hF') aH4
   |exit i=>exact hQ (.exit i) _ _ _ hk (hF.mono sS) oY
   |ret=>exact hQ .ret _ _ _ hk (hF.mono sS) oY
 | .cond c x y,K,st,a,w,Q,h,hR,hQ=>by
   simp only [ru] at h;have hx:VC C (xY x) st K Q:=fun e cN a' w' hk hF oY=>hQ e _ _ _ hk (hF.mono sS) oY;have hy:VC C (xY y) st K Q:=fun e cN a' w' hk hF oY=>hQ e _ _ _ hk (hF.mono y6) oY;split at h
   . rename_i cs m hr;obtain⟨h1,h2⟩:=CS h;unfold ay8 at hr;cases hs:(!ZW E c&&(mL x&&mL y)) with
     |false=>grind
     |true=>
      rw [hs] at hr;exact kJ hE hm _ st _ _ a w Q hr h1 hR fun a' w' oY=>hQ .norm _ _ _ h2 (me _ _ _ _ hr).loose oY
   . obtain⟨A,β,hB⟩:=hR;split at h
     . rename_i hv;exact wp_cond_true (ah5 hB hv) (gw hE hm x K st a w Q h ⟨A,β,hB⟩ hx)
     . rename_i hv;exact wp_cond_false (ah6 hB hv) (gw hE hm y K st a w Q h ⟨A,β,hB⟩ hy)
     . rename_i b hv;exact wp_cond_split (SB hB hv) (fun hb=>gw hE hm x K st a w Q (h.1 hb) ⟨A,β,hB⟩ hx) (fun hb=>gw hE hm y K st a w Q (h.2 hb) ⟨A,β,hB⟩ hy)
     . rename_i row l hv;obtain⟨b,hb,hl⟩:=ah7 hB hv;exact wp_cond_split hb (fun ht=>gw hE hm x K st a w Q (h.1 (hl ht)) ⟨A,β,hB⟩ hx) (fun _=>gw hE hm y K st a w Q h.2 ⟨A,β,hB⟩ hy)
     grind
 | .block id b,K,st,a,w,Q,h,hR,hQ=>by
   have aH5:ru E L b (Sk id K) st->(Code.block id b).wp P Q a w:=fun h=>wp_block (gw hE hm b _ st a w _ h hR (Kq id hQ));cases b with
   |loop b=>
    simp only [ru] at h;split at h
    . rename_i An hA;exact wp_block (SD (fun K' cN a' w' Q' hv oY hQ'=>gw hE hm b K' cN a' w' Q' hv oY hQ') h hR (Kq id hQ))
    . exact h.elim
   |_=>exact aH5 (by first|exact h|(simp only [ru] at h |-))
 | .exit i,K,st,a,w,Q,h,hR,hQ=>by
   exact wp_exit (hQ (.exit i) _ _ _ h (lG.refl _ _) hR)
 | .ret,K,st,a,w,Q,h,hR,hQ=>by
   exact wp_ret (hQ .ret _ _ _ h (lG.refl _ _) hR)
 | .loop _,K,st,a,w,Q,h,_,_=>by grind[ru]
 | .rangeFunc _ _ _ _,K,st,a,w,Q,h,_,_=>by grind[ru]
 | .scope c,K,st,a,w,Q,h,hR,hQ=>by
   simp only [ru] at h;refine wp_scope_straight (gw hE hm c K st a w _ h hR fun e cN a' w' hk hF oY=> ?_);have :=hQ e cN a' w' hk hF oY;cases e<;>exact this
 | .label _,K,st,a,w,Q,h,hR,hQ=>by
   simp only [ru] at h;exact wp_label (hQ .norm _ _ _ h (lG.refl _ _) hR)
 | .goto _,K,st,a,w,Q,h,_,_=>by grind[ru]
 | .refuse _,K,st,a,w,Q,h,_,_=>by grind[ru]
termination_by c=>SizeOf.sizeOf c
end
end Go.Vg

end
section
namespace Go.Vg
open Go
section
variable {P:Program} {C:Ctx} {E:Env} {A A':Nat->Prop} {β aS:Nat->Value} {st:St} {a:Act} {w:World} {T:cJ}
theorem Kr:Keyed (fun _=>true) [] β aS:=⟨fun K k h=>(by cases h),fun K h=>(by cases h),fun K _ h=>(by cases h),fun K h=>(by cases h)⟩
def I4(tmps:Array Value):ResultVar->Sem Value
 | .tmp t=>pure (tmps.getD t undef)
 | .cell x t=>do loadVar t (<-asAddr (tmps.getD x undef))
theorem Hw(fn:Func)(tmps:Array Value):results fn tmps=(do
  let vs <-fn.results.mapM (I4 tmps)
  pure (if h:vs.size=1 then vs[0] else .tuple vs)):=by
 rfl
theorem rT(hT:bD T P)(hB:aJ C A β st a w):∀(rs:List ResultVar) (aK:List AV),mM T st rs=some aK->
  ∃vs,(rs.mapM (I4 a.tmps)).run P w= .ok vs w/\ak w A β vs aK
 | [],aK,h=>by
   simp_all[mM,A!,ak]
 | .tmp t::rs,aK,h=>by
   simp [mM] at h;split at h
   . rename_i l hl;simp at h;subst h;obtain⟨vs,h1,h2⟩:=rT hT hB rs l hl;refine⟨a.tmps.getD t undef::vs,?_,?_⟩
     . simp [List.mapM_cons,I4,Sem.run_bind,Sem.run_pure,Result.andThen_ok,h1]
     . exact⟨_,_,rfl,hB.tmps t,h2⟩
   . cases h
 | .cell x t::rs,aK,h=>by
   simp [mM] at h;split at h
   . rename_i k off hk;split at h
     . rename_i out l ho hl;obtain⟨vs,h1,h2⟩:=rT hT hB rs l hl;have hx:=hB.tmps x;rw [hk] at hx
       have sB:out.cond= []:=by
        grind[qH,Option.some.injEq]
       obtain⟨_,v,g1,g2⟩:=G9 hT hB hx ho x!;obtain⟨b,VD,hb2⟩:=hx;refine⟨v::vs,?_,?_⟩
       . simp only [Instr.loadAt,Instr.sureAddr,Sem.run_bind,Sem.run_pure,Result.andThen_ok] at g1;grind[asAddr,undef,Sem.run_pure,I4,Sem.run_bind,Result.andThen_ok]
       grind[ak]
     grind
   grind
theorem SF {α:Type} {R:List Value->α->Prop}:∀(xs:List Value) (l:List α),xs.length=l.length->(∀(i:Nat) (v:Value) (x:α),xs[i]? =some v->l[i]? =some x->R [v] x)->eu R xs l
 | [],[],_,_=>by rfl
 |v::xs,x::l,hl,h=>by
  exact⟨[v],xs,rfl,h 0 v x rfl rfl,SF xs l (by simpa using hl) fun i v x h1 h2=>h (i+1) v x (by simpa using h1) (by simpa using h2)⟩
 | [],_::_,hl,_=>by grind
 |_::_,[],hl,_=>by grind
theorem Eh(hB:aJ C A β st a w)(hA:∀b,A b->A' b)(r:List Ty)(l:List (Row r))(k:Nat)(v:Value)(h:∀p∈(CI st.h r l k).1,p)(hF:∀k'∈(CI st.h r l k).2,∀b,aB (β k')=some b->A' b)
  (hr:af w A β v (.own k)):af w A' aS v (.sl r l)/\∀k'∈(CI st.h r l k).2,(st.h k').isSome:=by
 generalize he:CI st.h r l k=g at h hF |-;unfold CI at he;split at he
 . rename_i e j n m sz hk;split at he
   . rename_i e2 ZX bytes fr hj;cases hb:Nat.beq ZX.length 1 with
     |false=>rw [hb] at he;subst he;exact(bn h).elim
     |true=>
      rw [hb] at he;have hr2:=D! hb;split at he
      . rename_i g' hg;subst he;obtain⟨er,Nf⟩:=mf hg;subst er;subst Nf;have hmn:m=n:=h _ (S! ..);have hgl:ub sz n bytes=l:=h _ (G! _ (S! ..));subst hmn;subst hgl;have hFk:∀b,aB (β k)=some b->A' b:=hF k z!;have hFj:∀b,aB (β j)=some b->A' b:=hF j z!;refine⟨?_,fun k' gg=> ?_⟩
        . obtain⟨rfl,_⟩:=hr;have hlen:(ub sz m bytes).length=m:=by simp [ub]
          rcases pT hB hk with⟨h1,h2⟩|⟨b,cap,cur,h1,h2,h3,h4,h5,h6,h7⟩
          . subst h2;exact⟨none,0,[],by rw [h1];simp [ub],by simp [ub],z!,by simp [ub,eu],z!⟩
          . refine⟨_,cap,cur.toList.take m,by rw [h1,hlen],by rw [hlen];exact h3,h4,?_,fun _=>⟨b,0,rfl,hFk b (by rw [h1];rfl),?_⟩⟩
            . refine SF _ _ (by simp;omega) fun i u x hu hx=> ?_
              have hi:i<m:=by
               have :=(T?.1 hx).1;omega
              obtain⟨v',e1,e3⟩:=h7 j rfl i hi;rw [hu] at e1;simp at e1;subst e1
              have Iv:x=(bytes.drop (i*sz)).take sz:=by
               simp [ub,P?,List.getElem?_range hi,Option.map_some,A!] at hx;exact hx.symm
              have hp:=(se (A':=A') hB e3 hA (fun q hq=>by
               have hq':=CK _ q hq;simp [aE,List.mem_singleton] at hq';subst hq';exact hFj)).1
              simp [iF,hj,hr2,ek,L!,af] at hp;refine⟨u,[],rfl,?_,rfl⟩;rw [Iv];exact hp
            . intro q u hq;rw [m?] at hq;split at hq
              . simp [World.cell?,h2];simpa using hq
              . cases hq
        . simp at gg;rcases gg with rfl|rfl
          . simp [hk]
          . simp [hj]
      . subst he;exact(bn h).elim
   . subst he;exact(bn h).elim
 . subst he;obtain⟨g1,g2⟩:=se hB hr hA hF;exact⟨pY Kr _ _ _ h g1,fun k hk=>by obtain⟨e,row,l,fr,hr⟩:=g2 k hk;simp [hr]⟩
mutual
theorem Hx(hB:aJ C A β st a w) {s:List (Nat×Option Nat)}(hA:∀b,A b->A' b)(h1:∀i k,cC s i=some (some k)->aS i=β k)(h2:∀i,cC s i=some none->aS i=rE):∀(x y:AV) (v:Value),
  (∀p∈(yQ st.h s x y).1,p)->(∀k∈(yQ st.h s x y).2,∀b,aB (β k)=some b->A' b)->af w A β v y->af w A' aS v x/\∀k∈(yQ st.h s x y).2,(st.h k).isSome
 |x,y,v,h,hF,hr=>by
  generalize he:yQ st.h s x y=r at h hF |-;unfold yQ at he;split at he
  . rename_i i k;subst he;simp only at h hF |-;refine⟨?_,fun k hk=>(by cases hk)⟩;simp only [af] at hr |-;split at h
    . rename_i j hj;cases hb:Nat.beq k j with
      |false=>rw [hb] at h;exact(bn h).elim
      |true=>
       have :=D! hb;subst this;rw [h1 i k hj];exact hr
    . exact(bn h).elim
  . rename_i i;subst he;simp only at h hF |-;refine⟨?_,fun k hk=>(by cases hk)⟩;simp only [af] at hr |-;split at h
    . rename_i hj;rw [h2 i hj];subst hr;exact⟨rfl,rfl⟩
    . exact(bn h).elim
  . rename_i r0 l0 k;subst he;exact Eh hB hA r0 l0 k v h hF hr
  . rename_i xs ys;subst he;simp only [af] at hr |-;obtain⟨arr,e1,e2⟩:=hr;obtain⟨g1,g2⟩:=xb hB hA h1 h2 xs ys _ h hF e2;exact⟨⟨arr,e1,g1⟩,g2⟩
  . rename_i xs ys;subst he;simp only [af] at hr |-;obtain⟨arr,e1,e2⟩:=hr;obtain⟨g1,g2⟩:=xb hB hA h1 h2 xs ys _ h hF e2;exact⟨⟨arr,e1,g1⟩,g2⟩
  . subst he;obtain⟨g1,g2⟩:=se hB hr hA hF;exact⟨pY Kr _ _ _ h g1,fun k hk=>by obtain⟨e,row,l,fr,hr⟩:=g2 k hk;simp [hr]⟩
theorem xb(hB:aJ C A β st a w) {s:List (Nat×Option Nat)}(hA:∀b,A b->A' b)(h1:∀i k,cC s i=some (some k)->aS i=β k)(h2:∀i,cC s i=some none->aS i=rE):∀(xs ys:List AV) (vs:List Value),
  (∀p∈(sN st.h s xs ys).1,p)->(∀k∈(sN st.h s xs ys).2,∀b,aB (β k)=some b->A' b)->ak w A β vs ys->ak w A' aS vs xs/\∀k∈(sN st.h s xs ys).2,(st.h k).isSome
 | [],[],vs,_,_,hr=>by
   simp only [ak] at hr |-;exact⟨hr,fun k hk=>by simp [sN] at hk⟩
 |x::xs,y::ys,vs,h,hF,hr=>by
  simp only [sN] at h hF |-;obtain⟨g1,g2⟩:=k6 h;simp only [ak] at hr |-;obtain⟨v,cK,e,r1,r2⟩:=hr;obtain⟨q1,q2⟩:=Hx hB hA h1 h2 x y v g1 (fun k hk=>hF k (Z! _ hk)) r1;obtain⟨q3,q4⟩:=xb hB hA h1 h2 xs ys cK g2 (fun k hk=>hF k (Y! _ hk)) r2;refine⟨⟨v,cK,e,q1,q3⟩,fun k hk=> ?_⟩;rcases F!.1 hk with hk|hk
  . exact q2 k hk
  . exact q4 k hk
 | [],_::_,vs,h,_,_=>by simp only [sN] at h;exact(bn h).elim
 |_::_,[],vs,h,_,_=>by simp only [sN] at h;exact(bn h).elim
end
def vO(h:bg)(s:List (Nat×Option Nat))(i:Nat)(b:AB):List Prop :=match cC s i with
 |some (some k)=>Nq s (fun _=>true) (h k) b
 |some none=>match b with
  | .row _ _ l false=> [[]=l]
  |_=> [False]
 |none=> [False]
theorem Ks {h:bg} {s:List (Nat×Option Nat)}:∀(bs:List AB) (i j:Nat) (b:AB),bs[j]? =some b->∀p∈vO h s (i+j) b,p∈J5 h s i bs
 |b0::bs,i,0,b,hb,p,hp=>by
  simp at hb;subst hb;simp only [J5,F!];exact .inl hp
 |b0::bs,i,j+1,b,hb,p,hp=>by
  simp [J5,F!];refine .inr (Ks bs (i+1) j b (by simpa using hb) p ?_);rw [show i+1+j=i+(j+1) by omega];exact hp
theorem aJ.init {G:Nat->Option GD} {args:List Value} {cZ:List AV} {n:Nat}(hA:∀b,A b->b<w.heap.size)(hG:∀i d,G i=some d->rm w A i d)(hr:ak w A β args cZ)(hn:cZ.length<=n):
  aJ ⟨w,A,fun _=>False,G,β⟩ A β (St.init G n cZ) {tmps:=args.toArray++Array.replicate (n-args.toArray.size) undef,defers:= []} w:=by
 have hlen:=eJ cZ args hr
 have sG:∀(aK:List AV) (vs:List Value) (i:Nat),ak w A β vs aK->af w A β (vs.getD i undef) (aK.getD i .undef):=by
  intro aK;induction aK with
  |nil=>grind[ak,af]
  |cons x aK ih=>
   intro vs i h;obtain⟨v,cK,rfl,h1,h2⟩:=h;cases i with
   |zero=>grind
   |succ i=>simp_all
 refine⟨rfl,?_,fun i=> ?_,fun k ab h=>(by cases h),fun k k' b h=>(by cases h),hA,⟨rfl,rfl,rfl,O! _,fun b _ _=>rfl⟩,fun b _ h=> .inl h,fun b h=>h,fun k b h=>(by cases h),fun i d h=>h,hG,fun k _=>rfl⟩
 . grind[St.init]
 . show af w A β _ (cZ.getD i .undef)
   have e:(args.toArray++Array.replicate (n-args.toArray.size) undef).getD i undef=args.getD i undef:=by
    rw [Array.getD_eq_getD_getElem?];grind
   grind
theorem VE(hT:bD T P) {fn:Func} {w0:World} {A0:Nat->Prop} {G:Nat->Option GD} {DG:Nat->Value}(hB:aJ ⟨w0,A0,fun _=>False,G,DG⟩ A β st a w) {want:AV} {bs:List AB}(h:Sm T st fn.results.toList want bs):
  ∃v,(results fn a.tmps).run P w= .ok v w/\∃A' aS,lA w0 A0 w v want bs A' aS:=by
 unfold Sm at h;split at h
 . grind
 . rename_i aK has;cases hq:(jV (eM (rR st.h want (gN aK) bs))&&((yQ st.h (rR st.h want (gN aK) bs) want (gN aK)).2.all fun k=> !aM (eM (rR st.h want (gN aK) bs)) k)&&iq bs.length bs) with
   |false=>grind
   |true=>
    rw [hq] at h;simp only [L!] at h;simp only [B!,W!] at hq;obtain⟨⟨q1,q2⟩,q3⟩:=hq;obtain⟨c1,c2⟩:=k6 (vL _ h);generalize hs:rR st.h want (gN aK) bs=s at *;obtain⟨vs,p1,p2⟩:=rT hT hB fn.results.toList aK has
    have hv:∃v,(results fn a.tmps).run P w= .ok v w/\af w A β v (gN aK):=by
     have hl:=eJ aK vs p2;refine⟨if h:vs.toArray.size=1 then vs.toArray[0] else .tuple vs.toArray,?_,?_⟩
     . grind[Hw,Array.mapM_eq_mapM_toList,Sem.run_bind,map_eq_pure_bind,Result.andThen_ok,Sem.run_pure]
     . match aK,vs,hl,p2 with
       | [x],[v],_,p2=>
         grind[ak,List.cons.injEq,gN]
       | [],[],_,p2=>
         grind[gN,af,ak]
       |x::y::l,v::u::m,_,p2=>
        have gI:¬(v::u::m).toArray.size=1:=by simp
        rw [dif_neg gI];simp only [gN,af];grind
    obtain⟨v,hv1,hv2⟩:=hv;let F:=(yQ st.h s want (gN aK)).2
    let jf:Nat->Value:=fun i=>match cC s i with
     |some (some k)=>β k
     |_=>rE
    obtain⟨r1,r2⟩:=Hx (A':=cv A β F) (aS:=jf) hB (fun b hb=> .inl hb) (fun i k hk=>by grind) (fun i hk=>by grind) want (gN aK) v c1 (fun k hk b hb=> .inr ⟨k,hk,hb⟩) hv2;have hK:dC w w A (cv A β F):=fun b hb=>⟨.inl hb,rfl⟩
    have lK:∀i ab,bs[i]? =some ab->BR w (cv A β F) jf i ab/\(jf i=rE\/∃k,cC s i=some (some k)/\jf i=β k/\(st.h k).isSome):=by
     intro i ab hi;have hc:∀p∈vO st.h s i ab,p:=fun p hp=>c2 p (Ks bs 0 i ab hi p (by rw [Nat.zero_add];exact hp));unfold vO at hc;have ap9:Keyed (fun _=>true) s β jf:=⟨fun K k h=>by simp only [jf,h],fun K h=>by simp only [jf,h],fun K _ h=>(by cases h),fun K h=>(by cases h)⟩
     have R5:∀k c,cC s i=some (some k)->st.h k=some c->BR w A jf i ab->BR w (cv A β F) jf i ab:=by
      intro k c hk rq iu;have Kt:jf i=β k:=by simp only [jf,hk]
      have IE:∀b,aB (jf i)=some b->¬A b->¬cv A β F b:=by
       rintro b hb l9 (IF|⟨j,hj,yx⟩)
       . exact l9 IF
       . rw [Kt] at hb;have :j=k:=hB.apart j k b (r2 j hj) (by simp [rq]) yx hb;subst this;have hnk:=q2 j hj;rw [I?] at hnk;exact iJ.1 hnk (jt s i j hk)
      rcases rP bs i ab q3 hi with⟨e,row,l,rfl⟩|⟨e,j,n,m,sz,rfl,_⟩
      . obtain⟨xs,x1,x2,x3⟩:=iu;refine⟨xs,x1,bZ (fun c x hx=>b4 hK row c x hx) l xs x2,fun b hb=> ?_⟩;have :=x3 b hb;exact IE b hb this
      . obtain⟨xs,x1,x2,x3⟩:=iu;refine⟨xs,x1,fun b hb=>IE b hb (x2 b hb),fun j' lU i' jO=> ?_⟩;obtain⟨v,e1,e2⟩:=x3 j' lU i' jO;exact⟨v,e1,yi rfl e2⟩
     split at hc
     . rename_i k hk;obtain⟨c,rq⟩:=vN hc;rw [rq] at hc;have Kt:jf i=β k:=by simp only [jf,hk]
       have iu:=w9 (aS:=jf) ap9 Kt hc (hB.blocks k c rq);exact⟨R5 k c hk rq iu, .inr ⟨k,hk,Kt,by simp [rq]⟩⟩
     . rename_i hk;have Kt:jf i=rE:=by simp only [jf,hk]
       split at hc
       . exact⟨P7 Kt (bn hc), .inl Kt⟩
       . exact(bn hc).elim
     . exact(bn hc).elim
    have gJ:∀i ab b,bs[i]? =some ab->aB (jf i)=some b->∃k,cC s i=some (some k)/\aB (β k)=some b/\(st.h k).isSome:=by
     intro i ab b hi hb;rcases(lK i ab hi).2 with hn|⟨k,h1,h2,h3⟩
     . rw [hn] at hb;simp [rE,aB] at hb
     . exact⟨k,h1,by rw [<-h2];exact hb,h3⟩
    refine⟨v,hv1,cv A β F,jf,⟨hB.frame.os,hB.frame.tape,hB.frame.output,hB.frame.size,fun b hb=>hB.frame.block b hb (fun h=>h),fun b hb=> .inl (hB.base b hb),fun b hb JA=> ?_,fun b hb=> ?_,r1,fun i ab hi=>⟨(lK i ab hi).1,fun b hb=> ?_⟩,fun i j b hi hj hb fv=> ?_⟩⟩
    . rcases JA with JA|⟨j,hj,yx⟩
      . rcases hB.nh b hb JA with h|h
        . exact h
        . exact h.elim
      . rcases hB.qI j b (r2 j hj) yx with h|h
        . exact absurd hb (Nat.not_lt.2 h)
        . exact h.elim
    . rcases hb with hb|⟨j,hj,yx⟩
      . exact hB.bound b hb
      . exact nv hB (r2 j hj) yx
    . obtain⟨k,_,g2,g3⟩:=gJ i ab b hi hb;rcases hB.qI k b g3 g2 with h|h
      . exact h
      . exact h.elim
    . obtain⟨x,hx⟩:∃x,bs[i]? =some x:=⟨_,E! hi⟩;obtain⟨y,hy⟩:∃y,bs[j]? =some y:=⟨_,E! hj⟩;obtain⟨k,g1,g2,g3⟩:=gJ i x b hx hb;obtain⟨k',g1',g2',g3'⟩:=gJ j y b hy fv;have :k=k':=hB.apart k k' b g3 g3' g2 g2';subst this;exact xa s q1 i j k g1 g1'
theorem P8(hE:b5 P E)(hm:P.follows .mixedOrders=true) {f:FuncId} {fn:Func} {c:Code} {s:RN}(L:List AV->Nat->Option b6)(hf:P.funcs[f]? =some fn)(hb:fn.body=some c)
  (h:∀cZ pre res bs,s cZ=some (pre,res,bs)->pre->J7 E (L cZ) c fn.ntmps fn.results.toList cZ res bs):Valid P E.lq f s:=by
 intro w A β args cZ pre res bs hA hG cw hs hp;have VF:=h cZ pre res bs hs hp;unfold J7 at VF;cases hn:Nat.ble cZ.length fn.ntmps with
 |false=>grind
 |true=>
  rw [hn] at VF;refine calls_of_wp hf hb (gw (C:=⟨w,A,fun _=>False,E.lq,β⟩) ⟨hE,rfl⟩ hm c _ _ _ w _ VF ⟨A,β,aJ.init hA hG cw (M! hn)⟩ ?_);intro e cN a' w' hk _ hR;obtain⟨A',aS,hB⟩:=hR
  have key:Sm E.T cN fn.results.toList res bs->bodyPost P fn (fun e w'=>∃v,e= .returned v/\∃A' aS,lA w A w' v res bs A' aS) .ret a' w':=by
   intro hk;obtain⟨v,h1,A2,jf,h2⟩:=VE hE.gY hB hk;exact⟨hB.defers,v,h1,v,rfl,A2,jf,h2⟩
  cases e with
  |norm=>exact key hk
  |ret=>exact key hk
  |exit i=>exact hk.elim
end
end Go.Vg

end
section
namespace Go.Vg
open Go
@[reducible] def dw (α:Type):List α:= []
mutual
def D.ok:(t:Ty)->D t->Prop
 | .int k,x=>lo k<=DI.toInt k x/\DI.toInt k x<=hi k
 | .bool,_=>True
 | .str,s=>s.length<=9223372036854775807
 | .slice row,l=>l.length<=9223372036854775807/\∀x,x∈l->Row.ok row x
def Row.ok:(ts:List Ty)->Row ts->Prop
 | [],_=>True
 |t::ts,x=>D.ok t (Row.hd x)/\Row.ok ts (Row.tl x)
end
mutual
def AV.facts:AV->Prop
 | .int k n=>lo k<=n/\n<=hi k
 | .str s=>s.length<=9223372036854775807
 | .sl row l=>D.ok (.slice row) l
 | .full row l=>D.ok (.slice row) l
 | .agg cs=>AK cs
 | .bA cs=>AK cs
 |_=>True
def AK:List AV->Prop
 | []=>True
 |a::aK=>a.facts/\AK aK
end
section
variable {P:Program} {E:Env} {w:World} {A:Nat->Prop} {β:Nat->Value}
theorem P9 {α:Type} {R:List Value->α->Prop} {p:α->Prop}(h:∀c x,R c x->p x):∀(l:List α) (cs:List Value),eu R cs l->∀x,x∈l->p x
 | [],_,_,x,hx=>by grind
 |y::l,_,⟨c1,c2,hc,h1,h2⟩,x,hx=>by
  rcases P!.1 hx with rfl|hx
  . grind
  . exact P9 h l c2 h2 x hx
mutual
theorem VG:∀(t:Ty) (v:Value) (x:D t),Rd w A t v x->D.ok t x
 | .int k,v,x,h=>by simp only [Rd] at h;simp only [D.ok];exact h.2
 | .bool,v,x,h=>by simp only [D.ok]
 | .str,v,s,h=>by simp only [Rd] at h;simp only [D.ok];exact h.2
 | .slice row,v,l,h=>by
   simp only [Rd] at h;obtain⟨a,cap,cs,h1,h2,h3,h4,h5⟩:=h;simp only [D.ok];exact⟨f? h2 h3,P9 (fun c x hx=>Ei row c x hx) l cs h4⟩
theorem Ei:∀(ts:List Ty) (vs:List Value) (x:Row ts),bT w A ts vs x->Row.ok ts x
 | [],vs,x,h=>by simp only [Row.ok]
 |t::ts,vs,x,h=>by
  simp only [bT] at h;obtain⟨v,cK,h1,h2,h3⟩:=h;simp only [Row.ok];exact⟨VG t v _ h2,Ei ts cK _ h3⟩
end
mutual
theorem Qa:∀(a:AV) (v:Value),af w A β v a->a.facts
 | .int k n,v,h=>by simp only [af] at h;simp only [AV.facts];exact h.2
 | .str s,v,h=>by simp only [af] at h;simp only [AV.facts];exact h.2
 | .sl row l,v,h=>by simp only [af] at h;simp only [AV.facts];exact VG _ _ _ h
 | .full row l,v,h=>by simp only [af] at h;simp only [AV.facts];exact VG _ _ _ h.1
 | .agg cs,v,h=>by
   simp only [af] at h;obtain⟨arr,_,h2⟩:=h;simp only [AV.facts];exact u9 cs _ h2
 | .bA cs,v,h=>by
   simp only [af] at h;obtain⟨arr,_,h2⟩:=h;simp only [AV.facts];exact u9 cs _ h2
 | .dU,_,_| .undef,_,_| .bool _,_,_| .tt,_,_| .ff,_,_| .nil,_,_| .lp,_,_| .rD _ _,_,_| .lW,_,_| .iM _ _ _,_,_| .sq _ _,_,_| .own _,_,_| .pre _ _,_,_| .view _ _ _ _,_,_| .ref _ _,_,_| .elem _ _ _ _,_,_| .fn _ _ _,_,_| .je _ _,_,_=>by simp only [AV.facts]
theorem u9:∀(aK:List AV) (vs:List Value),ak w A β vs aK->AK aK
 | [],_,_=>by simp only [AK]
 |a::aK,vs,h=>by
  simp only [ak] at h;obtain⟨v,cK,_,h1,h2⟩:=h;simp only [AK];exact⟨Qa a v h1,u9 aK cK h2⟩
end
end
def cJ.Ok(P:Program):cJ->Prop
 | .leaf=>True
 | .node l k v r=>l.Ok P/\r.Ok P/\P.underlying k=some v.desc/\U2 P k v.desc/\∃i,P.info? k=some i/\i.size=v.size/\i.bytes=v.bytes/\i.zero=some v.zero
theorem cJ.Ok.at {P:Program} {T:cJ}(h:T.Ok P):∀t te,T.find t=some te->(P.underlying t=some te.desc/\∃i,P.info? t=some i/\i.size=te.size/\i.bytes=te.bytes/\i.zero=some te.zero)/\U2 P t te.desc:=by
 induction T with
 |leaf=>intro t te ht;cases ht
 |node l k v r ihl ihr=>
  obtain⟨h1,h2,h3,h5,h4⟩:=h;intro t te ht;simp [cJ.find] at ht;cases hb:Nat.beq t k with
  |true=>
   simp_all
  |false=>
   grind
theorem bD.of {P:Program} {T:cJ}(h:T.Ok P):bD T P:=⟨fun t te ht=>(h.at t te ht).1,fun t te ht=>(h.at t te ht).2⟩
end Go.Vg

end
section
namespace Go.Vg
open Go
inductive PS where
 |one (t:Ty)
 |agg (ts:List Ty)
@[reducible] def PS.flat:List PS->List Ty
  | []=> []
  | .one t::ps=>t::PS.flat ps
  | .agg ts::ps=>ts++PS.flat ps
def PS.cells:List PS->List AV->Option (List AV)
 | [],[]=>some []
 | .one _::ps,a::aK=>match PS.cells ps aK with
   |some l=>some (a::l)
   |none=>none
 | .agg ts::ps, .agg cs::aK=>bif Nat.beq cs.length ts.length then match PS.cells ps aK with
   |some l=>some (cs++l)
   |none=>none
   else none
 |_,_=>none
def PS.group:List PS->List AV->List AV
 | [],_=> []
 | .one _::ps,cs=>cs.headD .dU::PS.group ps cs.tail
 | .agg ts::ps,cs=> .agg (cs.take ts.length)::PS.group ps (cs.drop ts.length)
def Ku(ps:List PS)(cZ:List AV):Option (Row (PS.flat ps)):=match PS.cells ps cZ with
 |some cs=>nd (PS.flat ps) cs
 |none=>none
def y8(ps:List PS)(x:Row (PS.flat ps)):List AV:=PS.group ps (aF (PS.flat ps) x)
def db(ps:List PS)(f:Row (PS.flat ps)->Prop×AV×List AB):RN:=fun cZ=>match Ku ps cZ with
 |some x=>some (f x)
 |none=>none
def pZ(ps:List PS)(μ:Row (PS.flat ps)->Nat)(m:Nat)(f:Row (PS.flat ps)->Prop×AV×List AB):RN:=
 db ps fun x=>(μ x<m/\(f x).1,(f x).2)
section
variable {P:Program} {E:Env} {w:World} {A:Nat->Prop} {β:Nat->Value}
theorem lM:∀(aK bs:List AV) (us vs:List Value),ak w A β us aK->ak w A β vs bs->ak w A β (us++vs) (aK++bs)
 | [],bs,us,vs,h,g=>by
   grind[ak]
 |a::aK,bs,us,vs,h,g=>by
  obtain⟨v,FJ,rfl,h1,h2⟩:=h;exact⟨v,FJ++vs,rfl,h1,lM aK bs FJ vs h2 g⟩
theorem p0:∀(aK bs:List AV) (vs:List Value),ak w A β vs (aK++bs)->∃us ws,vs=us++ws/\ak w A β us aK/\ak w A β ws bs
 | [],bs,vs,h=>⟨[],vs,rfl,by rfl,h⟩
 |a::aK,bs,vs,h=>by
  obtain⟨v,cK,rfl,h1,h2⟩:=h;obtain⟨us,ws,rfl,h3,h4⟩:=p0 aK bs cK h2;exact⟨v::us,ws,rfl,by exact⟨v,us,rfl,h1,h3⟩,h4⟩
theorem Hy(aK:List AV)(vs:List Value)(h:ak w A β vs aK):vs.length=aK.length:=(eJ aK vs h).symm▸rfl
theorem xc:∀(ps:List PS) (cZ cs:List AV) (args:List Value),PS.cells ps cZ=some cs->ak w A β args cZ->
  cs.length=(PS.flat ps).length/\∃vs,ak w A β vs cs/\∀jd,jd.length=cs.length->ak w A β vs jd->ak w A β args (PS.group ps jd)
 | [],[],cs,args,h,hr=>by
   simp only [PS.cells,Option.some.injEq] at h;subst h;exact⟨rfl,[],by rfl,fun jd _ _=>by grind[PS.group]⟩
 | .one t::ps,a::aK,cs,args,h,hr=>by
   simp only [PS.cells] at h;split at h
   . rename_i l hl;simp only [Option.some.injEq] at h;subst h;simp only [ak] at hr;obtain⟨v,VH,rfl,h1,h2⟩:=hr;obtain⟨g1,vs,g2,g3⟩:=xc ps aK l VH hl h2;refine⟨x!,v::vs,by simp only [ak];grind,fun jd l8 nX=> ?_⟩;cases jd with
     |nil=>grind
     |cons c jd=>
      simp only [ak] at nX;obtain⟨v',cK,e,r1,r2⟩:=nX;simp only [List.cons.injEq] at e;obtain⟨rfl,rfl⟩:=e;simp only [PS.group,List.headD,List.tail,ak];grind
   grind
 | .agg ts::ps,a::aK,cs,args,h,hr=>by
   cases a with
   |agg Vd=>
    simp only [PS.cells] at h;cases hb:Nat.beq Vd.length ts.length with
    |false=>grind
    |true=>
     rw [hb] at h;have hlen:=D! hb;simp only [L!] at h;split at h
     . rename_i l hl;simp only [Option.some.injEq] at h;subst h;simp only [ak] at hr;obtain⟨v,VH,rfl,h1,h2⟩:=hr;simp only [af] at h1;obtain⟨arr,rfl,h1⟩:=h1;obtain⟨g1,vs,g2,g3⟩:=xc ps aK l VH hl h2;refine⟨x!,arr.toList++vs,lM _ _ _ _ h1 g2,fun jd l8 nX=> ?_⟩;grind[p0,List.take_append_drop,Hy,List.append_inj,PS.group,ak,af]
     grind
   |_=>grind[PS.cells]
 | [],_::_,cs,args,h,_=>by grind[PS.cells]
 | .one _::_,[],cs,args,h,_=>by grind[PS.cells]
 | .agg _::_,[],cs,args,h,_=>by grind[PS.cells]
theorem xd(ps:List PS) {cZ:List AV} {args:List Value} {x:Row (PS.flat ps)}(h:Ku ps cZ=some x)(hr:ak w A β args cZ):
  ak w A β args (y8 ps x)/\Row.ok (PS.flat ps) x:=by
 unfold Ku at h;split at h
 . rename_i cs fx;obtain⟨g1,vs,g2,g3⟩:=xc ps cZ cs args fx hr;have hv:=sD _ _ _ _ g2 h;exact⟨g3 _ (by rw [oU,g1]) (l6 _ _ _ hv),Ei _ _ _ hv⟩
 grind
theorem Ej(hE:b5 P E)(hm:P.follows .mixedOrders=true) {f:FuncId} {fn:Func} {c:Code}(ps:List PS) {F:Row (PS.flat ps)->Prop×AV×List AB}
  (L:Row (PS.flat ps)->Nat->Option b6) (hf:P.funcs[f]? =some fn) (hb:fn.body=some c)
  (h:∀x,(F x).1->Row.ok (PS.flat ps) x->J7 E (L x) c fn.ntmps fn.results.toList (y8 ps x) (F x).2.1 (F x).2.2):Valid P E.lq f (db ps F):=by
 intro w A β args cZ pre res bs hA hG cw hs hp;unfold db at hs;split at hs
 . rename_i x hx;obtain⟨g1,g2⟩:=xd ps hx cw
   have hv:Valid P E.lq f (fun N7=>open Classical in if N7=y8 ps x then some (F x) else none):=by
    refine P8 hE hm (fun _=>L x) hf hb fun N7 aL9 aMa bs' mO Bp=> ?_;grind
   exact hv w A β args (y8 ps x) pre res bs hA hG g1 x! hp
 grind
theorem VI {G:Nat->Option GD} {f:FuncId}(ps:List PS)(μ:Row (PS.flat ps)->Nat) {F:Row (PS.flat ps)->Prop×AV×List AB}
  (h:∀m,Valid P G f (pZ ps μ m F)->Valid P G f (pZ ps μ (m+1) F)):Valid P G f (db ps F):=by
 have na:∀m,Valid P G f (pZ ps μ m F):=by
  intro m;induction m with
  |zero=>
   intro w A β args cZ pre res bs hA hG cw hs hp;unfold pZ db at hs;grind
  |succ m ih=>grind
 intro w A β args cZ pre res bs hA hG cw hs hp;unfold db at hs;split at hs
 . rename_i x hx;refine na (μ x+1) w A β args cZ (μ x<μ x+1/\pre) res bs hA hG cw ?_ ⟨Nat.lt_succ_self _,hp⟩;simp_all[pZ,db]
 grind
theorem im.of {f:FuncId} {fn:Func} {c:Code}(hf:P.funcs[f]? =some fn)(hb:fn.body=some c)(hn:(fn.name== "runtime.NumGoroutine")=false):im P f:=by
 intro args w;simp_all[callFunc,Sem.run_bind,Result.andThen_ok,Option.isNone_some]
def Env.cons(f:Nat)(s:RN)(E:Env):Env:= {E with sig:=fun g=>bif Nat.beq g f then some s else E.sig g}
theorem b5.cons(hE:b5 P E) {f:FuncId} {s:RN}(h:Valid P E.lq f s)(hf:im P f):b5 P (E.cons f s):=by
 refine⟨hE.gY,fun g t hg=> ?_,hE.sv⟩;simp [Env.cons] at hg;cases hb:Nat.beq g f with
 |true=>
  rw [hb] at hg;simp at hg;have :=D! hb;subst this;subst hg;exact⟨h,hf⟩
 |false=>
  rw [hb] at hg;exact hE.sig g t hg
theorem b5.none {T:cJ}(G:Nat->Option GD)(hT:bD T P):b5 P {T:=T,sig:=fun _=>none,lq:=G}:=⟨hT,fun f s h=>(by cases h),fun f m s h=>(by cases h)⟩
end
end Go.Vg

end
section
namespace Go.Vg
open Go
def Ek(T:cJ)(off:Nat):List Field->Bool
 | []=>true
 |f::fs=>Nat.beq f.offset off&&(match T.find f.type with
  |some te=>Ek T (off+te.size) fs
  |none=>false)
def SG(T:cJ):List Field->Nat
 | []=>0
 |f::fs=>(match T.find f.type with
  |some te=>te.size
  |none=>0)+SG T fs
def xe(T:cJ):Nat->TypeId->Bool
 |0,_=>false
 |n+1,t=>match T.find t with
  |none=>false
  |some te=>match te.desc with
   | .slice e=>xe T n e&&(match T.find e with
     |some ee=>Nat.blt 0 ee.size
     |none=>false)
   | .struct fs=>Ek T 0 fs.toList&&Nat.beq te.size (SG T fs.toList)&&fs.toList.all (fun f=>xe T n f.type)
   | .array k e=>xe T n e&&(match T.find e with
     |some ee=>Nat.beq te.size (k*ee.size)
     |none=>false)
   |_=>true
section
variable {P:Program} {E:Env} {w:World} {A:Nat->Prop} {T:cJ} {H:Type} {enc:TypeId×Value->H} {sp:Nat->Bool} {held:Bool}
theorem bD.cells(hT:bD T P) {t:TypeId} {te:TE}(h:T.find t=some te):P.cellsOf t=te.size:=by
 obtain⟨_,i,h1,h2,_⟩:=hT.ok t te h;grind[Program.cellsOf]
theorem sT:∀(r1 r2:List Ty) (c1 c2:List Value) (x:Row r1) (y:Row r2),bT w A r1 c1 x->bT w A r2 c2 y->∃z:Row (r1++r2),bT w A (r1++r2) (c1++c2) z
 | [],r2,c1,c2,x,y,h1,h2=>by
   grind[bT]
 |t::ts,r2,c1,c2,x,y,h1,h2=>by
  obtain⟨v,vs,rfl,g1,g2⟩:=h1;obtain⟨z,hz⟩:=sT ts r2 vs c2 _ y g2 h2;refine⟨Row.mk (Row.hd x) z,?_⟩;show bT w A (t::(ts++r2)) (v::(vs++c2)) (Row.mk (Row.hd x) z);grind[bT,uU,yy]
theorem N8 {row:List Ty} {sz:Nat} {a:Addr}(fj:0<sz):∀(k:Nat),(∀i,i<k->∃jd r,jd.length=sz/\(∀j,j<sz->w.cell? ((a.add (i*sz)).add j)=jd[j]?)/\bT w A row jd r)->
  ∃(l:List (Row row)) (cs:List Value),l.length=k/\cs.length=k*sz/\eu (bT w A row) cs l/\(∀j,j<k*sz->w.cell? (a.add j)=cs[j]?)
 |0,_=>⟨[],[],rfl,z!,by rfl,fun j hj=>by omega⟩
 |k+1,h=>by
  obtain⟨l,cs,h1,h2,h3,h4⟩:=N8 fj k fun i hi=>h i w!;obtain⟨jd,r,g1,g2,g3⟩:=h k w!;refine⟨l++ [r],cs++jd,x!,x!,jr l [r] cs jd h3 ⟨jd,[],z!,g3,by rfl⟩,fun j hj=> ?_⟩;grind[List.getElem?_append_right,Addr.add]
theorem Kv(hT:bD T P) {n m:Nat}(cs:List Value)
  (ih:∀t row (cs:List Value) x,rowOf T n t=some row->xe T n t=true->DataW.trod enc P w 0 sp held m t cs=some x->∃r:Row row,bT w A row cs r):
  ∀(fs:List Field) (off:Nat) (row:List Ty),fs.foldr (fun f acc=>BB (rowOf T n f.type) acc) (some [])=some row->Ek T off fs=true->(fs.all fun f=>xe T n f.type)=true->
   (∀f∈fs,∃x,DataW.trod enc P w 0 sp held m f.type ((cs.drop f.offset).take (P.cellsOf f.type))=some x)->cs.length=off+SG T fs->
   ∃r:Row row,bT w A row (cs.drop off) r
 | [],off,row,hr,_,_,_,hl=>by
   simp at hr;subst hr;simp_all[bT,SG,N?]
 |f::fs,off,row,hr,hf,ha,hx,hl=>by
  simp at hr;generalize aBj:fs.foldr (fun f acc=>BB (rowOf T n f.type) acc) (some [])=rest at hr;unfold BB at hr;split at hr
  . rename_i r1 r2 h1;simp at hr;subst hr;simp only [Ek,B!] at hf;obtain⟨VJ,VK⟩:=hf;have ho:=D! VJ;simp only [List.all_cons,B!] at ha;split at VK
    . rename_i te nu;have hc:=hT.cells nu;obtain⟨x,Nc⟩:=hx f (List.mem_cons_self ..);obtain⟨y,hy⟩:=ih _ _ _ _ h1 ha.1 Nc;simp only [SG,nu] at hl;obtain⟨z,hz⟩:=Kv hT cs ih fs (off+te.size) r2 aBj VK ha.2 (fun g hg=>hx g (List.mem_cons_of_mem _ hg)) w!;obtain⟨u,hu⟩:=sT _ _ _ _ _ _ hy hz;grind[List.drop_drop,List.take_append_drop]
    grind
  grind
theorem N9 {r:List Ty}(cs:List Value)(sz:Nat):∀(k off:Nat),(∀i,i<k->∃x:Row r,bT w A r ((cs.drop (off+i*sz)).take sz) x)->cs.length=off+k*sz->
  ∃x:Row ((List.replicate k r).flatten),bT w A ((List.replicate k r).flatten) (cs.drop off) x
 |0,off,_,hl=>⟨(),by
  grind[bT,List.drop_eq_nil_of_le]⟩
 |k+1,off,h,hl=>by
  obtain⟨x,hx⟩:=h 0 w!
  obtain⟨y,hy⟩:=N9 cs sz k (off+sz) (fun i hi=>by
   obtain⟨z,hz⟩:=h (i+1) w!;refine⟨z,?_⟩;grind) x!
  obtain⟨u,hu⟩:=sT _ _ _ _ _ _ hx hy;grind[List.drop_drop,List.take_append_drop]
theorem qO {t:Ty} {v:Value} {x:D t}(h:Rd w A t v x):bT w A [t] [v] (Row.mk x ()):=by
 grind[bT,uU]
theorem AL(hT:bD T P)(hA:∀b,b<w.heap.size->A b):∀(n m:Nat) (t:TypeId) (row:List Ty) (cs:List Value) (x:DataW H×List MemPlace),rowOf T n t=some row->xe T n t=true->
  DataW.trod enc P w 0 sp held m t cs=some x->∃r:Row row,bT w A row cs r
 |0,m,t,row,cs,x,hr,_,_=>by grind[rowOf]
 |n+1,m,t,row,cs,x,hr,hf,h=>by
  unfold rowOf at hr;unfold xe at hf;split at hr
  . grind
  . rename_i te nu;rw [nu] at hf;obtain⟨hu,_⟩:=hT.ok t te nu;have fx:=hT.cells nu;simp only at hf;split at hr
    . rename_i k hd;simp only [A!] at hr;subst hr;rw [hd] at hu;obtain⟨z,rfl,_,hw⟩:=DataW.trod_int hu h
      have hz:lo k<=z/\z<=hi k:=by
       cases k<;>simpa [Lit.wf,IntKind.min,IntKind.max,IntKind.signed,IntKind.bits,lo,hi] using hw
      refine⟨Row.mk (DI.ofInt k z:D (.int k)) (),qO ?_⟩;simp_all[Rd,NV,trivial]
    . rename_i hd;simp only [A!] at hr;subst hr;rw [hd] at hu;obtain⟨b,rfl,_⟩:=DataW.trod_bool hu h;exact⟨Row.mk (b:D .bool) (),qO (by rfl)⟩
    . rename_i hd;simp only [A!] at hr;subst hr;rw [hd] at hu;obtain⟨s,rfl,_,hs⟩:=DataW.trod_string hu h;refine⟨Row.mk (s.data.toList:D .str) (),qO ?_⟩;simp_all[Rd,trivial]
    . rename_i e hd;split at hr
      . rename_i r hre;simp only [A!] at hr;subst hr;rw [hd] at hu hf;simp only [B!] at hf;obtain⟨VJ,VK⟩:=hf;split at VK
        . rename_i ee uR;have fj:0<ee.size:=by simp_all
          have Qb:=hT.cells uR;rcases DataW.trod_slice hu h with⟨rfl,_⟩|⟨a,len,cap,elems,rest,m',_,rfl,_,hb,hl,hm,hlen,Ni,_⟩
          . refine⟨Row.mk (([]:List (Row r)):D (.slice r)) (),qO ?_⟩;simp only [Rd];exact⟨none,0,[],rfl,z!,z!,by rfl,z!⟩
          . rw [Qb] at Ni
            obtain⟨l,cs,g1,g2,g3,g4⟩:=N8 (w:=w) (A:=A) (row:=r) (a:=a) fj len fun i hi=>by
             have h1:=Ni i hi;rw [List.getElem?_eq_getElem w!,Option.bind_eq_some_iff] at h1;obtain⟨jd,c1,c2⟩:=h1;obtain⟨_,d1,d2⟩:=World.cells?_some c1;obtain⟨y,hy⟩:=AL hT hA n m' e r jd _ hre VJ c2;grind
            refine⟨Row.mk (l:D (.slice r)) (),qO ?_⟩;simp only [Rd];refine⟨some a,cap,cs,by rw [g1],w!,hm,g3,fun gI=> ?_⟩
            have mZ:0<len*ee.size:=by
             grind
            have h0:=g4 0 mZ;obtain⟨b,o,s⟩:=a;simp only [Addr.add,K?,World.cell?] at h0
            have hs:s=none:=by
             cases s with
             |none=>rfl
             |some q=>grind
            subst hs;refine⟨b,o,rfl,hA b ?_,fun j v hj=> ?_⟩
            . grind
            grind[List.getElem?_eq_some_iff,Addr.add]
        grind
      grind
    . rename_i fs hd;rw [hd] at hu hf;simp only [B!] at hf;obtain⟨⟨VJ,VK⟩,hf3⟩:=hf;obtain⟨xs,m',_,_,hl,VA,hx⟩:=DataW.trod_struct hu h
      have :=Kv (A:=A) hT cs (fun t row cs x h1 h2 h3=>AL hT hA n m' t row cs x h1 h2 h3) fs.toList 0 row hr VJ hf3 (fun f hf=>by
       grind[List.getElem?_of_mem,List.getElem?_eq_some_iff,List.getElem?_eq_getElem]) (by simp_all)
      grind
    . rename_i k e hd;rw [hd] at hu hf;split at hr
      . rename_i r hre;simp only [A!] at hr;subst hr;simp only [B!] at hf;obtain⟨VJ,VK⟩:=hf;split at VK
        . rename_i ee uR;have Qb:=hT.cells uR;obtain⟨xs,m',_,_,hl,VA,hx⟩:=DataW.trod_array hu h
          have :=N9 (w:=w) (A:=A) (r:=r) cs ee.size k 0 (fun i hi=>by
           have h1:=hx i hi;rw [List.getElem?_eq_getElem w!,Qb] at h1;obtain⟨y,hy⟩:=AL hT hA n m' e r _ _ hre VJ h1;grind) (by simp_all)
          grind
        grind
      grind
    grind
end
end Go.Vg

end
section
namespace Go.Vg
open Go Go.ChangeShapes Go.WideShapes Go.ChangeAt Go.RowKit
def PS.of(T:cJ)(t:TypeId):Option PS:=match T.find t,rowOf T tQ t with
 |some te,some row=>bif xe T tQ t then(bif te.desc.mB then some (.agg row) else match row with
  | [u]=>some (.one u)
  |_=>none) else none
 |_,_=>none
def PS.Nw(T:cJ):List TypeId->Option (List PS)
 | []=>some []
 |t::ts=>match PS.of T t,PS.Nw T ts with
  |some p,some ps=>some (p::ps)
  |_,_=>none
section
variable {P:Program} {E:Env} {w:World} {A:Nat->Prop} {β:Nat->Value} {T:cJ} {H:Type} {enc:TypeId×Value->H} {sp:Nat->Bool} {held:Bool}
theorem aib:∀(t:Ty) (x:D t),∃y,RM t (Dw t x)=some y
 | .int k,x=>⟨_,by simp [Dw,RM];rfl⟩
 | .bool,b=>⟨b,rfl⟩
 | .str,s=>⟨s,rfl⟩
 | .slice row,l=>by
   simp only [Dw,RM,gu]
   have :Ty.yd row row=true :=by
    have :∀(r:List Ty),Ty.yd r r=true :=fun r=>y9 r;exact this row
   rw [dif_pos this];exact⟨_,rfl⟩
where
 VL:∀(t:Ty),Ty.beq t t=true
  | .int k=>by simp [Ty.beq]
  | .bool=>rfl
  | .str=>rfl
  | .slice r=>by simp only [Ty.beq];exact y9 r
 y9:∀(r:List Ty),Ty.yd r r=true
  | []=>rfl
  |t::ts=>by simp only [Ty.yd,VL t,y9 ts,Bool.and_self]
theorem vc:∀(ts:List Ty) (x:Row ts) (us:List Ty) (aK:List AV) (z:Row us),nd us aK=some z->∃y,nd (ts++us) (aF ts x++aK)=some y
 | [],x,us,aK,z,h=>⟨z,h⟩
 |t::ts,x,us,aK,z,h=>by
  obtain⟨d,hd⟩:=aib t (Row.hd x);obtain⟨y,hy⟩:=vc ts (Row.tl x) us aK z h;refine⟨Row.mk d y,?_⟩;show nd (t::(ts++us)) (Dw t (Row.hd x)::(aF ts (Row.tl x)++aK))=_;simp only [nd,hd,hy]
theorem Kw(hT:bD T P)(hA:∀b,b<w.heap.size->A b):∀(ts:List TypeId) (ps:List PS) (vs:List Value) (ds:List (DataW H)) (q:List MemPlace),PS.Nw T ts=some ps->
  (∀(j:Nat) t v,ts[j]? =some t->vs[j]? =some v->∃b,Value.okWide P w .any b t v)->
  DataW.TrodAll enc P w 0 sp held ts vs ds q->ds.length=ts.length/\∃cZ cs z,ak w A β vs cZ/\PS.cells ps cZ=some cs/\nd (PS.flat ps) cs=some z
 | [],ps,vs,ds,q,hp,_,h=>by
   simp only [PS.Nw,A!] at hp;subst hp;cases vs with
   |nil=>
    cases ds with
    |nil=>exact⟨rfl,[],[],(),by simp only [ak],rfl,rfl⟩
    |cons _ _=>simp [DataW.TrodAll] at h
   |cons _ _=>simp [DataW.TrodAll] at h
 |t::ts,ps,vs,ds,q,hp,Nv,h=>by
  simp only [PS.Nw] at hp;split at hp
  . rename_i p ps' h1 h2;simp only [A!] at hp;subst hp;match vs,ds,h with
    |v::vs,d::ds,h=>
     simp only [DataW.TrodAll] at h;obtain⟨q1,q2,g1,g2,_⟩:=h;obtain⟨k1,cZ,cs,z,k2,k3,k4⟩:=Kw hT hA ts ps' vs ds q2 h2 (fun j t' v' hj hv=>Nv (j+1) t' v' (by simpa using hj) (by simpa using hv)) g2;refine⟨by simp [k1],?_⟩;obtain⟨b,hv⟩:=Nv 0 t v rfl rfl;obtain⟨m,hm⟩:=g1;unfold PS.of at h1;split at h1
     . rename_i te row nu lK;cases hfl:xe T tQ t with
       |false=>rw [hfl] at h1;cases h1
       |true=>
        rw [hfl] at h1;simp only [L!] at h1;obtain⟨hu,_⟩:=hT.ok t te nu;obtain⟨r,hr⟩:=AL (A:=A) hT hA tQ m t row _ _ lK hfl hm;have hrel:=l6 (β:=β) _ _ _ hr;cases Pz:te.desc.mB with
        |true=>
         rw [Pz] at h1;simp only [L!,A!] at h1;subst h1
         have :∃arr:Array Value,v= .agg arr:=by
          unfold Value.okWide at hv;rw [hu] at hv;cases hd:te.desc with
          |struct fs=>rw [hd] at hv;obtain⟨arr,e,_⟩:=hv;exact⟨arr,e⟩
          |array k e=>rw [hd] at hv;obtain⟨arr,e,_⟩:=hv;exact⟨arr,e⟩
          |_=>rw [hd] at Pz;cases Pz
         obtain⟨arr,rfl⟩:=this;obtain⟨y,hy⟩:=vc row r _ _ z k4;refine⟨.agg (aF row r)::cZ,aF row r++cs,y,?_,?_,hy⟩
         . simp only [ak,af];exact⟨_,vs,rfl,⟨arr,rfl,hrel⟩,k2⟩
         . simp only [PS.cells,oU,k3,ek,L!]
        |false=>
         rw [Pz] at h1;simp only [Q!] at h1;split at h1
         . rename_i u;simp only [A!] at h1;subst h1;obtain⟨y,hy⟩:=vc [u] r _ _ z k4
           have hc:v.cells.toList= [v]:=by
            unfold Value.okWide at hv;rw [hu] at hv;cases v with
            |agg arr=>
             exfalso;cases hd:te.desc<;>rw [hd] at hu hv Pz<;>simp_all [Cell.okWide,Cell.ok,TypeDesc.mB]
            |_=>rfl
           rw [hc] at hrel;simp only [aF,ak] at hrel;obtain⟨v',cK,e,e1,_⟩:=hrel;simp only [List.cons.injEq] at e;obtain⟨rfl,_⟩:=e;refine⟨Dw u (Row.hd r)::cZ,Dw u (Row.hd r)::cs,y,?_,?_,hy⟩
           . simp only [ak];exact⟨_,vs,rfl,e1,k2⟩
           . simp only [PS.cells,k3]
         . cases h1
     . cases h1
    | [],_::_,h=>simp [DataW.TrodAll] at h
    | [],[],h=>simp [DataW.TrodAll] at h
    |_::_,[],h=>simp [DataW.TrodAll] at h
  . cases hp
theorem Kx(hl:laidOutB P=true) {W W':World}(hb:Below W.heap.size W W'):∀(ts:List TypeId) (vs:List Value) (ds:List (DataW H)) (q:List MemPlace),(∀t∈ts,P.readableRec t=true/\t<P.types.size)->
  DataW.TrodAll enc P W 0 (fun _=>true) true ts vs ds q->(∀x∈q,x.block<W.heap.size)->DataW.TrodAll enc P W' 0 (fun b=>decide (b<W.heap.size)) true ts vs ds q
 | [],[],[],q,_,h,_=>h
 |t::ts,v::vs,d::ds,q,ht,h,hq=>by
  simp only [DataW.TrodAll] at h |-;obtain⟨q1,q2,g1,g2,rfl⟩:=h
  exact⟨q1,q2,Below.trod hl (ht t (S! ..)).1 (ht t (S! ..)).2 g1 hb (fun x hx=>hq x (Z! _ hx)),
   Kx hl hb ts vs ds q2 (fun u hu=>ht u (G! _ hu)) g2 (fun x hx=>hq x (Y! _ hx)),rfl⟩
 | [],_::_,_,_,_,h,_=>by simp [DataW.TrodAll] at h
 | [],[],_::_,_,_,h,_=>by simp [DataW.TrodAll] at h
 |_::_,[],_,_,_,h,_=>by simp [DataW.TrodAll] at h
 |_::_,_::_,[],_,_,h,_=>by simp [DataW.TrodAll] at h
theorem nD(hT:bD T P)(hl:laidOutB P=true) {G:Nat->Option GD} {f:FuncId} {fn:Func} {s:ChangeSpec} {ps:List PS}(hv:Valid P G f (db ps fun _=>(True, .bool true,[])))
  (hps:PS.Nw T fn.params.toList=some ps) (aic:(fn.params.toList.all fun t=>P.readableRec t&&decide (t<P.types.size))=true) {tb:TypeId} (vC:fn.resultTypes= #[tb]) (htb:P.underlying tb=some .bool)
  (hsv:s.vars= []) (hs:∀(H:Type) (ds:List (DataW H)),ds.length=fn.params.toList.length->s.fn H ds= {results:= [.lit (.bool true)],args:=ds})
  {W:World} {base:Nat} {args:Array Value} {ds gs:List (DataW H)} {before:List MemPlace} (hG:∀i d,G i=some d->rm W (fun b=>b<W.heap.size) i d)
  (sI:∀(j:Nat) t v,fn.params[j]? =some t->args[j]? =some v->Value.okWide P W .any base t v)
  (hW:DataW.Whole enc P fn.params.toList s.vars false W args.toList ds gs before):
  Calls P f args W fun e W'=>∃v,e= .returned v/\s.post enc P fn false true false false W args v W':=by
 have hW':=hW;obtain⟨p,q,hA,hV,rfl,DT,hnd⟩:=hW;rw [hsv] at hV
 have hV':gs= []/\q= []:=by
  cases gs with
  |nil=>exact⟨rfl,by simpa [DataW.TrodVars] using hV⟩
  |cons _ _=>simp [DataW.TrodVars] at hV
 obtain⟨rfl,rfl⟩:=hV';simp only [A?] at hW';obtain⟨hlen,cZ,cs,z,k1,k2,k3⟩:=Kw (β:=fun _=>undef) (A:=fun b=>b<W.heap.size) hT (fun b hb=>hb) _ ps _ _ _ hps (fun j t v hj hv=>⟨base,sI j t v (by simpa using hj) (by simpa using hv)⟩) hA;have hc:=hv W (fun b=>b<W.heap.size) (fun _=>undef) args.toList cZ True (.bool true) [] (fun b hb=>hb) hG k1 (by simp only [db,Ku,k2,k3]) trivial;rw [Array.toArray_toList] at hc;refine hc.mono ?_;rintro e W' ⟨v,rfl,A',aS,hp⟩;have hvt:=hp.res;simp only [af] at hvt;subst hvt;have hb:Below W.heap.size W W':=⟨hp.os,hp.tape,hp.output,hp.size,fun k hk=>hp.same k hk⟩;have kU:∀x∈p,x.block<W.heap.size:=fun x hx=>by simpa using hW'.lt x hx
 rw [W!] at aic
 have cw:=Kx hl hb fn.params.toList args.toList ds p (fun t ht=>by
  have :=aic t ht;simp only [B!,H!] at this;exact this) hA kU
 have CA:=hs H ds hlen;refine⟨_,rfl,ds,[],p,[],p,[],hW',?_,?_,?_,hb.frame _,fun h=>by cases h⟩
 . rw [vC];simp only [A?,CA,Value.resultList];exact trodAll_mk1 (shut_bool htb true)
 . simp only [A?,CA];exact cw
 . rw [hsv];simp only [A?,CA];rfl
end
end Go.Vg

end
section
namespace Go.V
theorem k7 {a b:Bool}:((bif a then true else b)=true)=(a=true\/b=true):=by grind
theorem dc {a b:Bool}:((bif a then true else b)=false)=(a=false/\b=false):=by grind
theorem BW {a b:Bool}:((bif a then b else false)=true)=(a=true/\b=true):=by grind
theorem nR {a b:Bool}:((bif a then b else false)=false)=(a=false\/b=false):=by grind
end Go.V
namespace Go.S
theorem ar {α:Type}(l:List α)(n:Nat)(d:α)(h:n<l.length):l.take (n+1)=l.take n++ [l.getD n d]:=by
 simp_all
theorem bq {α:Type}(l:List α)(n:Nat)(d:α)(h:n<l.length):l.getD n d∈l:=by
 grind
end Go.S
namespace Go.S
theorem aep {α:Type}(l:List α)(z x:α)(n m:Nat)(hl:l.length=n)(hn:n<m):(l++List.replicate (m-n) z).set n x=l++ [x]++List.replicate (m-(n+1)) z:=by
 rw [List.set_append_right _ _ w!,hl,Nat.sub_self,show m-n=(m-(n+1))+1 by omega,List.replicate_succ,List.set_cons_zero];simp
end Go.S

end
section
namespace Go.Vg
open Go
def St.CT(G:Nat->Option GD)(n:Nat)(cZ:List AV)(hs:List AB):St:=
 {St.init G n cZ with h:=fun k=>bif Nat.ble 50000 k&&Nat.blt k 60000 then hs[k-50000]? else none}
def xf:AB->Bool
 | .row _ _ _ true=>false
 |_=>true
def kindOk:AB->Bool
 | .row _ _ _ false=>true
 | .cells _=>true
 | .arr _ _=>true
 |_=>false
def aid:Option AB->Bool
 |some b=>kindOk b
 |none=>true
def VM(r:bP)(k:Nat):Bool:=rK k&&(match r.heap[k-50000]? with
 |some (some _)=>true
 |_=>false)
def ka(r:bP)(k:Nat):Bool:= !(VM r k)
def sU(st:St)(k n e:Nat)(row:List Ty)(l:List (Row row)):St:=
 {st with
  t:=fun i=>eI 70000 (st.t i)
  h:=fun j=>bif Nat.beq j 70000 then some (.row e row (l.take n) false) else bif Nat.beq j k then none else match st.h j with
   |some b=>some (qn 70000 b)
   |none=>none}
def sV(st:St)(x:AV):St×AV:=match x with
 | .pre k n=>match st.h k with
   |some (.row e row l false)=>(sU st k n e row l, .own 70000)
   |_=>(st,x)
 |_=>(st,x)
mutual
def xg(h:bg)(s:List (Nat×Option Nat))(bad:Nat->Bool):AV->AV->List Prop×List Nat
 | .sl r l, .own k=>CI h r l k
 | .agg xs, .agg ys=>nS h s bad xs ys
 | .bA xs, .bA ys=>nS h s bad xs ys
 | .own i,y=>(J4 s bad y (.own i),[])
 |x,y=>(J4 s bad (iF h y).1 x,(iF h y).2)
def nS(h:bg)(s:List (Nat×Option Nat))(bad:Nat->Bool):List AV->List AV->List Prop×List Nat
 | [],[]=>([],[])
 |x::xs,y::ys=>((xg h s bad x y).1++(nS h s bad xs ys).1,(xg h s bad x y).2++(nS h s bad xs ys).2)
 |_,_=>([False],[])
end
def ue(h:bg)(s:List (Nat×Option Nat))(bad:Nat->Bool):Option AB->AB->List Prop×List Nat
 |some (.cells xs), .cells ys=>nS h s bad ys xs
 |o,b=>(Nq s bad o b,[])
def mP(h:bg)(s:List (Nat×Option Nat))(bad:Nat->Bool):Nat->List (Option AB)->List Prop×List Nat
 |_,[]=>([],[])
 |i,some b::bs=>((ue h s bad (h (50000+i)) b).1++(mP h s bad (i+1) bs).1,(ue h s bad (h (50000+i)) b).2++(mP h s bad (i+1) bs).2)
 |i,none::bs=>mP h s bad (i+1) bs
def xL(h:bg)(s:List (Nat×Option Nat))(bad:Nat->Bool)(K:Nat)(b:AB):List Prop×List Nat:=match cC s K with
 |some (some k)=>ue h s bad (h k) b
 |some none=>match b with
  | .row _ _ l false=>([[]=l],[])
  |_=>([False],[])
 |none=>([False],[])
def sW(h:bg)(s:List (Nat×Option Nat))(bad:Nat->Bool):Nat->List AB->List Prop×List Nat
 |_,[]=>([],[])
 |j,b::bs=>((xL h s bad (60000+j) b).1++(sW h s bad (j+1) bs).1,(xL h s bad (60000+j) b).2++(sW h s bad (j+1) bs).2)
def Ky(h:bg):Nat->List (Option AB)->List (Nat×Option Nat)
 |_,[]=> []
 |i,some (.cells ys)::bs=>(match h (50000+i) with
  |some (.cells xs)=>sM ys xs
  |_=> [])++Ky h (i+1) bs
 |i,_::bs=>Ky h (i+1) bs
def Qc(h:bg)(s:List (Nat×Option Nat)):Nat->List AB->List (Nat×Option Nat)
 |_,[]=> []
 |j, .cells ys::bs=>(match cC s (60000+j) with
  |some (some k)=>match h k with
   |some (.cells xs)=>sM ys xs
   |_=> []
  |_=> [])++Qc h s (j+1) bs
 |j,_::bs=>Qc h s (j+1) bs
def Em(acc:List (Nat×Option Nat)):List (Nat×Option Nat)->List (Nat×Option Nat)
 | []=>acc
 |(k,x)::r=>bif Nat.ble 60000 k&&(match cC acc k with|none=>true|some _=>false) then Em ((k,x)::acc) r else Em acc r
def aBm(h:bg)(x:AV)(r:bP):List (Nat×Option Nat):=Em [] (I2 r.res x++Ky h 0 r.heap)
def azd(h:bg)(r:bP)(s:List (Nat×Option Nat)):List (Nat×Option Nat):=Em s (Qc h s 0 r.new)
def aH8(h:bg)(x:AV)(r:bP):List (Nat×Option Nat):=azd h r (azd h r (aBm h x r))
def Kz(h:bg)(s:List (Nat×Option Nat))(x:AV)(r:bP):List Nat:=(xg h s (ka r) r.res x).2++((mP h s (ka r) 0 r.heap).2++(sW h s (ka r) 0 r.new).2)
def Qd(h:bg)(x:AV)(r:bP)(s:List (Nat×Option Nat)):Prop :=
 bif jV (eM s)&&(((eM s).all (ka r))&&((s.all fun y=>Nat.ble 60000 y.1)&&(((Kz h s x r).all fun k=> !aM (eM s) k&&ka r k)&&(r.new.all kindOk&&r.heap.all aid)))) then
  G7 ((xg h s (ka r) r.res x).1++((mP h s (ka r) 0 r.heap).1++(sW h s (ka r) 0 r.new).1)) else False
def KA(T:cJ)(st:St)(rs:List ResultVar)(r:bP):Prop :=match mM T st rs with
 |none=>False
 |some aK=>Qd (sV st (gN aK)).1.h (sV st (gN aK)).2 r (aH8 (sV st (gN aK)).1.h (sV st (gN aK)).2 r)
def aqa(T:cJ)(rs:List ResultVar)(r:bP)(e:Ex)(st:St):Prop :=match e with
 | .norm=>KA T st rs r
 | .ret=>KA T st rs r
 |_=>False
def CU(E:Env)(L:Nat->Option b6)(c:Code)(n:Nat)(rs:List ResultVar)(cZ:List AV)(hs:List AB)(r:bP):Prop :=
 bif Nat.ble cZ.length n then ru E L c (aqa E.T rs r) (St.CT E.lq n cZ hs) else False
section
variable {P:Program} {C:Ctx} {E:Env} {A A':Nat->Prop} {β aS:Nat->Value} {st:St} {a:Act} {w:World} {T:cJ}
theorem KB {G:Nat->Option GD} {n:Nat} {cZ:List AV} {hs:List AB} {k:Nat} {ab:AB}(h:(St.CT G n cZ hs).h k=some ab):∃i,k=50000+i/\hs[i]? =some ab:=by
 simp [St.CT] at h;cases hb:(Nat.ble 50000 k&&Nat.blt k 60000) with
 |false=>grind
 |true=>
  simp only [Bool.and_eq_true] at hb;have :=Nat.le_of_ble_eq_true hb.1;grind
theorem aJ.CT {G:Nat->Option GD} {args:List Value} {cZ:List AV} {hs:List AB} {n:Nat}(hA:∀b,A b->b<w.heap.size)(hG:∀i d,G i=some d->rm w A i d)(hr:ak w A β args cZ)(hn:cZ.length<=n)
  (iu:∀i ab,hs[i]? =some ab->BR w A β (50000+i) ab) (ID:∀i j b,i<hs.length->j<hs.length->aB (β (50000+i))=some b->aB (β (50000+j))=some b->i=j):
  aJ ⟨w,A,HM β hs.length,G,β⟩ A β (St.CT G n cZ hs) {tmps:=args.toArray++Array.replicate (n-args.toArray.size) undef,defers:= []} w:=by
 have hI:=aJ.init (β:=β) (G:=G) (n:=n) hA hG hr hn
 have hk:∀k,((St.CT G n cZ hs).h k).isSome->∃i,k=50000+i/\i<hs.length:=by
  grind[Option.isSome_iff_exists,KB,List.getElem?_eq_some_iff]
 refine⟨hI.defers,hI.size,hI.tmps,fun k ab h=> ?_,fun k k' b h h' hb fv=> ?_,hI.bound,⟨rfl,rfl,rfl,O! _,fun b _ _=>rfl⟩,fun b _ h=> .inl h,fun b h=>h,fun k b h hb=> ?_,fun i d h=>h,hG,fun k _=>rfl⟩
 . grind[KB]
 . grind
 . obtain⟨i,rfl,h1⟩:=hk k h;exact .inr ⟨i,h1,hb⟩
theorem aie {hs:List AB}(hnf:∀ab∈hs,xf ab=true)(iu:∀i ab,hs[i]? =some ab->BR w A β (50000+i) ab):∀b,HM β hs.length b->¬A b:=by
 rintro b ⟨i,hi,hb⟩;have hg:=E! hi;have h:=iu i _ hg;have hn:=hnf _ (List.getElem_mem hi);generalize hs[i]=ab at h hn;cases ab with
 |cells cs=>
  obtain⟨b',arr,e,h1,h2,h3,_⟩:=h;grind[aB,Option.some.injEq]
 |arr row l=>
  obtain⟨b',arr,e,h1,h2,h3,_⟩:=h;grind[aB,Option.some.injEq]
 |views e j n m sz=>
  obtain⟨xs,h1,h2,_⟩:=h;grind
 |row e row l fr=>
  obtain⟨xs,h1,h2,h3⟩:=h;grind[xf]
 |jc e j row l i=>
  obtain⟨xs,v0,h1,h2,_⟩:=h;grind
theorem aJ.shrink(hB:aJ C A β st a w) {k n e:Nat} {row:List Ty} {l:List (Row row)} {v:Value}(hk:st.h k=some (.row e row l false))(hv:af w A β v (.pre k n)):
  aJ C A (cd β 70000 v) (sU st k n e row l) a w/\af w A (cd β 70000 v) v (.own 70000):=by
 obtain⟨xs,o1,o2,o3⟩:=JK hB hk;have CA:=fw l xs n o2
 have jN:w.ownsRow 0 e row.length v n (xs.take (n*row.length))/\n<=l.length/\aB v=aB (β k):=by
  simp only [af] at hv;rcases hv with⟨h1,h2,h3⟩|⟨b,mm,cap,h1,h2,h3⟩
  . simp_all[World.ownsRow_nil]
  . rcases o1.2 with⟨g1,_⟩|⟨g,l4,cur,g1,g2,g3,g4,g5,g6,g7⟩
    . grind
    . rw [h1] at g1;obtain⟨rfl,rfl,rfl⟩:=g1;refine⟨⟨?_, .inr ⟨b,cap,cur,h2,w!,g3,w!,g5,g6,?_⟩⟩,h3,by rw [h1,h2];rfl⟩
      . grind[List.length_take,Nat.min_eq_left,Nat.mul_le_mul_right]
      grind[Nat.min_eq_left,Nat.mul_le_mul_right]
 obtain⟨jN,hnl,hbv⟩:=jN
 have ma:v.oneCell'=true :=by
  simp only [af] at hv;rcases hv with⟨_,h2,_⟩|⟨b,mm,cap,_,h2,_⟩<;>subst h2<;>rfl
 have hs:∀j,((sU st k n e row l).h j).isSome->(j=70000/\cd β 70000 v j=v)\/(j≠70000/\j≠k/\(st.h j).isSome/\cd β 70000 v j=β j):=by
  intro j hj;by_cases h7:j=70000
  . subst h7;exact .inl ⟨rfl,by rfl⟩
  . simp only [sU,bh h7,cond_false] at hj;grind[ek,bh,cd]
 have hb2:∀j b,((sU st k n e row l).h j).isSome->aB (cd β 70000 v j)=some b->∃j',(st.h j').isSome/\aB (β j')=some b/\((j=70000/\j'=k)\/(j≠70000/\j'=j/\j≠k)):=by
  grind
 refine⟨⟨hB.defers,hB.size,fun i=>wK 70000 v _ _ (hB.tmps i),fun j ab hj=> ?_,fun j j' b h1 h2 g1 g2=> ?_,hB.bound,hB.frame,hB.nh,hB.base,fun j b h1 g1=> ?_,hB.uO,hB.laid,fun j hj=> ?_⟩,?_⟩
 . by_cases h7:j=70000
   . subst h7;simp only [sU,ek,cond_true,Option.some.injEq] at hj;grind[cd,BR,List.length_take,Nat.min_eq_left]
   . simp only [sU,bh h7,Q!] at hj;by_cases PF:j=k
     . simp_all
     . rw [bh PF] at hj;cases hh:st.h j with
       |none=>grind
       |some x=>
        rw [hh] at hj;simp only [Q!,A!] at hj;subst hj
        exact yj (new:= [(70000, .cells [])]) (w':=w) (A':=A) (aS:=cd β 70000 v) (fun q hq=>by
         have :¬q=70000:=by rintro rfl;simp_all[ay]
         grind[cd]) (by grind[cd]) (fun b _=>⟨rfl,id⟩) (fun b hb=>⟨hb,rfl⟩) (hB.blocks j x hh)
 . obtain⟨i,a1,a2,a3⟩:=hb2 j b h1 g1;obtain⟨i',b1,b2,b3⟩:=hb2 j' b h2 g2;have :=hB.apart i i' b a1 b1 a2 b2;omega
 . obtain⟨i,a1,a2,_⟩:=hb2 j b h1 g1;exact hB.qI i b a1 a2
 . have :¬j=70000:=by rintro rfl;simp_all[rK]
   simp only [cd,N! this];exact hB.held j hj
 grind[af,cd]
theorem Qe(hB:aJ C A β st a w) {x:AV} {v:Value}(hv:af w A β v x):∃aS,aJ C A aS (sV st x).1 a w/\af w A aS v (sV st x).2:=by
 unfold sV;split
 . split
   . rename_i e row l hk;obtain⟨h1,h2⟩:=hB.shrink hk hv;grind
   grind
 grind
mutual
theorem xh(hB:aJ C A β st a w) {s:List (Nat×Option Nat)} {bad:Nat->Bool}(hA:∀b,A b->A' b)(hK:Keyed bad s β aS):∀(x y:AV) (v:Value),
  (∀p∈(xg st.h s bad x y).1,p)->(∀k∈(xg st.h s bad x y).2,∀b,aB (β k)=some b->A' b)->af w A β v y->af w A' aS v x/\∀k∈(xg st.h s bad x y).2,(st.h k).isSome
 |x,y,v,h,hF,hr=>by
  generalize he:xg st.h s bad x y=r at h hF |-;unfold xg at he;split at he
  . rename_i r0 l0 k;subst he;exact Eh hB hA r0 l0 k v h hF hr
  . rename_i xs ys;subst he;simp only [af] at hr |-;obtain⟨arr,e1,e2⟩:=hr;obtain⟨g1,g2⟩:=nE hB hA hK xs ys _ h hF e2;exact⟨⟨arr,e1,g1⟩,g2⟩
  . rename_i xs ys;subst he;simp only [af] at hr |-;obtain⟨arr,e1,e2⟩:=hr;obtain⟨g1,g2⟩:=nE hB hA hK xs ys _ h hF e2;exact⟨⟨arr,e1,g1⟩,g2⟩
  . subst he;exact⟨kD (fun b hb=>⟨hA b hb,rfl⟩) _ _ (pY hK _ _ _ h hr),fun k hk=>by cases hk⟩
  . subst he;obtain⟨g1,g2⟩:=se hB hr hA hF;exact⟨pY hK _ _ _ h g1,fun k hk=>by obtain⟨e,row,l,fr,hr⟩:=g2 k hk;simp [hr]⟩
theorem nE(hB:aJ C A β st a w) {s:List (Nat×Option Nat)} {bad:Nat->Bool}(hA:∀b,A b->A' b)(hK:Keyed bad s β aS):∀(xs ys:List AV) (vs:List Value),
  (∀p∈(nS st.h s bad xs ys).1,p)->(∀k∈(nS st.h s bad xs ys).2,∀b,aB (β k)=some b->A' b)->ak w A β vs ys->ak w A' aS vs xs/\∀k∈(nS st.h s bad xs ys).2,(st.h k).isSome
 | [],[],vs,_,_,hr=>by
   simp only [ak] at hr |-;exact⟨hr,fun k hk=>by simp [nS] at hk⟩
 |x::xs,y::ys,vs,h,hF,hr=>by
  simp only [nS] at h hF |-;obtain⟨g1,g2⟩:=k6 h;simp only [ak] at hr |-;obtain⟨v,cK,e,r1,r2⟩:=hr;obtain⟨q1,q2⟩:=xh hB hA hK x y v g1 (fun k hk=>hF k (Z! _ hk)) r1;obtain⟨q3,q4⟩:=nE hB hA hK xs ys cK g2 (fun k hk=>hF k (Y! _ hk)) r2;refine⟨⟨v,cK,e,q1,q3⟩,fun k hk=> ?_⟩;rcases F!.1 hk with hk|hk
  . exact q2 k hk
  . exact q4 k hk
 | [],_::_,vs,h,_,_=>by simp only [nS] at h;exact(bn h).elim
 |_::_,[],vs,h,_,_=>by simp only [nS] at h;exact(bn h).elim
end
theorem aBo {k:Nat} {b:AB}(hA:∀b,A b->A' b)(hk:kindOk b=true)(IE:∀g,aB (β k)=some g->¬A g->¬A' g)(h:BR w A β k b):BR w A' β k b:=by
 have hK:dC w w A A':=fun b hb=>⟨hA b hb,rfl⟩;cases b with
 |cells cs=>
  obtain⟨g,arr,e,h1,h2,h3,h4,h5⟩:=h;exact⟨g,arr,e,h1,h2,IE g (by rw [h1];rfl) h3,fO hK _ _ h4,h5⟩
 |arr row l=>
  obtain⟨g,arr,e,h1,h2,h3,h4⟩:=h;exact⟨g,arr,e,h1,h2,IE g (by rw [h1];rfl) h3,bZ (fun c x hx=>b4 hK row c x hx) l _ h4⟩
 |views e j n m sz=>grind[kindOk]
 |jc _ _ _ _ _=>grind[kindOk]
 |row e row l fr=>
  cases fr with
  |true=>grind[kindOk]
  |false=>
   obtain⟨xs,x1,x2,x3⟩:=h;refine⟨xs,x1,bZ (fun c x hx=>b4 hK row c x hx) l xs x2,fun b hb=> ?_⟩;grind
theorem Hz(hB:aJ C A β st a w) {s:List (Nat×Option Nat)} {bad:Nat->Bool}(hA:∀b,A b->A' b)(hK:Keyed bad s β aS) {k K:Nat} {b:AB}(hk:aS K=β k)(KC:kindOk b=true)
  (h:∀p∈(ue st.h s bad (st.h k) b).1,p) (hF:∀q∈(ue st.h s bad (st.h k) b).2,∀g,aB (β q)=some g->A' g) (IE:∀g,aB (β k)=some g->¬A g->¬A' g):BR w A' aS K b:=by
 generalize he:ue st.h s bad (st.h k) b=r at h hF;unfold ue at he;split at he
 . rename_i xs ys sx;subst he;obtain⟨g,arr,e,h1,h2,h3,h4,h5⟩:=hB.blocks k _ sx;obtain⟨q1,_⟩:=nE hB hA hK ys xs _ h hF h4;exact⟨g,arr,e,hk.trans h1,h2,IE g (by rw [h1];rfl) h3,q1,h5⟩
 . subst he;obtain⟨c,hc⟩:=vN h;rw [hc] at h;exact aBo hA KC x! (w9 hK hk h (hB.blocks k c hc))
theorem xi(hB:aJ C A β st a w) {s:List (Nat×Option Nat)} {bad:Nat->Bool}(hK:Keyed bad s β aS) {k:Nat} {b:AB}
  (h:∀p∈(ue st.h s bad (st.h k) b).1,p):(st.h k).isSome/\∀q∈(ue st.h s bad (st.h k) b).2,(st.h q).isSome:=by
 generalize he:ue st.h s bad (st.h k) b=r at h |-;unfold ue at he;split at he
 . rename_i xs ys sx;subst he;obtain⟨g,arr,e,h1,h2,h3,h4,h5⟩:=hB.blocks k _ sx;exact⟨x!,(nE (A':=fun _=>True) hB (fun _ _=>trivial) hK ys xs _ h (fun _ _ _ _=>trivial) h4).2⟩
 . subst he;obtain⟨c,hc⟩:=vN h;grind
theorem uf {h:bg} {s:List (Nat×Option Nat)} {bad:Nat->Bool}:∀(bs:List (Option AB)) (i j:Nat) (b:AB),bs[j]? =some (some b)->
  (∀p∈(ue h s bad (h (50000+(i+j))) b).1,p∈(mP h s bad i bs).1)/\∀p∈(ue h s bad (h (50000+(i+j))) b).2,p∈(mP h s bad i bs).2
 |some b0::bs,i,0,b,hb=>by
  grind[List.getElem?_cons_zero,Option.some.injEq,mP,List.mem_append_left]
 |some b0::bs,i,j+1,b,hb=>by
  simp [mP];have :=uf (h:=h) (s:=s) (bad:=bad) bs (i+1) j b x!;grind
 |none::bs,i,0,b,hb=>by grind
 |none::bs,i,j+1,b,hb=>by
  simp [mP];have :=uf (h:=h) (s:=s) (bad:=bad) bs (i+1) j b x!;grind
theorem za {h:bg} {s:List (Nat×Option Nat)} {bad:Nat->Bool}:∀(bs:List (Option AB)) (i q:Nat),q∈(mP h s bad i bs).2->
  ∃(j:Nat) (b:AB),bs[j]? =some (some b)/\q∈(ue h s bad (h (50000+(i+j))) b).2
 | [],i,q,hq=>by grind[mP]
 |some b0::bs,i,q,hq=>by
  simp [mP,F!] at hq;rcases hq with hq|hq
  . exact⟨0,b0,rfl,hq⟩
  . obtain⟨j,b,h1,h2⟩:=za bs (i+1) q hq;exact⟨j+1,b,by simpa using h1,by rwa [show i+1+j=i+(j+1) by omega] at h2⟩
 |none::bs,i,q,hq=>by
  obtain⟨j,b,h1,h2⟩:=za bs (i+1) q hq;exact⟨j+1,b,by simpa using h1,by rwa [show i+1+j=i+(j+1) by omega] at h2⟩
theorem CV {h:bg} {s:List (Nat×Option Nat)} {bad:Nat->Bool}:∀(bs:List AB) (i j:Nat) (b:AB),bs[j]? =some b->
  (∀p∈(xL h s bad (60000+(i+j)) b).1,p∈(sW h s bad i bs).1)/\∀p∈(xL h s bad (60000+(i+j)) b).2,p∈(sW h s bad i bs).2
 |b0::bs,i,0,b,hb=>by
  grind[List.getElem?_cons_zero,Option.some.injEq,sW,List.mem_append_left]
 |b0::bs,i,j+1,b,hb=>by
  simp [sW];have :=CV (h:=h) (s:=s) (bad:=bad) bs (i+1) j b x!;grind
theorem KD {h:bg} {s:List (Nat×Option Nat)} {bad:Nat->Bool}:∀(bs:List AB) (i q:Nat),q∈(sW h s bad i bs).2->
  ∃(j:Nat) (b:AB),bs[j]? =some b/\q∈(xL h s bad (60000+(i+j)) b).2
 | [],i,q,hq=>by grind[sW]
 |b0::bs,i,q,hq=>by
  simp [sW,F!] at hq;rcases hq with hq|hq
  . exact⟨0,b0,rfl,hq⟩
  . obtain⟨j,b,h1,h2⟩:=KD bs (i+1) q hq;exact⟨j+1,b,by simpa using h1,by rwa [show i+1+j=i+(j+1) by omega] at h2⟩
theorem Qf(hT:bD T P) {fn:Func}(hB:aJ C A β st a w) {aK:List AV}(h:mM T st fn.results.toList=some aK):∃v,(results fn a.tmps).run P w= .ok v w/\af w A β v (gN aK):=by
 obtain⟨vs,p1,p2⟩:=rT hT hB fn.results.toList aK h;have hl:=eJ aK vs p2;refine⟨if h:vs.toArray.size=1 then vs.toArray[0] else .tuple vs.toArray,?_,?_⟩
 . grind[Hw,Array.mapM_eq_mapM_toList,Sem.run_bind,map_eq_pure_bind,Result.andThen_ok,Sem.run_pure]
 . match aK,vs,hl,p2 with
   | [x],[v],_,p2=>
     grind[ak,List.cons.injEq,gN]
   | [],[],_,p2=>
     grind[gN,af,ak]
   |x::y::l,v::u::m,_,p2=>
    simp_all[dif_neg,gN,af]
theorem Qg {w0:World} {A0:Nat->Prop} {G:Nat->Option GD} {DG oL:Nat->Value} {n:Nat}(hB:aJ ⟨w0,A0,HM DG n,G,DG⟩ A oL st a w) {r:bP} {x:AV} {v:Value} {s:List (Nat×Option Nat)}
  (hn:r.heap.length=n) (ahK:n<=100) (hA0:∀b,HM DG n b->¬A0 b) (IF:∀b,A0 b->b<w0.heap.size) (hv2:af w A oL v x) (h:Qd st.h x r s):
  ∃A' aS,JR w0 A0 DG n w v r A' aS:=by
 unfold Qd at h;cases hq:(jV (eM s)&&(((eM s).all (ka r))&&((s.all fun y=>Nat.ble 60000 y.1)&&(((Kz st.h s x r).all fun k=> !aM (eM s) k&&ka r k)&&(r.new.all kindOk&&r.heap.all aid))))) with
 |false=>grind
 |true=>
  rw [hq] at h;simp only [L!] at h;simp only [B!,W!] at hq;obtain⟨q1,q2,q3,q4,q5,q6⟩:=hq;obtain⟨c1,c2⟩:=k6 (vL _ h);obtain⟨c2,c3⟩:=k6 c2;let F:=Kz st.h s x r
  let jf:Nat->Value:=fun i=>match cC s i with
   |some (some k)=>oL k
   |some none=>rE
   |none=>oL i
  have h60:∀K y,cC s K=some y->60000<=K:=by
   have :∀(l:List (Nat×Option Nat)),(∀z∈l,Nat.ble 60000 z.1=true)->∀K y,cC l K=some y->60000<=K:=by
    intro l;induction l with
    |nil=>intro _ K y h;cases h
    |cons z l ih=>
     intro hl K y h;obtain⟨z1,z2⟩:=z;simp only [cC] at h;cases hb:Nat.beq K z1 with
     |true=>rw [D! hb];exact M! (hl _ (S! ..))
     |false=>rw [hb] at h;exact ih (fun z hz=>hl z (G! _ hz)) K y h
   exact this s q3
  have aif:∀K,ka r K=false->rK K=true/\cC s K=none/\∃ab,r.heap[K-50000]? =some (some ab):=by
   intro K hK;simp only [ka,VM,Bool.not_eq_false',B!] at hK;obtain⟨k1,k2⟩:=hK;refine⟨k1,?_,?_⟩
   . cases hl:cC s K with
     |none=>rfl
     |some y=>
      have :=h60 K y hl;simp only [rK,B!] at k1;have :=M! k1.2;omega
   . split at k2
     . rename_i ab mE;exact⟨ab,mE⟩
     . cases k2
  have Bo:Keyed (ka r) s oL jf:=⟨fun K k h=>by simp only [jf,h],fun K h=>by simp only [jf,h],fun K h _=>by simp only [jf,h],fun K h=>by simp only [jf,(aif K h).2.1]⟩
  have Qh:∀i ab,r.heap[i]? =some (some ab)->i<100/\ka r (50000+i)=false/\jf (50000+i)=oL (50000+i)/\oL (50000+i)=DG (50000+i):=by
   intro i ab hi;have kU:=(T?.1 hi).1
   have hip:rK (50000+i)=true :=by
    simp only [rK,B!];exact⟨Nat.ble_eq_true_of_le w!,Nat.ble_eq_true_of_le w!⟩
   have hb:ka r (50000+i)=false :=by
    simp only [ka,VM,hip,Bool.true_and,o?,hi,Bool.not_true]
   exact⟨w!,hb,by simp only [jf,(aif _ hb).2.1],hB.held _ hip⟩
  have Qi:∀q∈F,(st.h q).isSome:=by
   intro q hq;simp only [F,Kz,F!] at hq;rcases hq with hq|hq|hq
   . exact(xh (A':=fun _=>True) hB (fun _ _=>trivial) Bo r.res x v c1 (fun _ _ _ _=>trivial) hv2).2 q hq
   . obtain⟨j,b,h1,h2⟩:=za _ _ _ hq;have hm:=uf (h:=st.h) (s:=s) (bad:=ka r) r.heap 0 j b h1;exact(xi hB Bo (fun p hp=>c2 p (hm.1 p hp))).2 q h2
   . obtain⟨j,b,h1,h2⟩:=KD _ _ _ hq;have hm:=CV (h:=st.h) (s:=s) (bad:=ka r) r.new 0 j b h1;have hc:∀p∈(xL st.h s (ka r) (60000+(0+j)) b).1,p:=fun p hp=>c3 p (hm.1 p hp);generalize hg:xL st.h s (ka r) (60000+(0+j)) b=g at hc h2;unfold xL at hg;split at hg
     . subst hg;exact(xi hB Bo hc).2 q h2
     . split at hg<;>(subst hg;cases h2)
     . subst hg;cases h2
  have hFA:∀q∈F,∀b,aB (oL q)=some b->cv A oL F b:=fun q hq b hb=> .inr ⟨q,hq,hb⟩;have hAA:∀b,A b->cv A oL F b:=fun b hb=> .inl hb
  have IE:∀k,(st.h k).isSome->k∉F->∀g,aB (oL k)=some g->¬A g->¬cv A oL F g:=by
   rintro k hk hkF g hg l9 (hAg|⟨j,hj,hjg⟩)
   . exact l9 hAg
   . have :=hB.apart j k g (Qi j hj) hk hjg hg;subst this;exact hkF hj
  have aih:∀k,(k∈eM s\/ka r k=false)->k∉F:=by
   rintro k hk hF;have h4:=q4 k hF;rcases hk with hk|hk
   . have :=mK.2 hk;rw [this] at h4;simp at h4
   . rw [hk] at h4;simp at h4
  have Vh:∀i ab,r.heap[i]? =some (some ab)->BR w (cv A oL F) jf (50000+i) ab/\(st.h (50000+i)).isSome:=by
   intro i ab hi;obtain⟨_,hb,cY,_⟩:=Qh i ab hi;have hm:=uf (h:=st.h) (s:=s) (bad:=ka r) r.heap 0 i ab hi;rw [q?] at hm;have hl:=xi (k:=50000+i) hB Bo (fun p hp=>c2 p (hm.1 p hp));have KC:kindOk ab=true :=q6 _ (y? hi);exact⟨Hz hB hAA Bo cY KC (fun p hp=>c2 p (hm.1 p hp)) (fun q hq=>hFA q (by simp only [F,Kz,F!];exact .inr (.inl (hm.2 q hq)))) (IE _ hl.1 (aih _ (.inr hb))),hl.1⟩
  have hN1:∀j ab,r.new[j]? =some ab->BR w (cv A oL F) jf (60000+j) ab/\(jf (60000+j)=rE\/∃k,cC s (60000+j)=some (some k)/\jf (60000+j)=oL k/\(st.h k).isSome):=by
   intro j ab hj;have hm:=CV (h:=st.h) (s:=s) (bad:=ka r) r.new 0 j ab hj;rw [q?] at hm;have hc:∀p∈(xL st.h s (ka r) (60000+j) ab).1,p:=fun p hp=>c3 p (hm.1 p hp);have hf:∀q∈(xL st.h s (ka r) (60000+j) ab).2,q∈F:=fun q hq=>by simp only [F,Kz,F!];exact .inr (.inr (hm.2 q hq))
   have KC:kindOk ab=true :=q5 _ (List.mem_of_getElem? hj);generalize hg:xL st.h s (ka r) (60000+j) ab=g at hc hf;unfold xL at hg;split at hg
   . rename_i k hk;subst hg;have cY:jf (60000+j)=oL k:=by simp only [jf,hk]
     have hl:=xi (k:=k) hB Bo hc;exact⟨Hz hB hAA Bo cY KC hc (fun q hq=>hFA q (hf q hq)) (IE _ hl.1 (aih _ (.inl (jt s _ _ hk)))), .inr ⟨k,hk,cY,hl.1⟩⟩
   . rename_i hk;have cY:jf (60000+j)=rE:=by simp only [jf,hk]
     split at hg
     . subst hg;exact⟨P7 cY (bn hc), .inl cY⟩
     . subst hg;exact(bn hc).elim
   . subst hg;exact(bn hc).elim
  have vC:=(xh hB hAA Bo r.res x v c1 (fun q hq=>hFA q (by simp only [F,Kz,F!];exact .inl hq)) hv2).1
  have gJ:∀k b,Vn r k->aB (jf k)=some b->∃k',(st.h k').isSome/\aB (oL k')=some b/\((ka r k=false/\k'=k)\/cC s k=some (some k')):=by
   rintro k b (⟨i,ab,rfl,_,hi⟩|⟨j,rfl,hj⟩) hb
   . obtain⟨_,h1,h2,_⟩:=Qh i ab hi;rw [h2] at hb;exact⟨_,(Vh i ab hi).2,hb, .inl ⟨h1,rfl⟩⟩
   . rcases(hN1 j _ (E! hj)).2 with h|⟨k,h1,h2,h3⟩
     . rw [h] at hb;simp [rE,aB] at hb
     . rw [h2] at hb;exact⟨k,h3,hb, .inr h1⟩
  refine⟨cv A oL F,jf,⟨hB.frame.os,hB.frame.tape,hB.frame.output,hB.frame.size,fun b hb hM=>hB.frame.block b hb hM,fun b hb=>⟨.inl (hB.base b hb),hB.frame.block b (IF b hb) fun hM=>hA0 b hM hb⟩,fun b hb JA=> ?_,fun b hb=> ?_,vC,fun i ab hi=>⟨(Vh i ab hi).1,(Qh i ab hi).2.2.1.trans (Qh i ab hi).2.2.2⟩,fun j ab hj=>⟨(hN1 j ab hj).1,fun b hb=> ?_⟩,fun k k' b h1 h2 g1 g2=> ?_⟩⟩
  . rcases JA with JA|⟨j,hj,yx⟩
    . exact hB.nh b hb JA
    . rcases hB.qI j b (Qi j hj) yx with h|h
      . exact absurd hb (Nat.not_lt.2 h)
      . exact .inr h
  . rcases hb with hb|⟨j,hj,yx⟩
    . exact hB.bound b hb
    . exact nv hB (Qi j hj) yx
  . obtain⟨k,g1,g2,_⟩:=gJ _ b (.inr ⟨j,rfl,(T?.1 hj).1⟩) hb;exact hB.qI k b g1 g2
  . obtain⟨j,a1,a2,a3⟩:=gJ k b h1 g1;obtain⟨j',b1,b2,b3⟩:=gJ k' b h2 g2;have :=hB.apart j j' b a1 b1 a2 b2;subst this;rcases a3 with⟨p1,p2⟩|p1<;>rcases b3 with⟨r1,r2⟩|r1
    . exact p2.symm.trans r2
    . have :=q2 j (jt s _ _ r1);rw [p2,p1] at this;cases this
    . have :=q2 j (jt s _ _ p1);rw [r2,r1] at this;cases this
    . exact xa s q1 k k' j p1 r1
theorem SH(hT:bD T P) {fn:Func} {w0:World} {A0:Nat->Prop} {G:Nat->Option GD} {DG:Nat->Value} {n:Nat}(hB:aJ ⟨w0,A0,HM DG n,G,DG⟩ A β st a w) {r:bP}
  (hn:r.heap.length=n) (ahK:n<=100) (hA0:∀b,HM DG n b->¬A0 b) (IF:∀b,A0 b->b<w0.heap.size) (h:KA T st fn.results.toList r):
  ∃v,(results fn a.tmps).run P w= .ok v w/\∃A' aS,JR w0 A0 DG n w v r A' aS:=by
 grind[KA,Qf,Qe,Qg]
theorem Nx(hE:b5 P E)(hm:P.follows .mixedOrders=true) {f:FuncId} {fn:Func} {c:Code} {s:jZ}(L:List AV->List AB->Nat->Option b6)(hf:P.funcs[f]? =some fn)(hb:fn.body=some c)
  (hnf:∀cZ hs r,s cZ hs=some r->∀ab∈hs,xf ab=true)
  (h:∀cZ hs r,s cZ hs=some r->r.pre->CU E (L cZ hs) c fn.ntmps fn.results.toList cZ hs r):cg P E.lq f s:=by
 intro w A β args cZ hs r hA hG cw iu ID p7 hp hlen KE;have VF:=h cZ hs r p7 hp;unfold CU at VF;cases hn:Nat.ble cZ.length fn.ntmps with
 |false=>grind
 |true=>
  rw [hn] at VF;refine calls_of_wp hf hb (gw (C:=⟨w,A,HM β hs.length,E.lq,β⟩) ⟨hE,rfl⟩ hm c _ _ _ w _ VF ⟨A,β,aJ.CT hA hG cw (M! hn) iu ID⟩ ?_);intro e cN a' w' hk _ hR;obtain⟨A',aS,hB⟩:=hR
  have key:KA E.T cN fn.results.toList r->bodyPost P fn (fun e w'=>∃v,e= .returned v/\∃A' aS,JR w A β hs.length w' v r A' aS) .ret a' w':=by
   intro hk;obtain⟨v,h1,A2,jf,h2⟩:=SH hE.gY hB hlen KE (aie (hnf cZ hs r p7) iu) hA hk;exact⟨hB.defers,v,h1,v,rfl,A2,jf,h2⟩
  cases e with
  |norm=>exact key hk
  |ret=>exact key hk
  |exit i=>exact hk.elim
end
end Go.Vg

end
section
namespace Go.Vg
open Go
inductive TA where
 |fL (t:Ty)
 |own (k:Nat)
 |ref (k off:Nat)
 |nil
 |lp
 |lW
 |agg (l:List TA)
 |fn (f:Fn) (first bH:List TA)
mutual
@[reducible] def TA.tys:TA->List Ty
  | .fL t=> [t]
  | .agg l=>TA.ez l
  | .fn _ l m=>TA.ez l++TA.ez m
  |_=> []
@[reducible] def TA.ez:List TA->List Ty
  | []=> []
  |t::ts=>TA.tys t++TA.ez ts
end
mutual
def TA.get:TA->AV->Option (List AV)
 | .fL _,a=>some [a]
 | .own k, .own k'=>bif Nat.beq k k' then some [] else none
 | .ref k o, .ref k' o'=>bif Nat.beq k k'&&Nat.beq o o' then some [] else none
 | .nil, .nil=>some []
 | .lp, .lp=>some []
 | .lW, .lW=>some []
 | .agg l, .agg cs=>TA.xM l cs
 | .fn f l m, .fn f' cs ds=>if f=f' then BB (TA.xM l cs) (TA.xM m ds) else none
 |_,_=>none
def TA.xM:List TA->List AV->Option (List AV)
 | [],[]=>some []
 |t::ts,a::aK=>BB (TA.get t a) (TA.xM ts aK)
 |_,_=>none
end
mutual
def TA.put:TA->List AV->AV
 | .fL _,cs=>cs.headD .dU
 | .own k,_=> .own k
 | .ref k o,_=> .ref k o
 | .nil,_=> .nil
 | .lp,_=> .lp
 | .lW,_=> .lW
 | .agg l,cs=> .agg (TA.pA l cs)
 | .fn f l m,cs=> .fn f (TA.pA l (cs.take (TA.ez l).length)) (TA.pA m (cs.drop (TA.ez l).length))
def TA.pA:List TA->List AV->List AV
 | [],_=> []
 |t::ts,cs=>TA.put t (cs.take (TA.tys t).length)::TA.pA ts (cs.drop (TA.tys t).length)
end
inductive TB where
 |row (e:Nat) (row:List Ty)
 |cells (l:List TA)
 |arr (row:List Ty)
@[reducible] def TB.D:TB->Type
  | .row _ r=>List (Row r)
  | .cells l=>Row (TA.ez l)
  | .arr r=>List (Row r)
@[reducible] def cI:List TB->Type
  | []=>Unit
  |b::bs=>TB.D b×cI bs
def TB.get:(b:TB)->AB->Option (TB.D b)
 | .row e r, .row e' r' l false=>bif Nat.beq e e' then gu r' r l else none
 | .cells ts, .cells cs=>match TA.xM ts cs with
   |some aK=>nd (TA.ez ts) aK
   |none=>none
 | .arr r, .arr r' l=>gu r' r l
 |_,_=>none
def TB.put:(b:TB)->TB.D b->AB
 | .row e r,l=> .row e r l false
 | .cells ts,x=> .cells (TA.pA ts (aF (TA.ez ts) x))
 | .arr r,l=> .arr r l
def TB.ok:(b:TB)->TB.D b->Prop
 | .row _ r,l=>D.ok (.slice r) l
 | .cells ts,x=>Row.ok (TA.ez ts) x
 | .arr _,_=>True
def cI.get:(bs:List TB)->List AB->Option (cI bs)
 | [],[]=>some ()
 |b::bs,h::hs=>match TB.get b h,cI.get bs hs with
  |some x,some y=>some (x,y)
  |_,_=>none
 |_,_=>none
def cI.put:(bs:List TB)->cI bs->List AB
 | [],_=> []
 |b::bs,x=>TB.put b x.1::cI.put bs x.2
def cI.ok:(bs:List TB)->cI bs->Prop
 | [],_=>True
 |b::bs,x=>TB.ok b x.1/\cI.ok bs x.2
def eA(ts:List TA)(bs:List TB)(F:Row (TA.ez ts)->cI bs->bP):jZ:=fun cZ hs=>match TA.xM ts cZ with
 |some cs=>match nd (TA.ez ts) cs,cI.get bs hs with
  |some x,some y=>some (F x y)
  |_,_=>none
 |none=>none
def AM(s t:jZ):jZ:=fun cZ hs=>match s cZ hs with
 |some r=>some r
 |none=>t cZ hs
section
variable {P:Program} {E:Env} {w:World} {A:Nat->Prop} {β:Nat->Value}
theorem KF {α:Type} {a b:Option (List α)} {c:List α}(h:BB a b=some c):∃x y,a=some x/\b=some y/\c=x++y:=by
 cases a with
 |none=>grind[BB]
 |some x=>
  cases b with
  |none=>grind[BB]
  |some y=>grind[BB,Option.some.injEq]
theorem HA {aK bs jd:List AV} {us vs:List Value}(h1:ak w A β us aK)(hl:jd.length=(aK++bs).length)(h:ak w A β (us++vs) jd):
  ak w A β us (jd.take aK.length)/\ak w A β vs (jd.drop aK.length):=by
 grind[p0,List.take_append_drop,Hy,List.length_take,List.append_inj]
mutual
theorem aqc:∀(t:TA) (a:AV) (cs:List AV) (v:Value),TA.get t a=some cs->af w A β v a->
  cs.length=(TA.tys t).length/\∃vs,ak w A β vs cs/\∀jd,jd.length=cs.length->ak w A β vs jd->af w A β v (TA.put t jd)
 |t,a,cs,v,h,hr=>by
  unfold TA.get at h;split at h
  . simp only [A!] at h;subst h;refine⟨rfl,[v],by simp only [ak];exact⟨v,[],rfl,hr,rfl⟩,fun jd hl nX=> ?_⟩;match jd,hl with
    | [c],_=>
      simp only [ak] at nX;obtain⟨v',cK,e,r1,r2⟩:=nX;simp only [List.cons.injEq] at e;obtain⟨rfl,rfl⟩:=e;simpa only [TA.put,List.headD] using r1
  . rename_i k k';cases hb:Nat.beq k k' with
    |false=>rw [hb] at h;cases h
    |true=>
     rw [hb] at h;simp only [L!,A!] at h;subst h;have :=D! hb;subst this;exact⟨rfl,[],by simp [ak],fun jd _ _=>by simpa only [TA.put] using hr⟩
  . rename_i k o k' o';cases hb:(Nat.beq k k'&&Nat.beq o o') with
    |false=>rw [hb] at h;cases h
    |true=>
     rw [hb] at h;simp only [L!,A!] at h;subst h;simp only [B!] at hb;have h1:=D! hb.1;have h2:=D! hb.2;subst h1;subst h2;exact⟨rfl,[],by simp [ak],fun jd _ _=>by simpa only [TA.put] using hr⟩
  . simp only [A!] at h;subst h;exact⟨rfl,[],by simp [ak],fun jd _ _=>by simpa only [TA.put] using hr⟩
  . simp only [A!] at h;subst h;exact⟨rfl,[],by simp [ak],fun jd _ _=>by simpa only [TA.put] using hr⟩
  . simp only [A!] at h;subst h;exact⟨rfl,[],by simp [ak],fun jd _ _=>by simpa only [TA.put] using hr⟩
  . rename_i l ds;simp only [af] at hr;obtain⟨arr,rfl,hr⟩:=hr;obtain⟨g1,vs,g2,g3⟩:=zb l ds cs _ h hr;exact⟨g1,vs,g2,fun jd hl nX=>by simp only [TA.put,af];exact⟨arr,rfl,g3 jd hl nX⟩⟩
  . rename_i f l m f' ds es;split at h
    . rename_i hf;subst hf;obtain⟨x,y,hx,hy,rfl⟩:=KF h;simp only [af] at hr;obtain⟨a1,a2,rfl,r1,r2⟩:=hr;obtain⟨g1,us,g2,g3⟩:=zb l ds x _ hx r1;obtain⟨q1,vs,q2,q3⟩:=zb m es y _ hy r2;refine⟨by simp [g1,q1],us++vs,lM _ _ _ _ g2 q2,fun jd hl nX=> ?_⟩;obtain⟨p1,p2⟩:=HA g2 hl nX;simp only [TA.put,af];rw [<-g1];refine⟨a1,a2,rfl,g3 _ ?_ p1,q3 _ ?_ p2⟩
      . simp at hl |-;omega
      . simp at hl |-;omega
    . cases h
  . cases h
theorem zb:∀(ts:List TA) (aK cs:List AV) (JO:List Value),TA.xM ts aK=some cs->ak w A β JO aK->
  cs.length=(TA.ez ts).length/\∃vs,ak w A β vs cs/\∀jd,jd.length=cs.length->ak w A β vs jd->ak w A β JO (TA.pA ts jd)
 | [],[],cs,JO,h,hr=>by
   simp only [TA.xM,A!] at h;subst h;exact⟨rfl,[],by simp [ak],fun jd _ _=>by simpa only [TA.pA] using hr⟩
 |t::ts,a::aK,cs,JO,h,hr=>by
  simp only [TA.xM] at h;obtain⟨x,y,hx,hy,rfl⟩:=KF h;simp only [ak] at hr;obtain⟨v,vs1,rfl,r1,r2⟩:=hr;obtain⟨g1,us,g2,g3⟩:=aqc t a x v hx r1;obtain⟨q1,vs,q2,q3⟩:=zb ts aK y vs1 hy r2;refine⟨by simp [g1,q1],us++vs,lM _ _ _ _ g2 q2,fun jd hl nX=> ?_⟩;obtain⟨p1,p2⟩:=HA g2 hl nX;simp only [TA.pA,ak];rw [<-g1];refine⟨v,vs1,rfl,g3 _ ?_ p1,q3 _ ?_ p2⟩
  . simp at hl |-;omega
  . simp at hl |-;omega
 | [],_::_,cs,JO,h,_=>by simp [TA.xM] at h
 |_::_,[],cs,JO,h,_=>by simp [TA.xM] at h
end
theorem AN {ts:List TA} {aK cs:List AV} {JO:List Value} {x:Row (TA.ez ts)}(h:TA.xM ts aK=some cs)(hx:nd (TA.ez ts) cs=some x)(hr:ak w A β JO aK):
  ak w A β JO (TA.pA ts (aF (TA.ez ts) x))/\Row.ok (TA.ez ts) x:=by
 obtain⟨g1,vs,g2,g3⟩:=zb ts aK cs JO h hr;grind[sD,oU,l6,Ei]
theorem aqd:∀(b:TB) (ab:AB) (k:Nat) (y:TB.D b),TB.get b ab=some y->BR w A β k ab->BR w A β k (TB.put b y)/\TB.ok b y
 |b,ab,k,y,h,hr=>by
  unfold TB.get at h;split at h
  . rename_i e r e' r' l;cases hb:Nat.beq e e' with
    |false=>grind
    |true=>
     rw [hb] at h;have :=D! hb;subst this;obtain⟨er,hl⟩:=mf h;subst er;subst hl;refine⟨hr,?_⟩;obtain⟨xs,h1,h2,h3⟩:=hr;refine⟨?_,P9 (fun c x hx=>Ei _ c x hx) _ xs h2⟩;rcases h1.2 with⟨_,h⟩|⟨g,cap,cur,_,_,_,g4,g5,_⟩
     . omega
     . exact f? g4 g5
  . split at h
    . rename_i aK has;obtain⟨g,arr,e,h1,h2,h3,h4,h5⟩:=hr;obtain⟨q1,q2⟩:=AN has h h4;exact⟨⟨g,arr,e,h1,h2,h3,q1,h5⟩,q2⟩
    . cases h
  . obtain⟨er,hl⟩:=mf h;subst er;subst hl;exact⟨hr,trivial⟩
  grind
theorem En:∀(bs:List TB) (hs:List AB) (y:cI bs) (n:Nat),cI.get bs hs=some y->(∀i ab,hs[i]? =some ab->BR w A β (n+i) ab)->
  (cI.put bs y).length=hs.length/\(∀i ab,(cI.put bs y)[i]? =some ab->BR w A β (n+i) ab)/\cI.ok bs y
 | [],[],y,n,_,_=>⟨rfl,fun i ab h=>by grind[cI.put],trivial⟩
 |b::bs,h::hs,y,n,hg,hr=>by
  simp [cI.get] at hg;split at hg
  . rename_i x z hx hz;simp at hg;subst hg;obtain⟨g1,g2⟩:=aqd b h n x hx (hr 0 h rfl)
    obtain⟨q1,q2,q3⟩:=En bs hs z (n+1) hz fun i ab hi=>by
     have :=hr (i+1) ab x!;grind
    refine⟨by grind[cI.put],fun i ab hi=> ?_,g2,q3⟩;grind[cI.put,List.getElem?_cons_zero,Option.some.injEq,hi]
  grind
 | [],_::_,y,n,h,_=>by grind[cI.get]
 |_::_,[],y,n,h,_=>by grind[cI.get]
theorem Z2:∀(bs:List TB) (y:cI bs),∀ab∈cI.put bs y,xf ab=true
 | [],_,ab,h=>by grind[cI.put]
 |b::bs,y,ab,h=>by
  simp [cI.put,P!] at h;rcases h with rfl|h
  . cases b<;>rfl
  . exact Z2 bs y.2 ab h
theorem Ny(hE:b5 P E)(hm:P.follows .mixedOrders=true) {f:FuncId} {fn:Func} {c:Code}(ts:List TA)(bs:List TB) {F:Row (TA.ez ts)->cI bs->bP}
  (L:Row (TA.ez ts)->cI bs->Nat->Option b6) (hf:P.funcs[f]? =some fn) (hb:fn.body=some c)
  (h:∀x y,(F x y).pre->Row.ok (TA.ez ts) x->cI.ok bs y->CU E (L x y) c fn.ntmps fn.results.toList (TA.pA ts (aF (TA.ez ts) x)) (cI.put bs y) (F x y)):cg P E.lq f (eA ts bs F):=by
 intro w A β args cZ hs r hA hG cw iu ID p7 hp hlen KE;unfold eA at p7;split at p7
 . rename_i cs fx;split at p7
   . rename_i x y hx hy;simp only [A!] at p7;obtain⟨g1,g2⟩:=AN fx hx cw;obtain⟨q1,q2,q3⟩:=En bs hs y 50000 hy iu
     have hv:cg P E.lq f (fun N7 mO=>open Classical in if N7=TA.pA ts (aF (TA.ez ts) x)/\mO=cI.put bs y then some (F x y) else none):=by
      refine Nx hE hm (fun _ _=>L x y) hf hb (fun N7 mO r' aId=> ?_) fun N7 mO r' aId Bp=> ?_
      . grind[Z2]
      grind
     have :=hv w A β args _ _ r hA hG g1 q2 (fun i j b hi hj=>ID i j b w! w!) x! hp w! w!;grind
   grind
 grind
theorem cg.or {G:Nat->Option GD} {f:FuncId} {s t:jZ}(h1:cg P G f s)(h2:cg P G f t):cg P G f (AM s t):=by
 intro w A β args cZ hs r hA hG cw iu ID p7 hp hlen KE;unfold AM at p7;split at p7
 . rename_i r' nX;simp at p7;subst p7;exact h1 w A β args cZ hs _ hA hG cw iu ID nX hp hlen KE
 . exact h2 w A β args cZ hs r hA hG cw iu ID p7 hp hlen KE
def Env.eN(f:Nat)(m:List Bool)(s:jZ)(E:Env):Env:= {E with sv:=fun g=>bif Nat.beq g f then some (m,s) else E.sv g}
theorem b5.eN(hE:b5 P E) {f:FuncId} {m:List Bool} {s:jZ}(h:cg P E.lq f s)(hf:im P f):b5 P (E.eN f m s):=by
 refine⟨hE.gY,hE.sig,fun g m' t hg=> ?_⟩;simp [Env.eN] at hg;cases hb:Nat.beq g f with
 |true=>
  rw [hb] at hg;have :=D! hb;obtain⟨_,rfl⟩:=hg;subst this;exact⟨h,hf⟩
 |false=>
  rw [hb] at hg;exact hE.sv g m' t hg
end
end Go.Vg

end
section
namespace Go.Vg
open Go
theorem Valid.cases {P:Program} {G:Nat->Option GD} {f:FuncId} {ps:List PS} {F F1 F2:Row (PS.flat ps)->Prop×AV×List AB}(h1:Valid P G f (db ps F1))(h2:Valid P G f (db ps F2))
  (h:∀x,(F x).1->((F1 x).1/\(F x).2=(F1 x).2)\/((F2 x).1/\(F x).2=(F2 x).2)):Valid P G f (db ps F):=by
 intro w A β args cZ pre res bs hA hG ha hs hp;unfold db at hs;split at hs
 . rename_i x hx
   have key:∀F':Row (PS.flat ps)->Prop×AV×List AB,Valid P G f (db ps F')->(F' x).1->(F x).2=(F' x).2->Calls P f args.toArray w fun e w'=>∃v,e= .returned v/\∃A' aS,lA w A w' v res bs A' aS:=by
    intro F' hv p1 e1;refine hv w A β args cZ (F' x).1 res bs hA hG ha ?_ p1;unfold db;grind
   grind
 grind
end Go.Vg

end
section
namespace Go.Vg
open Go
def ve(f:Func):Code:=f.body.getD .skip
def cS(f:Nat)(p:List PS)(F:Row (PS.flat p)->Prop×AV×List AB)(E:Env):Env:=Env.cons f (db p F) E
def cH(f:Nat)(m:List Bool)(p:List TA)(q:List TB)(F:Row (TA.ez p)->cI q->bP)(E:Env):Env:=Env.eN f m (eA p q F) E
def nL {α:Type}:α->Nat->Option b6:=fun _ _=>none
def oM {α β:Type}:α->β->Nat->Option b6:=fun _ _ _=>none
def F8(f:Func):Bool:=f.body.isSome&& !(f.name== "runtime.NumGoroutine")
section
variable {P:Program} {E:Env} {f:FuncId} {fn:Func}
abbrev Nz(p:Prop):Prop :=∃V:Prop,V/\V=p
theorem Nz.go {p:Prop}(h:Nz p):p:=h.elim fun _ h=>h.2▸h.1
theorem vP(h:F8 fn=true):fn.body=some (ve fn)/\(fn.name== "runtime.NumGoroutine")=false :=by
 unfold F8 at h;unfold ve;cases hb:fn.body with
 |none=>rw [hb] at h;cases h
 |some c=>rw [hb] at h;simpa using h
theorem im.k(hf:P.funcs[f]? =some fn)(hb:F8 fn=true):im P f:=im.of hf (vP hb).1 (vP hb).2
theorem vS(hE:b5 P E)(hm:P.follows .mixedOrders=true)(p:List PS) {F:Row (PS.flat p)->Prop×AV×List AB}(L:Row (PS.flat p)->Nat->Option b6)
  (hf:P.funcs[f]? =some fn) (hb:F8 fn=true)
  (h:∀x,(F x).1->Row.ok (PS.flat p) x->Nz (J7 E (L x) (ve fn) fn.ntmps fn.results.toList (y8 p x) (F x).2.1 (F x).2.2)):Valid P E.lq f (db p F):=
 Ej hE hm p L hf (vP hb).1 fun x a b=>(h x a b).go
theorem vH(hE:b5 P E)(hm:P.follows .mixedOrders=true)(p:List TA)(q:List TB) {F:Row (TA.ez p)->cI q->bP}(L:Row (TA.ez p)->cI q->Nat->Option b6)
  (hf:P.funcs[f]? =some fn) (hb:F8 fn=true)
  (h:∀x y,(F x y).pre->Row.ok (TA.ez p) x->cI.ok q y->Nz (CU E (L x y) (ve fn) fn.ntmps fn.results.toList (TA.pA p (aF (TA.ez p) x)) (cI.put q y) (F x y))):cg P E.lq f (eA p q F):=
 Ny hE hm p q L hf (vP hb).1 fun x y a b c=>(h x y a b c).go
theorem vH2(hE:b5 P E)(o:Nat->Bool)(cl:Nat->Option Nat)(sp:Nat->Bool)(hm:P.follows .mixedOrders=true)(p:List TA)(q:List TB) {F:Row (TA.ez p)->cI q->bP}(L:Row (TA.ez p)->cI q->Nat->Option b6)
  (hf:P.funcs[f]? =some fn) (hb:F8 fn=true)
  (h:∀x y,(F x y).pre->Row.ok (TA.ez p) x->cI.ok q y->Nz (CU {E with jc:=o,cls:=cl,UY:=sp} (L x y) (ve fn) fn.ntmps fn.results.toList (TA.pA p (aF (TA.ez p) x)) (cI.put q y) (F x y))):cg P E.lq f (eA p q F):=
 vH (E:= {E with jc:=o,cls:=cl,UY:=sp}) ⟨hE.gY,hE.sig,hE.sv⟩ hm p q L hf hb h
theorem kS2(hm:P.follows .mixedOrders=true)(hE:b5 P E)(o:Nat->Bool)(cl:Nat->Option Nat)(sp:Nat->Bool) {p:List PS} {F:Row (PS.flat p)->Prop×AV×List AB}(L:Row (PS.flat p)->Nat->Option b6)
  (hf:P.funcs[f]? =some fn) (hb:F8 fn=true)
  (h:∀x,(F x).1->Row.ok (PS.flat p) x->Nz (J7 {E with jc:=o,cls:=cl,UY:=sp} (L x) (ve fn) fn.ntmps fn.results.toList (y8 p x) (F x).2.1 (F x).2.2)):b5 P (cS f p F E):=
 b5.cons hE (vS (E:= {E with jc:=o,cls:=cl,UY:=sp}) ⟨hE.gY,hE.sig,hE.sv⟩ hm p L hf hb h) (im.k hf hb)
theorem kS(hm:P.follows .mixedOrders=true)(hE:b5 P E) {p:List PS} {F:Row (PS.flat p)->Prop×AV×List AB}(L:Row (PS.flat p)->Nat->Option b6)
  (hf:P.funcs[f]? =some fn) (hb:F8 fn=true)
  (h:∀x,(F x).1->Row.ok (PS.flat p) x->Nz (J7 E (L x) (ve fn) fn.ntmps fn.results.toList (y8 p x) (F x).2.1 (F x).2.2)):b5 P (cS f p F E):=
 b5.cons hE (vS hE hm p L hf hb h) (im.k hf hb)
theorem kR(hm:P.follows .mixedOrders=true)(hE:b5 P E) {p:List PS} {F:Row (PS.flat p)->Prop×AV×List AB}(μ:Row (PS.flat p)->Nat)(L:Row (PS.flat p)->Nat->Option b6)
  (hf:P.funcs[f]? =some fn) (hb:F8 fn=true)
  (h:∀m x,μ x<m+1->(F x).1->Row.ok (PS.flat p) x->Nz (J7 (Env.cons f (pZ p μ m F) E) (L x) (ve fn) fn.ntmps fn.results.toList (y8 p x) (F x).2.1 (F x).2.2)):b5 P (cS f p F E):=
 b5.cons hE (VI p μ fun m ih=>Ej (E:=Env.cons f (pZ p μ m F) E) (b5.cons hE ih (im.k hf hb)) hm p L hf (vP hb).1 fun x hp hx=>(h m x hp.1 hp.2 hx).go) (im.k hf hb)
theorem kH2(hm:P.follows .mixedOrders=true)(hE:b5 P E)(o:Nat->Bool)(cl:Nat->Option Nat)(sp:Nat->Bool) {m:List Bool} {p:List TA} {q:List TB} {F:Row (TA.ez p)->cI q->bP}(L:Row (TA.ez p)->cI q->Nat->Option b6)
  (hf:P.funcs[f]? =some fn) (hb:F8 fn=true)
  (h:∀x y,(F x y).pre->Row.ok (TA.ez p) x->cI.ok q y->Nz (CU {E with jc:=o,cls:=cl,UY:=sp} (L x y) (ve fn) fn.ntmps fn.results.toList (TA.pA p (aF (TA.ez p) x)) (cI.put q y) (F x y))):b5 P (cH f m p q F E):=
 b5.eN hE (vH (E:= {E with jc:=o,cls:=cl,UY:=sp}) ⟨hE.gY,hE.sig,hE.sv⟩ hm p q L hf hb h) (im.k hf hb)
theorem kH(hm:P.follows .mixedOrders=true)(hE:b5 P E) {m:List Bool} {p:List TA} {q:List TB} {F:Row (TA.ez p)->cI q->bP}(L:Row (TA.ez p)->cI q->Nat->Option b6)
  (hf:P.funcs[f]? =some fn) (hb:F8 fn=true)
  (h:∀x y,(F x y).pre->Row.ok (TA.ez p) x->cI.ok q y->Nz (CU E (L x y) (ve fn) fn.ntmps fn.results.toList (TA.pA p (aF (TA.ez p) x)) (cI.put q y) (F x y))):b5 P (cH f m p q F E):=
 b5.eN hE (vH hE hm p q L hf hb h) (im.k hf hb)
theorem kX(hE:b5 P E) {p:List PS} {F:Row (PS.flat p)->Prop×AV×List AB}(hf:P.funcs[f]? =some fn)(hb:F8 fn=true)(h:Valid P E.lq f (db p F)):b5 P (cS f p F E):=b5.cons hE h (im.k hf hb)
theorem kXH(hE:b5 P E) {m:List Bool} {p:List TA} {q:List TB} {F:Row (TA.ez p)->cI q->bP}(hf:P.funcs[f]? =some fn)(hb:F8 fn=true)(h:cg P E.lq f (eA p q F)):b5 P (cH f m p q F E):=b5.eN hE h (im.k hf hb)
theorem kV {F:RN}(h:b5 P E)(hs:E.sig f=some F):Valid P E.lq f F:=(h.sig f F hs).1
end
abbrev aL(p:List PS)(x:Row (PS.flat p)):Prop :=Row.ok (PS.flat p) x
abbrev fH(p:List TA)(x:Row (TA.ez p)):Prop :=Row.ok (TA.ez p) x
abbrev hlen {α:Type}(l:List α):Prop :=l.length<=9223372036854775807
abbrev hint(x:Int):Prop := -9223372036854775808<=x/\x<=9223372036854775807
end Go.Vg

end
section
namespace Go.S
def len {α:Type}(l:List α):Nat:=l.length
def ag(m n:Nat):Nat:=m-n
def gp {α:Type}(l:List α)(n:Nat):Prop :=n<=l.length
def bM(n m:Nat):Prop :=n<=m
def nb {α:Type}(l:List α):Int:=l.length
def small {α:Type}(l:List α):Prop :=l.length<=1099511627776
theorem o0(n:Int)(k:Nat)(h:0<=n):Vg.aP n ((2:Int)^k-1)=n%2^k:=by
 obtain⟨m,rfl⟩:=n? h
 have h1:((2:Int)^k-1).toNat=2^k-1:=by
  have :(1:Nat)<=2^k:=Nat.one_le_two_pow;have e:((2:Int)^k-1)=((2^k-1:Nat):Int):=by rw [Int.natCast_sub this];simp
  rw [e];rfl
 simp only [Vg.aP,V!,h1,Nat.and_two_pow_sub_one_eq_mod];simp
theorem aeq(n:Int)(h:0<=n):Vg.aP n 7=n%8:=by simpa using o0 n 3 h
theorem VN(n:Int)(h:0<=n):Vg.aP n 15=n%16:=by simpa using o0 n 4 h
theorem CW(n:Int)(h:0<=n):Vg.aP n 31=n%32:=by simpa using o0 n 5 h
theorem KG(n:Int)(h:0<=n):Vg.aP n 63=n%64:=by simpa using o0 n 6 h
theorem ju(n:Int)(h:0<=n):Vg.aP n 127=n%128:=by simpa using o0 n 7 h
theorem gB(a b:Int)(k:Nat)(ha:0<=a)(h0:0<=b)(h:b<2^k):Vg.cu (a*2^k) b=a*2^k+b:=by
 obtain⟨m,rfl⟩:=n? ha
 have h1:((m:Int)*2^k).toNat=m*2^k:=by
  rfl
 grind[Vg.cu,Int.toNat_natCast,Nat.mul_comm,Nat.two_pow_add_eq_or_of_lt,Int.mul_comm]
theorem zc(a b:Int):Vg.cu a b=Vg.cu b a:=by grind[Vg.cu]
theorem KH(n:Int)(h:0<=n)(h1:n<128):Vg.cu n 128=n+128:=by
 rw [zc,show(128:Int)=1*2^7 by rfl,gB 1 n 7 w! h h1];omega
theorem NA {α:Type}(p:α->Bool)(l:List α):(l.takeWhile p).length<=l.length:=by
 induction l with
 |nil=>simp
 |cons x l ih=>grind[List.takeWhile_cons]
theorem aii(b:B8)(x:Nat)(h:x<b.length):b.take x++ [UInt8.ofNat (Int.toNat ((b.getD (Int.toNat (x:Int)) 0).toNat:Int))]=b.take (x+1):=by
 simp_all
end Go.S

end
section
namespace Go.S
abbrev H8:=Int×Int×Int×Int×Int×Int×Int×Int
def right(x n:Int):Int:=(x/2^n.toNat+x*2^(32-n).toNat%4294967296)%4294967296
def rotl(x k:Int):Int:=right x (-k)
def iY(x k:Int):Prop := -32<k/\k<0/\0<=x/\x<4294967296
def eS(n:Int):Prop :=0<n/\n<32
def xj(p:B8)(i:Nat):Int:=(p.getD i 0).toNat
def word(p:B8)(i:Nat):Int:=xj p (4*i)*16777216+xj p (4*i+1)*65536+xj p (4*i+2)*256+xj p (4*i+3)
def aIf(x:Int):Int:=Vg.bQ (Vg.bQ (right x 7) (right x 18)) (x/2^Int.toNat 3)
def aIg(y:Int):Int:=Vg.bQ (Vg.bQ (right y 17) (right y 19)) (y/2^Int.toNat 10)
def aij(w:List Int)(n:Nat):Int:=(((w.getD (n-16) 0+aIf (w.getD (n-15) 0))%4294967296+w.getD (n-7) 0)%4294967296+aIg (w.getD (n-2) 0))%4294967296
def xk(p:B8)(w:List Int)(n:Nat):Int:=if n<16 then word p n else aij w n
def sched(p:B8):Nat->List Int
 |0=> []
 |n+1=>sched p n++ [xk p (sched p n) n]
def bf(p:B8)(n:Nat):List Int:=sched p n++List.replicate (64-n) 0
def xN:List Int:= [1116352408,1899447441,3049323471,3921009573,961987163,1508970993,2453635748,2870763221,3624381080,310598401,607225278,1426881987,1925078388,2162078206,2614888103,3248222580,3835390401,4022224774,264347078,604807628,770255983,1249150122,1555081692,1996064986,2554220882,2821834349,2952996808,3210313671,3336571891,3584528711,113926993,338241895,666307205,773529912,1294757372,1396182291,1695183700,1986661051,2177026350,2456956037,2730485921,2820302411,3259730800,3345764771,3516065817,3600352804,4094571909,275423344,430227734,506948616,659060556,883997877,958139571,1322822218,1537002063,1747873779,1955562222,2024104815,2227730452,2361852424,2428436474,2756734187,3204031479,3329325298]
def H0:H8:=(1779033703,3144134277,1013904242,2773480762,1359893119,2600822924,528734635,1541459225)
def aIh(a:Int):Int:=Vg.bQ (Vg.bQ (right a 2) (right a 13)) (right a 22)
def aIi(e:Int):Int:=Vg.bQ (Vg.bQ (right e 6) (right e 11)) (right e 25)
def ch(e f g:Int):Int:=Vg.bQ (Vg.aP e f) (Vg.aP (4294967296-1-e) g)
def maj(a b c:Int):Int:=Vg.bQ (Vg.bQ (Vg.aP a b) (Vg.aP a c)) (Vg.aP b c)
def one(k w e f g h:Int):Int:=((((h+aIi e)%4294967296+ch e f g)%4294967296+k)%4294967296+w)%4294967296
def two(a b c:Int):Int:=(aIh a+maj a b c)%4294967296
def rnd(k w:Int)(s:H8):H8:=((one k w s.2.2.2.2.1 s.2.2.2.2.2.1 s.2.2.2.2.2.2.1 s.2.2.2.2.2.2.2+two s.1 s.2.1 s.2.2.1)%4294967296,s.1,s.2.1,s.2.2.1,
 (s.2.2.2.1+one k w s.2.2.2.2.1 s.2.2.2.2.2.1 s.2.2.2.2.2.2.1 s.2.2.2.2.2.2.2)%4294967296,s.2.2.2.2.1,s.2.2.2.2.2.1,s.2.2.2.2.2.2.1)
def fc(w:List Int)(s:H8):Nat->H8
 |0=>s
 |n+1=>rnd (xN.getD n 0) (w.getD n 0) (fc w s n)
def SI(s t:H8):H8:=((s.1+t.1)%4294967296,(s.2.1+t.2.1)%4294967296,(s.2.2.1+t.2.2.1)%4294967296,(s.2.2.2.1+t.2.2.2.1)%4294967296,
 (s.2.2.2.2.1+t.2.2.2.2.1)%4294967296,(s.2.2.2.2.2.1+t.2.2.2.2.2.1)%4294967296,(s.2.2.2.2.2.2.1+t.2.2.2.2.2.2.1)%4294967296,(s.2.2.2.2.2.2.2+t.2.2.2.2.2.2.2)%4294967296)
def block(s:H8)(p:B8):H8:=SI s (fc (sched p 64) s 64)
def proc(s:H8)(b:B8):Nat->H8
 |0=>s
 |n+1=>block (proc s b n) ((b.drop (64*n)).take 64)
def eT(s:H8):List Int:= [s.1,s.2.1,s.2.2.1,s.2.2.2.1,s.2.2.2.2.1,s.2.2.2.2.2.1,s.2.2.2.2.2.2.1,s.2.2.2.2.2.2.2]
def vQ(l:List Int):H8:=(l.getD 0 0,l.getD 1 0,l.getD 2 0,l.getD 3 0,l.getD 4 0,l.getD 5 0,l.getD 6 0,l.getD 7 0)
def b32(w:Int):B8:= [UInt8.ofNat (w/16777216%256).toNat,UInt8.ofNat (w/65536%256).toNat,UInt8.ofNat (w/256%256).toNat,UInt8.ofNat (w%256).toNat]
def nF(s:H8)(n:Nat):B8:=((eT s).take n).flatMap b32
def dig(s:H8):B8:=nF s 8
def fT(n:Nat):Nat:=(119-n%64)%64
def len8(n:Int)(k:Nat):B8:=(List.range k).map fun i=>UInt8.ofNat (n/2^(56-8*i)%256).toNat
def fA(rest:B8)(k:Nat):B8:=rest++ [128]++List.replicate k 0
def ob(rest:B8)(n:Int)(k:Nat):B8:=fA rest (fT rest.length)++len8 (n*8) k
def tail(rest:B8)(n:Int):B8:=ob rest n 8
def blocks(b:B8):Nat:=b.length/64
def bt(s:H8)(b:B8):H8:=proc s b (blocks b)
def jv(b:B8):B8:=b.drop (64*blocks b)
def sum(b:B8):B8:=dig (bt H0 (tail b b.length))
def vf(s:H8):Prop :=∀x∈eT s,0<=x/\x<4294967296
def okW(l:List Int):Prop :=∀x∈l,0<=x/\x<4294967296
def cx(rest:B8)(k:Nat):Prop :=k<=fT rest.length
def bl(r:B8)(n:Int):Bool:=decide (0<=n)&&decide (n<=1099511627776)&&decide ((r.length:Int)=n%64)
def Qj(s:H8)(r:B8)(n:Int)(b:B8):Prop :=vf s/\r= []/\n=0/\small b
def I5(s:H8)(r:B8)(n:Int):Prop :=vf s/\0<=n/\n<=1099511627776/\(r.length:Int)=n%64
def Qk(s:H8)(p:B8):Prop :=vf s/\p.length=64
def KI(l:List Int)(p:B8):Prop :=okW l/\l.length=8/\p.length=64
end Go.S
namespace Go.S
def fU(b:B8)(k:Nat):B8:=b.drop (64*k)
def lN(b:B8)(k:Nat):Int:=(b.length:Int)*8/256^k
def ke(b:B8)(k:Nat):B8:=(len8 ((b.length:Int)*8) 8).drop (8-k)
end Go.S
namespace Go.S
theorem aik(a b c d:UInt8):Vg.cu (Vg.cu (Vg.cu ((a.toNat:Int)*2^Int.toNat 24%4294967296) ((b.toNat:Int)*2^Int.toNat 16%4294967296)) ((c.toNat:Int)*2^Int.toNat 8%4294967296)) (d.toNat:Int)=
  (a.toNat:Int)*16777216+(b.toNat:Int)*65536+(c.toNat:Int)*256+(d.toNat:Int):=by
 have ha:=a.toNat_lt;have hb:=b.toNat_lt;have hc:=c.toNat_lt;have hd:=d.toNat_lt
 have e1:(a.toNat:Int)*2^Int.toNat 24%4294967296=((a.toNat:Int))*2^24:=by grind
 have e2:(b.toNat:Int)*2^Int.toNat 16%4294967296=(b.toNat:Int)*2^16:=by grind
 have e3:(c.toNat:Int)*2^Int.toNat 8%4294967296=(c.toNat:Int)*2^8:=by grind
 rw [e1,e2,e3,gB _ _ 24 w! w! w!];rw [show(a.toNat:Int)*2^24+(b.toNat:Int)*2^16=((a.toNat:Int)*256+b.toNat)*2^16 by omega,gB _ _ 16 w! w! w!];rw [show((a.toNat:Int)*256+b.toNat)*2^16+(c.toNat:Int)*2^8=((a.toNat:Int)*65536+b.toNat*256+c.toNat)*2^8 by omega,gB _ _ 8 w! w! w!];omega
theorem de(p:B8):∀n,(sched p n).length=n
 |0=>rfl
 |n+1=>by simp [sched,de p n]
theorem sX(p:B8)(n:Nat)(h:n<=64):(bf p n).length=64:=by grind[bf,de]
theorem Z3(p:B8):bf p 64=sched p 64:=by simp [bf]
theorem ail(p:B8)(n:Nat):0<=word p n/\word p n<4294967296:=by
 simp only [word,xj];have h1:=(p.getD (4*n) 0).toNat_lt;have h2:=(p.getD (4*n+1) 0).toNat_lt;have h3:=(p.getD (4*n+2) 0).toNat_lt;have h4:=(p.getD (4*n+3) 0).toNat_lt
 omega
theorem Oa(p:B8):∀n,okW (sched p n)
 |0=>by simp [sched,okW]
 |n+1=>by
  intro x hx;simp [sched,F!,List.mem_singleton] at hx;rcases hx with hx|rfl
  . exact Oa p n x hx
  . simp [xk];split
    . exact ail p n
    . simp [aij];omega
theorem SJ {l:List Int}(h:okW l)(i:Nat):0<=l.getD i 0/\l.getD i 0<4294967296:=by
 rw [I!];cases hg:l[i]? with
 |none=>simp
 |some x=>simpa using h x (y? hg)
theorem aqe(p:B8)(n i:Nat):0<=(bf p n).getD i 0/\(bf p n).getD i 0<4294967296:=by
 refine SJ ?_ i;intro x hx;simp [bf,F!] at hx;rcases hx with hx|hx
 . exact Oa p n x hx
 grind
theorem SK(p:B8)(n i:Nat)(k:Int)(h: -32<k/\k<0):iY ((bf p n).getD i 0) k:=⟨h.1,h.2,aqe p n i⟩
theorem AO(p:B8)(n i:Nat)(h:i<n):(bf p n).getD i 0=(sched p n).getD i 0:=by
 grind[bf,List.getElem?_append_left,de]
theorem SL(p:B8)(n:Nat)(v:Int)(h:n<64)(hv:v=xk p (sched p n) n):(bf p n).set n v=bf p (n+1):=by
 grind[bf,sched,aep,de]
theorem aqf(p:B8)(x:Nat)(h:x<16):List.set (bf p x) (0+Int.toNat (x:Int)*1)
  (Vg.cu (Vg.cu (Vg.cu (((List.getD p (Int.toNat (4*(x:Int))) 0).toNat:Int)*2^Int.toNat 24%4294967296) (((List.getD p (Int.toNat (4*(x:Int)+1)) 0).toNat:Int)*2^Int.toNat 16%4294967296))
    (((List.getD p (Int.toNat (4*(x:Int)+2)) 0).toNat:Int)*2^Int.toNat 8%4294967296)) ((List.getD p (Int.toNat (4*(x:Int)+3)) 0).toNat:Int))=bf p (x+1):=by
 rw [aik,show 0+Int.toNat (x:Int)*1=x by omega];refine SL p x _ w! ?_;simp [xk,R! h,word,xj,show Int.toNat (4*(x:Int))=4*x by omega,show Int.toNat (4*(x:Int)+1)=4*x+1 by omega,show Int.toNat (4*(x:Int)+2)=4*x+2 by omega,show Int.toNat (4*(x:Int)+3)=4*x+3 by omega]
theorem aqg(p:B8)(x:Nat)(h:16<=x)(h1:x<64):List.set (bf p x) (0+Int.toNat (x:Int)*1)
  ((((List.getD (bf p x) (0+Int.toNat ((x:Int)-16)*1) 0+
    Vg.bQ (Vg.bQ (rotl (List.getD (bf p x) (0+Int.toNat ((x:Int)-15)*1) 0) (-7)) (rotl (List.getD (bf p x) (0+Int.toNat ((x:Int)-15)*1) 0) (-18))) (List.getD (bf p x) (0+Int.toNat ((x:Int)-15)*1) 0/2^Int.toNat 3))%4294967296+
    List.getD (bf p x) (0+Int.toNat ((x:Int)-7)*1) 0)%4294967296+
    Vg.bQ (Vg.bQ (rotl (List.getD (bf p x) (0+Int.toNat ((x:Int)-2)*1) 0) (-17)) (rotl (List.getD (bf p x) (0+Int.toNat ((x:Int)-2)*1) 0) (-19))) (List.getD (bf p x) (0+Int.toNat ((x:Int)-2)*1) 0/2^Int.toNat 10))%4294967296)=bf p (x+1):=by
 simp only [show 0+Int.toNat (x:Int)*1=x by omega,show 0+Int.toNat ((x:Int)-16)*1=x-16 by omega,show 0+Int.toNat ((x:Int)-15)*1=x-15 by omega,show 0+Int.toNat ((x:Int)-7)*1=x-7 by omega,show 0+Int.toNat ((x:Int)-2)*1=x-2 by omega,
  AO p x (x-16) w!,AO p x (x-15) w!,AO p x (x-7) w!,AO p x (x-2) w!]
 refine SL p x _ w! ?_;simp only [xk,N! (by omega :¬x<16)];rfl
theorem aqh(k w:Int)(s:H8)(h:vf s):vf (rnd k w s):=by
 simp [vf,eT,P!,List.not_mem_nil,or_false,forall_eq_or_imp,forall_eq,rnd] at h |-;omega
theorem zd(w:List Int)(s:H8)(h:vf s):∀n,vf (fc w s n)
 |0=>h
 |n+1=>aqh _ _ _ (zd w s h n)
theorem aes(s:H8)(p:B8):vf (block s p):=by
 simp [block,SI,vf,eT,P!,List.not_mem_nil,or_false,forall_eq_or_imp,forall_eq];omega
theorem KJ(s:H8)(b:B8)(h:vf s):∀n,vf (proc s b n)
 |0=>h
 |n+1=>aes _ _
theorem aBv {s:H8}(h:vf s)(k:Int)(hk: -32<k/\k<0):iY s.1 k:=⟨hk.1,hk.2,h _ (by simp [eT])⟩
theorem aBw {s:H8}(h:vf s)(k:Int)(hk: -32<k/\k<0):iY s.2.2.2.2.1 k:=⟨hk.1,hk.2,h _ (by simp [eT])⟩
theorem F9:(64:Nat)=xN.length:=by decide
theorem VO:vf H0:=by simp [vf,eT,H0]
end Go.S
namespace Go.S
theorem aqi {x k:Int}(h:iY x k):Vg.cu (x*2^Int.toNat (Vg.aP (k%18446744073709551616) 31)%4294967296) (x/2^Int.toNat ((32-Vg.aP (k%18446744073709551616) 31)%18446744073709551616))=rotl x k:=by
 obtain⟨h1,h2,h3,h4⟩:=h;have e1:Vg.aP (k%18446744073709551616) 31=32+k:=by grind[CW]
 rw [e1,show(32-(32+k))%18446744073709551616= -k by omega];obtain⟨n,hn⟩:∃n:Nat,n=(-k).toNat:=⟨_,rfl⟩;rw [show Int.toNat (32+k)=32-n by omega,<-hn];simp [rotl,right,<-hn,show(32- -k).toNat=32-n by omega];obtain⟨m,rfl⟩:=n? h3;have hm:m<2^32:=by omega
 have aMb:(2:Nat)^(32-n)*2^n=2^32:=by rw [<-Nat.pow_add];grind
 have hq:m/2^n<2^(32-n):=by
  simp_all[Nat.div_lt_iff_lt_mul,Nat.two_pow_pos]
 have aIj:m*2^(32-n)%4294967296=(m%2^n)*2^(32-n):=by
  grind[Nat.mul_comm,Nat.mul_mod_mul_right]
 have c1:((m:Int)*2^(32-n)%4294967296)=(((m%2^n:Nat):Int))*2^(32-n):=by
  have :=congrArg (Nat.cast (R:=Int)) aIj;grind
 have c2:((m:Int)/2^n)=((m/2^n:Nat):Int):=by simp
 rw [c1,c2,gB _ _ (32-n) (Int.natCast_nonneg _) (Int.natCast_nonneg _) x!]
 have kU:(m%2^n)*2^(32-n)+m/2^n<4294967296:=by
  have h1:m%2^n<2^n:=Nat.mod_lt _ (Nat.two_pow_pos n);have h2:(m%2^n+1)*2^(32-n)<=2^n*2^(32-n):=Nat.mul_le_mul_right _ h1;grind
 grind
theorem aqj {x k:Int}(h:iY x k):Vg.aP (k%18446744073709551616) 31=32+k:=by
 obtain⟨h1,h2,h3,h4⟩:=h;grind[CW]
end Go.S
namespace Go.S
theorem aet {s:H8} {r:B8} {n:Int}(h:I5 s r n):bl r n=true :=by
 obtain⟨_,h1,h2,h3⟩:=h;grind[bl]
theorem cO(r:B8)(k:Nat):(fA r k).length=r.length+1+k:=by grind[fA]
theorem SM(r:B8):r++ [UInt8.ofNat (Int.toNat 128)]=fA r 0:=by simp [fA]
theorem HB(r:B8)(k:Nat):fA r k++ [UInt8.ofNat (Int.toNat 0)]=fA r (k+1):=by
 grind[fA,List.append_assoc,List.replicate_succ']
theorem KK(n:Nat):fT n<64:=Nat.mod_lt _ w!
theorem KL {r:B8} {k:Nat}(h:cx r k)(h1:¬((fA r k).length:Int)%64=56):cx r (k+1):=by
 grind[cx,fT,cO]
theorem Ob {r:B8} {k:Nat}(h:cx r k)(h1:((fA r k).length:Int)%64=56):k=fT r.length:=by
 grind[cx,fT,cO]
theorem Ga(n:Int)(k:Nat):(len8 n k).length=k:=by simp [len8]
theorem ie(r:B8)(n:Int)(k:Nat):(ob r n k).length=r.length+1+fT r.length+k:=by simp [ob,cO,Ga]
theorem aim(r:B8)(n:Int):ob r n 0=fA r (fT r.length):=by simp [ob,len8]
theorem SN(r:B8)(n:Int)(x:Nat)(h0:0<=n)(h1:n<=1099511627776)(hx:x<8):
  ob r n x++ [UInt8.ofNat (Int.toNat (n%18446744073709551616*8%18446744073709551616/2^Int.toNat (56-8*(x:Int))%256))]=ob r n (x+1):=by
 rw [show n%18446744073709551616*8%18446744073709551616=n*8 by omega,show Int.toNat (56-8*(x:Int))=56-8*x by omega];grind[ob,len8,List.range_succ,List.append_assoc]
theorem Gb(s:H8)(k:Nat)(hk:k<=8):(nF s k).length=4*k:=by
 match k,hk with
 |0,_|1,_|2,_|3,_|4,_|5,_|6,_|7,_|8,_=>rfl
theorem KM(s:H8)(x:Nat)(hx:x<8):nF s x++b32 ((eT s).getD x 0)=nF s (x+1):=by
 have hl:x<(eT s).length:=by simp_all[eT]
 grind[nF,ar,eT]
theorem ain(s:H8):(dig s).length=32:=Gb s 8 w!
theorem SO(b:B8):(sum b).length=32:=ain _
theorem Gc(s:H8)(x y:B8):∀n,64*n<=x.length->proc s (x++y) n=proc s x n
 |0,_=>rfl
 |n+1,h=>by
  simp [proc];rw [Gc s x y n w!,List.drop_append_of_le_length w!,List.take_append_of_le_length (by rw [B?];omega)]
theorem KN(s:H8)(x y:B8)(a:Nat)(h:x.length=64*a):∀n,proc s (x++y) (a+n)=proc (proc s x a) y n
 |0=>Gc s x y a w!
 |n+1=>by
  simp [proc];rw [KN s x y a h n,show 64*(a+n)=x.length+64*n by omega,List.drop_append,N? w!,z?,o?]
theorem qP(b:B8):(jv b).length=b.length%64:=by grind[jv,blocks]
theorem aeu(n:Nat):fT (n%64)=fT n:=by simp [fT]
theorem VP(b:B8)(n:Int):bt (bt H0 b) (tail (jv b) n)=bt H0 (tail b n):=by
 have hb:b=b.take (64*blocks b)++jv b:=(Q? _ b).symm;have hl:(b.take (64*blocks b)).length=64*blocks b:=by simp [blocks];omega
 have ht:tail b n=b.take (64*blocks b)++tail (jv b) n:=by
  have :fT (jv b).length=fT b.length:=by rw [qP,aeu]
  simp [tail,ob,fA,this];conv=>lhs;rw [hb]
  simp only [U!,C!];rw [<-C!,<-hb]
 have hk:blocks (tail b n)=blocks b+blocks (tail (jv b) n):=by
  rw [ht];simp [blocks,C!] at *;omega
 simp [bt];rw [hk,ht,KN H0 _ _ (blocks b) hl,<-Gc H0 (b.take (64*blocks b)) (jv b) (blocks b) w!,<-hb]
theorem aqk(s:H8)(x:Nat)(hx:x<8):nF s x++ [UInt8.ofNat (Int.toNat (List.getD (eT s) (Int.toNat (x:Int)) 0/2^Int.toNat 24%256)),UInt8.ofNat (Int.toNat (List.getD (eT s) (Int.toNat (x:Int)) 0/2^Int.toNat 16%256)),
 UInt8.ofNat (Int.toNat (List.getD (eT s) (Int.toNat (x:Int)) 0/2^Int.toNat 8%256)),UInt8.ofNat (Int.toNat (List.getD (eT s) (Int.toNat (x:Int)) 0%256))]=nF s (x+1):=KM s x hx
theorem aql(s:H8)(b:B8)(n:Nat):block ((proc s b n).1,(proc s b n).2.1,(proc s b n).2.2.1,(proc s b n).2.2.2.1,(proc s b n).2.2.2.2.1,(proc s b n).2.2.2.2.2.1,(proc s b n).2.2.2.2.2.2.1,(proc s b n).2.2.2.2.2.2.2) (List.take (Int.toNat 64) (fU b n))=proc s b (n+1):=rfl
theorem aev(b:B8)(x:Nat)(h:x<16):sched b x++ [(((((b.getD (Int.toNat ((4*x:Nat):Int)) 0).toNat:Int)*16777216%4294967296+((b.getD (Int.toNat (((4*x:Nat):Int)+1)) 0).toNat:Int)*65536%4294967296)%4294967296+
  ((b.getD (Int.toNat (((4*x:Nat):Int)+2)) 0).toNat:Int)*256%4294967296)%4294967296+((b.getD (Int.toNat (((4*x:Nat):Int)+3)) 0).toNat:Int))%4294967296]=sched b (x+1):=by
 simp [sched,xk,R! h,word,xj,show Int.toNat ((4*x:Nat):Int)=4*x by omega,show Int.toNat (((4*x:Nat):Int)+1)=4*x+1 by omega,show Int.toNat (((4*x:Nat):Int)+2)=4*x+2 by omega,show Int.toNat (((4*x:Nat):Int)+3)=4*x+3 by omega];have h1:=(b.getD (4*x) 0).toNat_lt;have h2:=(b.getD (4*x+1) 0).toNat_lt;have h3:=(b.getD (4*x+2) 0).toNat_lt;have h4:=(b.getD (4*x+3) 0).toNat_lt
 grind
theorem aew(b:B8)(x:Nat)(h:16<=x):sched b x++ [(((List.getD (sched b x) (Int.toNat ((x:Int)-16)) 0+
  Vg.bQ (Vg.bQ (right (List.getD (sched b x) (Int.toNat ((x:Int)-15)) 0) 7) (right (List.getD (sched b x) (Int.toNat ((x:Int)-15)) 0) 18)) (List.getD (sched b x) (Int.toNat ((x:Int)-15)) 0/2^Int.toNat 3))%4294967296+
  List.getD (sched b x) (Int.toNat ((x:Int)-7)) 0)%4294967296+
  Vg.bQ (Vg.bQ (right (List.getD (sched b x) (Int.toNat ((x:Int)-2)) 0) 17) (right (List.getD (sched b x) (Int.toNat ((x:Int)-2)) 0) 19)) (List.getD (sched b x) (Int.toNat ((x:Int)-2)) 0/2^Int.toNat 10))%4294967296]=sched b (x+1):=by
 simp only [show Int.toNat ((x:Int)-16)=x-16 by omega,show Int.toNat ((x:Int)-15)=x-15 by omega,show Int.toNat ((x:Int)-7)=x-7 by omega,show Int.toNat ((x:Int)-2)=x-2 by omega];simp only [sched,xk,N! (by omega :¬x<16)];rfl
theorem xor_not {e:Int}(h:0<=e/\e<4294967296):Vg.bQ 4294967295 e=4294967296-1-e:=by
 obtain⟨n,rfl⟩:=n? h.1;have hn:n<2^32:=by omega
 have :(4294967295:Nat)^^^n=2^32-1-n:=by
  apply Nat.eq_of_testBit_eq;intro i;rw [show 2^32-1-n=2^32-(n+1) by omega,Nat.testBit_two_pow_sub_succ hn,Nat.testBit_xor,show(4294967295:Nat)=2^32-1 by rfl,Nat.testBit_two_pow_sub_one];by_cases hi:i<32
  . grind
  . have hz:n.testBit i=false :=Nat.testBit_lt_two_pow (Nat.lt_of_lt_of_le hn (Nat.pow_le_pow_right w! w!));grind
 grind[Vg.bQ,Int.toNat_natCast,Int.toNat]
theorem aqm {l:List Int}(h:okW l):vf (vQ l):=by
 intro x hx;simp [eT,vQ,P!,List.not_mem_nil,or_false] at hx;rcases hx with rfl|rfl|rfl|rfl|rfl|rfl|rfl|rfl<;>exact SJ h _
theorem Oc(b:B8)(n:Int):(tail b n).length=b.length+1+fT b.length+8:=ie b n 8
theorem aio(b:B8)(n:Int):(tail b n).length=64*blocks (tail b n):=by
 grind[blocks,Oc,fT]
theorem aex(b:B8)(h:small b):(b.length:Int)%18446744073709551616*8%18446744073709551616=lN b 0:=by
 grind[small,lN]
theorem Ql(b:B8)(x:Nat):lN b x/256=lN b (x+1):=by
 grind[lN,Int.pow_succ,Int.ediv_ediv_of_nonneg,Int.le_of_lt,Int.pow_pos]
theorem NB(b:B8)(x:Nat)(hx:x<8): [UInt8.ofNat (Int.toNat (lN b x%256%256))]++ke b x=ke b (x+1):=by
 have hl:7-x<(len8 ((b.length:Int)*8) 8).length:=by grind[Ga]
 have hd:=l? hl;simp [ke]
 have he:(len8 ((b.length:Int)*8) 8)[7-x]=UInt8.ofNat (Int.toNat (lN b x%256%256)):=by
  simp [len8,List.getElem_map,List.getElem_range,lN,Int.emod_emod];rw [show 56-8*(7-x)=8*x by omega,Int.pow_mul];rfl
 grind
theorem VQ(b:B8):ke b 8=len8 (nb b*8) 8:=rfl
theorem Eo(b:B8)(k:Nat)(h:k<=8):(ke b k).length=k:=by grind[ke,Ga]
theorem aip(T:B8)(x:Nat):List.take (Int.toNat (((64*x:Nat):Int)+64)-Int.toNat ((64*x:Nat):Int)) (List.drop (Int.toNat ((64*x:Nat):Int)) T)=(T.drop (64*x)).take 64:=by
 grind
theorem aqn(s:H8)(x:Nat)(hx:x<8):nF s x++ [UInt8.ofNat (Int.toNat (List.getD (eT s) (Int.toNat (x:Int)) 0/16777216%256)),UInt8.ofNat (Int.toNat (List.getD (eT s) (Int.toNat (x:Int)) 0/65536%256%256)),
  UInt8.ofNat (Int.toNat (List.getD (eT s) (Int.toNat (x:Int)) 0/256%256%256)),UInt8.ofNat (Int.toNat (List.getD (eT s) (Int.toNat (x:Int)) 0%256%256))]=nF s (x+1):=by
 grind[KM,b32,Int.toNat_natCast,Int.emod_emod]
end Go.S

end
section
namespace Go.S
def pB:Nat->Nat->B8
 |0,_=> []
 |f+1,v=>if v<128 then [UInt8.ofNat v] else UInt8.ofNat (v%128+128)::pB f (v/128)
def num(v:Int):B8:=pB 9 v.toNat
def text(s:B8):B8:=num s.length++s
def dz(v:Int):Bool:=decide (v<0) || decide (4611686018427387904<v)
def kg(b:B8)(v:Int):B8:=if dz v then [] else b++num v
def ug(v:Int):Int:=if dz v then 1 else 0
def rU(l:B8)(v:Int)(m:B8)(u:Int):Prop :=0<=u/\u<=v/\m++num u=l++num v
def Ep(l:B8)(v:Int):Prop :=0<=v/\l.length<=70368744177664
def nG(l s:B8):Prop :=l.length<=35184372088832/\s.length<=35184372088832
def lead(b:B8):Nat:=(b.takeWhile fun x=>decide (128<=x.toNat)).length
def dx:B8->Nat
 | []=>0
 |x::l=>x.toNat%128+128*dx l
def first(b:B8):Int×Int×Int:=
 if 9<=lead b then(0,0,2)
 else if lead b=b.length then(0,0,4)
 else if dx (b.take (lead b+1))>4611686018427387904\/num (dx (b.take (lead b+1)))≠b.take (lead b+1) then(0,0,2)
 else(dx (b.take (lead b+1)),lead b+1,0)
def aA(b:B8)(bB:Int):B8×Int×Int:=
 if(first b).2.2≠0 then([],0,(first b).2.2)
 else if(first b).1>bB then([],0,2)
 else if(first b).1>b.length-(first b).2.1 then([],0,4)
 else((b.drop (first b).2.1.toNat).take (first b).1.toNat,(first b).2.1+(first b).1,0)
def dP(b:B8)(at':Int):Prop :=0<=at'/\at'<=b.length
def Od(at':Int)(x:Int×Int×Int):Int×Int×Int:=(x.1,if x.2.2=0 then at'+x.2.1 else 0,x.2.2)
def aZ(b:B8)(at':Int):Int×Int×Int:=Od at' (first (b.drop at'.toNat))
def cV(b:B8)(p bB:Int):B8×Int×Int:=
 if(aZ b p).2.2≠0 then([],0,(aZ b p).2.2)
 else if bB<(aZ b p).1 then([],0,2)
 else if(b.length:Int)-(aZ b p).2.1<(aZ b p).1 then([],0,4)
 else((b.take ((aZ b p).2.1+(aZ b p).1).toNat).drop (aZ b p).2.1.toNat,(aZ b p).2.1+(aZ b p).1,0)
def inside(b:B8)(a:Int):Bool:=decide (0<=a)&&decide (a<=b.length)
def bI(b:B8)(a e:Int):Int:=if e=0/\inside b a=false then 1 else e
abbrev Rd:=B8×Int×Int
def az(b:B8)(a e bB:Int):Rd×B8:=
 if bI b a e≠0 then((b,a,bI b a e),[])
 else if(cV b a bB).2.2≠0 then((b,a,(cV b a bB).2.2),[])
 else((b,(cV b a bB).2.1,0),(cV b a bB).1)
def an(b:B8)(a e:Int):Rd×Int:=
 if bI b a e≠0 then((b,a,bI b a e),0)
 else if(aZ b a).2.2≠0 then((b,a,(aZ b a).2.2),0)
 else((b,(aZ b a).2.1,0),(aZ b a).1)
def aD(b:B8)(a e:Int):Rd×B8:=
 if bI b a e≠0 then((b,a,bI b a e),[])
 else if(b.length:Int)-a<32 then((b,a,4),[])
 else((b,a+32,0),(b.drop a.toNat).take 32)
def done(b:B8)(a e:Int):Int:=if e≠0 then e else if inside b a=false then 1 else if a<b.length then 2 else 0
def jx(b:B8)(a:Int)(n:Nat):Prop :=n<=9/\a+n<=b.length/\∀x∈(b.drop a.toNat).take n,128<=x.toNat
def gm(b:B8)(a:Int)(n:Nat):Int:=(dx ((b.drop a.toNat).take n):Int)
def k8(b:B8)(n:Nat):Prop :=n<=9/\n<=b.length/\∀x∈b.take n,128<=x.toNat
def vR(b:B8)(n:Nat)(i:Int):Prop :=k8 b n/\n<9/\n<b.length/\ -1<=i/\i<=n
def c7(b:B8)(n:Nat)(i:Int):Int:=(dx ((b.take (n+1)).drop (i+1).toNat):Int)
theorem Gd:∀(f v:Nat),(pB f v).length<=f
 |0,_=>by simp [pB]
 |f+1,v=>by
  have :=Gd f (v/128);simp [pB];split<;>simp<;>omega
theorem bF(v:Int):(num v).length<=9:=Gd 9 _
theorem KO:∀(f g v:Nat),v<128^f->1<=f->f<=g->pB g v=pB f v
 |0,g,v,_,h,_=>by omega
 |f+1,0,v,_,_,h=>by omega
 |f+1,g+1,v,h,_,hg=>by
  simp [pB];split
  . rfl
  . by_cases hf:f=0
    . subst hf;omega
    . rw [KO f g (v/128) w! w! w!]
theorem Er(v:Int)(h:v<128):num v= [UInt8.ofNat v.toNat]:=by
 simp_all[num,pB,R!]
theorem Z4(v:Int)(h:128<=v)(h1:v<=9223372036854775807):num v=UInt8.ofNat (v%128+128).toNat::num (v/128):=by
 simp [num];rw [pB,if_neg w!];grind[KO]
theorem HC:∀(l:B8) (h:l≠ []),dx l=0->(l.getLast h).toNat<128->(l.getLast h).toNat=0
 | [x],_,h,hx=>by grind[dx]
 |x::y::l,_,h,hx=>by
  simp [dx] at h;exact HC (y::l) z! (by simp [dx];omega) hx
theorem Oe:∀(f:Nat) (l:B8) (h:l≠ []),l.length<=f->(∀x∈l.dropLast,128<=x.toNat)->(l.getLast h).toNat<128->(pB f (dx l)=l↔(l.length=1\/(l.getLast h).toNat≠0))
 |0,l,h,hl,_,_=>by
  grind
 |f+1,[x],_,_,_,hx=>by
  have hv:dx [x]=x.toNat:=by grind[dx]
  simp_all[pB,R!]
 |f+1,x::y::l,_,hl,hd,hx=>by
  have Nc:128<=x.toNat:=hd x z!;have hx2:=x.toNat_lt;have ih:=Oe f (y::l) z! x! (fun z hz=>hd z x!) hx;have e:dx (x::y::l)=x.toNat%128+128*dx (y::l):=rfl;rw [pB,e];by_cases hV:dx (y::l)=0
  . grind[HC]
  . have e1:(x.toNat%128+128*dx (y::l))%128+128=x.toNat:=by omega
    have e2:(x.toNat%128+128*dx (y::l))/128=dx (y::l):=by omega
    rw [e1,e2,UInt8.ofNat_toNat];grind[dx]
theorem AP:∀(l:B8),dx l<128^l.length
 | []=>by simp [dx]
 |x::l=>by
  have :=AP l;simp [dx,F?,v?];omega
theorem BX:∀(l m:B8),dx (l++m)=dx l+128^l.length*dx m
 | [],m=>by simp [dx]
 |x::l,m=>by
  simp [List.cons_append,dx,BX l m,List.length_cons,Nat.pow_succ];grind
theorem KP(b:B8)(n:Nat)(h:∀x∈b.take n,128<=x.toNat)(hn:n<=b.length)(he:n=b.length\/(b.getD n 0).toNat<128):lead b=n:=by
 induction b generalizing n with
 |nil=>simp at hn;subst hn;rfl
 |cons x b ih=>
  cases n with
  |zero=>
   simp_all[List.getD_cons_zero,lead,List.takeWhile_cons,N!]
  |succ n=>
   have hx:=h x z!;have :=ih n (fun y hy=>h y (by simp [hy])) (by simpa using hn) (by simpa using he);simp [lead,List.takeWhile_cons] at this |-;rw [R! (by simpa using hx),F?,this]
theorem aiq(b:B8)(n:Nat)(h:∀x∈b.take n,128<=x.toNat)(hn:n<=b.length):n<=lead b:=by
 induction b generalizing n with
 |nil=>grind
 |cons x b ih=>
  cases n with
  |zero=>omega
  |succ n=>
   simp_all[lead,List.takeWhile_cons,R!,F?]
theorem VR(b:B8)(n:Nat)(hn:n<b.length):∃h,(b.take (n+1)).getLast h=b.getD n 0:=by
 refine⟨by intro h;simp_all,?_⟩;grind
theorem Of(b:B8)(n:Nat)(h:∀x∈b.take n,128<=x.toNat)(hn:n<b.length)(h9:n<9)(he:(b.getD n 0).toNat<128):
  first b=if((1<=n/\(b.getD n 0).toNat=0)\/dx (b.take (n+1))>4611686018427387904) then(0,0,2) else((dx (b.take (n+1)):Int),(n:Int)+1,0):=by
 have hl:=KP b n h w! (.inr he);obtain⟨gI,ahO⟩:=VR b n hn;have hlen:(b.take (n+1)).length=n+1:=by grind
 have hc:=Oe 9 (b.take (n+1)) gI w! (by
  grind[List.dropLast_eq_take]) x!
 simp [first,hl,num,Int.toNat_natCast];grind
theorem air(b:B8)(h:∀x∈b.take 9,128<=x.toNat)(hn:9<=b.length):first b=(0,0,2):=by
 simp_all[aiq,first,R!]
theorem VS(b:B8)(n:Nat)(h:∀x∈b.take n,128<=x.toNat)(hn:n=b.length)(h9:n<9):first b=(0,0,4):=by
 have :=KP b n h w! (.inl hn);simp_all[first,N!,R!]
theorem lB(b:B8):0<=(first b).1/\(first b).1<=4611686018427387904/\0<=(first b).2.1/\(first b).2.1<=b.length/\((first b).2.2=0\/(first b).2.2=2\/(first b).2.2=4):=by
 have hl:=NA (fun x:UInt8=>decide (128<=x.toNat)) b;unfold first
 split
 . simp
 . split
   . simp
   . split
     . simp
     . simp [lead,not_or,Nat.not_lt] at *;grind
theorem KQ(b:B8):k8 b 0:=by simp [k8]
theorem oz {b:B8} {x:Nat}(h:k8 b x)(h1:x<b.length)(h2:x<9)(h3:128<=(b.getD x 0).toNat):k8 b (x+1):=by
 refine⟨w!,w!,fun y hy=> ?_⟩;rw [ar b x 0 h1] at hy;rcases F!.1 hy with hy|hy
 . exact h.2.2 y hy
 grind
theorem hU {b:B8} {x:Nat}(h:k8 b x):x<=9/\x<=b.length:=⟨h.1,h.2.1⟩
theorem ze {b:B8}(h:k8 b 9):first b=(0,0,2):=air b h.2.2 h.2.1
theorem qQ {b:B8} {x:Nat}(h:k8 b x)(h1:x=b.length)(h2:x≠9):first b=(0,0,4):=VS b x h.2.2 h1 (by have :=h.1;omega)
theorem eD {b:B8} {x:Nat}(h:k8 b x)(h1:x<b.length)(h3:(b.getD x 0).toNat<128):lead b=x:=KP b x h.2.2 h.2.1 (.inr h3)
theorem ix(b:B8)(n:Nat):c7 b n n=0:=by
 have :(b.take (n+1)).drop (n+1)= []:=List.drop_eq_nil_of_le x!;simp [c7,show((n:Int)+1).toNat=n+1 by omega,this];rfl
theorem jI(b:B8)(n:Nat)(i:Int)(h0:0<=i)(h1:i<=n)(h2:n<b.length):c7 b n (i-1)=c7 b n i*128+((b.getD i.toNat 0).toNat:Int)%128:=by
 obtain⟨j,rfl⟩:=n? h0;have hj:j<(b.take (n+1)).length:=by rw [X!];omega
 simp only [c7,show((j:Int)-1+1).toNat=j by omega,show((j:Int)+1).toNat=j+1 by omega,V!];rw [l? hj];simp only [dx,List.getElem_take];rw [I!,E! w!,Option.getD_some];omega
theorem gP(b:B8)(n:Nat)(i:Int)(h1: -1<=i)(h2:i<=n)(h3:n<9):0<=c7 b n i/\c7 b n i<=9223372036854775807/\(0<=i->c7 b n i<=72057594037927935):=by
 have h:=AP ((b.take (n+1)).drop (i+1).toNat);have hl:((b.take (n+1)).drop (i+1).toNat).length<=n+1-(i+1).toNat:=by grind
 have e:(128:Nat)^((b.take (n+1)).drop (i+1).toNat).length<=128^9:=Nat.pow_le_pow_right w! w!;refine⟨by grind[c7],by grind[c7],fun h0=> ?_⟩;have e:(128:Nat)^((b.take (n+1)).drop (i+1).toNat).length<=128^8:=Nat.pow_le_pow_right w! w!;grind[c7]
theorem mh {b:B8}(h1:lead b<b.length)(h2:lead b<9):first b=if c7 b (lead b) (-1)>4611686018427387904\/num (c7 b (lead b) (-1))≠b.take (lead b+1) then(0,0,2) else(c7 b (lead b) (-1),(lead b:Int)+1,0):=by
 grind[c7,lead,dx,first]
theorem BY {b:B8}(h:k8 b (lead b))(h1:lead b<b.length)(h2:lead b<9) {i:Int}(h3: -1<=i)(h4:i<=lead b):vR b (lead b) i:=⟨h,h2,h1,h3,h4⟩
theorem iQ {b:B8} {n:Nat} {i:Int}(h:vR b n i):n<9/\n<b.length/\ -1<=i/\i<=n:=h.2
theorem aIk {b:B8} {p:Int}(h:dP b p):jx b p 0:=by grind[dP,jx]
theorem gC {b:B8} {p:Int} {x:Nat}(h:jx b p x):x<=9/\p+x<=b.length:=⟨h.1,h.2.1⟩
theorem Og(b:B8)(p:Int)(x:Nat)(hp:0<=p):(b.drop p.toNat).getD x 0=b.getD (p+x).toNat 0:=by
 grind
theorem KR {b:B8} {p:Int} {x:Nat}(hp:dP b p)(h:jx b p x):k8 (b.drop p.toNat) x:=by
 simp [dP] at hp;exact⟨h.1,by rw [B?];have :=h.2.1;omega,h.2.2⟩
theorem aey {b:B8} {p:Int} {x:Nat}(hp:dP b p)(h:jx b p x)(h1:p+x<b.length)(h2:x≠9)(h3:128<=(b.getD (p+x).toNat 0).toNat):jx b p (x+1):=by
 have Bp:=hp;simp [dP] at Bp;have :=oz (KR hp h) x! (by have :=h.1;omega) x!;exact⟨this.1,w!,this.2.2⟩
theorem ais {b:B8} {p:Int}(hp:dP b p)(h:jx b p 9):aZ b p=(0,0,2):=by
 grind[aZ,ze,KR,Od]
theorem SP {b:B8} {p:Int} {x:Nat}(hp:dP b p)(h:jx b p x)(h1:(x:Int)=b.length-p)(h2:x≠9):aZ b p=(0,0,4):=by
 have Bp:=hp;simp [dP] at Bp;have :=qQ (KR hp h) x! h2;grind[aZ,Od]
theorem Z5 {b:B8} {p:Int} {x:Nat}(hp:dP b p)(h:jx b p x)(h1:p+x<b.length):
  Vg.cu (gm b p x) (Vg.aP ((b.getD (p+x).toNat 0).toNat:Int) 127*2^(7*(x:Int)).toNat)=gm b p (x+1):=by
 have Bp:=hp;simp [dP] at Bp;have hx:x<(b.drop p.toNat).length:=by grind
 rw [ju _ w!,zc,gB _ _ _ w! (by simp [gm])]
 . simp [gm];rw [ar _ x 0 hx,BX,Og _ _ _ Bp.1,X!,Nat.min_eq_left w!];simp [dx,show(7*(x:Int)).toNat=7*x by omega,Nat.mul_zero,Nat.add_zero];simp_all[Int.natCast_add,Int.natCast_mul,Int.natCast_pow,Int.natCast_emod,Int.pow_mul,Int.mul_comm,Int.add_comm]
 . simp [gm,show(7*(x:Int)).toNat=7*x by omega];grind[AP,Nat.pow_le_pow_right,List.length_take,Int.natCast_pow,Int.pow_mul]
theorem aIl(b:B8)(p:Int):gm b p 0=0:=by rfl
theorem AQ {b:B8} {p:Int} {x:Nat}(h:x<=9):0<=gm b p x/\gm b p x<=9223372036854775807:=by
 have :=AP ((b.drop p.toNat).take x);have e:(128:Nat)^((b.drop p.toNat).take x).length<=128^9:=Nat.pow_le_pow_right w! x!;grind[gm]
theorem xl(c:Int)(x:Nat)(h0:0<=c)(h1:c<=127)(hx:x<=8):0<=c*2^(7*(x:Int)).toNat/\c*2^(7*(x:Int)).toNat<=9223372036854775807:=by
 have dg:(2:Nat)^(7*(x:Int)).toNat<=2^56:=Nat.pow_le_pow_right w! w!;have e:(2:Int)^(7*(x:Int)).toNat=((2^(7*(x:Int)).toNat:Nat):Int):=by simp
 have hp:(2:Int)^(7*(x:Int)).toNat<=72057594037927936:=by omega
 have hq:(0:Int)<2^(7*(x:Int)).toNat:=Int.pow_pos w!;constructor
 . exact Int.mul_nonneg h0 w!
 . have :=Int.mul_le_mul h1 hp w! w!;omega
theorem ait {b:B8} {p:Int} {x:Nat}(hp:dP b p)(h:jx b p x)(h1:p+x<b.length)(h2:x≠9)(h3:(b.getD (p+x).toNat 0).toNat<128):
  aZ b p=if((1<=x/\(b.getD (p+x).toNat 0).toNat=0)\/gm b p (x+1)>4611686018427387904) then(0,0,2) else(gm b p (x+1),p+(x+1),0):=by
 have Bp:=hp;simp [dP] at Bp;have :=Of (b.drop p.toNat) x h.2.2 x! (by have :=h.1;omega) x!;rw [Og _ _ _ Bp.1] at this;simp [aZ,this,gm];have e:(dx ((b.drop p.toNat).take (x+1))>4611686018427387904)↔((dx ((b.drop p.toNat).take (x+1)):Int)>4611686018427387904):=by omega
 simp [e];rw [apply_ite (Od p)];rfl
theorem aiu(v:Int):1<=(num v).length:=by
 grind[num,pB]
theorem zf {l m:B8} {v u:Int}(h:rU l v m u):m.length+1<=l.length+9:=by
 have :=congrArg List.length h.2.2;grind[bF,aiu,List.length_append]
theorem aez {l m:B8} {v u:Int}(h:rU l v m u)(h1:127<u)(h2:v<=9223372036854775807):
  rU l v (m++ [UInt8.ofNat (Vg.cu (Vg.aP u 127%256) 128).toNat]) (u/2^(7:Int).toNat):=by
 have h4:=h.2.1;have e:=Z4 u w! w!
 have e2:Vg.cu (Vg.aP u 127%256) 128=u%128+128:=by
  grind[ju,KH]
 have h3:=h.2.2;refine⟨x!,x!,?_⟩;grind
theorem aiv {l m:B8} {v u:Int}(h:rU l v m u)(h1:¬127<u):m++ [UInt8.ofNat (u%256).toNat]=l++num v:=by
 have e:=Er u w!;rw [<-h.2.2,e];have :=h.1;grind
theorem Es {l m:B8} {v u:Int}(h:rU l v m u):0<=u:=h.1
theorem SQ {b:B8} {p:Int} {x:Nat}(hp:dP b p)(h:jx b p x)(h1:p+x<b.length)(h2:x≠9)(h3:(b.getD (p+x).toNat 0).toNat<128) {c:Bool}
  (hc:(bif decide (1<(x:Int)+1) then bif decide (((b.getD (p+((x:Int)+1)-1).toNat 0).toNat:Int)=0) then true else decide (4611686018427387904<Vg.cu (gm b p x) (Vg.aP ((b.getD (p+x).toNat 0).toNat:Int) 127*2^(7*(x:Int)).toNat)) else decide (4611686018427387904<Vg.cu (gm b p x) (Vg.aP ((b.getD (p+x).toNat 0).toNat:Int) 127*2^(7*(x:Int)).toNat)))=c):
  aZ b p=if c=true then(0,0,2) else(Vg.cu (gm b p x) (Vg.aP ((b.getD (p+x).toNat 0).toNat:Int) 127*2^(7*(x:Int)).toNat),p+(x+1),0):=by
 have hf:=ait hp h h1 h2 h3;rw [<-hc,hf];rw [Z5 hp h h1,show p+((x:Int)+1)-1=p+x by omega];grind
theorem Ge {b:B8} {p:Int} {x:Nat}(hp:dP b p)(h:jx b p x)(h1:p+x<b.length)(h2:x≠9)(h3:(b.getD (p+x).toNat 0).toNat<128)
  (hc:(bif decide (1<(x:Int)+1) then bif decide (((b.getD (p+((x:Int)+1)-1).toNat 0).toNat:Int)=0) then true else decide (4611686018427387904<Vg.cu (gm b p x) (Vg.aP ((b.getD (p+x).toNat 0).toNat:Int) 127*2^(7*(x:Int)).toNat)) else decide (4611686018427387904<Vg.cu (gm b p x) (Vg.aP ((b.getD (p+x).toNat 0).toNat:Int) 127*2^(7*(x:Int)).toNat)))=true):
  0=(aZ b p).1/\0=(aZ b p).2.1/\2=(aZ b p).2.2:=by
 rw [SQ hp h h1 h2 h3 hc];grind
theorem Gf {b:B8} {p:Int} {x:Nat}(hp:dP b p)(h:jx b p x)(h1:p+x<b.length)(h2:x≠9)(h3:(b.getD (p+x).toNat 0).toNat<128)
  (hc:(bif decide (1<(x:Int)+1) then bif decide (((b.getD (p+((x:Int)+1)-1).toNat 0).toNat:Int)=0) then true else decide (4611686018427387904<Vg.cu (gm b p x) (Vg.aP ((b.getD (p+x).toNat 0).toNat:Int) 127*2^(7*(x:Int)).toNat)) else decide (4611686018427387904<Vg.cu (gm b p x) (Vg.aP ((b.getD (p+x).toNat 0).toNat:Int) 127*2^(7*(x:Int)).toNat)))=false):
  Vg.cu (gm b p x) (Vg.aP ((b.getD (p+x).toNat 0).toNat:Int) 127*2^(7*(x:Int)).toNat)=(aZ b p).1/\p+(x+1)=(aZ b p).2.1/\0=(aZ b p).2.2:=by
 rw [SQ hp h h1 h2 h3 hc];grind
theorem VT {b:B8} {p:Int}(hp:dP b p):0<=(aZ b p).1/\(aZ b p).1<=4611686018427387904/\0<=(aZ b p).2.1/\(aZ b p).2.1<=b.length/\((aZ b p).2.2=0\/(aZ b p).2.2=2\/(aZ b p).2.2=4):=by
 have h:=lB (b.drop p.toNat);grind[dP,List.length_drop,aZ,Od]
theorem aeA {b:B8} {a e:Int}(h:bI b a e=0):0<=a/\a<=b.length/\e=0:=by
 grind[bI,inside]
end Go.S

end
section
namespace Go.S
def fi(kind:UInt8)(parts:List B8):B8:=kind::parts.flatten
def mQ(kind:UInt8)(parts:List B8)(k:Nat):B8:=fi kind (parts.take k)
def kh(parts:List B8):Prop :=parts.flatten.length<=35184372088832
def jh(kind:Nat)(b:B8):B8:=UInt8.ofNat kind::b
def iZ(kind:Int)(b:B8):B8:=UInt8.ofNat (kind%256).toNat::b
def mi(kind:Nat)(b:B8):B8:=sum (jh kind b)
def oc(kind:Int)(b:B8):B8:=sum (iZ kind b)
def leaf(b:B8):B8:=mi 0 b
def Qm(l r:B8):B8:=mi 1 (l++r)
def KT(l r:B8):Bool:=decide (l.length=32)&&decide (r.length=32)
def eE(l r:B8):B8:=if KT l r then Qm l r else []
def p8(l r:B8):Int:=if KT l r then 0 else 1
def bj(b:B8):Prop :=b.length<1099511627776
theorem Oh(k:Nat)(b:B8):(mi k b).length=32:=SO _
theorem aeB {parts:List B8} {n:Nat}(h:kh parts)(hn:n<parts.length):(fi 0 (parts.take n)).length+(parts.getD n []).length<=140737488355328:=by
 have h1:(parts.take (n+1)).flatten.length<=parts.flatten.length:=by
  grind[List.take_append_drop,List.flatten_append,List.length_append]
 rw [ar parts n [] hn,List.flatten_append,List.length_append] at h1;grind[kh,fi,List.length_cons,List.flatten_cons,List.flatten_nil]
theorem VU {parts:List B8} {n:Nat}(k:UInt8)(h:kh parts)(hn:n<parts.length):(fi k (parts.take n)).length+(parts.getD n []).length<=140737488355328:=by
 have :=aeB h hn;grind[fi]
theorem aeC(k:UInt8)(p:List B8): [UInt8.ofNat (Int.toNat (k.toNat:Int))]=mQ k p 0:=by simp [mQ,fi]
theorem Qn(k:UInt8)(p:List B8)(x:Nat)(h:x<p.length):mQ k p x++List.getD p (Int.toNat (x:Int)) []=mQ k p (x+1):=by
 grind[mQ,fi,Int.toNat_natCast,ar,List.flatten_append]
theorem SR(k:UInt8)(p:List B8)(x:Nat)(h:¬x<p.length):mQ k p x=fi k p:=by
 grind[mQ,List.take_of_length_le,Nat.not_lt]
end Go.S

end
