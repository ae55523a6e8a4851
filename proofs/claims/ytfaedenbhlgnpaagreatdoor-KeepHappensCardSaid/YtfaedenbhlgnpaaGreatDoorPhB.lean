import Derived.Test.YtfaedenbhlgnpaaGreatDoorPhA
import Derived.Orders
import Derived.Deep.LoopGhost
import Derived.Scope
import Derived.WalkKit
import Derived.ProofKit
import Derived.OpenShut
import Derived.SizedLaws
set_option linter.unusedVariables false
set_option linter.unusedSimpArgs false
section
namespace Go.Vg
open Go
def gj(base:Nat):AB→AB
 | .views e (some j) n m sz=> .views e (some (base+j)) n m sz
 |b=>b
def fF(k:Nat):List AB→Bool
 | []=>true
 | .row _ _ _ false ::r=>fF k r
 | .views _ (some j) _ _ _::r=>Nat.blt j k&&fF k r
 |_=>false
def j4(E:Env)(h:aS)(d:Nat)(f:Nat)(args:List AV):Option Out:=match E.sig f with
 |some s=>match s (jC h args).1 with
  |some (pre,res,bs)=>bif Nat.ble bs.length 100&&iR bs.length res&&fF bs.length bs then
   some {cond:= [pre],res:=di (ly d) res,gw:=cm h (jC h args).2,new:=eV (ly d) (bs.map (gj (ly d)))} else none
  |none=>none
 |none=>none
def wO(E:Env)(st:St)(o:Oper):Option Out:=
 let T:=E.T
 let h:=st.h
 let ρ:=ev st
 match o.op with
 | .load t p=>match ρ p,T.find t with
   | .elem k sz i j,some te=>match h k with
     |some (.views _ (some k2) _ m s2)=>bif Nat.beq sz 1&&Nat.beq j 0&&gA te.desc then some {cond:= [i<m],res:= .view k2 1 (i*s2) s2} else none
     |_=>none
   |_,_=>none
 | .store t p v=>match ρ p,ρ v with
   | .elem k sz i j, .view k3 s3 off len=>match h k with
     |some (.views e (some k2) n m s2)=>bif Nat.beq sz 1&&Nat.beq j 0&&(Nat.beq k3 k2&&Nat.beq s3 1)&&jX T t 1 then
       some {cond:= [i=m∧m<n∧off=m*s2∧len=s2],res:= .undef,gw:= [(k, .views e (some k2) n (m+1) s2)]} else none
     |_=>none
   |_,_=>none
 | .slice t x (some lo) (some hi) (some mx)=>match ρ x,ρ lo,ρ hi,ρ mx with
   | .own k, .int _ a, .int _ b, .int _ c=>match h k with
     |some (.row _ row l _)=>bif br T t row.length then some {cond:= [0≤a∧a≤b∧b≤c∧c≤(l.length:Int)],res:= .view k row.length a.toNat (b.toNat-a.toNat)} else none
     |_=>none
   |_,_,_,_=>none
 | .indexAddr t x i=>match ρ x,ρ i with
   | .own k, .int _ i=>match h k with
     |some (.views _ _ n _ _)=>bif br T t 1 then some {cond:= [0≤i∧i<(n:Int)],res:= .elem k 1 i.toNat 0} else none
     |_=>none
   |_,_=>none
 | .call c=>match c.callee with
   | .builtin b=>match b,c.args.toList,c.argTypes.toList with
     | .len,[x],[t]=>match ρ x with
       | .own k=>match h k with
         |some (.views _ _ n _ _)=>bif dq T t gA then some {cond:= [],res:= .int .i64 (n:Int)} else none
         |_=>none
       |_=>none
     |_,_,_=>none
   | .value f=>match ρ f,o.dst with
     | .fn (.func f) first bn,some d=>j4 E h (st.kb+d) f (first++(c.args.toList.map ρ)++bn)
     | .fn (.func f) first bn,none=>j4 E h st.kb f (first++(c.args.toList.map ρ)++bn)
     |_,_=>none
   |_=>none
 |_=>none
def Qn(E:Env)(st:St)(o:Oper):Option Out:=match cQ E st o with
 |some out=>some out
 |none=>wO E st o
section
variable {P:Program} {C:Ctx} {A A':Nat→Prop} {β aJ:Nat→Value} {st:St} {a:Act} {w:World} {E:Env} {T:bY}
theorem mz(hB:aF C A β st a w) {k e:Nat} {j:Option Nat} {n m sz:Nat}(h:st.h k=some (.views e j n m sz)):
  (β k= .slice none 0 0∧n=0)∨∃b cap cur,β k= .slice (some ⟨b,0,none⟩) n cap∧w.heap[b]? =some (.cells cur e (0,0))∧n≤cap∧cap≤maxLen∧cur.size=cap∧¬A b∧
    ∀j',j=some j'→∀i,i<m→∃v,(cur.toList.take n)[i]? =some v∧aa w A β v (.view j' 1 (i*sz) sz):=by
 obtain⟨xs,h1,h2,h3⟩:=hB.blocks k _ h;rcases h1.2 with⟨hv,hn⟩|⟨g,cap,cur,hv,_,hg,h4,h5,h6,h7⟩
 · exact .inl ⟨hv,hn⟩
 · refine .inr ⟨g,cap,cur,hv,hg,h4,h5,by simpa using h6,h2 g (by rw [hv];rfl),fun j' hj i hi=> ?_⟩;obtain⟨v,e1,e2⟩:=h3 j' hj i hi;refine⟨v,?_,e2⟩;rw [Nat.mul_one] at h7;rw [h7];exact e1
theorem JT(hB:aF C A β st a w) {k e:Nat} {j:Option Nat} {n m sz:Nat}(h:st.h k=some (.views e j n m sz)):n≤maxLen:=by
 rcases mz hB h with⟨_,hn⟩|⟨_,cap,_,_,_,h1,h2,_⟩
 · rw [hn];simp
 · omega
theorem JU(hT:bx T P)(hB:aF C A β st a w) {t:TypeId} {te:TE} {k i e n m s2 k2:Nat} {vp:Value}(hp:aa w A β vp (.elem k 1 i 0))(ht:T.find t=some te)(hs:gA te.desc=true)
  (hk:st.h k=some (.views e (some k2) n m s2)) (hi:i<m):∃v,(Instr.loadAt t vp).run P w= .ok v w∧aa w A β v (.view k2 1 (i*s2) s2):=by
 simp only [aa] at hp;obtain⟨b,m',cap,bZ,rfl⟩:=hp;rcases mz hB hk with⟨hv,_⟩|⟨b',im,cur,hv,hg,_,_,_,_,hx⟩
 · rw [bZ] at hv;cases hv
 · rw [bZ] at hv;simp only [Value.slice.injEq,Option.some.injEq,Addr.mk.injEq,and_true] at hv;obtain⟨rfl,rfl,rfl⟩:=hv;obtain⟨v,e1,e2⟩:=hx k2 rfl i hi;rw [List.getElem?_take] at e1;split at e1
   · have hr:w.rangeAt b i [v]:=by
      intro j u hj;cases j with
      |zero=>
       simp only [List.getElem?_cons_zero,Option.some.injEq] at hj;subst hj;simp [World.cell?,hg];simpa using e1
      |succ j=>simp at hj
     have WB:pick te [.view k2 1 (i*s2) s2] 0=some (.view k2 1 (i*s2) s2):=by
      unfold pick;have :te.desc.jW=false :=by cases hd:te.desc<;>rw [hd] at hs<;>first|rfl|cases hs
      rw [this];rfl
     obtain⟨v',g1,g2⟩:=lf (β:=β) (A:=A) hT ht (cs:= [v]) (by simp only [af];exact⟨v,[],rfl,e2,rfl⟩) WB hr;refine⟨v',?_,g2⟩;simpa using g1
   · cases e1
theorem GC(hT:bx T P)(hB:aF C A β st a w) {dst:Option Nat}(hd:∀t,dst=some t→t<st.n) {t:TypeId} {k i e n m s2 k2 off len:Nat} {vp vx:Value}(hp:aa w A β vp (.elem k 1 i 0))(hx:aa w A β vx (.view k2 1 off len))
  (hk:st.h k=some (.views e (some k2) n m s2)) (cU:jX T t 1=true) {cond:List Prop} (hi:i=m) (hm:m<n) (ho:off=m*s2) (hl:len=s2):
  ∃w',(Instr.storeAt t vp vx).run P w= .ok () w'∧Rel C (st.put dst {cond:=cond,res:= .undef,gw:= [(k, .views e (some k2) n (m+1) s2)]}) (a.put dst undef) w':=by
 subst hi;subst ho;subst hl;obtain⟨ii,hU,oi⟩:=pd hT cU;simp only [aa] at hp;obtain⟨b,m',cap,bZ,rfl⟩:=hp;rcases mz hB hk with⟨hv,_⟩|⟨b',im,cur,hv,hg,hle,rC,dc,jy,gI⟩
 · rw [bZ] at hv;cases hv
 · rw [bZ] at hv;simp only [Value.slice.injEq,Option.some.injEq,Addr.mk.injEq,and_true] at hv;obtain⟨rfl,rfl,rfl⟩:=hv
   have gY:vx.oneCell'=true :=by
    simp only [aa] at hx;rcases hx with⟨_,a',c',h,_⟩|⟨_,_,_,_,_,h,_⟩<;>rw [h]<;>rfl
   have GB:vx.cells= #[vx]:=cells_one gY;have hb:ay (β k)=some b:=by rw [bZ];rfl
   have kI:=lN (P:=P) (w:=w) (t:=t) (v:=vx) hU (by rw [GB,oi];rfl) (by rw [GB];intro v hv;simp at hv;subst hv;exact gY) hg (off:=i) (by rw [GB];simp;omega);obtain⟨new,dj⟩:∃new:Array Value,new=(cur.toList.take i++ [vx]++cur.toList.drop (i+1)).toArray:=⟨_,rfl⟩
   have arL:(Instr.storeAt t (.pointer (some ⟨b,i,none⟩)) vx).run P w= .ok () (w.setRow b new):=by
    rw [kI,dj,GB];rfl
   have hlen:new.size=cur.size:=by rw [dj];simp;omega
   refine⟨w.setRow b new,by simpa using arL,?_⟩;refine hB.write hd (k:=k) (fz:= []) (ab:= .views e (some k2) m' (i+1) len) (by simp [hk]) hb jy hg ⟨rfl,rfl,rfl⟩ (fun q hq=>by cases hq) ?_ (by simp [aa]);intro A2 h1 h2 _;refine⟨new.toList.take m',⟨?_, .inr ⟨b,cap,new,bZ,Nat.zero_le _,setRow_heap w b cur _ e _ hg,hle,rC,?_,by rw [Nat.mul_one]⟩⟩,fun b' bA Db=> ?_,fun j' hj i' hX=> ?_⟩
   · rw [List.length_take,Array.length_toList,hlen,Nat.mul_one];omega
   · rw [Nat.mul_one,←dc,hlen]
   · rw [hb] at bA;simp only [Option.some.injEq] at bA;subst bA;rcases h2 _ Db with h|⟨q,hq,_⟩
     · exact jy h
     · cases hq
   · simp only [Option.some.injEq] at hj;subst hj;by_cases arM:i'=i
     · subst arM;refine⟨vx,?_,tH rfl hx⟩;rw [List.getElem?_take,if_pos hm,dj];simp only [List.append_assoc];rw [List.getElem?_append_right (by simp;omega)];simp;have :min i' cur.size=i':=by omega
       rw [this];simp
     · obtain⟨v,e1,e2⟩:=gI k2 rfl i' (by omega);refine⟨v,?_,tH rfl e2⟩;rw [List.getElem?_take] at e1 ⊢;split at e1
       · rename_i eM;rw [if_pos eM,dj];simp only [List.append_assoc];rw [List.getElem?_append_left (by simp;omega),List.getElem?_take,if_pos (by omega)];exact e1
       · cases e1
theorem GF(hT:bx T P)(hB:aF C A β st a w) {t:TypeId} {k e:Nat} {row:List Ty} {l:List (Row row)} {fr:Bool} {x y m:Int} {kx ky km:IntKind} {vx:Value}(hx:aa w A β vx (.own k))(hk:st.h k=some (.row e row l fr))
  (hs:br T t row.length=true) (h0:0≤x) (h1:x≤y) (h2:y≤m) (h3:m≤(l.length:Int)):
  ∃v,(Instr.sliceAt t vx (some (.int kx x)) (some (.int ky y)) (some (.int km m))).run P w= .ok v w∧aa w A β v (.view k row.length x.toNat (y.toNat-x.toNat)):=by
 obtain⟨e',ii,hu,hU,cU,iJ⟩:=eB hT hs;simp only [aa] at hx;obtain⟨rfl,_⟩:=hx
 have hb:∀len cap:Nat,len≤cap→m≤(len:Int)→(Instr.sliceBounds true len cap (some (.int kx x)) (some (.int ky y)) (some (.int km m))).run P w= .ok (x.toNat,y.toNat,m.toNat) w:=by
  intro len cap hlc yC
  simp [Instr.sliceBounds,run_sliceBound (P:=P) (w:=w) (k:=km) (n:=m) (y:=cap) (by omega) (by omega),run_sliceBound (P:=P) (w:=w) (k:=ky) (n:=y) (y:=m.toNat) (by omega) (by omega),
   run_sliceBound (P:=P) (w:=w) (k:=kx) (n:=x) (y:=y.toNat) (by omega) (by omega)]
 have gi:∀(ad:Option Addr) (len cap:Nat),len≤cap→m≤(len:Int)→(Instr.sliceAt t (.slice ad len cap) (some (.int kx x)) (some (.int ky y)) (some (.int km m))).run P w=
   .ok (.slice (if m.toNat=x.toNat then ad else ad.map (·.add (x.toNat*ii.size))) (y.toNat-x.toNat) (m.toNat-x.toNat)) w:=by
  intro ad len cap hlc yC;simp [Instr.sliceAt,Instr.slice,run_underlying hu,sizeOf,typeInfo,hU,hb len cap hlc yC]
 rcases eC hB hk with⟨g1,g2⟩|⟨b,cap,cur,g1,_,g3,g4,_⟩
 · subst g2;simp only [List.length_nil] at h3;refine⟨_,by rw [g1];exact gi none 0 0 (Nat.le_refl _) h3,?_⟩;simp only [aa];refine .inl ⟨by omega,_,_,by rw [show y.toNat-x.toNat=0 by omega],by unfold maxLen;omega⟩
 · refine⟨_,by rw [g1];exact gi _ l.length cap g3 h3,?_⟩;simp only [aa];by_cases hz:m.toNat=x.toNat
   · refine .inl ⟨by omega,_,_,by rw [show y.toNat-x.toNat=0 by omega],by omega⟩
   · rw [if_neg hz];exact .inr ⟨b,_,cap,m.toNat-x.toNat,g1,by simp [Addr.add_mid,cU],by omega,by omega,by omega⟩
theorem oz {k:Nat}:∀(bs:List AB) (i:Nat) (ab:AB),fF k bs=true→bs[i]? =some ab→(∃e row l,ab= .row e row l false)∨∃e j n m sz,ab= .views e (some j) n m sz∧j<k
 | .row e row l false ::bs,0,ab,_,h=>by simp at h;exact .inl ⟨e,row,l,h.symm⟩
 | .views e (some j) n m sz::bs,0,ab,ho,h=>by
   simp only [fF,Bool.and_eq_true] at ho;simp at h;exact .inr ⟨e,j,n,m,sz,h.symm,Nat.le_of_ble_eq_true ho.1⟩
 | .row e row l false ::bs,i+1,ab,ho,h=>oz bs i ab (by simpa only [fF] using ho) (by simpa using h)
 | .views e (some j) n m sz::bs,i+1,ab,ho,h=>oz bs i ab (by simp only [fF,Bool.and_eq_true] at ho;exact ho.2) (by simpa using h)
 | .row e row l true ::bs,_,_,h,_=>by simp [fF] at h
 | .views e none n m sz::bs,_,_,h,_=>by simp [fF] at h
 | .cells _::bs,_,_,h,_=>by simp [fF] at h
 | .arr _ _::bs,_,_,h,_=>by simp [fF] at h
 | .gD _ _ _ _ _::bs,_,_,h,_=>by simp [fF] at h
 | [],_,_,_,h=>by simp at h
theorem aF.ajs(hB:aF C A β st a w) {dst:Option Nat}(hd:∀t,dst=some t→t<st.n) {base:Nat} {res:AV} {bs:List AB} {fz:List Nat} {cond:List Prop} {v:Value} {w':World} {A1:Nat→Prop} {lk:Nat→Value}
  (xu:∀j∈fz,∃e row l fr,st.h j=some (.row e row l fr)) (dj:iT st.h (eV base (bs.map (gj base)))=true) (hro:iR bs.length res=true) (hor:fF bs.length bs=true)
  (hp:j3 w (bM A β fz) w' v res bs A1 lk):
  Rel C (st.put dst {cond:=cond,res:=di base res,gw:=cm st.h fz,new:=eV base (bs.map (gj base))}) (a.put dst v) w':=by
 let aJ:Nat→Value:=fun k=>if base≤k∧k<base+bs.length then lk (k-base) else β k
 have Dl:∀i,i<bs.length→aJ (base+i)=lk i:=by
  intro i hi;simp only [aJ];rw [if_pos (by omega)];congr 1;omega
 have qk:∀k,au (eV base (bs.map (gj base))) k=(if base≤k then(bs[k-base]?).map (gj base) else none):=fun k=>by
  have :=qj base (bs.map (gj base)) 0 k;simpa using this
 have bZ:∀k,au (eV base (bs.map (gj base))) k=none→aJ k=β k:=by
  intro k h;rw [qk k] at h;simp only [aJ];rw [if_neg];rintro⟨h1,h2⟩;rw [if_pos h1,Option.map_eq_none_iff,List.getElem?_eq_none_iff] at h;omega
 have mg:∀k ab,au (eV base (bs.map (gj base))) k=some ab→base≤k∧(∃Dp,bs[k-base]? =some Dp∧ab=gj base Dp)∧k-base<bs.length:=by
  intro k ab h;rw [qk k] at h;split at h
  · rename_i hb;rw [Option.map_eq_some_iff] at h;obtain⟨Dp,h1,h2⟩:=h;exact⟨hb,⟨Dp,h1,h2.symm⟩,(List.getElem?_eq_some_iff.1 h1).1⟩
  · cases h
 have wN:∀k ab,au (eV base (bs.map (gj base))) k=some ab→aJ k=lk (k-base):=by
  intro k ab h;obtain⟨h1,h2,h3⟩:=mg k ab h;have :=Dl (k-base) h3;rwa [show base+(k-base)=k by omega] at this
 have hK:cP w w' A A1:=fun b hb=>⟨hp.mono b (.inl hb),hp.same b (hB.bound b hb)⟩;refine⟨A1,aJ,?_⟩;refine hB.step (out:= {cond:=cond,res:=di base res,gw:=cm st.h fz,new:=eV base (bs.map (gj base))}) hd (fun k b h=>iK _ k b dj h) ?_ bZ hK hp.os hp.tape hp.output hp.size (fun b hb _=>hp.same b hb) hp.bound ?_ ?_ ?_ ?_ ?_ ?_
 · intro k b h;obtain⟨_,e,row,l,fr,h,_⟩:=gV fz k b h;simp [h]
 · intro b hb;rcases Nat.lt_or_ge b w.heap.size with eM|Cd
   · rcases hp.kE b eM hb with h|⟨j,hj,N3⟩
     · exact .inl h
     · have hr:=xu j hj;exact .inr (.inr ⟨j,⟨by obtain⟨_,_,_,_,hr⟩:=hr;simp [hr], .inl (mZ fz j hj hr)⟩,N3⟩)
   · exact .inr (.inl Cd)
 · intro k ab h _;obtain⟨hk,e,row,l,fr,hr,rfl⟩:=gV fz k ab h;rw [jY]
   have hkn:au (eV base (bs.map (gj base))) k=none:=by
    cases hh:au (eV base (bs.map (gj base))) k with
    |none=>rfl
    |some y=>have :=(iK _ k y dj hh).1;rw [hr] at this;cases this
   obtain⟨xs,h1,h2,h3⟩:=hB.blocks k _ hr;simp only [BR,bZ k hkn];refine⟨xs,fS h1 (fun b hb=>hp.same b (kJ hB (by simp [hr]) hb)),bE (fun c x hx=>bF hK row c x hx) l xs h2,fun b hb=> ?_⟩;simp only [if_true];exact hp.mono b (.inr ⟨k,hk,hb⟩)
 · intro k ab h;obtain⟨h1,⟨Dp,h2,rfl⟩,h3⟩:=mg k ab h;have fY:=(hp.rows _ _ h2).1;rcases oz bs _ Dp hor h2 with⟨e,row,l,rfl⟩|⟨e,j,n,m,sz,rfl,hj⟩
   · obtain⟨xs,g1,g2,g3⟩:=fY;simp only [gj,BR,wN k _ h];exact⟨xs,g1,g2,g3⟩
   · obtain⟨xs,g1,g2,g3⟩:=fY;simp only [gj,BR,wN k _ h];refine⟨xs,g1,g2,fun j' eJ i hi=> ?_⟩;simp only [Option.some.injEq] at eJ;subst eJ;obtain⟨u,e1,e2⟩:=g3 j rfl i hi;refine⟨u,e1,?_⟩;simp only [aa] at e2 ⊢;rw [Dl j hj];exact e2
 · intro k b ab h hb;obtain⟨h1,⟨Dp,h2,rfl⟩,h3⟩:=mg k ab h;rw [wN k _ h] at hb;exact .inl ((hp.rows _ _ h2).2 b hb)
 · intro k k' b h h' hb bA;obtain⟨x,hx⟩:=Option.isSome_iff_exists.1 h;obtain⟨y,hy⟩:=Option.isSome_iff_exists.1 h';obtain⟨h1,h2,h3⟩:=mg k x hx;obtain⟨g1,g2,g3⟩:=mg k' y hy;rw [wN k _ hx] at hb;rw [wN k' _ hy] at bA;have :=hp.apart _ _ b h3 g3 hb bA;omega
 · exact su (aJ:=aJ) base bs.length Dl res v hro hp.res
theorem LA(hE:fq P C E)(hB:aF C A β st a w) {o:Oper} {out:Out}(h:Qn E st o=some out)(jo:iu st o=true)(dj:iT st.h out.new=true)(hc:∀p∈out.cond,p)
  {K:Act→World→Prop} {Q:Exit→Act→World→Prop} (hK:∀a' w',Rel C (st.put o.dst out) a' w'→K a' w'):o.wp P a w K Q:=by
 unfold Qn at h;split at h
 · rename_i WC h0;simp only [Option.some.injEq] at h;subst h;exact Lz hE hB h0 jo dj hc hK
 rename_i pq;clear pq
 have hd:∀t,o.dst=some t→t<st.n:=by
  intro t ht;unfold iu at jo;rw [ht] at jo;exact Nat.le_of_ble_eq_true jo
 obtain⟨dst,op,type,pos,after,guard⟩:=o;simp only at hd hK;unfold wO at h;simp only at h;split at h
 · rename_i t p;split at h
   · rename_i k sz i j te hp ht;split at h
     · rename_i e k2 n m s2 hk;cases hq:(Nat.beq sz 1&&Nat.beq j 0&&gA te.desc) with
       |false=>rw [hq] at h;cases h
       |true=>
        rw [hq] at h;simp only [cond_true,Option.some.injEq] at h;subst h;simp only [Bool.and_eq_true] at hq;obtain⟨⟨q1,q2⟩,q3⟩:=hq;have q1:=Nat.eq_of_beq_eq_true q1;have q2:=Nat.eq_of_beq_eq_true q2;subst q1;subst q2;have Ap:=aV hB p;rw [hp] at Ap;obtain⟨v,g1,g2⟩:=JU hE.fK hB Ap ht q3 hk (dL hc);exact cS (v:=v) (by simp [execOp,g1]) (hK _ _ (Rel.ku (hB.quiet hd ⟨rfl,rfl,rfl⟩ g2)))
     · cases h
   · cases h
 · rename_i t p v;split at h
   · rename_i k sz i j k3 s3 off len hp hv;split at h
     · rename_i e k2 n m s2 hk;cases hq:(Nat.beq sz 1&&Nat.beq j 0&&(Nat.beq k3 k2&&Nat.beq s3 1)&&jX E.T t 1) with
       |false=>rw [hq] at h;cases h
       |true=>
        rw [hq] at h;simp only [cond_true,Option.some.injEq] at h;subst h;simp only [Bool.and_eq_true] at hq;obtain⟨⟨⟨q1,q2⟩,q3,q4⟩,q5⟩:=hq;have q1:=Nat.eq_of_beq_eq_true q1;have q2:=Nat.eq_of_beq_eq_true q2;have q3:=Nat.eq_of_beq_eq_true q3;have q4:=Nat.eq_of_beq_eq_true q4;subst q1;subst q2;subst q3;subst q4;have Ap:=aV hB p;rw [hp] at Ap;have hvr:=aV hB v;rw [hv] at hvr;obtain⟨c1,c2,c3,c4⟩:=dL hc;obtain⟨w',g1,g2⟩:=GC hE.fK hB hd Ap hvr hk q5 c1 c2 c3 c4;exact ry (w':=w') (by simp [execOp,g1]) (hK _ _ g2)
     · cases h
   · cases h
 · rename_i t x l hi mx;split at h
   · rename_i k kx x0 ky y0 km m0 hx hl hh hm;split at h
     · rename_i e row ll fr hk;cases hs:br E.T t row.length with
       |false=>rw [hs] at h;cases h
       |true=>
        rw [hs] at h;simp only [cond_true,Option.some.injEq] at h;subst h;obtain⟨c1,c2,c3,c4⟩:=dL hc;have wu:=aV hB x;rw [hx] at wu;have Wr:=aV hB l;rw [hl] at Wr;have hhr:=aV hB hi;rw [hh] at hhr;have hmr:=aV hB mx;rw [hm] at hmr;simp only [aa] at Wr hhr hmr;obtain⟨v,g1,g2⟩:=GF (kx:=kx) (ky:=ky) (km:=km) hE.fK hB wu hk hs c1 c2 c3 c4;exact cS (v:=v) (by simp [execOp,Wr.1,hhr.1,hmr.1,g1]) (hK _ _ (Rel.ku (hB.quiet hd ⟨rfl,rfl,rfl⟩ g2)))
     · cases h
   · cases h
 · rename_i t x i;split at h
   · rename_i k ki i0 hx hi;split at h
     · rename_i e j n m sz hk;cases hs:br E.T t 1 with
       |false=>rw [hs] at h;cases h
       |true=>
        rw [hs] at h;simp only [cond_true,Option.some.injEq] at h;subst h;obtain⟨c1,c2⟩:=dL hc;obtain⟨e',ii,hu,hU,cU,iJ⟩:=eB hE.fK hs;have wu:=aV hB x;rw [hx] at wu;have hir:=aV hB i;rw [hi] at hir;simp only [aa] at wu hir;rcases mz hB hk with⟨_,hn⟩|⟨b,cap,cur,hv,_⟩
        · omega
        · refine cS (v:= .pointer (some ⟨b,0+i0.toNat*1,none⟩)) (w':=w) ?_ (hK _ _ (Rel.ku (hB.quiet hd ⟨rfl,rfl,rfl⟩ ?_)))
          · have :=run_indexAt (P:=P) (w:=w) hu hU b 0 n cap ki i0 c1 c2;simp only [execOp,wu.1,hv,hir.1,Sem.run_bind,this,cU,Result.andThen_ok,Sem.run_pure]
          · simp only [aa];exact⟨b,_,cap,hv,by simp⟩
     · cases h
   · cases h
 · rename_i c;obtain⟨callee,args,argTypes⟩:=c;simp only at h;split at h
   · rename_i b;split at h
     · rename_i x t bw xv;split at h
       · rename_i k hx;split at h
         · rename_i e j n m sz hk;cases hq:dq E.T t gA with
           |false=>rw [hq] at h;cases h
           |true=>
            rw [hq] at h;simp only [cond_true,Option.some.injEq] at h;subst h;have ea:args= #[x]:=by apply Array.ext';simpa using bw
            have et:argTypes= #[t]:=by apply Array.ext';simpa using xv
            subst ea;subst et;obtain⟨dd,hu,qS⟩:=pb hE.fK hq;obtain⟨e',rfl⟩:∃e',dd= .slice e':=by cases dd<;>simp_all [gA]
            have wu:=aV hB x;rw [hx] at wu;simp only [aa] at wu
            have Dq:∃ad cap,a.eval x= .slice ad n cap:=by
             rcases mz hB hk with⟨h1,h2⟩|⟨b,cap,cur,hv,_⟩
             · exact⟨none,0,by rw [wu.1,h1,h2]⟩
             · exact⟨_,cap,by rw [wu.1,hv]⟩
            obtain⟨ad,cap,Dq⟩:=Dq;refine cS (v:= .int .i64 (n:Int)) (w':=w) ?_ (hK _ _ (Rel.ku (hB.quiet hd ⟨rfl,rfl,rfl⟩ (tZ n (JT hB hk)))));simp [execOp,resolve,invoke,builtin,Dq,Builtin.len_,run_underlying hu,goInt]
         · cases h
       · cases h
     · cases h
   · rename_i f;have hf:=aV hB f
     have key:∀(jF:FuncId) (first bn:List AV) (base:Nat),ev st f= .fn (.func jF) first bn→j4 E st.h base jF (first++(args.toList.map (ev st))++bn)=some out→
       Oper.wp P {dst,op:= .call {callee:= .value f,args,argTypes},type,pos,after,guard} a w K Q:=by
      intro jF first bn base pn je
      rw [pn] at hf;simp only [aa] at hf;obtain⟨a1,a2,JO,r1,r2⟩:=hf;unfold j4 at je;split at je
      · rename_i s hs;split at je
        · rename_i pre res bs UD;cases hq:(Nat.ble bs.length 100&&iR bs.length res&&fF bs.length bs) with
          |false=>simp [hq] at je
          |true=>
           simp only [hq,cond_true,Option.some.injEq] at je;subst je;simp only [Bool.and_eq_true] at hq;obtain⟨hv,Oa⟩:=hE.sig jF s hs;have bw:=dM _ _ _ _ (dM _ _ _ _ r1 (nE hB args.toList)) r2;obtain⟨p1,p2⟩:=Aj (A':=bM A β (jC st.h (first++(args.toList.map (ev st))++bn)).2) hB (fun b h=> .inl h) _ _ bw (fun k hk b hb=> .inr ⟨k,hk,hb⟩)
           have N4:∀b,bM A β (jC st.h (first++(args.toList.map (ev st))++bn)).2 b→b<w.heap.size:=by
            intro b h;rcases h with h|⟨j,hj,hb⟩
            · exact hB.bound b h
            · obtain⟨e',r',l',f',hr⟩:=p2 j hj;exact kJ hB (by simp [hr]) hb
           have qW:=hv w _ β _ _ pre res bs N4 (fun i d hi=>(hB.laid i d (by rw [hE.g];exact hi)).mono (fun b h=>⟨.inl h,rfl⟩)) p1 UD (dL hc)
           have gi:(execOp a.eval {dst,op:= .call {callee:= .value f,args,argTypes},type,pos,after,guard}).run P w= .ok (.enter jF (a1.toList++args.toList.map a.eval++a2.toList).toArray) w:=by
            have e:(a1++args.map a.eval)++a2=(a1.toList++args.toList.map a.eval++a2.toList).toArray:=by
             apply Array.ext';simp
            have :=Oa (a1++args.map a.eval++a2) w;rw [e] at this;simp only [execOp,resolve,JO,Deferred.ofValue,Sem.run_bind,Sem.run_pure,Result.andThen_ok,invoke,e,this]
           unfold Oper.wp;rw [gi];simp only [Oper.upon_enter];refine qW.mono fun e w' ⟨v,he,A1,lk,po⟩=> ?_;subst he;exact hK _ _ (hB.ajs hd p2 dj hq.1.2 hq.2 po)
        · cases je
      · cases je
     split at h
     · rename_i jF first bn d pn
       exact key jF first bn _ pn h
     · rename_i jF first bn pn
       exact key jF first bn _ pn h
     · cases h
   · cases h
 · cases h
end
end Go.Vg

end
section
namespace Go.Vg
open Go
def Dr(E:Env)(st:St)(o:Oper):Option Out:=
 let T:=E.T
 let h:=st.h
 let ρ:=ev st
 match o.op with
 | .alloc t=>match T.find t,o.dst with
   |some te,some d=>match te.desc with
    | .array n e=>match rowOf T qd e with
      |some [u]=>match sa [u] n (ofConst te.zero).cells with
       |some l=>some {cond:= [],res:= .ref (st.kb+d) 0,new:= [(st.kb+d, .arr [u] l)]}
       |none=>none
      |_=>none
    |_=>none
   |_,_=>none
 | .load t p=>match ρ p,T.find t with
   | .ref k off,some te=>match h k with
     |some (.arr [u] l)=>match pick te [yg u (Row.hd (l.getD off (Row.zero [u])))] 0 with
      |some a=>some {cond:= [off<l.length],res:=a}
      |none=>none
     |_=>none
   |_,_=>none
 | .store t p v=>match ρ p with
   | .ref k off=>match h k with
     |some (.arr [u] l)=>match Le u (ρ v) with
      |some x=>bif jX T t 1 then some {cond:= [off<l.length],res:= .undef,gw:= [(k, .arr [u] (l.set off (Row.mk x ())))]} else none
      |none=>none
     |_=>none
   |_=>none
 |_=>none
def Qo(E:Env)(st:St)(o:Oper):Option Out:=match Qn E st o with
 |some out=>some out
 |none=>Dr E st o
section
variable {P:Program} {C:Ctx} {A A':Nat→Prop} {β aJ:Nat→Value} {st:St} {a:Act} {w:World} {E:Env} {T:bY}
theorem aF.acI(hB:aF C A β st a w) {dst:Option Nat}(hd:∀t,dst=some t→t<st.n) {d e:Nat} {row:List Ty} {l:List (Row row)} {arr:Array Value} {cond:List Prop}
  (fJ:st.h d=none∧ou d=false) (hrel:b9 (bk w A row) arr.toList l):
  aF C A (bI β d (.pointer (some ⟨w.heap.size,0,none⟩))) (st.put dst {cond:=cond,res:= .ref d 0,new:= [(d, .arr row l)]}) (a.put dst (.pointer (some ⟨w.heap.size,0,none⟩))) (w.alloc (.cells arr e)):=by
 have hK:cP w (w.alloc (.cells arr e)) A A:=fun b hb=>⟨hb,my _ b (hB.bound b hb)⟩
 have bZ:∀k,au [(d,AB.arr row l)] k=none→bI β d (.pointer (some ⟨w.heap.size,0,none⟩)) k=β k:=by
  intro k h;have :k≠d:=by rintro rfl;simp [au] at h
  simp [bI,this]
 refine hB.step (out:= {cond:=cond,res:= .ref d 0,new:= [(d, .arr row l)]}) hd ?_ (by simp [au]) bZ hK rfl rfl rfl (by simp) (fun b hb _=>my _ b hb) (fun b hb=>by have :=hB.bound b hb;simp;omega) (fun b hb=> .inl hb) (by simp [au]) ?_ ?_ ?_ ?_
 · intro k b h;obtain⟨rfl,_⟩:=dz h;exact fJ
 · intro k ab h;obtain⟨rfl,rfl⟩:=dz h;exact⟨w.heap.size,arr,e,by simp [bI],heap_alloc_new w _,fun h=>absurd (hB.bound _ h) (by omega),bE (fun c x hx=>bF hK row c x hx) l _ hrel⟩
 · intro k b ab h hb;obtain⟨rfl,_⟩:=dz h;simp only [bI,if_true,ay,Option.some.injEq] at hb;exact .inl (by omega)
 · intro k k' b h h' _ _;obtain⟨x,hx⟩:=Option.isSome_iff_exists.1 h;obtain⟨y,hy⟩:=Option.isSome_iff_exists.1 h';rw [(dz hx).1,(dz hy).1]
 · simp only [aa];exact⟨w.heap.size,by simp [bI],rfl⟩
theorem Hf {u:Ty} {l:List (Row [u])} {cs:List Value} {off:Nat}(Ds:off<l.length)(h:b9 (bk w A [u]) cs l):
  ∃v,cs[off]? =some v∧Rd w A u v (Row.hd (l.getD off (Row.zero [u])))∧∀v' x,Rd w A u v' x→b9 (bk w A [u]) (cs.take off++ [v']++cs.drop (off+1)) (l.set off (Row.mk x ())):=by
 obtain⟨c1,c,c2,e1,e2,e3,e4,e5⟩:=o8 l cs off Ds h;simp only [bk] at e3;obtain⟨v,vs,rfl,g1,rfl⟩:=e3;have hl:c1.length=off:=by simpa using e2
 subst e1;refine⟨v,?_,by rw [getD_eq l _ _ Ds];exact g1,fun v' x hx=> ?_⟩
 · rw [List.getElem?_append_right (by omega),hl,Nat.sub_self];rfl
 · have t1:(c1++([v]++c2)).take off=c1:=by rw [←hl,List.take_left]
   have t2:(c1++([v]++c2)).drop (off+1)=c2:=by
    rw [←hl,List.drop_length_add_append];rfl
   rw [t1,t2,List.set_eq_take_append_cons_drop,if_pos Ds,List.append_assoc];refine gE _ _ _ _ e4 ⟨[v'],c2,rfl,?_,e5⟩;simp only [bk];exact⟨v',[],rfl,by rw [pe];exact hx,rfl⟩
theorem LB(hE:fq P C E)(hB:aF C A β st a w) {o:Oper} {out:Out}(h:Qo E st o=some out)(jo:iu st o=true)(dj:iT st.h out.new=true)(hc:∀p∈out.cond,p)
  {K:Act→World→Prop} {Q:Exit→Act→World→Prop} (hK:∀a' w',Rel C (st.put o.dst out) a' w'→K a' w'):o.wp P a w K Q:=by
 unfold Qo at h;split at h
 · rename_i WC h0;simp only [Option.some.injEq] at h;subst h;exact LA hE hB h0 jo dj hc hK
 rename_i pq;clear pq
 have hd:∀t,o.dst=some t→t<st.n:=by
  intro t ht;unfold iu at jo;rw [ht] at jo;exact Nat.le_of_ble_eq_true jo
 obtain⟨dst,op,type,pos,after,guard⟩:=o;simp only at hd hK;unfold Dr at h;simp only at h;split at h
 · rename_i t;split at h
   · rename_i te d ht;split at h
     · rename_i n e qR;split at h
       · rename_i u ko;split at h
         · rename_i l hl;simp only [Option.some.injEq] at h;subst h;obtain⟨hu,i,hi,hs,hb,hz⟩:=hE.fK.ok t te ht;obtain⟨g1,g2⟩:=tX [u] n _ _ l (j2 (w:=w) (A:=A) (β:=β) te.zero) hl;refine cS (v:= .pointer (some ⟨w.heap.size,0,none⟩)) (w':=w.alloc (.cells te.zero.cells t)) ?_ (hK _ _ (Rel.ku (hB.acI hd (Dn dj) g1)));simp [execOp,Instr.alloc,zeroValue,typeInfo,hi,hz,newVar,newRow]
         · cases h
       · cases h
     · cases h
   · cases h
 · rename_i t p;split at h
   · rename_i k off te hp ht;split at h
     · rename_i u l hk;split at h
       · rename_i r WB;simp only [Option.some.injEq] at h;subst h;have Ds:off<l.length:=dL hc;have Ap:=aV hB p;rw [hp] at Ap;simp only [aa] at Ap;obtain⟨b,bZ,hpe⟩:=Ap;obtain⟨b',arr,e,h1,h2,h3,h4⟩:=hB.blocks k _ hk;rw [bZ] at h1;simp only [Value.pointer.injEq,Option.some.injEq,Addr.mk.injEq,and_true] at h1;subst h1;obtain⟨v,c1,c2,_⟩:=Hf Ds h4
         have hr:w.rangeAt b off [v]:=by
          intro j u' hj;cases j with
          |zero=>
           simp only [List.getElem?_cons_zero,Option.some.injEq] at hj;subst hj;simp [World.cell?,h2];simpa using c1
          |succ j=>simp at hj
         have JV:af w A β [v] [yg u (Row.hd (l.getD off (Row.zero [u])))]:=by
          simp only [af];exact⟨v,[],rfl,Lg u v _ c2,rfl⟩
         obtain⟨v',k1,k2⟩:=lf (β:=β) hE.fK ht JV WB hr;refine cS (v:=v') (w':=w) ?_ (hK _ _ (Rel.ku (hB.quiet hd ⟨rfl,rfl,rfl⟩ k2)));rw [Nat.add_zero] at k1;simp [execOp,hpe,k1]
       · cases h
     · cases h
   · cases h
 · rename_i t p x;split at h
   · rename_i k off hp;split at h
     · rename_i u l hk;split at h
       · rename_i d hdx;cases NV:jX E.T t 1 with
         |false=>rw [NV] at h;cases h
         |true=>
         rw [NV] at h;simp only [cond_true,Option.some.injEq] at h;subst h;have Ds:off<l.length:=dL hc;obtain⟨ii,hU,oi⟩:=pd hE.fK NV;have Ap:=aV hB p;rw [hp] at Ap;simp only [aa] at Ap;obtain⟨b,bZ,hpe⟩:=Ap;have wu:=Dc u _ _ d (aV hB x) hdx;obtain⟨b',arr,e,h1,h2,h3,h4⟩:=hB.blocks k _ hk;rw [bZ] at h1;simp only [Value.pointer.injEq,Option.some.injEq,Addr.mk.injEq,and_true] at h1;subst h1;have hb:ay (β k)=some b:=by rw [bZ];rfl
         have gY:(a.eval x).oneCell'=true :=tP [u] [a.eval x] (Row.mk d ()) (by simp only [bk];exact⟨_,[],rfl,by rw [pe];exact wu,rfl⟩) _ (by simp);have hcx:=cells_one gY;have hlen:=eN l _ h4;have cU:arr.size=l.length:=by simpa using hlen
         have gi:=lN (w:=w) (P:=P) hU (v:=a.eval x) (by rw [hcx,oi];rfl) (by rw [hcx];simpa using gY) h2 (off:=off) (by rw [hcx];simp;omega);rw [hcx] at gi;obtain⟨v,c1,c2,c3⟩:=Hf Ds h4;refine ry (w':=w.setRow b (arr.toList.take off++ [a.eval x]++arr.toList.drop (off+1)).toArray) ?_ (hK _ _ ?_)
         · have ajx:(Instr.storeAt t (.pointer (some ⟨b,off,none⟩)) (a.eval x)).run P w= .ok () (w.setRow b (arr.toList.take off++ [a.eval x]++arr.toList.drop (off+1)).toArray):=gi;simp only [execOp,hpe,Sem.run_bind,ajx,Result.andThen_ok,Sem.run_pure]
         · refine hB.write hd (k:=k) (fz:= []) (ab:= .arr [u] (l.set off (Row.mk d ()))) (by simp [hk]) hb h3 h2 ⟨rfl,rfl,rfl⟩ (by simp) ?_ (by simp [aa]);intro A' hA1 Db hA3;have Ob:cP w (w.setRow b (arr.toList.take off++ [a.eval x]++arr.toList.drop (off+1)).toArray) A A':=fun b' h=>⟨hA1 b' h,setRow_other w b b' _ (fun h'=>h3 (h'▸h))⟩;refine⟨b,_,e,bZ,setRow_heap w b arr _ e _ h2,fun h=> ?_,?_⟩
           · rcases Db b h with h|⟨j,hj,_⟩
             · exact h3 h
             · simp at hj
           · exact bE (fun c x hx=>bF Ob _ c x hx) _ _ (c3 _ d wu)
       · cases h
     · cases h
   · cases h
 · cases h
end
end Go.Vg

end
section
namespace Go.Vg
open Go
mutual
def aA:AV→List Nat
 | .own k| .pre k _| .view k _ _ _| .ref k _| .elem k _ _ _=> [k]
 | .agg cs=>aM cs
 | .cD vs=>aM vs
 | .fn _ first bn=>aM first++aM bn
 | .gf _ cs=>aM cs
 |_=> []
def aM:List AV→List Nat
 | []=> []
 |a::aH=>aA a++aM aH
end
def hZ:AB→List Nat
 | .cells cs=>aM cs
 | .views _ (some j) _ _ _=> [j]
 | .gD _ (some j) _ _ _=> [j]
 |_=> []
def uf:List (Nat×AB)→List Nat
 | []=> []
 |(_,b)::r=>hZ b++uf r
mutual
def eD(f:Nat→Nat):AV→AV
 | .own k=> .own (f k)
 | .pre k n=> .pre (f k) n
 | .view k sz off n=> .view (f k) sz off n
 | .ref k off=> .ref (f k) off
 | .elem k sz i j=> .elem (f k) sz i j
 | .agg cs=> .agg (k8 f cs)
 | .cD vs=> .cD (k8 f vs)
 | .fn g first bn=> .fn g (k8 f first) (k8 f bn)
 | .gf ks cs=> .gf ks (k8 f cs)
 |a=>a
def k8(f:Nat→Nat):List AV→List AV
 | []=> []
 |a::aH=>eD f a::k8 f aH
end
def jk(f:Nat→Nat):AB→AB
 | .cells cs=> .cells (k8 f cs)
 | .views e (some j) n m sz=> .views e (some (f j)) n m sz
 | .gD e (some j) row l i=> .gD e (some (f j)) row l i
 |b=>b
section
variable {P:Program} {C:Ctx} {A A':Nat→Prop} {β aJ:Nat→Value} {st:St} {a:Act} {w:World} {E:Env} {T:bY}
mutual
theorem xx(f:Nat→Nat):∀(x:AV) (v:Value),(∀k∈aA x,aJ (f k)=β k)→aa w A β v x→aa w A aJ v (eD f x)
 | .own k,v,hk,h=>by
   simp only [eD,aa] at h ⊢;rw [hk k (by simp [aA])];exact h
 | .pre k n,v,hk,h=>by
   simp only [eD,aa] at h ⊢;rw [hk k (by simp [aA])];exact h
 | .view k _ _ _,v,hk,h=>by
   simp only [eD,aa] at h ⊢;rw [hk k (by simp [aA])];exact h
 | .ref k _,v,hk,h=>by
   simp only [eD,aa] at h ⊢;rw [hk k (by simp [aA])];exact h
 | .elem k _ _ _,v,hk,h=>by
   simp only [eD,aa] at h ⊢;rw [hk k (by simp [aA])];exact h
 | .agg cs,v,hk,h=>by
   simp only [eD,aa] at h ⊢;obtain⟨arr,h1,h2⟩:=h;exact⟨arr,h1,iL f cs _ (fun k dx=>hk k (by simpa [aA] using dx)) h2⟩
 | .cD cs,v,hk,h=>by
   simp only [eD,aa] at h ⊢;obtain⟨arr,h1,h2⟩:=h;exact⟨arr,h1,iL f cs _ (fun k dx=>hk k (by simpa [aA] using dx)) h2⟩
 | .fn g first bn,v,hk,h=>by
   simp only [eD,aa] at h ⊢;obtain⟨a1,a2,h1,h2,h3⟩:=h;exact⟨a1,a2,h1,iL f first _ (fun k dx=>hk k (by simp [aA,dx])) h2,iL f bn _ (fun k dx=>hk k (by simp [aA,dx])) h3⟩
 | .gf ks cs,v,hk,h=>by
   simp only [eD,aa] at h ⊢;obtain⟨b,es,ck,h1,h2,h3,h4,h5⟩:=h;exact⟨b,es,ck,h1,h2,h3,h4,iL f cs _ (fun k dx=>hk k (by simpa [aA] using dx)) h5⟩
 | .c5,v,_,h=>by simp [eD,aa]
 | .undef,v,_,h=>by simpa only [eD,aa] using h
 | .int _ _,v,_,h=>by simpa only [eD,aa] using h
 | .bool _,v,_,h=>by simpa only [eD,aa] using h
 | .tt,v,_,h=>by simpa only [eD,aa] using h
 | .ff,v,_,h=>by simpa only [eD,aa] using h
 | .str _,v,_,h=>by simpa only [eD,aa] using h
 | .nil,v,_,h=>by simpa only [eD,aa] using h
 | .jn,v,_,h=>by simpa only [eD,aa] using h
 | .og _ _,v,_,h=>by simpa only [eD,aa] using h
 | .jA,v,_,h=>by simpa only [eD,aa] using h
 | .sl _ _,v,_,h=>by simpa only [eD,aa] using h
 | .full _ _,v,_,h=>by simpa only [eD,aa] using h
 | .gd _ _ _,v,_,h=>by simpa only [eD,aa] using h
 | .oY _ _,v,_,h=>by simpa only [eD,aa] using h
theorem iL(f:Nat→Nat):∀(xs:List AV) (vs:List Value),(∀k∈aM xs,aJ (f k)=β k)→af w A β vs xs→af w A aJ vs (k8 f xs)
 | [],vs,_,h=>by simpa only [k8,af] using h
 |x::xs,vs,hk,h=>by
  simp only [k8,af] at h ⊢;obtain⟨v,bK,rfl,h1,h2⟩:=h;exact⟨v,bK,rfl,xx f x v (fun k dx=>hk k (by simp [aM,dx])) h1,iL f xs bK (fun k dx=>hk k (by simp [aM,dx])) h2⟩
end
theorem JW(f:Nat→Nat) {k k':Nat} {b:AB}(hk:aJ k'=β k)(hj:∀j∈hZ b,aJ (f j)=β j)(h:BR w A β k b):BR w A aJ k' (jk f b):=by
 cases b with
 |cells cs=>
  obtain⟨b,arr,e,h1,h2,h3,h4,h5⟩:=h;exact⟨b,arr,e,hk.trans h1,h2,h3,iL f cs _ (fun j eJ=>hj j (by simpa [hZ] using eJ)) h4,h5⟩
 |row e row l fr=>
  obtain⟨xs,h1,h2,h3⟩:=h;simp only [jk,BR,hk];exact⟨xs,h1,h2,h3⟩
 |arr row l=>
  obtain⟨b,arr,e,h1,h2,h3,h4⟩:=h;exact⟨b,arr,e,hk.trans h1,h2,h3,h4⟩
 |gD e j row l i=>
  obtain⟨xs,v0,h1,h2,h3,h4⟩:=h;cases j with
  |none=>
   simp only [jk,BR,hk];exact⟨xs,v0,h1,h2,h3,fun j' eJ=>by cases eJ⟩
  |some j0=>
   simp only [jk,BR,hk];refine⟨xs,v0,h1,h2,h3,fun j' eJ=> ?_⟩;simp only [Option.some.injEq] at eJ;subst eJ;rw [hj j0 (by simp [hZ])];exact h4 j0 rfl
 |views e j n m sz=>
  obtain⟨xs,h1,h2,h3⟩:=h;cases j with
  |none=>
   simp only [jk,BR,hk];exact⟨xs,h1,h2,fun j' eJ=>by cases eJ⟩
  |some j0=>
   simp only [jk,BR,hk];refine⟨xs,h1,h2,fun j' eJ i hi=> ?_⟩;simp only [Option.some.injEq] at eJ;subst eJ;obtain⟨v,e1,e2⟩:=h3 j0 rfl i hi
   exact⟨v,e1,xx f (.view j0 1 (i*sz) sz) v (fun k dx=>by
    simp only [aA,List.mem_singleton] at dx;subst dx;exact hj k (by simp [hZ])) e2⟩
end
def ia:List Nat→Bool
 | []=>true
 |k::r=> !(aG r k)&&ia r
def dedup(acc:List Nat):List Nat→List Nat
 | []=>acc.reverse
 |k::r=>bif aG acc k then dedup acc r else dedup (k::acc) r
def behind(h:aS):List Nat→List Nat
 | []=> []
 |k::r=>(match h k with
  |some b=>hZ b
  |none=> [])++behind h r
def Dt:List Nat→Nat→Nat
 | [],_=>0
 |j::r,k=>bif Nat.beq k j then 0 else Dt r k+1
def Oc(K:List Nat)(k:Nat):Nat:=50000+Dt K k
def fL(K:List Nat)(base k:Nat):Nat:=bif Nat.blt k 60000 then K.getD (k-50000) 0 else base+(k-60000)
def cT(h:aS):List Bool→List AV→List AV×List Nat
 |_,[]=>([],[])
 |m,a::aH=>bif m.headD false then(a::(cT h m.tail aH).1,(cT h m.tail aH).2) else((me h a).1::(cT h m.tail aH).1,(me h a).2++(cT h m.tail aH).2)
def contents(h:aS):List Nat→Option (List AB)
 | []=>some []
 |k::r=>match h k,contents h r with
  |some b,some l=>some (b::l)
  |_,_=>none
def kOk(r:gg)(k:Nat):Bool:=(Nat.ble 50000 k&&Nat.blt k 60000&&(match r.heap[k-50000]? with
 |some (some _)=>true
 |_=>false)) || (Nat.ble 60000 k&&Nat.blt k (60000+r.new.length))
def lO(g:Nat→Nat):List Nat→List (Option AB)→List (Nat×AB)
 |k::ks,some b::bs=>(k,jk g b)::lO g ks bs
 |_::ks,none::bs=>lO g ks bs
 |_,_=> []
def qX:List Nat→List (Option AB)→List Nat
 |_::ks,some _::bs=>qX ks bs
 |k::ks,none::bs=>k::qX ks bs
 |_,_=> []
def ug:List (Option AB)→List Nat
 | []=> []
 |some b::r=>hZ b++ug r
 |none::r=>ug r
def sv:List AB→List Nat
 | []=> []
 |b::r=>hZ b++sv r
def ahT(a K:List Nat):Bool:=a.all fun k=>aG K k
def JX(s:gh)(h:aS)(base:Nat)(K:List Nat)(ps:List AV)(fz:List Nat):Option Out:=match contents h K with
 |some hs=>bif ia K&&(ahT (aM ps++sv hs) K&&(fz.all (fun k=> !aG K k)&&Nat.ble hs.length 100)) then
  match s (k8 (Oc K) ps) (hs.map (jk (Oc K))) with
  |some r=>bif Nat.beq r.heap.length hs.length&&(Nat.ble r.new.length 100&&((aA r.res++(ug r.heap++sv r.new)).all (kOk r))) then
    some {cond:= [r.pre]
          res:=eD (fL K base) r.res
          gw:=lO (fL K base) K r.heap++cm h fz
          del:=qX K r.heap
          new:=eV base (r.new.map (jk (fL K base)))
          raw:=K}
   else none
  |none=>none
  else none
 |none=>none
def j5(E:Env)(h:aS)(d:Nat)(f:Nat)(args:List AV):Option Out:=match E.oh f with
 |some (m,s)=>JX s h (ly d) (dedup [] (aM (cT h m args).1++behind h (aM (cT h m args).1))) (cT h m args).1 (cT h m args).2
 |none=>none
section
variable {P:Program} {C:Ctx} {A A':Nat→Prop} {β aJ:Nat→Value} {st:St} {a:Act} {w:World} {E:Env} {T:bY}
theorem j6:∀ {l:List Nat} {k:Nat},aG l k=true↔k∈l
 | [],k=>by simp [aG]
 |j::l,k=>by
  simp only [aG,Bool.or_eq_true,List.mem_cons,j6 (l:=l)];constructor
  · rintro(h|h)
    · exact .inl (Nat.eq_of_beq_eq_true h)
    · exact .inr h
  · rintro(h|h)
    · subst h;exact .inl (bG _)
    · exact .inr h
theorem Bj:∀ {K:List Nat} {k:Nat},k∈K→Dt K k<K.length∧K.getD (Dt K k) 0=k
 |j::K,k,h=>by
  simp only [Dt];by_cases hk:k=j
  · subst hk;simp
  · simp only [aR hk,cond_false];have :=Bj (K:=K) ((List.mem_cons.1 h).resolve_left hk);simpa using this
theorem uh {h:aS}:∀ {K:List Nat} {hs:List AB},contents h K=some hs→hs.length=K.length∧∀(i:Nat) (ab:AB),hs[i]? =some ab→∃k:Nat,K[i]? =some k∧h k=some ab
 | [],hs,hh=>by
   simp only [contents,Option.some.injEq] at hh;subst hh;exact⟨rfl,fun i ab h=>by simp at h⟩
 |k::K,hs,hh=>by
  simp only [contents] at hh;split at hh
  · rename_i b l h1 h2;simp only [Option.some.injEq] at hh;subst hh;obtain⟨g1,g2⟩:=uh h2;refine⟨by simp [g1],fun i ab hi=> ?_⟩;cases i with
    |zero=>simp only [List.getElem?_cons_zero,Option.some.injEq] at hi;subst hi;exact⟨k,rfl,h1⟩
    |succ i=>simpa using g2 i ab (by simpa using hi)
  · cases hh
theorem Bk:∀ {K:List Nat},ia K=true→∀ {i j:Nat} {k:Nat},K[i]? =some k→K[j]? =some k→i=j
 | [],_,i,j,k,h,_=>by simp at h
 |x::K,hn,i,j,k,h1,h2=>by
  simp only [ia,Bool.and_eq_true,Bool.not_eq_true'] at hn
  have hx:∀m:Nat,K[m]? =some x→False:=fun m hm=>by
   have :=j6.2 (List.mem_of_getElem? hm);rw [this] at hn;exact absurd hn.1 (by simp)
  cases i with
  |zero=>
   cases j with
   |zero=>rfl
   |succ j=>
    simp only [List.getElem?_cons_zero,Option.some.injEq] at h1;subst h1;exact(hx j (by simpa using h2)).elim
  |succ i=>
   cases j with
   |zero=>
    simp only [List.getElem?_cons_zero,Option.some.injEq] at h2;subst h2;exact(hx i (by simpa using h1)).elim
   |succ j=>rw [Bk hn.2 (i:=i) (j:=j) (by simpa using h1) (by simpa using h2)]
theorem ql {g:Nat→Nat}:∀ {K:List Nat} {bs:List (Option AB)} {k:Nat} {ab:AB},au (lO g K bs) k=some ab→∃(i:Nat) (b:AB),K[i]? =some k∧bs[i]? =some (some b)∧ab=jk g b
 | [],bs,k,ab,h=>by cases bs<;>simp [lO,au] at h
 |x::K,[],k,ab,h=>by simp [lO,au] at h
 |x::K,some b::bs,k,ab,h=>by
  simp only [lO,au] at h;by_cases hk:k=x
  · subst hk;simp only [bG,cond_true,Option.some.injEq] at h;exact⟨0,b,rfl,rfl,h.symm⟩
  · simp only [aR hk,cond_false] at h;obtain⟨i,b',h1,h2,h3⟩:=ql h;exact⟨i+1,b',by simpa using h1,by simpa using h2,h3⟩
 |x::K,none::bs,k,ab,h=>by
  simp only [lO] at h;obtain⟨i,b',h1,h2,h3⟩:=ql h;exact⟨i+1,b',by simpa using h1,by simpa using h2,h3⟩
theorem ui {g:Nat→Nat}:∀ {K:List Nat} {bs:List (Option AB)} {i k:Nat} {b:AB},K[i]? =some k→bs[i]? =some (some b)→(au (lO g K bs) k).isSome
 | [],bs,i,k,b,h,_=>by simp at h
 |x::K,[],i,k,b,_,h=>by simp at h
 |x::K,some c::bs,i,k,b,h1,h2=>by
  simp only [lO,au];by_cases hk:k=x
  · subst hk;simp
  · simp only [aR hk,cond_false];cases i with
    |zero=>simp only [List.getElem?_cons_zero,Option.some.injEq] at h1;exact absurd h1.symm hk
    |succ i=>exact ui (by simpa using h1) (by simpa using h2)
 |x::K,none::bs,i,k,b,h1,h2=>by
  simp only [lO];cases i with
  |zero=>simp at h2
  |succ i=>exact ui (by simpa using h1) (by simpa using h2)
theorem sw:∀ {K:List Nat} {bs:List (Option AB)} {k:Nat},k∈qX K bs↔∃i:Nat,K[i]? =some k∧bs[i]? =some none
 | [],bs,k=>by cases bs<;>simp [qX]
 |x::K,[],k=>by simp [qX]
 |x::K,some b::bs,k=>by
  simp only [qX,sw (K:=K)];constructor
  · rintro⟨i,h1,h2⟩;exact⟨i+1,by simpa using h1,by simpa using h2⟩
  · rintro⟨i,h1,h2⟩;cases i with
    |zero=>simp at h2
    |succ i=>exact⟨i,by simpa using h1,by simpa using h2⟩
 |x::K,none::bs,k=>by
  simp only [qX,List.mem_cons,sw (K:=K)];constructor
  · rintro(rfl|⟨i,h1,h2⟩)
    · exact⟨0,rfl,rfl⟩
    · exact⟨i+1,by simpa using h1,by simpa using h2⟩
  · rintro⟨i,h1,h2⟩;cases i with
    |zero=>simp only [List.getElem?_cons_zero,Option.some.injEq] at h1;exact .inl h1.symm
    |succ i=>exact .inr ⟨i,by simpa using h1,by simpa using h2⟩
theorem xy:∀ {bs:List (Option AB)} {i:Nat} {b:AB},bs[i]? =some (some b)→∀j∈hZ b,j∈ug bs
 | [],i,b,h,_,_=>by simp at h
 |some c::bs,0,b,h,j,hj=>by
  simp only [List.getElem?_cons_zero,Option.some.injEq] at h;subst h;simp only [ug,List.mem_append];exact .inl hj
 |some c::bs,i+1,b,h,j,hj=>by
  simp only [ug,List.mem_append];exact .inr (xy (by simpa using h) j hj)
 |none::bs,0,b,h,j,hj=>by simp at h
 |none::bs,i+1,b,h,j,hj=>by
  simp only [ug];exact xy (i:=i) (by simpa using h) j hj
theorem xz:∀ {bs:List AB} {i:Nat} {b:AB},bs[i]? =some b→∀j∈hZ b,j∈sv bs
 | [],i,b,h,_,_=>by simp at h
 |c::bs,0,b,h,j,hj=>by
  simp only [List.getElem?_cons_zero,Option.some.injEq] at h;subst h;simp only [sv,List.mem_append];exact .inl hj
 |c::bs,i+1,b,h,j,hj=>by
  simp only [sv,List.mem_append];exact .inr (xz (by simpa using h) j hj)
theorem kK:∀(a b:List (Nat×AB)) (k:Nat),au (a++b) k=match au a k with
  |some x=>some x
  |none=>au b k
 | [],b,k=>rfl
 |(j,x)::a,b,k=>by
  simp only [List.cons_append,au];cases Nat.beq k j with
  |true=>rfl
  |false=>exact kK a b k
theorem JY {G:Nat→Option GD} {f:FuncId} {s:gh}(hv:cH P G f s)(hB:aF C A β st a w)(hG:C.G=G) {dst:Option Nat}(hd:∀t,dst=some t→t<st.n)
  {args:List Value} {ps:List AV} {fz K:List Nat} {base:Nat} {out:Out} (hps:af w (bM A β fz) β args ps) (xu:∀j∈fz,∃e row l fr,st.h j=some (.row e row l fr))
  (h:JX s st.h base K ps fz=some out) (dj:iT st.h out.new=true) (hc:∀p∈out.cond,p):
  Calls P f args.toArray w fun e w'=>∃v,e= .returned v∧Rel C (st.put dst out) (a.put dst v) w':=by
 unfold JX at h;split at h;case h_2=>cases h
 rename_i hs Qp;cases hq:(ia K&&(ahT (aM ps++sv hs) K&&(fz.all (fun k=> !aG K k)&&Nat.ble hs.length 100))) with
 |false=>rw [hq] at h;cases h
 |true=>
 rw [hq] at h;simp only [cond_true] at h;split at h;case h_2=>cases h
 rename_i r hr;cases hq2:(Nat.beq r.heap.length hs.length&&(Nat.ble r.new.length 100&&((aA r.res++(ug r.heap++sv r.new)).all (kOk r)))) with
 |false=>rw [hq2] at h;cases h
 |true=>
 rw [hq2] at h;simp only [cond_true,Option.some.injEq] at h;subst h;simp only [Bool.and_eq_true,List.all_eq_true] at hq hq2;obtain⟨q1,q2,q3,q4⟩:=hq;obtain⟨r1,r2,r3⟩:=hq2;have q4:=Nat.le_of_ble_eq_true q4;have r1:=Nat.eq_of_beq_eq_true r1;have r2:=Nat.le_of_ble_eq_true r2;obtain⟨hl,Qp⟩:=uh Qp;have wP:∀k∈aM ps++sv hs,k∈K:=fun k hk=>j6.1 (List.all_eq_true.1 q2 k hk)
 have ahU:∀k∈fz,k∉K:=fun k hk hK=>by
  have :=q3 k hk;rw [j6.2 hK] at this;cases this
 let WD:Nat→Value:=fun k=>if 50000≤k∧k<50000+K.length then β (K.getD (k-50000) 0) else .slice none 0 0
 have Bl:∀(i k:Nat),K[i]? =some k→WD (50000+i)=β k:=by
  intro i k hi;have eM:=(List.getElem?_eq_some_iff.1 hi).1;simp only [WD];rw [if_pos ⟨by omega,by omega⟩,Nat.add_sub_cancel_left,List.getD,hi];rfl
 have hto:∀k∈K,WD (Oc K k)=β k:=by
  intro k hk;obtain⟨h1,h2⟩:=Bj hk;refine Bl _ _ ?_;rw [List.getElem?_eq_getElem h1];rw [List.getD,List.getElem?_eq_getElem h1] at h2;simpa using h2
 have fc:∀(i k:Nat),K[i]? =some k→∃ab,hs[i]? =some ab∧st.h k=some ab:=by
  intro i k hi;have eM:=(List.getElem?_eq_some_iff.1 hi).1;obtain⟨k',h1,h2⟩:=Qp i _ (List.getElem?_eq_getElem (by omega));rw [hi] at h1;simp only [Option.some.injEq] at h1;subst h1;exact⟨_,List.getElem?_eq_getElem (by omega),h2⟩
 have arQ:∀b,bM A β fz b→b<w.heap.size:=by
  intro b hb;rcases hb with hb|⟨j,hj,tU⟩
  · exact hB.bound b hb
  · obtain⟨e,row,l,fr,hr⟩:=xu j hj;exact kJ hB (by simp [hr]) tU
 have N2:cP w w A (bM A β fz):=fun b hb=>⟨.inl hb,rfl⟩
 have qW:=hv w (bM A β fz) WD args (k8 (Oc K) ps) (hs.map (jk (Oc K))) r arQ
  (fun i d hi=>(hB.laid i d (by rw [hG];exact hi)).mono N2)
  (iL (Oc K) ps args (fun k hk=>hto k (wP k (List.mem_append_left _ hk))) hps)
  (fun i ab hi=>by
    rw [List.getElem?_map,Option.map_eq_some_iff] at hi;obtain⟨Dp,hi,rfl⟩:=hi;obtain⟨k,hk,kI⟩:=Qp i Dp hi
    have fY:BR w (bM A β fz) β k Dp:=by
     have :=tI (w':=w) (A':=bM A β fz) (aJ:=β) (new:= []) (fun _ _=>rfl) rfl (fun b hb=>⟨rfl,fun hA=> ?_⟩) N2 (hB.blocks k Dp kI)
     · exact this
     · rcases hA with hA|⟨j,hj,tU⟩
       · exact hA
       · exfalso;obtain⟨e,row,l,fr,hr⟩:=xu j hj;have :=hB.apart j k b (by simp [hr]) (by simp [kI]) tU hb;subst this;exact ahU j hj (List.mem_of_getElem? hk)
    exact JW (Oc K) (Bl i k hk) (fun j hj=>hto j (wP j (List.mem_append_right _ (xz hi j hj)))) fY)
  (fun i j b hi hj h1 h2=>by
    rw [List.length_map] at hi hj;have e1:K[i]? =some K[i]:=List.getElem?_eq_getElem (by omega);have e2:K[j]? =some K[j]:=List.getElem?_eq_getElem (by omega);rw [Bl i _ e1] at h1;rw [Bl j _ e2] at h2;obtain⟨_,_,l1⟩:=fc i _ e1;obtain⟨_,_,l2⟩:=fc j _ e2;have :=hB.apart _ _ b (by simp [l1]) (by simp [l2]) h1 h2;exact Bk q1 e1 (by rw [this];exact e2))
  hr (hc _ (by simp)) (by rw [List.length_map];exact r1) (by rw [List.length_map];exact q4)
 rw [List.length_map] at qW;refine qW.mono ?_;rintro e w' ⟨v,rfl,A2,gk,hp⟩;refine⟨v,rfl,?_⟩;let n:=K.length
 have Od:r.new.length≤100:=r2;let UE:=eV base (r.new.map (jk (fL K base)))
 have qk:∀k,au UE k=(if base≤k then(r.new.map (jk (fL K base)))[k-base]? else none):=fun k=>by simpa using qj base (r.new.map (jk (fL K base))) 0 k
 let Oe:Nat→Value:=fun k=>if base≤k∧k<base+r.new.length then gk (60000+(k-base)) else β k
 have Du:∀j,j<r.new.length→Oe (base+j)=gk (60000+j):=by
  intro j hj;simp only [Oe];rw [if_pos ⟨by omega,by omega⟩,Nat.add_sub_cancel_left]
 have pq:∀k,au UE k=none→Oe k=β k:=by
  intro k h;rw [qk k] at h;simp only [Oe];rw [if_neg];rintro⟨h1,h2⟩;rw [if_pos h1,List.getElem?_eq_none_iff,List.length_map] at h;omega
 have mg:∀k ab,au UE k=some ab→∃j b,k=base+j∧r.new[j]? =some b∧ab=jk (fL K base) b∧j<r.new.length:=by
  intro k ab h;rw [qk k] at h;split at h
  · rename_i hb;rw [List.getElem?_map,Option.map_eq_some_iff] at h;obtain⟨b,h1,h2⟩:=h;exact⟨k-base,b,by omega,h1,h2.symm,(List.getElem?_eq_some_iff.1 h1).1⟩
  · cases h
 have LC:∀k,(st.h k).isSome→au UE k=none:=by
  intro k hk;cases hh:au UE k with
  |none=>rfl
  |some y=>have :=(iK _ k y dj hh).1;rw [this] at hk;cases hk
 have CA:∀(i k:Nat),K[i]? =some k→(st.h k).isSome:=fun i k hi=>by obtain⟨_,_,h⟩:=fc i k hi;simp [h]
 have WE:∀(i k:Nat),K[i]? =some k→Oe k=β k:=fun i k hi=>pq k (LC k (CA i k hi))
 have hg:∀j,kOk r j=true→Oe (fL K base j)=gk j:=by
  intro j hj;simp only [kOk,Bool.or_eq_true,Bool.and_eq_true] at hj;rcases hj with⟨⟨h1,h2⟩,h3⟩|⟨h1,h2⟩
  · have h1:=Nat.le_of_ble_eq_true h1;obtain⟨i,rfl⟩:∃i,j=50000+i:=⟨j-50000,by omega⟩;rw [Nat.add_sub_cancel_left] at h3;split at h3
    · rename_i ab fE;have eM:=(List.getElem?_eq_some_iff.1 fE).1;obtain⟨k,hKi⟩:∃k,K[i]? =some k:=⟨_,List.getElem?_eq_getElem (by omega)⟩;obtain⟨_,g2⟩:=hp.kept _ _ fE
      have e:fL K base (50000+i)=k:=by
       unfold fL;rw [h2,cond_true,Nat.add_sub_cancel_left,List.getD,hKi];rfl
      rw [e,WE _ _ hKi,g2,Bl _ _ hKi]
    · cases h3
  · have h1:=Nat.le_of_ble_eq_true h1;have h2':j<60000+r.new.length:=Nat.le_of_ble_eq_true h2;obtain⟨i,rfl⟩:∃i,j=60000+i:=⟨j-60000,by omega⟩
    have hb:Nat.blt (60000+i) 60000=false :=by
     cases hb:Nat.blt (60000+i) 60000 with
     |false=>rfl
     |true=>have :60000+i<60000:=Nat.le_of_ble_eq_true hb;omega
    have e:fL K base (60000+i)=base+i:=by
     unfold fL;rw [hb,cond_false,Nat.add_sub_cancel_left]
    rw [e,Du _ (by omega)]
 have fJ:∀(i k:Nat),K[i]? =some k→(r.heap[i]? =some none∨∃b,r.heap[i]? =some (some b)):=by
  intro i k hi;have eM:=(List.getElem?_eq_some_iff.1 hi).1;have :i<r.heap.length:=by omega
  cases hh:r.heap[i] with
  |none=>exact .inl (by rw [List.getElem?_eq_getElem this,hh])
  |some b=>exact .inr ⟨b,by rw [List.getElem?_eq_getElem this,hh]⟩
 generalize nB:({cond:= [r.pre],res:=eD (fL K base) r.res,gw:=lO (fL K base) K r.heap++cm st.h fz,del:=qX K r.heap,new:=eV base (r.new.map (jk (fL K base))),raw:=K}:Out)=out;have o1:out.gw=lO (fL K base) K r.heap++cm st.h fz:=by rw [←nB]
 have o2:out.del=qX K r.heap:=by rw [←nB]
 have o3:out.new=UE:=by rw [←nB]
 have o4:out.raw=K:=by rw [←nB]
 have o5:out.res=eD (fL K base) r.res:=by rw [←nB]
 have htK:∀(i k:Nat),K[i]? =some k→kG st out k:=by
  intro i k hi;refine⟨CA i k hi,?_⟩;rcases fJ i k hi with hh|⟨b,hh⟩
  · right;rw [o2];exact j6.2 (sw.2 ⟨i,hi,hh⟩)
  · left;rw [o1,kK];have :=ui (g:=fL K base) hi hh;obtain⟨y,hy⟩:=Option.isSome_iff_exists.1 this;rw [hy];rfl
 have htF:∀j∈fz,kG st out j:=by
  intro j hj;refine⟨by obtain⟨_,_,_,_,hr⟩:=xu j hj;simp [hr], .inl ?_⟩;rw [o1,kK];cases au (lO (fL K base) K r.heap) j with
  |some y=>rfl
  |none=>exact mZ fz j hj (xu j hj)
 have hHM:∀b,HM WD K.length b→∃k,kG st out k∧ay (β k)=some b:=by
  rintro b ⟨i,hi,hb⟩;have e1:K[i]? =some K[i]:=List.getElem?_eq_getElem hi;rw [Bl i _ e1] at hb;exact⟨_,htK i _ e1,hb⟩
 rw [hl] at hp;have hK2:cP w w' A A2:=fun b hb=>hp.mono b (.inl hb);refine⟨A2,Oe,hB.Wc hd ?_ ?_ ?_ hK2 hp.os hp.tape hp.output hp.size ?_ hp.bound ?_ ?_ ?_ ?_ ?_ ?_⟩
 · rw [o3];exact fun k b h=>iK _ k b dj h
 · rw [o1];intro k b h;rw [kK] at h;split at h
   · rename_i y hy;obtain⟨i,_,h1,_⟩:=ql hy;exact CA i k h1
   · obtain⟨h1,e,row,l,fr,h2,_⟩:=gV fz k b h;simp [h2]
 · rw [o3];exact pq
 · intro b hb ht;refine hp.same b hb fun hm=> ?_;obtain⟨k,h1,h2⟩:=hHM b hm;exact ht k h1 h2
 · intro b hb;rcases Nat.lt_or_ge b w.heap.size with eM|Cd
   · rcases hp.kE b eM hb with(h|⟨j,hj,tU⟩)|hm
     · exact .inl h
     · exact .inr (.inr ⟨j,htF j hj,tU⟩)
     · exact .inr (.inr (hHM b hm))
   · exact .inr (.inl Cd)
 · intro k ab h _;rw [o1,kK] at h;split at h
   · rename_i y hy;simp only [Option.some.injEq] at h;subst h;obtain⟨i,b,h1,h2,rfl⟩:=ql hy
     have :tD out k (jk (fL K base) b)=jk (fL K base) b:=by
      simp only [tD,o4,j6.2 (List.mem_of_getElem? h1),cond_true]
     rw [this];obtain⟨g1,g2⟩:=hp.kept i b h2;refine JW (k:=50000+i) (fL K base) ((WE i k h1).trans (g2.trans (Bl i k h1)).symm) (fun j hj=>hg j (r3 j ?_)) g1;simp only [List.mem_append];exact .inr (.inl (xy h2 j hj))
   · obtain⟨hk,e,row,l,fr,lE,rfl⟩:=gV fz k ab h
     have hkK:aG K k=false :=by
      cases hh:aG K k with
      |false=>rfl
      |true=>exact absurd (j6.1 hh) (ahU k hk)
     simp only [tD,o4,hkK,cond_false];rw [jY];obtain⟨xs,h1,h2,h3⟩:=hB.blocks k _ lE;simp only [BR,pq k (LC k (by simp [lE]))];refine⟨xs,fS h1 (fun b hb=>(hp.mono b (.inr ⟨k,hk,hb⟩)).2),bE (fun c x hx=>bF hK2 row c x hx) l xs h2,fun b hb=> ?_⟩;simp only [if_true];exact(hp.mono b (.inr ⟨k,hk,hb⟩)).1
 · rw [o3];intro k ab h;obtain⟨j,b,rfl,h1,rfl,hj⟩:=mg k ab h;refine JW (k:=60000+j) (fL K base) (Du j hj) (fun i hi=>hg i (r3 i ?_)) (hp.rows j b h1).1;simp only [List.mem_append];exact .inr (.inr (xz h1 i hi))
 · rw [o3,o2];intro k b ab h hb;obtain⟨j,c,rfl,h1,rfl,hj⟩:=mg k ab h;rw [Du j hj] at hb;rcases(hp.rows j c h1).2 b hb with h|⟨i,hi,Lo⟩
   · exact .inl h
   · have e1:K[i]? =some K[i]:=List.getElem?_eq_getElem hi;have ahV:=Lo;rw [Bl i _ e1] at ahV;rcases fJ i _ e1 with hh|⟨c',hh⟩
     · exact .inr ⟨K[i],j6.2 (sw.2 ⟨i,e1,hh⟩),CA i _ e1,ahV⟩
     · exfalso;obtain⟨_,g2⟩:=hp.kept i c' hh;have :=hp.apart (50000+i) (60000+j) b (.inl ⟨i,c',rfl,by omega,hh⟩) (.inr ⟨j,rfl,hj⟩) (by rw [g2];exact Lo) hb;omega
 · rw [o3];intro k k' b h h' hb bA;obtain⟨x,hx⟩:=Option.isSome_iff_exists.1 h;obtain⟨y,hy⟩:=Option.isSome_iff_exists.1 h';obtain⟨j,c,rfl,h1,_,hj⟩:=mg k x hx;obtain⟨j',c',rfl,Uz,_,eJ⟩:=mg k' y hy;rw [Du j hj] at hb;rw [Du j' eJ] at bA;have :=hp.apart (60000+j) (60000+j') b (.inr ⟨j,rfl,hj⟩) (.inr ⟨j',rfl,eJ⟩) hb bA;omega
 · rw [o5];refine xx (fL K base) r.res v (fun k hk=>hg k (r3 k ?_)) hp.res;simp only [List.mem_append];exact .inl hk
theorem qY(hB:aF C A β st a w)(hA:∀b,A b→A' b):∀(m:List Bool) (cz:List AV) (args:List Value),af w A β args cz→(∀k∈(cT st.h m cz).2,∀b,ay (β k)=some b→A' b)→
  af w A' β args (cT st.h m cz).1∧∀k∈(cT st.h m cz).2,∃e row l fr,st.h k=some (.row e row l fr)
 |m,[],args,h,_=>by
  simp only [cT];exact⟨by simpa only [af] using h,fun k hk=>by cases hk⟩
 |m,x::xs,args,h,hk=>by
  simp only [af] at h;obtain⟨v,vs,rfl,h1,h2⟩:=h;cases hm:m.headD false with
  |true=>
   simp only [cT,hm,cond_true] at hk ⊢;obtain⟨g1,g2⟩:=qY hB hA m.tail xs vs h2 hk;refine⟨?_,g2⟩;simp only [af];exact⟨v,vs,rfl,iI (fun b hb=>⟨hA b hb,rfl⟩) x v h1,g1⟩
  |false=>
   simp only [cT,hm,cond_false] at hk ⊢;obtain⟨p1,p2⟩:=tW hB hA x v h1 (fun k dx=>hk k (List.mem_append_left _ dx));obtain⟨g1,g2⟩:=qY hB hA m.tail xs vs h2 (fun k dx=>hk k (List.mem_append_right _ dx));refine⟨?_,fun k dx=> ?_⟩
   · simp only [af];exact⟨v,vs,rfl,p1,g1⟩
   · rcases List.mem_append.1 dx with dx|dx
     · exact p2 k dx
     · exact g2 k dx
end
def LD(E:Env)(st:St)(o:Oper):Option Out:=match o.op with
 | .call c=>match c.callee with
   | .value f=>match ev st f,o.dst with
     | .fn (.func f) first bn,some d=>j5 E st.h (st.kb+d) f (first++(c.args.toList.map (ev st))++bn)
     | .fn (.func f) first bn,none=>j5 E st.h st.kb f (first++(c.args.toList.map (ev st))++bn)
     |_,_=>none
   |_=>none
 |_=>none
def Dv(E:Env)(st:St)(o:Oper):Option Out:=match Qo E st o with
 |some out=>some out
 |none=>LD E st o
section
variable {P:Program} {C:Ctx} {A A':Nat→Prop} {β aJ:Nat→Value} {st:St} {a:Act} {w:World} {E:Env} {T:bY}
theorem Bm(hE:fq P C E)(hB:aF C A β st a w) {o:Oper} {out:Out}(h:Dv E st o=some out)(jo:iu st o=true)(dj:iT st.h out.new=true)(hc:∀p∈out.cond,p)
  {K:Act→World→Prop} {Q:Exit→Act→World→Prop} (hK:∀a' w',Rel C (st.put o.dst out) a' w'→K a' w'):o.wp P a w K Q:=by
 unfold Dv at h;split at h
 · rename_i WC h0;simp only [Option.some.injEq] at h;subst h;exact LB hE hB h0 jo dj hc hK
 rename_i pq;clear pq
 have hd:∀t,o.dst=some t→t<st.n:=by
  intro t ht;unfold iu at jo;rw [ht] at jo;exact Nat.le_of_ble_eq_true jo
 obtain⟨dst,op,type,pos,after,guard⟩:=o;simp only at hd hK;unfold LD at h;simp only at h;split at h
 · rename_i c;obtain⟨callee,args,argTypes⟩:=c;split at h
   · rename_i f ahW;simp only at ahW;subst ahW;have hf:=aV hB f
     have key:∀(jF:FuncId) (first bn:List AV) (base:Nat),ev st f= .fn (.func jF) first bn→j5 E st.h base jF (first++(args.toList.map (ev st))++bn)=some out→
       Oper.wp P {dst,op:= .call {callee:= .value f,args,argTypes},type,pos,after,guard} a w K Q:=by
      intro jF first bn base pn je
      rw [pn] at hf;simp only [aa] at hf;obtain⟨a1,a2,JO,r1,r2⟩:=hf;unfold j5 at je;split at je
      · rename_i m s hs;obtain⟨hv,Oa⟩:=hE.oh jF m s hs;have bw:=dM _ _ _ _ (dM _ _ _ _ r1 (nE hB args.toList)) r2;obtain⟨p1,p2⟩:=qY (A':=bM A β (cT st.h m (first++(args.toList.map (ev st))++bn)).2) hB (fun b h=> .inl h) m _ _ bw (fun k hk b hb=> .inr ⟨k,hk,hb⟩);have qW:=JY hv hB hE.g hd p1 p2 je dj hc
        have gi:(execOp a.eval {dst,op:= .call {callee:= .value f,args,argTypes},type,pos,after,guard}).run P w= .ok (.enter jF (a1.toList++args.toList.map a.eval++a2.toList).toArray) w:=by
         have e:(a1++args.map a.eval)++a2=(a1.toList++args.toList.map a.eval++a2.toList).toArray:=by
          apply Array.ext';simp
         have :=Oa (a1++args.map a.eval++a2) w;rw [e] at this;simp only [execOp,resolve,JO,Deferred.ofValue,Sem.run_bind,Sem.run_pure,Result.andThen_ok,invoke,e,this]
        unfold Oper.wp;rw [gi];simp only [Oper.upon_enter];refine qW.mono fun e w' ⟨v,he,hrel⟩=> ?_;subst he;exact hK _ _ hrel
      · cases je
     split at h
     · rename_i jF first bn d pn
       exact key jF first bn _ pn h
     · rename_i jF first bn pn
       exact key jF first bn _ pn h
     · cases h
   · cases h
 · cases h
end
end Go.Vg

end
section
namespace Go.Vg
open Go
def nF:List AV→Option (List AV×Nat)
 | []=>none
 |a::r=>match r with
  | []=>match a with
    | .own k=>some ([],k)
    |_=>none
  |_::_=>match nF r with
   |some (x,k)=>some (a::x,k)
   |none=>none
def vK(E:Env)(h:aS)(t:TypeId):AV→AV→Option Out
 | .elem k sz i j, .agg cs=>match h k,nF cs with
   |some (.row e row l false),some (xs,k5)=>match h k5 with
    |some (.row _ _ _ false)=>bif E.gD t&&Nat.beq j 0&&Nat.beq sz row.length&&jX E.T t row.length&&Nat.blt 0 row.length&& !(Nat.beq k5 k) then
      match kp row (xs++ [.nil]) with
       |some x=>some {cond:= [i<l.length],res:= .undef,gw:= [(k, .gD e (some k5) row (l.set i x) i)]}
       |none=>none
     else none
    |_=>none
   |_,_=>none
 |_,_=>none
def oR(E:Env)(h:aS)(t:TypeId):AV→Option Out
 | .elem k sz i j=>match E.T.find t,h k with
   |some te,some (.gD _ (some k5) row l i0)=>match h k5 with
    |some (.row _ _ _ _)=>bif Nat.beq sz row.length&&Nat.beq j (row.length-1)&&Nat.blt 0 row.length then
      match pick te [.own k5] 0 with
       |some a=>some {cond:= [i<l.length,i=i0],res:=a}
       |none=>none
     else none
    |_=>none
   |_,_=>none
 |_=>none
def rD(E:Env)(h:aS)(t:TypeId):AV→AV→Option Out
 | .own k, .int _ i=>match h k with
   |some (.gD _ _ row l _)=>bif br E.T t row.length then some {cond:= [0≤i∧i<(l.length:Int)],res:= .elem k row.length i.toNat 0} else none
   |_=>none
 |_,_=>none
def closing(h:aS)(k:Nat):Option (Prop×List (Nat×AB)):=match h k with
 |some (.gD e (some k5) row l i)=>match h k5 with
  |some (.row e5 qm l5 false)=>bif Nat.blt 0 row.length&& !(Nat.beq k5 k) then match nv row (l.getD i (Row.zero row)) (row.length-1) [.sl qm l5] with
    |some y=>some (i<l.length,[(k, .row e row (l.set i y) false),(k5, .row e5 qm l5 true)])
    |none=>none
   else none
  |_=>none
 |_=>none
def isNil {α:Type}:List α→Bool
 | []=>true
 |_::_=>false
def rE(E:Env)(h:aS)(o:Oper):Option (Prop×List (Nat×AB)):=match o.dst with
 |some d=>match E.cls d with
  |some k=>closing h k
  |none=>none
 |none=>none
def LF(E:Env)(st:St)(o:Oper):Option Out:=match rE E st.h o with
 |some (c,u)=>match Dv E st o with
  |some out=>bif isNil out.gw&&isNil out.del&&isNil out.new&&isNil out.raw then some {out with cond:=c::out.cond,gw:=u} else none
  |none=>none
 |none=>match o.op with
  | .store t p v=>vK E st.h t (ev st p) (ev st v)
  | .load t p=>oR E st.h t (ev st p)
  | .indexAddr t x i=>rD E st.h t (ev st x) (ev st i)
  |_=>none
def act(E:Env)(st:St)(o:Oper):Option Out:=match LF E st o with
 |some out=>some out
 |none=>Dv E st o
section
variable {P:Program} {C:Ctx} {A A':Nat→Prop} {β aJ:Nat→Value} {st:St} {a:Act} {w:World} {E:Env} {T:bY}
theorem yO:∀(cs:List AV) (vs:List Value) (xs:List AV) (k:Nat),nF cs=some (xs,k)→af w A β vs cs→∃us,vs=us++ [β k]∧af w A β us xs∧(β k).oneCell'=true
 | [],vs,xs,k,h,_=>by cases h
 |a::r,vs,xs,k,h,hr=>by
  simp only [af] at hr;obtain⟨v,bK,rfl,h1,h2⟩:=hr;unfold nF at h;cases r with
  |nil=>
   simp only [af] at h2;subst h2;cases a with
   |own k'=>
    simp only [Option.some.injEq,Prod.mk.injEq] at h;obtain⟨rfl,rfl⟩:=h;simp only [aa] at h1;exact⟨[],by rw [h1.1];rfl,by simp [af],by rw [←h1.1];exact h1.2⟩
   |_=>cases h
  |cons b r=>
   simp only at h;split at h
   · rename_i x k' hl;simp only [Option.some.injEq,Prod.mk.injEq] at h;obtain⟨rfl,rfl⟩:=h;obtain⟨us,e1,e2,e3⟩:=yO (b::r) bK x k' hl h2;refine⟨v::us,by rw [e1];rfl,?_,e3⟩;simp only [af];exact⟨v,us,rfl,h1,e2⟩
   · cases h
theorem WG {α:Type}(p s:List α)(x y:α):(p++x::s).set p.length y=p++y::s:=by
 rw [List.set_append_right _ _ (Nat.le_refl _),Nat.sub_self];rfl
theorem vL {α:Type}:∀(l:List α) (i:Nat) (x:α),l[i]? =some x→l.set i x=l
 | [],_,_,h=>by simp at h
 |a::l,0,x,h=>by simp at h;rw [h];rfl
 |a::l,i+1,x,h=>by
  rw [List.set_cons_succ,vL l i x (by simpa using h)]
theorem xA(hB:aF C A β st a w) {k e i:Nat} {j:Option Nat} {row:List Ty} {l:List (Row row)}(h:st.h k=some (.gD e j row l i)):
  (β k= .slice none 0 0∧l= [])∨∃b cap cur v0,β k= .slice (some ⟨b,0,none⟩) l.length cap∧w.heap[b]? =some (.cells cur e (0,0))∧l.length≤cap∧cap≤maxLen∧cur.size=cap*row.length∧¬A b∧
    b9 (bk w A row) ((cur.toList.take (l.length*row.length)).set (i*row.length+(row.length-1)) v0) l∧
    ∀j',j=some j'→(cur.toList.take (l.length*row.length))[i*row.length+(row.length-1)]? =some (β j'):=by
 obtain⟨xs,v0,h1,h2,h3,h4⟩:=hB.blocks k _ h;rcases h1.2 with⟨hv,hn⟩|⟨g,cap,cur,hv,_,hg,g4,g5,g6,g7⟩
 · exact .inl ⟨hv,List.eq_nil_of_length_eq_zero hn⟩
 · exact .inr ⟨g,cap,cur,v0,hv,hg,g4,g5,g6,h2 g (by rw [hv];rfl),by rw [g7];exact h3,by rw [g7];exact h4⟩
theorem Dw(hB:aF C A β st a w) {k e:Nat} {row:List Ty} {l:List (Row row)} {fr:Bool}(h:st.h k=some (.row e row l fr)):(β k).oneCell'=true :=by
 rcases eC hB h with⟨h1,_⟩|⟨b,cap,cur,h1,_⟩<;>rw [h1]<;>rfl
theorem Cg(hT:bx E.T P)(hB:aF C A β st a w) {t:TypeId} {x:AV} {vx:Value}(hx:aa w A β vx x) {out:Out}(h:oR E st.h t x=some out)(hc:∀p∈out.cond,p):
  Reads P A β w (Instr.loadAt t vx) out:=by
 unfold oR at h;split at h
 · rename_i k sz i j;split at h
   · rename_i te e k5 row l i0 ht hk;split at h
     · rename_i e5 qm l5 fr5 tv;cases hq:(Nat.beq sz row.length&&Nat.beq j (row.length-1)&&Nat.blt 0 row.length) with
       |false=>simp [hq] at h
       |true=>
        simp only [hq,cond_true] at h;simp only [Bool.and_eq_true] at hq;obtain⟨⟨q1,q2⟩,q3⟩:=hq;have q1:=Nat.eq_of_beq_eq_true q1;have q2:=Nat.eq_of_beq_eq_true q2;subst q1;subst q2;split at h
        · rename_i av WB;simp only [Option.some.injEq] at h;subst h;have hi:i<l.length:=hc _ (by simp);have hU:i=i0:=hc _ (by simp);subst hU;simp only [aa] at hx;obtain⟨b,m,cap,bZ,rfl⟩:=hx;rcases xA hB hk with⟨_,hl⟩|⟨b',im,cur,v0,hv,hg,hle,rC,dc,jy,hL,hch⟩
          · subst hl;simp at hi
          · rw [bZ] at hv;simp only [Value.slice.injEq,Option.some.injEq,Addr.mk.injEq,and_true] at hv;obtain⟨rfl,rfl,rfl⟩:=hv;have kz:=hch k5 rfl;rw [List.getElem?_take] at kz;split at kz
            · have hr:w.rangeAt b (i*row.length+(row.length-1)) [β k5]:=by
               intro jj u hj;cases jj with
               |zero=>
                simp only [List.getElem?_cons_zero,Option.some.injEq] at hj;subst hj;simp [World.cell?,hg];simpa using kz
               |succ jj=>simp at hj
              have JV:af w A β [β k5] [.own k5]:=by
               simp only [af];exact⟨_,[],rfl,⟨rfl,Dw hB tv⟩,rfl⟩
              obtain⟨v',g1,g2⟩:=lf (β:=β) hT ht JV WB hr;rw [Nat.add_zero] at g1;exact⟨⟨rfl,rfl,rfl⟩,v',g1,g2⟩
            · cases kz
        · cases h
     · cases h
   · cases h
 · cases h
theorem Dx(hT:bx E.T P)(hB:aF C A β st a w) {t:TypeId} {x i:AV} {vx vi:Value}(hx:aa w A β vx x)(hi:aa w A β vi i) {out:Out}
  (h:rD E st.h t x i=some out) (hc:∀p∈out.cond,p):Reads P A β w (Instr.indexAt t vx vi) out:=by
 unfold rD at h;split at h
 · rename_i k kk n;split at h
   · rename_i e' j row l i0 hk;cases hs:br E.T t row.length with
     |false=>simp [hs] at h
     |true=>
      simp only [hs,cond_true,Option.some.injEq] at h;subst h;obtain⟨h0,h1⟩:=dL hc;obtain⟨e,ii,hu,hU,cU,iJ⟩:=eB hT hs;simp only [aa] at hx hi;rcases xA hB hk with⟨_,hl⟩|⟨b,cap,cur,v0,hv,_⟩
      · subst hl;simp at h1;omega
      · refine⟨⟨rfl,rfl,rfl⟩, .pointer (some ⟨b,0+n.toNat*row.length,none⟩),?_,?_⟩
        · rw [hx.1,hv,hi.1,run_indexAt hu hU b 0 l.length cap kk n h0 h1,cU]
        · simp only [aa];exact⟨b,_,cap,hv,by simp⟩
   · cases h
 · cases h
theorem GG(hT:bx E.T P)(hB:aF C A β st a w) {dst:Option Nat}(hd:∀t,dst=some t→t<st.n) {t:TypeId} {p x:AV} {vp vx:Value}(hp:aa w A β vp p)(hx:aa w A β vx x) {out:Out}
  (h:vK E st.h t p x=some out) (hc:∀p∈out.cond,p):∃w',(Instr.storeAt t vp vx).run P w= .ok () w'∧Rel C (st.put dst out) (a.put dst undef) w':=by
 unfold vK at h;split at h
 · rename_i k sz i j cs;split at h
   · rename_i e row l xs k5 hk JZ;split at h
     · rename_i e5 qm l5 tv;cases hq:(E.gD t&&Nat.beq j 0&&Nat.beq sz row.length&&jX E.T t row.length&&Nat.blt 0 row.length&& !(Nat.beq k5 k)) with
       |false=>simp [hq] at h
       |true=>
        simp only [hq,cond_true] at h;simp only [Bool.and_eq_true] at hq;obtain⟨⟨⟨⟨⟨_,q0⟩,q1⟩,q2⟩,q3⟩,q4⟩:=hq;have q0:=Nat.eq_of_beq_eq_true q0;have q1:=Nat.eq_of_beq_eq_true q1;subst q0;subst q1;have q3:=Nat.le_of_ble_eq_true q3;split at h
        · rename_i y hy;simp only [Option.some.injEq] at h;subst h;have hi:i<l.length:=dL hc;simp only [aa] at hp hx;obtain⟨b,m,cap,bZ,rfl⟩:=hp;obtain⟨arr,rfl,hx⟩:=hx;obtain⟨us,e1,e2,e3⟩:=yO cs arr.toList xs k5 JZ hx;rcases eC hB hk with⟨_,hl⟩|⟨b',im,cur,hv,hg,hle,rC,dc,hL,jy⟩
          · subst hl;simp at hi
          · rw [bZ] at hv;simp only [Value.slice.injEq,Option.some.injEq,Addr.mk.injEq,and_true] at hv;obtain⟨rfl,rfl,rfl⟩:=hv;simp only [Bool.false_eq_true,if_false] at jy;have hb:ay (β k)=some b:=by rw [bZ];rfl
            obtain⟨ii,hU,oi⟩:=pd hT q2
            have WH:bk w A row (us++ [Value.slice none 0 0]) y:=by
             refine pg (β:=β) row (xs++ [.nil]) _ y ?_ hy;refine tK xs [.nil] us _ e2 ?_;simp only [af,aa];exact⟨_,[],rfl,rfl,rfl⟩
            have hlen:us.length+1=row.length:=by
             have :=fT row _ y WH;simpa using this
            have nW:arr.size=ii.size:=by
             have :arr.toList.length=arr.size:=by simp
             rw [oi,←this,e1];simp;omega
            have gY:∀u∈arr.toList,u.oneCell'=true :=by
             intro u hu;rw [e1] at hu;rcases List.mem_append.1 hu with hu|hu
             · exact tP row _ y WH u (List.mem_append_left _ hu)
             · rw [List.mem_singleton.1 hu];exact e3
            have yJ:l.length*row.length≤cur.size:=by rw [dc];exact Nat.mul_le_mul_right _ hle
            have hyy:∀c,bk w A row c l[i]→bk w A row (c.take 0++(us++ [Value.slice none 0 0])++c.drop (0+(us++ [Value.slice none 0 0]).length)) y∧((us++ [Value.slice none 0 0])≠ []→0+(us++ [Value.slice none 0 0]).length≤c.length):=fun c nZ=>by
             have gG:=fT row c _ nZ;have :(us++ [Value.slice none 0 0]).length=row.length:=by simpa using hlen
             rw [this,Nat.zero_add,List.drop_eq_nil_of_le (by omega),List.take_zero,List.nil_append,List.append_nil];exact⟨WH,fun _=>by omega⟩
            rcases De hi hL hyy yJ with⟨g1,g2,g3⟩|nY
            · have hul:(us++ [Value.slice none 0 0]).length=row.length:=by simpa using hlen
              have hal:arr.toList.length=row.length:=by rw [e1];simpa using hlen
              rw [hul] at g3
              have pa:i*row.length+0+arr.size≤cur.size:=by
               have :arr.toList.length=arr.size:=by simp
               omega
              have gI:(Value.agg arr).cells=arr:=rfl;refine⟨_,lN hU (v:= .agg arr) (by rw [gI];exact nW) (by rw [gI];exact gY) hg (by rw [gI];exact pa),?_⟩;rw [gI];refine hB.write hd (k:=k) (fz:= []) (ab:= .gD e (some k5) row (l.set i y) i) (by simp [hk]) hb jy hg ⟨rfl,rfl,rfl⟩ (by simp) ?_ (by simp [aa]);intro A2 h1 h2 h3
              have Db:∀b',A2 b'→A b':=fun b' h=>by
               rcases h2 b' h with h|⟨q,hq,_⟩
               · exact h
               · simp at hq
              have Ob:cP w (w.setRow b (cur.toList.take (i*row.length+0)++arr.toList++cur.toList.drop (i*row.length+0+arr.toList.length)).toArray) A A2:=fun b' h=>⟨h1 b' h,setRow_other w b b' _ (fun h'=>jy (h'▸h))⟩
              have hP:cur.toList.take (i*row.length+0)++arr.toList++cur.toList.drop (i*row.length+0+arr.toList.length)=(cur.toList.take (i*row.length)++us)++β k5::cur.toList.drop (i*row.length+row.length):=by
               rw [e1] at hal ⊢;simp only [Nat.add_zero,hal,List.append_assoc,List.singleton_append]
              have hPl:(cur.toList.take (i*row.length)++us).length=i*row.length+(row.length-1):=by
               have gG:cur.toList.length=cur.size:=by simp
               have awA:arr.toList.length=arr.size:=by simp
               rw [List.length_append,List.length_take,gG,Nat.min_eq_left (by omega)];omega
              have eM:i*row.length+row.length≤l.length*row.length:=by
               have :(i+1)*row.length≤l.length*row.length:=Nat.mul_le_mul_right _ hi;rwa [Nat.add_mul,Nat.one_mul] at this
              refine⟨_, .slice none 0 0,⟨?_, .inr ⟨b,cap,_,by rw [bZ];simp,by omega,setRow_heap w b cur _ e _ hg,by simpa using hle,rC,?_,rfl⟩⟩,fun b' bA=> ?_,?_,fun j' eJ=> ?_⟩
              · rw [List.length_take];refine Nat.min_eq_left ?_;rw [List.length_set];simp only [hP,List.length_append,List.length_cons,List.length_take,List.length_drop,Array.length_toList];simp only [List.length_append,List.length_take,Array.length_toList] at hPl;omega
              · simp only [hP,List.size_toArray,List.length_append,List.length_cons,List.length_take,List.length_drop,Array.length_toList];simp only [List.length_append,List.length_take,Array.length_toList] at hPl;rw [←dc];omega
              · rw [hb] at bA;simp only [Option.some.injEq] at bA;subst bA;exact fun h=>jy (Db _ h)
              · simp only [List.length_set]
                have hg2:(cur.toList.take (i*row.length+0)++(us++ [Value.slice none 0 0])++cur.toList.drop (i*row.length+0+(us++ [Value.slice none 0 0]).length))=(cur.toList.take (i*row.length)++us)++Value.slice none 0 0::cur.toList.drop (i*row.length+row.length):=by
                 simp only [Nat.add_zero,hul,List.append_assoc,List.singleton_append]
                have g2':=g2;simp only [hg2] at g2';simp only [hP] at Ob ⊢;rw [←List.take_set,←hPl,WG];exact bE (fun c x hx=>bF Ob row c x hx) _ _ g2'
              · simp only [Option.some.injEq] at eJ;subst eJ;simp only [List.length_set,hP];rw [List.getElem?_take,if_pos (by omega),←hPl,List.getElem?_append_right (Nat.le_refl _),Nat.sub_self];rfl
            · simp at nY
        · cases h
     · cases h
   · cases h
 · cases h
theorem aF.close(hB:aF C A β st a w) {k e k5 e5 i:Nat} {row qm:List Ty} {l:List (Row row)} {l5:List (Row qm)} {y:Row row}
  (hk:st.h k=some (.gD e (some k5) row l i)) (tv:st.h k5=some (.row e5 qm l5 false)) (dD:k5≠k) (iJ:0<row.length) (hi:i<l.length)
  (hy:nv row (l.getD i (Row.zero row)) (row.length-1) [.sl qm l5]=some y) {bQ:St} (hn:bQ.n=st.n) (ht:bQ.t=st.t) (hg:bQ.g=st.g)
  (hh:∀q,bQ.h q=if q=k then some (.row e row (l.set i y) false) else if q=k5 then some (.row e5 qm l5 true) else st.h q):Rel C bQ a w:=by
 let A1:Nat→Prop :=fun b=>A b∨ay (β k5)=some b
 have hK:cP w w A A1:=fun b h=>⟨.inl h,rfl⟩
 have WI:∀q,(bQ.h q).isSome↔(st.h q).isSome:=by
  intro q;rw [hh];by_cases h1:q=k
  · subst h1;simp [hk]
  · by_cases h2:q=k5
    · subst h2;simp [h1,tv]
    · simp [h1,h2]
 have ahX:(me st.h (.own k5))=(.sl qm l5,[k5]):=by simp [me,fD,tv]
 have nD:aa w A1 β (β k5) (.sl qm l5):=by
  have :=(tW (A':=A1) hB (fun b h=> .inl h) (.own k5) (β k5) (by simp only [aa];exact⟨trivial,Dw hB tv⟩) (fun q hq b hb=>by
   rw [ahX] at hq;rw [List.mem_singleton.1 hq] at hb;exact .inr hb)).1
  rw [ahX] at this;exact this
 have auQ:∀b,ay (β k5)=some b→¬A b:=by
  intro b hb;obtain⟨xs,_,_,h3⟩:=hB.blocks k5 _ tv;have :=h3 b hb;simpa using this
 refine⟨A1,β,?_⟩;refine⟨hB.defers,by rw [hn];exact hB.size,fun q=>by rw [ht];exact iI hK _ _ (hB.tmps q),fun q ab hq=> ?_,fun q q' b h1 h2=>hB.apart q q' b ((WI q).1 h1) ((WI q').1 h2),fun b hb=> ?_,hB.frame,fun b hb hA=> ?_,fun b hb=> .inl (hB.base b hb),fun q b hq hb=>hB.nA q b ((WI q).1 hq) hb,fun q d hq=>hB.qO q d (by rw [←hg];exact hq),fun q d hd=>(hB.laid q d hd).mono hK,hB.held⟩
 · rw [hh] at hq;by_cases h1:q=k
   · subst h1;rw [if_pos rfl] at hq;simp only [Option.some.injEq] at hq;subst hq;rcases xA hB hk with⟨_,hl⟩|⟨b,cap,cur,v0,hv,hgc,hle,rC,dc,jy,hL,hch⟩
     · subst hl;simp at hi
     · have hN:(cur.toList.take (l.length*row.length)).length=l.length*row.length:=by
        have gG:cur.toList.length=cur.size:=by simp
        have :l.length*row.length≤cap*row.length:=Nat.mul_le_mul_right _ hle;rw [List.length_take];omega
       have kz:=hch k5 rfl;have hL1:=bE (fun c x hx=>bF hK row c x hx) l _ hL;rw [getD_eq l _ _ hi] at hy
       have tf:=De (A:=A1) (w:=w) (i:=i) (j:=row.length-1) (cur:=((cur.toList.take (l.length*row.length)).set (i*row.length+(row.length-1)) v0).toArray) (us:= [β k5]) (y:=y) hi (by
        simp only [List.take_of_length_le (show((cur.toList.take (l.length*row.length)).set (i*row.length+(row.length-1)) v0).length≤l.length*row.length by rw [List.length_set];omega)];exact hL1) (fun c hc=>by
        have :=sr (β:=β) row [.sl qm l5] l[i] (row.length-1) c [β k5] y hc (by simp only [af];exact⟨_,[],rfl,nD,rfl⟩) hy;exact this) (by simp only [List.size_toArray,List.length_set];omega)
       rcases tf with⟨g1,g2,g3⟩|nY
       · refine⟨cur.toList.take (l.length*row.length),⟨by rw [List.length_set];exact hN, .inr ⟨b,cap,cur,by rw [hv];simp,by omega,hgc,by rw [List.length_set];exact hle,rC,dc,by rw [List.length_set]⟩⟩,?_,fun b' bA=> ?_⟩
         · have hp:i*row.length+(row.length-1)<l.length*row.length:=by
            have :(i+1)*row.length≤l.length*row.length:=Nat.mul_le_mul_right _ hi;rw [Nat.add_mul,Nat.one_mul] at this;omega
           have dj:((cur.toList.take (l.length*row.length)).set (i*row.length+(row.length-1)) v0).take (i*row.length+(row.length-1))++ [β k5]++((cur.toList.take (l.length*row.length)).set (i*row.length+(row.length-1)) v0).drop (i*row.length+(row.length-1)+ [β k5].length)=cur.toList.take (l.length*row.length):=by
            have h2:((cur.toList.take (l.length*row.length)).set (i*row.length+(row.length-1)) v0).set (i*row.length+(row.length-1)) (β k5)=cur.toList.take (l.length*row.length):=by
             rw [List.set_set];exact vL _ _ _ kz
            rw [List.set_eq_take_append_cons_drop,if_pos (by rw [List.length_set,hN];exact hp)] at h2;simpa using h2
           simp only [dj] at g2;rw [List.take_of_length_le (by omega)] at g2;exact g2
         · rw [hv] at bA;simp only [ay,Option.some.injEq] at bA;subst bA;simp only [Bool.false_eq_true,if_false];rintro(h|h)
           · exact jy h
           · exact dD (hB.apart k5 q b (by simp [tv]) (by simp [hk]) h (by rw [hv];rfl))
       · simp at nY
   · rw [if_neg h1] at hq;by_cases h2:q=k5
     · subst h2;rw [if_pos rfl] at hq;simp only [Option.some.injEq] at hq;subst hq;obtain⟨xs,g1,g2,g3⟩:=hB.blocks q _ tv;refine⟨xs,g1,bE (fun c x hx=>bF hK qm c x hx) _ _ g2,fun b hb=> ?_⟩;simp only [if_true];exact .inr hb
     · rw [if_neg h2] at hq
       have :=tI (w':=w) (A':=A1) (aJ:=β) (new:= []) (k:=q) (fun _ _=>rfl) rfl (fun b hb=>⟨rfl,fun h=>by
        rcases h with h|h
        · exact h
        · exact absurd (hB.apart q k5 b (by simp [hq]) (by simp [tv]) hb h) h2⟩) hK (hB.blocks q ab hq)
       simpa [cJ] using this
 · rcases hb with hb|hb
   · exact hB.bound b hb
   · exact kJ hB (by simp [tv]) hb
 · rcases hA with hA|hA
   · exact hB.kE b hb hA
   · rcases hB.nA k5 b (by simp [tv]) hA with h|h
     · omega
     · exact .inr h
theorem vM {α:Type}:∀ {l:List α},isNil l=true→l= []
 | [],_=>rfl
 |_::_,h=>by cases h
theorem Of(hE:fq P C E)(hB:aF C A β st a w) {o:Oper} {out:Out}(h:act E st o=some out)(jo:iu st o=true)(dj:iT st.h out.new=true)(hc:∀p∈out.cond,p)
  {K:Act→World→Prop} {Q:Exit→Act→World→Prop} (hK:∀a' w',Rel C (st.put o.dst out) a' w'→K a' w'):o.wp P a w K Q:=by
 unfold act at h;split at h
 · rename_i WC h0;simp only [Option.some.injEq] at h;subst h
   have hd:∀t,o.dst=some t→t<st.n:=by
    intro t ht;unfold iu at jo;rw [ht] at jo;exact Nat.le_of_ble_eq_true jo
   unfold LF at h0;split at h0
   · rename_i c u gG;split at h0
     · rename_i LG h1;cases hq:(isNil LG.gw&&isNil LG.del&&isNil LG.new&&isNil LG.raw) with
       |false=>simp [hq] at h0
       |true=>
        simp only [hq,cond_true,Option.some.injEq] at h0;subst h0;simp only [Bool.and_eq_true] at hq;obtain⟨⟨⟨q1,q2⟩,q3⟩,q4⟩:=hq;have q1:=vM q1;have q2:=vM q2;have q3:=vM q3;have q4:=vM q4;have hcc:c:=hc c (by simp);refine Bm hE hB h1 jo (by simpa using dj) (fun p hp=>hc p (by simp [hp])) (fun a' w' hr=>hK a' w' ?_);obtain⟨A',aJ,Og⟩:=hr
        have LH:∀q,(st.put o.dst LG).h q=st.h q:=by
         intro q;simp only [St.put,CY,q1,q2,q3,au,aG];cases st.h q with
         |none=>simp
         |some ab=>simp [cJ]
        have :∃k,closing st.h k=some (c,u):=by
         unfold rE at gG;split at gG
         · split at gG
           · exact⟨_,gG⟩
           · cases gG
         · cases gG
        obtain⟨k,gG⟩:=this;unfold closing at gG;split at gG
        · rename_i e k5 row l i hk;split at gG
          · rename_i e5 qm l5 tv;cases UF:(Nat.blt 0 row.length&& !(Nat.beq k5 k)) with
            |false=>simp [UF] at gG
            |true=>
             simp only [UF,cond_true] at gG;simp only [Bool.and_eq_true,Bool.not_eq_true'] at UF;split at gG
             · rename_i y hy;simp only [Option.some.injEq,Prod.mk.injEq] at gG;obtain⟨rfl,rfl⟩:=gG;have dD:k5≠k:=fun h=>by rw [h] at UF;simp at UF
               refine aF.close Og (k:=k) (k5:=k5) (by rw [LH];exact hk) (by rw [LH];exact tv) dD (Nat.le_of_ble_eq_true UF.1) hcc hy rfl ?_ rfl (fun q=> ?_)
               · simp [St.put,q3]
               · rw [LH];simp only [St.put,CY,q2,q3,au,aG,tD,q4];by_cases e1:q=k
                 · subst e1;simp [cJ]
                 · by_cases e2:q=k5
                   · subst e2;simp [e1,aR e1,cJ]
                   · simp only [aR e1,aR e2,cond_false,if_neg e1,if_neg e2];cases st.h q with
                     |none=>rfl
                     |some ab=>simp [cJ]
             · cases gG
          · cases gG
        · cases gG
     · cases h0
   · rename_i pq;clear pq;obtain⟨dst,op,type,pos,after,guard⟩:=o;simp only at hd hK h0;split at h0
     · rename_i t p v;obtain⟨w',g1,g2⟩:=GG hE.fK hB hd (aV hB p) (aV hB v) h0 hc;refine ry (w':=w') ?_ (hK _ _ g2);simp only [execOp,Sem.run_bind,g1,Result.andThen_ok,Sem.run_pure]
     · rename_i t p;exact cw (s:=Instr.loadAt t (a.eval p)) (fun w=>by simp [execOp]) (Reads.pj hB hd (Cg hE.fK hB (aV hB p) h0 hc)) hK
     · rename_i t x i;exact cw (s:=Instr.indexAt t (a.eval x) (a.eval i)) (fun w=>by simp [execOp]) (Reads.pj hB hd (Dx hE.fK hB (aV hB x) (aV hB i) h0 hc)) hK
     · cases h0
 · exact Bm hE hB h jo dj hc hK
end
end Go.Vg

end
section
namespace Go.Vg
open Go
mutual
def aI(p:Nat→Bool):AV→AV
 | .own k=>bif p k then .c5 else .own k
 | .pre k n=>bif p k then .c5 else .pre k n
 | .view k sz off n=>bif p k then .c5 else .view k sz off n
 | .ref k off=>bif p k then .c5 else .ref k off
 | .elem k sz i j=>bif p k then .c5 else .elem k sz i j
 | .agg cs=> .agg (dY p cs)
 | .cD vs=> .cD (dY p vs)
 | .fn f first bn=> .fn f (dY p first) (dY p bn)
 | .gf ks cs=> .gf ks (dY p cs)
 |a=>a
def dY(p:Nat→Bool):List AV→List AV
 | []=> []
 |a::aH=>aI p a::dY p aH
end
def eE(p:Nat→Bool):Option Nat→Option Nat
 |some k=>bif p k then none else some k
 |none=>none
def dm(p:Nat→Bool):AB→AB
 | .cells cs=> .cells (dY p cs)
 | .views e j n m sz=> .views e (eE p j) n m sz
 | .gD e j row l i=> .gD e (eE p j) row l i
 |b=>b
def cn(p:Nat→Bool):Option AB→Option AB
 |some b=>some (dm p b)
 |none=>none
def KS.has(kb:Nat):KS→Nat→Bool
 | .one j,k=>Nat.beq k j
 | .dst d,k=>Nat.beq k (kb+d) || (Nat.ble (ly (kb+d)) k&&Nat.blt k (ly (kb+d)+100))
def ct(kb:Nat):List KS→Nat→Bool
 | [],_=>false
 |x::r,k=>x.has kb k || ct kb r k
def J0(ops:List Oper)(j:Nat):Option Nat:=match ops[j]? with
 |some o=>o.dst
 |none=>none
def nG(ops:List Oper)(i:Nat):Bool:=ops.any fun o=>match o.guard with
 |some (j,_)=>Nat.beq j i
 |none=>false
def LI(ops:List Oper)(t:Nat→AV)(o:Oper):Option Bool:=match o.guard with
 |none=>some true
 |some (j,want)=>match J0 ops j with
  |none=>none
  |some g=>match t g with
   | .tt=>some want
   | .ff=>some (!want)
   | .undef=>some false
   |_=>none
def kL:List Oper→List Nat
 | []=> []
 |o::r=>match o.dst with
  |some d=>d::kL r
  |none=>kL r
def Out.wr(o:Out):List Nat:=o.gw.map (·.1)++(o.del++o.new.map (·.1))
def Out.xB(o:Out):List Nat:=aA o.res++(uf o.gw++uf o.new)
def Out.skip:Out:= {cond:= [],res:= .undef}
def pr(a b:List Nat):Bool:=a.all fun k=> !aG b k
structure Ev where
 i:Nat
 o:Oper
 out:Option Out
 kr:List Nat
 pre:List Nat
def Ev.dn(e:Ev):Out:=match e.out with
 |some out=>out
 |none=> .skip
def qn(st:St)(o:Oper):List Nat:=match o.op with
 | .call _=>behind st.h (aM (o.op.operands.toList.map (ev st)))
 |_=> []
def fg(h:aS):List Nat→List Nat
 | []=> []
 |k::r=>match h k with
  |some (.gD _ (some j) _ _ _)=>j::fg h r
  |_=>fg h r
def nH(E:Env)(h:aS)(o:Oper):List Nat:=match o.dst with
 |some d=>match E.cls d with
  |some k=>k::fg h [k]
  |none=> []
 |none=> []
def kM(E:Env)(st:St)(o:Oper):List Nat:=(match o.dst with
 |some d=>st.kb+d
 |none=>st.kb)::(aM (o.op.operands.toList.map (ev st))++(qn st o++(fg st.h (aM (o.op.operands.toList.map (ev st)))++nH E st.h o)))
def slotsOf:List Operand→List Nat
 | []=> []
 | .tmp i::r=>i::slotsOf r
 |_::r=>slotsOf r
def looks(ops:List Oper)(o:Oper):List Nat:=(match o.guard with
 |some (j,_)=>match J0 ops j with
  |some g=> [g]
  |none=> []
 |none=> [])++slotsOf o.op.operands.toList
def waits(f e:Ev):Bool:=aG f.pre e.i
def yP:List Nat→List Nat→List Nat
 | [],b=>b
 |k::r,b=>bif aG b k then yP r b else yP r (k::b)
def J1(k:Nat):List Ev→List Nat
 | []=> []
 |e::r=>bif Nat.beq e.i k then e.pre else J1 k r
def lp(tr:List Ev):List Edge→List Nat
 | []=> []
 |x::r=>bif Region.binds .any x then yP (x.on::J1 x.on tr) (lp tr r) else lp tr r
def yQ(l:List Nat):Option Nat→Bool
 |some d=> !aG l d
 |none=>true
def oA(ops:List Oper)(e f:Ev):Bool:=
 yQ (looks ops f.o) e.o.dst&&yQ (looks ops e.o) f.o.dst&&
 (match e.o.dst,f.o.dst with
   |some d,some d'=> !Nat.beq d d'
   |_,_=>true)&&
 pr e.dn.wr f.kr&&pr f.dn.wr e.kr&&pr e.dn.wr f.dn.wr&&pr e.dn.xB (f.dn.new.map (·.1))&&pr f.dn.xB (e.dn.new.map (·.1))
def wQ(kb:Nat)(dr:Bool)(ops:List Oper)(tr:List Ev)(f:Ev):Bool:=
 bif dr then(tr.all fun e=>pr e.dn.xB (f.dn.new.map (·.1))&&(waits f e || oA ops e f))&&(f.o.after.toList.all fun x=> !Region.binds .any x || Nat.blt x.on f.i)&&
  (f.dn.new.all fun x=>ct kb ((kL ops).map .dst) x.1) else true
def Dy:AV→AV
 | .bool b=>bif b then .tt else .ff
 |a=>a
def St.lit(st:St)(d:Nat)(a:AV):St:= {st with t:=fun i=>bif Nat.beq i d then a else st.t i,bL:= [],news:= [],A9:= []}
def St.clear(st:St):St:= {st with bL:= [],news:= [],A9:= []}
def rF(b:Bool)(W:List Nat)(base s1 s2:St):Option St:=
 match s1.A9,s2.A9 with
 | [],[]=>some {base with
     t:=fun i=>bif aG W i then yn b (s1.t i) (s2.t i) else aI (ct base.kb (s1.news++s2.news)) (base.t i)
     h:=fun k=>bif aG (s1.bL++s2.bL) k then yo b (s1.h k) (s2.h k) else cn (ct base.kb (s1.news++s2.news)) (base.h k)
     bL:=(s1.bL++s2.bL)++base.bL
     news:=base.news++(s1.news++s2.news)}
 |_,_=>none
def CB(b:Bool)(c1 c2:List Prop):List Prop :=match c1,c2 with
 | [],[]=> []
 |_,_=> [(b=true→Bb c1)∧(b=false→Bb c2)]
def both(b:Bool)(W:List Nat)(base:St)(r1 r2:Option (List Prop×St)):Option (List Prop×St):=match r1,r2 with
 |some (c1,s1),some (c2,s2)=>match rF b W base s1 s2 with
  |some s=>some (CB b c1 c2,s)
  |none=>none
 |_,_=>none
def vN(c:List Prop):Option (List Prop×St)→Option (List Prop×St)
 |some (c',s)=>some (c++c',s)
 |none=>none
def fork(g:Bool)(W:List Nat)(d:Option Nat)(st:St)(next :St→Option (List Prop×St)):Option (List Prop×St):=match d with
 |some d=>bif g then(match st.t d with
  | .bool b=>both b (d::W) st (next (st.lit d .tt)) (next (st.lit d .ff))
  |_=>next st) else next st
 |none=>next st
def uj(E:Env)(dr:Bool)(ops:List Oper):Nat→List Ev→List Oper→St→Option (List Prop×St)
 |_,_,[],st=>some ([],st)
 |i,tr,o::rest,st=>match LI ops st.t o with
  |none=>none
  |some false=>bif iu st o&&wQ st.kb dr ops tr ⟨i,o,none,kM E st o,lp tr o.after.toList⟩ then
    uj E dr ops (i+1) (⟨i,o,none,kM E st o,lp tr o.after.toList⟩::tr) rest (st.put o.dst .skip) else none
  |some true=>match act E st o with
   |none=>none
   |some out=>bif iu st o&&(iT st.h out.new&&wQ st.kb dr ops tr ⟨i,o,some out,kM E st o,lp tr o.after.toList⟩) then
     vN out.cond (fork (nG ops i) (kL rest) o.dst (st.put o.dst out) (uj E dr ops (i+1) (⟨i,o,some out,kM E st o,lp tr o.after.toList⟩::tr) rest)) else none
def St.ahead(st:St)(W:List Nat):St:= {st with
 t:=fun i=>aI (ct st.kb (W.map .dst)) (st.t i)
 h:=fun k=>cn (ct st.kb (W.map .dst)) (st.h k)
 news:=st.news++W.map .dst}
def J2(d:Nat)(o:Oper):Option (TypeId×Int×Operand):=match o.op,o.dst,o.guard with
 | .insert t (.tmp d') (.const (.int .i64 k)) x,none,none=>bif Nat.beq d' d then some (t,k,x) else none
 |_,_,_=>none
def vO(d:Nat):Operand→Bool
 | .tmp i=> !Nat.beq i d
 |_=>true
def cC(st:St)(t:TypeId)(d:Nat):List Oper→List Int×List AV×List Oper
 | []=>([],[],[])
 |o::r=>match J2 d o with
  |some (t',k,x)=>bif Nat.beq t' t&&vO d x&&decide (lo .i64≤k∧k≤hi .i64) then(k::(cC st t d r).1,ev st x::(cC st t d r).2.1,(cC st t d r).2.2) else([],[],o::r)
  |none=>([],[],o::r)
def sx(T:bY)(st:St):List Oper→Option (Nat×List Int×List AV×List Oper)
 | []=>none
 |o::r=>match o.op,o.dst,o.guard with
  | .makeMap t none,some d,none=>match T.find t with
    |some te=>match te.desc with
     | .map kt _=>bif dq T kt xj&&iS (cC st t d r).1&&Nat.blt d st.n then some (d,cC st t d r) else none
     |_=>none
    |none=>none
  |_,_,_=>none
def yR(E:Env)(dr:Bool)(ops:List Oper)(st:St):Option (List Prop×St):=
 bif dr then uj E true ops 0 [] ops (st.ahead (kL ops)) else match sx E.T st ops with
  |some (d,ks,cs,rest)=>uj E false ops (cs.length+1) [] rest (st.put (some d) {cond:= [],res:= .gf ks cs})
  |none=>uj E false ops 0 [] ops st
inductive Ex where
 |norm
 |exit (i:Nat)
 |ret
def tw:Code→List Nat
 | .region _ ops _=>kL ops.toList
 | .seq x y=>tw x++tw y
 | .cond _ x y=>tw x++tw y
 | .block _ b=>tw b
 | .loop b=>tw b
 | .scope b=>tw b
 |_=> []
def j7:Code→Bool
 | .skip=>true
 | .region _ _ _=>true
 | .seq x y=>j7 x&&j7 y
 | .cond _ x y=>j7 x&&j7 y
 | .block _ b=>j7 b
 |_=>false
def e7(E:Env):Code→St→Option (List Prop×St)
 | .skip,st=>some ([],st)
 | .region _ ops d,st=>yR E d ops.toList st
 | .seq x y,st=>match e7 E x st with
   |some (c,bQ)=>vN c (e7 E y bQ)
   |none=>none
 | .cond c x y,st=>match ev st c with
   | .tt=>e7 E x st
   | .ff=>e7 E y st
   | .bool b=>both b (tw x++tw y) st (e7 E x st.clear) (e7 E y st.clear)
   |_=>none
 | .block _ b,st=>e7 E b st
 |_,_=>none
def J3:List Prop→Prop→Prop
 | [],k=>k
 |p::ps,k=>p∧J3 ps k
inductive Loc where
 |slot (i:Nat)
 |cell (k off:Nat)
structure an where
 τ:Type
 aO:List (Nat×(τ→AV))
 keys:List (Nat×(τ→AB)):= []
 cu:List (Loc×Nat):= []
 drop:List Nat:= []
 bB:List (Nat×(τ→AV)):= []
 inv:τ→Prop
 ah:τ→Nat
def fh {α β:Type}(l:List (Nat×(α→β)))(k:Nat):Option (α→β):=match l with
 | []=>none
 |(j,a)::r=>bif Nat.beq k j then some a else fh r k
def ajA(st:St):Loc→AV
 | .slot i=>st.t i
 | .cell k off=>match st.h k with
   |some (.cells cs)=>cs.getD off .c5
   |_=> .c5
def sources(st:St):List (Loc×Nat)→Option (List (Nat×Option Nat))
 | []=>some []
 |(l,K)::r=>match ajA st l,sources st r with
  | .own k,some s=>some ((K,some k)::s)
  | .ref k _,some s=>some ((K,some k)::s)
  | .nil,some s=>some ((K,none)::s)
  |_,_=>none
def dA:List (Nat×Option Nat)→List Nat
 | []=> []
 |(_,some k)::r=>k::dA r
 |(_,none)::r=>dA r
def bT(s:List (Nat×Option Nat))(k:Nat):Option (Option Nat):=match s with
 | []=>none
 |(j,a)::r=>bif Nat.beq k j then some a else bT r k
def ca(L:an)(W:List Nat):List KS:=W.map .dst++(L.cu.map (fun x=> .one x.2)++L.drop.map .one)
def jq(L:an)(W:List Nat)(base:St)(x:L.τ):St:=
 {base with
  t:=fun i=>match fh L.aO i with
   |some f=>f x
   |none=>bif aG W i then .c5 else aI (ct base.kb (ca L W)) (base.t i)
  h:=fun k=>match fh L.keys k with
   |some f=>some (f x)
   |none=>bif ct base.kb (ca L W) k then none else cn (ct base.kb (ca L W)) (base.h k)
  bL:= [],news:= [],A9:= []}
def uk(s:List (Nat×Option Nat))(bad:Nat→Bool)(k K:Nat):Bool:=match bT s K with
 |some (some j)=>Nat.beq k j
 |some none=>false
 |none=>Nat.beq k K&& !bad K
mutual
def Dz(s:List (Nat×Option Nat))(bad:Nat→Bool):AV→AV→List Prop
 |_, .c5=> []
 | .undef, .undef=> []
 | .int k n, .int k' m=>if k=k' then [n=m] else [False]
 | .tt, .tt=> []
 | .ff, .ff=> []
 | .tt, .bool b=> [true=b]
 | .ff, .bool b=> [false=b]
 | .bool b, .bool c=> [b=c]
 | .str a, .str b=> [a=b]
 | .nil, .nil=> []
 | .jn, .jn=> []
 | .jA, .jA=> []
 | .nil, .sl r l=> [([]:List (Row r))=l]
 | .sl r l, .sl r' l'=>match eP r r' l with
   |some m=> [m=l']
   |none=> [False]
 | .full r l, .sl r' l'=>match eP r r' l with
   |some m=> [m=l']
   |none=> [False]
 | .own k, .own K=>match bT s K with
   |some (some j)=>bif Nat.beq k j then [] else [False]
   |some none=> [False]
   |none=>bif Nat.beq k K&& !(bad K) then [] else [False]
 | .nil, .own K=>match bT s K with
   |some none=> []
   |_=> [False]
 | .ref k o, .ref k' o'=>bif uk s bad k k' then [o=o'] else [False]
 | .agg xs, .agg ys=>uo s bad xs ys
 | .cD xs, .cD ys=>uo s bad xs ys
 | .fn f xs us, .fn f' ys vs=>if f=f' then uo s bad xs ys++uo s bad us vs else [False]
 | .gf ks xs, .gf ks' ys=>if ks=ks' then uo s bad xs ys else [False]
 |_,_=> [False]
def uo(s:List (Nat×Option Nat))(bad:Nat→Bool):List AV→List AV→List Prop
 | [],[]=> []
 |x::xs,y::ys=>Dz s bad x y++uo s bad xs ys
 |_,_=> [False]
end
def DA(s:List (Nat×Option Nat))(bad:Nat→Bool):Option AB→AB→List Prop
 |some (.cells xs), .cells ys=>uo s bad xs ys
 |some (.row e r l fr), .row e' r' l' zY=>match eP r r' l with
  |some m=>bif Nat.beq e e'&&(fr==zY) then [m=l'] else [False]
  |none=> [False]
 |some (.arr r l), .arr r' l'=>match eP r r' l with
  |some m=> [m=l']
  |none=> [False]
 |some (.gD e (some j) r l i), .gD e' (some j') r' l' i'=>match eP r r' l with
  |some m=>bif Nat.beq e e'&&uk s bad j j' then [m=l',i=i'] else [False]
  |none=> [False]
 |some (.row e r l false), .views e' _ n m _=>bif Nat.beq e e'&&Nat.beq r.length 1 then [l.length=n,m=0] else [False]
 |some (.views e (some j) n m sz), .views e' (some j') n' m' sz'=>bif Nat.beq e e'&&uk s bad j j' then [n=n',m=m',sz=sz'] else [False]
 |_,_=> [False]
def CC {τ:Type}(s:List (Nat×Option Nat))(bad:Nat→Bool)(st:St)(x:τ):List (Nat×(τ→AV))→List Prop
 | []=> []
 |(i,f)::r=>Dz s bad (st.t i) (f x)++CC s bad st x r
def J4 {τ:Type}(s:List (Nat×Option Nat))(bad:Nat→Bool)(st:St)(x:τ):List (Nat×(τ→AB))→List Prop
 | []=> []
 |(K,f)::r=>(match bT s K with
  |some (some k)=>DA s bad (st.h k) (f x)
  |some none=>match f x with
   | .row _ _ l false=> [[]=l]
   |_=> [False]
  |none=>bif bad K then [False] else DA s bad (st.h K) (f x))++J4 s bad st x r
def vP(L:an)(W:List Nat)(base st:St)(s:List (Nat×Option Nat)):Bool:=
 ia (L.cu.map (·.2))&&ia (dA s)&&
 (L.cu.all fun x=> !(ou x.2))&&
 (L.aO.all fun x=>aG W x.1)&&
 (L.cu.all fun x=>(fh L.keys x.2).isSome)&&
 (L.keys.all fun x=>(bT s x.1).isSome || !(ct base.kb (ca L W) x.1))&&
 ((dA s).all fun k=>ct base.kb (ca L W) k)&&
 (st.bL.all fun k=>(fh L.keys k).isSome || ct base.kb (ca L W) k)
def CD(L:an)(W:List Nat)(base:St)(news:List KS):Bool:=
 news.all fun x=>match x with
  | .one k=>ct base.kb (ca L W) k
  | .dst d=>aG W d
def ajC(st:St):AV→AV
 | .own k=>match st.h k with
   |some (.row _ r l _)=> .sl r l
   |_=> .undef
 |v=>v
def WJ {τ:Type}(st:St)(x:τ):List (Nat×(τ→AV))→List Prop
 | []=> []
 |(i,f)::r=>Dz [] (fun _=>true) (ajC st (st.t i)) (f x)++WJ st x r
def an.tied(L:an)(st:St):an:=match L.bB with
 | []=>L
 |t::ts=> {L with inv:=fun x=>L.inv x∧Bb (WJ st x (t::ts)),bB:= []}
def LJ(id:Nat)(K:Ex→St→Prop)(e:Ex)(st:St):Prop :=match e with
 | .exit j=>bif Nat.beq j id then K .norm st else K (.exit j) st
 |e=>K e st
def vQ(L:an)(W:List Nat)(base st:St)(s:List (Nat×Option Nat))(x:L.τ):List Prop :=
 CC s (ct base.kb (ca L W)) st x L.aO++J4 s (ct base.kb (ca L W)) st x L.keys
def yS(L:an)(W:List Nat)(base st:St)(P:L.τ→Prop):Prop :=match sources st L.cu with
 |none=>False
 |some s=>bif vP L W base st s then ∃x,Bb (vQ L W base st s x)∧P x else False
def St.back(L:an)(W:List Nat)(base st:St):St:=
 {st with bL:=st.bL++(L.keys.map (·.1)++base.bL),news:=base.news++(ca L W++st.news)}
def yT(L:an)(W:List Nat)(base:St)(x:L.τ)(K:Ex→St→Prop)(e:Ex)(st:St):Prop :=match e with
 | .norm=>bif CD L W base st.news then yS L W base st fun x'=>L.inv x'∧L.ah x'<L.ah x else False
 |e=>K e (St.back L W base st)
def Qq(L:an)(W:List Nat)(K:Ex→St→Prop)(body:(Ex→St→Prop)→St→Prop)(st:St):Prop :=
 yS L W st st.clear L.inv∧∀x,L.inv x→body (yT L W st x K) (jq L W st x)
def ajD(E:Ex→St→Prop)(next :St→Prop)(e:Ex)(st:St):Prop :=match e with
 | .norm=>next st
 |e=>E e st
def Qr(E:Env):Operand→Bool
 | .tmp i=>E.spl i
 |_=>false
def ahY(E:Env)(c:Operand)(x y:Code)(st:St):Option (List Prop×St):=
 bif !Qr E c&&(j7 x&&j7 y) then e7 E (.cond c x y) st else none
def acR:Op→Bool
 | .lookup _ _ _ _=>true
 |_=>false
def WK(E:Env):List Oper→St→Option (Int×List Int)
 | [],_=>none
 |o::r,st=>match o.op with
  | .lookup _ m x _=>match ev st m,ev st x with
    | .gf ks _, .int .i64 n=>some (n,ks)
    |_,_=>none
  |_=>match act E st o with
   |some out=>WK E r (st.put o.dst out)
   |none=>none
def acS(E:Env)(st:St)(ops:List Oper):Option (Int×List Int):=
 bif ops.any fun o=>acR o.op then WK E ops st else none
def J5(E:Env)(K:Ex→St→Prop)(st:St)(ops:List Oper)(d:Bool):Prop :=match yR E d ops st with
 |some (c,bQ)=>J3 c (K .norm bQ)
 |none=>False
def CE(n:Int)(ks:List Int)(f:Nat→Prop):Nat→List Int→Prop
 |i,[]=>se n ks→f i
 |i,k::r=>(n=k→f i)∧CE n ks f (i+1) r
def lP(E:Env)(L:Nat→Option an):Code→(Ex→St→Prop)→St→Prop
 | .skip,K,st=>K .norm st
 | .region _ ops d,K,st=>match acS E st ops.toList with
   |some (n,ks)=>CE n ks (fun i=>J5 {E with Gr:=i} K st ops.toList d) 0 ks
   |none=>J5 E K st ops.toList d
 | .seq x y,K,st=>lP E L x (ajD K (lP E L y K)) st
 | .cond c x y,K,st=>match ahY E c x y st with
   |some (cs,bQ)=>J3 cs (K .norm bQ)
   |none=>match ev st c with
    | .tt=>lP E L x K st
    | .ff=>lP E L y K st
    | .bool b=>(b=true→lP E L x K st)∧(b=false→lP E L y K st)
    | .og _ l=>(l= []→lP E L x K st)∧lP E L y K st
    |_=>False
 | .block id (.loop b),K,st=>match L id with
   |some A=>Qq (A.tied st) (tw b) (LJ id K) (lP E L b) st
   |none=>False
 | .block id b,K,st=>lP E L b (LJ id K) st
 | .exit i,K,st=>K (.exit i) st
 | .ret,K,st=>K .ret st
 | .scope c,K,st=>lP E L c K st
 | .label _,K,st=>K .norm st
 |_,_,_=>False
def St.init(G:Nat→Option GD)(n:Nat)(cz:List AV):St:= {t:=fun i=>cz.getD i .undef,h:=fun _=>none,bL:= [],news:= [],A9:= [],n:=n,kb:=0,g:=G}
def j8(T:bY)(st:St):List ResultVar→Option (List AV)
 | []=>some []
 | .tmp t::r=>match j8 T st r with
   |some l=>some (st.t t::l)
   |none=>none
 | .cell a ty::r=>match st.t a with
   | .ref k off=>match ny T st.h ty (.ref k off),j8 T st r with
     |some out,some l=>some (out.res::l)
     |_,_=>none
   |_=>none
def fi:List AV→AV
 | [a]=>a
 |aH=> .cD aH
def ib {α:Type}(sz n:Nat)(l:List α):List (List α):=(List.range n).map fun i=>(l.drop (i*sz)).take sz
def xC(h:aS)(r:List Ty)(l:List (Row r))(k:Nat):List Prop×List Nat:=match h k with
 |some (.views _ (some j) n m sz)=>match h j with
  |some (.row _ Qs bytes _)=>bif Nat.beq Qs.length 1 then(match eP [.slice Qs] r (ib sz n bytes) with
   |some g=>([m=n,g=l],[k,j])
   |none=>([False],[])) else([False],[])
  |_=>([False],[])
 |_=>(Dz [] (fun _=>true) (fD h (.own k)).1 (.sl r l),(fD h (.own k)).2)
mutual
def CF:AV→AV→List (Nat×Option Nat)
 | .own i, .own k=> [(i,some k)]
 | .own i, .nil=> [(i,none)]
 | .ref i _, .ref k _=> [(i,some k)]
 | .fn _ xs us, .fn _ ys vs=>pt xs ys++pt us vs
 | .agg xs, .agg ys=>pt xs ys
 | .cD xs, .cD ys=>pt xs ys
 |_,_=> []
def pt:List AV→List AV→List (Nat×Option Nat)
 |x::xs,y::ys=>CF x y++pt xs ys
 |_,_=> []
end
mutual
def uq(h:aS)(s:List (Nat×Option Nat)):AV→AV→List Prop×List Nat
 | .own i, .own k=>(match bT s i with
   |some (some j)=>bif Nat.beq k j then [] else [False]
   |_=> [False],[])
 | .own i, .nil=>(match bT s i with
   |some none=> []
   |_=> [False],[])
 | .sl r l, .own k=>xC h r l k
 | .agg xs, .agg ys=>pv h s xs ys
 | .cD xs, .cD ys=>pv h s xs ys
 |x,y=>(Dz [] (fun _=>true) (fD h y).1 x,(fD h y).2)
def pv(h:aS)(s:List (Nat×Option Nat)):List AV→List AV→List Prop×List Nat
 | [],[]=>([],[])
 |x::xs,y::ys=>((uq h s x y).1++(pv h s xs ys).1,(uq h s x y).2++(pv h s xs ys).2)
 |_,_=>([False],[])
end
def DB(h:aS)(s:List (Nat×Option Nat)):Nat→List AB→List Prop
 |_,[]=> []
 |i,b::bs=>(match bT s i with
  |some (some k)=>DA s (fun _=>true) (h k) b
  |some none=>match b with
   | .row _ _ l false=> [[]=l]
   |_=> [False]
  |none=> [False])++DB h s (i+1) bs
def DC(h:aS)(s:List (Nat×Option Nat)):Nat→List AB→List (Nat×Option Nat)
 |_,[]=> []
 |i, .views _ (some j) _ _ _::bs=>(match bT s i with
  |some (some k)=>match h k with
   |some (.views _ (some j') _ _ _)=> [(j,some j')]
   |_=> []
  |_=> [])++DC h s (i+1) bs
 |i,_::bs=>DC h s (i+1) bs
def oB(h:aS)(want r:AV)(bs:List AB):List (Nat×Option Nat):=CF want r++DC h (CF want r) 0 bs
def LK(T:bY)(st:St)(rs:List ResultVar)(want:AV)(bs:List AB):Prop :=match j8 T st rs with
 |none=>False
 |some aH=>bif ia (dA (oB st.h want (fi aH) bs))&&((uq st.h (oB st.h want (fi aH) bs) want (fi aH)).2.all fun k=> !aG (dA (oB st.h want (fi aH) bs)) k)&&fF bs.length bs then
   Bb ((uq st.h (oB st.h want (fi aH) bs) want (fi aH)).1++DB st.h (oB st.h want (fi aH) bs) 0 bs) else False
def ajE(T:bY)(rs:List ResultVar)(want:AV)(bs:List AB)(e:Ex)(st:St):Prop :=match e with
 | .norm=>LK T st rs want bs
 | .ret=>LK T st rs want bs
 |_=>False
def WL(E:Env)(L:Nat→Option an)(c:Code)(n:Nat)(rs:List ResultVar)(cz:List AV)(want:AV)(bs:List AB):Prop :=
 bif Nat.ble cz.length n then lP E L c (ajE E.T rs want bs) (St.init E.lI n cz) else False
end Go.Vg

end
section
namespace Go.Vg
open Go
section
variable {P:Program} {C:Ctx} {A:Nat→Prop} {β:Nat→Value} {w:World}
mutual
theorem na(p:Nat→Bool) {aJ:Nat→Value}(bZ:∀k,p k=false→aJ k=β k):∀(a:AV) (v:Value),aa w A β v a→aa w A aJ v (aI p a)
 | .c5,_,hr=>by simp [aI,aa]
 | .undef,_,hr=>by simpa only [aI,aa] using hr
 | .int _ _,_,hr=>by simpa only [aI,aa] using hr
 | .bool _,_,hr=>by simpa only [aI,aa] using hr
 | .tt,_,hr=>by simpa only [aI,aa] using hr
 | .ff,_,hr=>by simpa only [aI,aa] using hr
 | .str _,_,hr=>by simpa only [aI,aa] using hr
 | .nil,_,hr=>by simpa only [aI,aa] using hr
 | .jn,_,hr=>by simpa only [aI,aa] using hr
 | .og _ _,_,hr=>by simpa only [aI,aa] using hr
 | .jA,_,hr=>by simpa only [aI,aa] using hr
 | .sl _ _,_,hr=>by simpa only [aI,aa] using hr
 | .full _ _,_,hr=>by simpa only [aI,aa] using hr
 | .gd _ _ _,_,hr=>by simpa only [aI,aa] using hr
 | .oY _ _,_,hr=>by simpa only [aI,aa] using hr
 | .own k,v,hr=>by
   simp only [aI];cases hk:p k with
   |true=>simp [aa]
   |false=>simp only [cond_false];simpa only [aa,bZ k hk] using hr
 | .pre k n,v,hr=>by
   simp only [aI];cases hk:p k with
   |true=>simp [aa]
   |false=>simp only [cond_false];simpa only [aa,bZ k hk] using hr
 | .view k sz off n,v,hr=>by
   simp only [aI];cases hk:p k with
   |true=>simp [aa]
   |false=>simp only [cond_false];simpa only [aa,bZ k hk] using hr
 | .ref k off,v,hr=>by
   simp only [aI];cases hk:p k with
   |true=>simp [aa]
   |false=>simp only [cond_false];simpa only [aa,bZ k hk] using hr
 | .elem k sz i j,v,hr=>by
   simp only [aI];cases hk:p k with
   |true=>simp [aa]
   |false=>simp only [cond_false];simpa only [aa,bZ k hk] using hr
 | .agg cs,v,hr=>by
   simp only [aI,aa] at hr ⊢;obtain⟨arr,h1,h2⟩:=hr;exact⟨arr,h1,fj p bZ cs _ h2⟩
 | .gf ks cs,v,hr=>by
   simp only [aI,aa] at hr ⊢;obtain⟨b,es,ck,h1,h2,h3,h4,h5⟩:=hr;exact⟨b,es,ck,h1,h2,h3,h4,fj p bZ cs _ h5⟩
 | .cD cs,v,hr=>by
   simp only [aI,aa] at hr ⊢;obtain⟨arr,h1,h2⟩:=hr;exact⟨arr,h1,fj p bZ cs _ h2⟩
 | .fn f first bn,v,hr=>by
   simp only [aI,aa] at hr ⊢;obtain⟨a1,a2,h1,h2,h3⟩:=hr;exact⟨a1,a2,h1,fj p bZ first _ h2,fj p bZ bn _ h3⟩
theorem fj(p:Nat→Bool) {aJ:Nat→Value}(bZ:∀k,p k=false→aJ k=β k):∀(aH:List AV) (vs:List Value),af w A β vs aH→af w A aJ vs (dY p aH)
 | [],_,hr=>by simpa only [dY,af] using hr
 |a::aH,vs,hr=>by
  simp only [dY,af] at hr ⊢;obtain⟨v,bK,h1,h2,h3⟩:=hr;exact⟨v,bK,h1,na p bZ a v h2,fj p bZ aH bK h3⟩
end
theorem xD(p:Nat→Bool) {k:Nat} {ab:AB}(h:BR w A β k ab):BR w A β k (dm p ab):=by
 cases ab with
 |cells cs=>
  obtain⟨b,arr,e,h1,h2,h3,h4,h5⟩:=h;exact⟨b,arr,e,h1,h2,h3,fj p (fun _ _=>rfl) _ _ h4,h5⟩
 |row e row l fr=>exact h
 |arr row l=>exact h
 |gD e j row l i=>
  obtain⟨xs,v0,h1,h2,h3,h4⟩:=h;refine⟨xs,v0,h1,h2,h3,fun j' eJ=> ?_⟩;cases j with
  |none=>simp [eE] at eJ
  |some j0=>
   simp only [eE] at eJ;cases hp:p j0 with
   |true=>rw [hp] at eJ;simp at eJ
   |false=>
    rw [hp] at eJ;exact h4 j' eJ
 |views e j n m sz=>
  obtain⟨xs,h1,h2,h3⟩:=h;refine⟨xs,h1,h2,fun j' eJ i hi=> ?_⟩;cases j with
  |none=>simp [eE] at eJ
  |some j0=>
   simp only [eE] at eJ;cases hp:p j0 with
   |true=>rw [hp] at eJ;simp at eJ
   |false=>
    rw [hp] at eJ;exact h3 j' eJ i hi
mutual
theorem dN(p q:Nat→Bool):∀a,aI q (aI p a)=aI (fun k=>p k || q k) a
 | .own k=>by cases hk:p k<;>simp [aI,hk]
 | .pre k _=>by cases hk:p k<;>simp [aI,hk]
 | .view k _ _ _=>by cases hk:p k<;>simp [aI,hk]
 | .ref k _=>by cases hk:p k<;>simp [aI,hk]
 | .elem k _ _ _=>by cases hk:p k<;>simp [aI,hk]
 | .agg cs=>by simp [aI,dZ p q cs]
 | .cD cs=>by simp [aI,dZ p q cs]
 | .gf _ cs=>by simp [aI,dZ p q cs]
 | .fn f first bn=>by simp [aI,dZ p q first,dZ p q bn]
 | .c5| .undef| .int _ _| .bool _| .tt| .ff| .str _| .nil| .jn| .og _ _| .jA| .sl _ _| .full _ _| .gd _ _ _| .oY _ _=>by simp [aI]
theorem dZ(p q:Nat→Bool):∀aH,dY q (dY p aH)=dY (fun k=>p k || q k) aH
 | []=>rfl
 |a::aH=>by simp [dY,dN p q a,dZ p q aH]
end
theorem mA(p q:Nat→Bool)(j:Option Nat):eE q (eE p j)=eE (fun k=>p k || q k) j:=by
 cases j with
 |none=>rfl
 |some k=>cases hp:p k<;>simp [eE,hp]
theorem fZ(p q:Nat→Bool)(b:AB):dm q (dm p b)=dm (fun k=>p k || q k) b:=by
 cases b<;>simp [dm,dZ,mA]
theorem iv(p q:Nat→Bool)(b:Option AB):cn q (cn p b)=cn (fun k=>p k || q k) b:=by
 cases b<;>simp [cn,fZ]
mutual
theorem Hg(d:Nat):∀a,dw d a=aI (fun k=>Nat.beq k d) a
 | .own k=>rfl
 | .pre k _=>rfl
 | .view k _ _ _=>rfl
 | .ref k _=>rfl
 | .elem k _ _ _=>rfl
 | .agg cs=>by simp [dw,aI,lq d cs]
 | .cD cs=>by simp [dw,aI,lq d cs]
 | .gf _ cs=>by simp [dw,aI,lq d cs]
 | .fn f first bn=>by simp [dw,aI,lq d first,lq d bn]
 | .c5| .undef| .int _ _| .bool _| .tt| .ff| .str _| .nil| .jn| .og _ _| .jA| .sl _ _| .full _ _| .gd _ _ _| .oY _ _=>by simp [dw,aI]
theorem lq(d:Nat):∀aH,e9 d aH=dY (fun k=>Nat.beq k d) aH
 | []=>rfl
 |a::aH=>by simp [e9,dY,Hg d a,lq d aH]
end
mutual
theorem oC:∀a,aI (fun _=>false) a=a
 | .own k=>rfl
 | .pre k _=>rfl
 | .view k _ _ _=>rfl
 | .ref k _=>rfl
 | .elem k _ _ _=>rfl
 | .agg cs=>by simp [aI,gW cs]
 | .cD cs=>by simp [aI,gW cs]
 | .gf _ cs=>by simp [aI,gW cs]
 | .fn f first bn=>by simp [aI,gW first,gW bn]
 | .c5| .undef| .int _ _| .bool _| .tt| .ff| .str _| .nil| .jn| .og _ _| .jA| .sl _ _| .full _ _| .gd _ _ _| .oY _ _=>by simp [aI]
theorem gW:∀aH,dY (fun _=>false) aH=aH
 | []=>rfl
 |a::aH=>by simp [dY,oC a,gW aH]
end
theorem GH(j:Option Nat):eE (fun _=>false) j=j:=by cases j<;>rfl
theorem wR(b:AB):dm (fun _=>false) b=b:=by cases b<;>simp [dm,gW,GH]
theorem wS(b:Option AB):cn (fun _=>false) b=b:=by cases b<;>simp [cn,wR]
def fM:List (Nat×AB)→Nat→Bool
 | [],_=>false
 |(j,_)::r,k=>Nat.beq k j || fM r k
theorem pw:∀(new:List (Nat×AB)) (a:AV),lK new a=aI (fM new) a
 | [],a=>by
   have :fM []=fun _=>false :=rfl;rw [this,oC];rfl
 |(j,b)::r,a=>by
  simp only [lK];rw [pw r,Hg,dN];rfl
theorem ur(new:List (Nat×AB))(b:AB):cJ new b=dm (fM new) b:=by
 induction new generalizing b with
 |nil=>
  have :fM []=fun _=>false :=rfl;rw [this,wR];rfl
 |cons x r ih=>
  obtain⟨k0,y⟩:=x;simp only [cJ];rw [ih];cases b with
  |cells cs=>simp only [mT,lq,dm,dZ];rfl
  |row _ _ _ _=>rfl
  |arr _ _=>rfl
  |views e j n m sz=>
   have :p9 k0 j=eE (fun k=>Nat.beq k k0) j:=by cases j<;>rfl
   simp only [mT,this,dm,mA];rfl
  |gD e j row l i=>
   have :p9 k0 j=eE (fun k=>Nat.beq k k0) j:=by cases j<;>rfl
   simp only [mT,this,dm,mA];rfl
theorem sy:∀(new:List (Nat×AB)) (k:Nat),fM new k=(au new k).isSome
 | [],_=>rfl
 |(j,b)::r,k=>by
  simp only [fM,au,sy r k];cases Nat.beq k j<;>simp
structure eO (W:List Nat) (base s:St):Prop where
 keep:∃p,(∀k,p k=true→ct base.kb s.news k=true)∧(∀i,aG W i=false→s.t i=aI p (base.t i))∧
  ∀k,aG s.bL k=false→s.h k=cn p (base.h k)
 n:s.n=base.n
 kb:s.kb=base.kb
 bL:∀k,aG base.bL k=true→aG s.bL k=true
 news:∀k,ct base.kb base.news k=true→ct base.kb s.news k=true
 g:s.g=base.g
theorem cV:∀(a b:List Nat) (k:Nat),aG (a++b) k=(aG a k || aG b k)
 | [],_,_=>rfl
 |j::a,b,k=>by simp only [List.cons_append,aG,cV a b k,Bool.or_assoc]
theorem de(kb:Nat):∀(a b:List KS) (k:Nat),ct kb (a++b) k=(ct kb a k || ct kb b k)
 | [],_,_=>rfl
 |j::a,b,k=>by simp only [List.cons_append,ct,de kb a b k,Bool.or_assoc]
theorem eO.refl(W:List Nat)(s:St):eO W s s:=
 ⟨⟨fun _=>false,by simp,fun i _=>(oC _).symm,fun k _=>(wS _).symm⟩,rfl,rfl,fun _ h=>h,fun _ h=>h,rfl⟩
theorem eO.trans {W W':List Nat} {s0 s1 s2:St}(h1:eO W s0 s1)(h2:eO W' s1 s2):eO (W++W') s0 s2:=by
 obtain⟨p,a1,a2,a3⟩:=h1.keep;obtain⟨q,b1,b2,b3⟩:=h2.keep;refine⟨⟨fun k=>p k || q k,fun k hk=> ?_,fun i hi=> ?_,fun k hk=> ?_⟩,h2.n.trans h1.n,h2.kb.trans h1.kb,fun k h=>h2.bL k (h1.bL k h),fun k h=> ?_,h2.g.trans h1.g⟩
 · rcases Bool.or_eq_true _ _ |>.mp hk with h|h
   · have :=h2.news k (by rw [h1.kb];exact a1 k h);rwa [h1.kb] at this
   · have :=b1 k h;rwa [h1.kb] at this
 · rw [cV,Bool.or_eq_false_iff] at hi;rw [b2 i hi.2,a2 i hi.1,dN]
 · have yA:aG s1.bL k=false :=by
    cases h:aG s1.bL k with
    |false=>rfl
    |true=>rw [h2.bL k h] at hk;cases hk
   rw [b3 k hk,a3 k yA,iv]
 · have :=h2.news k (by rw [h1.kb];exact h1.news k h);rwa [h1.kb] at this
theorem eO.mono {W W':List Nat} {s0 s1:St}(h:eO W s0 s1)(hw:∀i,aG W' i=false→aG W i=false):eO W' s0 s1:=by
 obtain⟨p,a1,a2,a3⟩:=h.keep;exact⟨⟨p,a1,fun i hi=>a2 i (hw i hi),a3⟩,h.n,h.kb,h.bL,h.news,h.g⟩
theorem Hh(kb:Nat):∀(new:List (Nat×AB)) (k:Nat),ct kb (new.map fun x=>KS.one x.1) k=fM new k
 | [],_=>rfl
 |(j,b)::r,k=>by simp only [List.map_cons,ct,fM,KS.has,Hh kb r k]
theorem gl:∀(l:List (Nat×AB)) (k:Nat),aG (l.map (·.1)) k=false→au l k=none
 | [],_,_=>rfl
 |(j,b)::r,k,h=>by
  simp only [List.map_cons,aG,Bool.or_eq_false_iff] at h;simp only [au,h.1,cond_false];exact gl r k h.2
theorem eO.put(st:St)(d:Option Nat)(out:Out)(W:List Nat)(hd:∀t,d=some t→aG W t=true):eO W st (st.put d out):=by
 refine⟨⟨fM out.new,fun k hk=> ?_,fun i hi=> ?_,fun k hk=> ?_⟩,rfl,rfl,fun k hk=> ?_,fun k hk=> ?_,rfl⟩
 · show ct st.kb (st.news++_) k=true;rw [de,Hh,hk];simp
 · cases d with
   |none=>exact pw _ _
   |some t=>
    show(bif Nat.beq i t then out.res else lK out.new (st.t i))=_;have :Nat.beq i t=false :=aR (fun h=>by subst h;rw [hd i rfl] at hi;cases hi);rw [this];exact pw _ _
 · have dx:aG (out.gw.map (·.1)) k=false∧aG out.del k=false∧aG (out.new.map (·.1)) k=false :=by
    simp only [St.put,cV,Bool.or_eq_false_iff] at hk;exact⟨hk.1,hk.2.1,hk.2.2.1⟩
   show CY st.h out k=_;simp only [CY,gl _ _ dx.2.2,dx.2.1,cond_false,gl _ _ dx.1];cases st.h k with
   |none=>rfl
   |some b=>simp only [cn,ur]
 · simp only [St.put,cV,hk,Bool.or_true]
 · show ct st.kb (st.news++_) k=true;rw [de,hk];rfl
theorem LL(b:Bool) {k:Nat} {x y:Option AB} {ab:AB}(h:yo b x y=some ab):(if b then x else y).isSome∧
  ∀c,(if b then x else y)=some c→BR w A β k c→BR w A β k ab:=by
 unfold yo at h;split at h
 · rename_i xs ys;cases hl:Nat.beq xs.length ys.length with
   |false=>simp [hl] at h
   |true=>
    simp only [hl,cond_true,Option.some.injEq] at h;subst h;refine⟨by cases b<;>rfl,fun c hc hr=> ?_⟩;have nZ:c= .cells (if b then xs else ys):=by cases b<;>simp_all
    subst nZ;obtain⟨g,arr,e,h1,h2,h3,h4,h5⟩:=hr;refine⟨g,arr,e,h1,h2,h3,gT b xs ys _ (Nat.eq_of_beq_eq_true hl) ?_,h5⟩;cases b<;>simpa using h4
 · rename_i e r l fr e' r' m zY;split at h
   · rename_i m' hm;cases hq:(Nat.beq e e'&&(fr==zY)) with
     |false=>simp [hq] at h
     |true=>
      simp only [hq,cond_true,Option.some.injEq] at h;subst h;simp only [Bool.and_eq_true,beq_iff_eq] at hq;have he:=Nat.eq_of_beq_eq_true hq.1;have hf:=hq.2;subst he;subst hf;unfold eP at hm;split at hm
      · rename_i hr;have hrr:=Ty.jB _ _ hr;subst hrr;simp only [Option.some.injEq] at hm;subst hm;refine⟨by cases b<;>rfl,fun c hc hr=> ?_⟩;cases b<;>(simp at hc;subst hc;exact hr)
      · cases hm
   · cases h
 · cases h
theorem aF.merge {b:Bool} {W:List Nat} {base b1 b2 s1 s2 m:St} {a:Act}(hm:rF b W base s1 s2=some m)
  (f1:eO W b1 s1) (e1:∀i,aG W i=false→b1.t i=base.t i) (g1:b1.h=base.h) (n1:b1.n=base.n) (k1:b1.kb=base.kb)
  (f2:eO W b2 s2) (e2:∀i,aG W i=false→b2.t i=base.t i) (g2:b2.h=base.h) (n2:b2.n=base.n) (k2:b2.kb=base.kb) (hB:aF C A β (if b then s1 else s2) a w) (y1:b1.g=base.g:=by rfl) (y2:b2.g=base.g:=by rfl):aF C A β m a w:=by
 unfold rF at hm;split at hm
 · simp only [Option.some.injEq] at hm;subst hm
   have ht:∀i,aG W i=false→∀v,aa w A β v ((if b then s1 else s2).t i)→aa w A β v (aI (ct base.kb (s1.news++s2.news)) (base.t i)):=by
    intro i hi v h;have h':=na (aJ:=β) (ct base.kb (s1.news++s2.news)) (fun _ _=>rfl) _ _ h;obtain⟨p1,a1,a2,_⟩:=f1.keep;obtain⟨p2,c1,c2,_⟩:=f2.keep;cases b with
    |true=>
     simp only [if_true,a2 i hi,e1 i hi,dN] at h'
     have :(fun k=>p1 k || ct base.kb (s1.news++s2.news) k)=ct base.kb (s1.news++s2.news):=by
      funext k;cases hp:p1 k with
      |false=>rfl
      |true=>rw [de,←k1,a1 k hp];rfl
     rwa [this] at h'
    |false=>
     simp only [Bool.false_eq_true,if_false,c2 i hi,e2 i hi,dN] at h'
     have :(fun k=>p2 k || ct base.kb (s1.news++s2.news) k)=ct base.kb (s1.news++s2.news):=by
      funext k;cases hp:p2 k with
      |false=>rfl
      |true=>rw [de,←k2,c1 k hp];simp
     rwa [this] at h'
   have hh:∀k,aG (s1.bL++s2.bL) k=false→∀ab,cn (ct base.kb (s1.news++s2.news)) (base.h k)=some ab→∃c,(if b then s1 else s2).h k=some c∧(BR w A β k c→BR w A β k ab):=by
    intro k hk ab h;rw [cV,Bool.or_eq_false_iff] at hk;obtain⟨p1,a1,_,a3⟩:=f1.keep;obtain⟨p2,c1,_,c3⟩:=f2.keep;cases hb:base.h k with
    |none=>rw [hb] at h;simp [cn] at h
    |some x=>
     rw [hb] at h;simp only [cn,Option.some.injEq] at h;subst h;cases b with
     |true=>
      refine⟨dm p1 x,by simp only [if_true,a3 k hk.1,g1,hb,cn],fun hr=> ?_⟩;have h':=xD (ct base.kb (s1.news++s2.news)) hr;rw [fZ] at h'
      have :(fun k=>p1 k || ct base.kb (s1.news++s2.news) k)=ct base.kb (s1.news++s2.news):=by
       funext k;cases hp:p1 k with
       |false=>rfl
       |true=>rw [de,←k1,a1 k hp];rfl
      rwa [this] at h'
     |false=>
      refine⟨dm p2 x,by simp only [Bool.false_eq_true,if_false,c3 k hk.2,g2,hb,cn],fun hr=> ?_⟩;have h':=xD (ct base.kb (s1.news++s2.news)) hr;rw [fZ] at h'
      have :(fun k=>p2 k || ct base.kb (s1.news++s2.news) k)=ct base.kb (s1.news++s2.news):=by
       funext k;cases hp:p2 k with
       |false=>rfl
       |true=>rw [de,←k2,c1 k hp];simp
      rwa [this] at h'
   have hl:∀k ab,(bif aG (s1.bL++s2.bL) k then yo b (s1.h k) (s2.h k) else cn (ct base.kb (s1.news++s2.news)) (base.h k))=some ab→
     ∃c,(if b then s1 else s2).h k=some c∧(BR w A β k c→BR w A β k ab):=by
    intro k ab h;cases hd:aG (s1.bL++s2.bL) k with
    |false=>rw [hd] at h;exact hh k hd ab h
    |true=>
     rw [hd] at h;simp only [cond_true] at h;obtain⟨x1,x2⟩:=LL (w:=w) (A:=A) (β:=β) (k:=k) b h;obtain⟨c,hc⟩:=Option.isSome_iff_exists.1 x1;refine⟨c,by cases b<;>simpa using hc,x2 c hc⟩
   have fc:∀k,(bif aG (s1.bL++s2.bL) k then yo b (s1.h k) (s2.h k) else cn (ct base.kb (s1.news++s2.news)) (base.h k)).isSome→((if b then s1 else s2).h k).isSome:=by
    intro k hk;obtain⟨ab,fE⟩:=Option.isSome_iff_exists.1 hk;obtain⟨c,hc,_⟩:=hl k ab fE;simp [hc]
   refine⟨hB.defers,?_,?_,?_,fun k k' b' h1 h2=>hB.apart k k' b' (fc k h1) (fc k' h2),hB.bound,hB.frame,hB.kE,hB.base,fun k b' h1=>hB.nA k b' (fc k h1),fun i d hd=>hB.qO i d (by
    cases b
    · exact(congrFun (f2.g.trans y2) i).trans hd
    · exact(congrFun (f1.g.trans y1) i).trans hd),hB.laid,hB.held⟩
   · rw [hB.size];cases b
     · exact f2.n.trans n2
     · exact f1.n.trans n1
   · intro i;have hi:=hB.tmps i;show aa w A β _ (bif aG W i then yn b (s1.t i) (s2.t i) else _);cases hW:aG W i with
     |false=>exact ht i hW _ hi
     |true=>
      refine wI b _ _ ?_;cases b<;>simpa using hi
   · intro k ab fE;obtain⟨c,hc,hr⟩:=hl k ab fE;exact hr (hB.blocks k c hc)
 · cases hm
theorem eO.merge {b:Bool} {W:List Nat} {base s1 s2 m:St}(hm:rF b W base s1 s2=some m):eO W base m:=by
 unfold rF at hm;split at hm
 · simp only [Option.some.injEq] at hm;subst hm;refine⟨⟨ct base.kb (s1.news++s2.news),fun k hk=> ?_,fun i hi=> ?_,fun k hk=> ?_⟩,rfl,rfl,fun k hk=> ?_,fun k hk=> ?_,rfl⟩
   · simp only [de] at hk ⊢;simp [hk]
   · simp only [hi,cond_false]
   · simp only [cV,Bool.or_eq_false_iff] at hk;simp only [cV,hk.1.1,hk.1.2,Bool.or_self,cond_false]
   · simp only [cV,hk,Bool.or_true]
   · simp only [de,hk,Bool.true_or]
 · cases hm
end
end Go.Vg

end
section
namespace Go.Vg
open Go
def iw(s r:St):Prop :=s.t=r.t∧s.h=r.h∧s.n=r.n∧s.kb=r.kb∧s.g=r.g
theorem iw.refl(s:St):iw s s:=⟨rfl,rfl,rfl,rfl,rfl⟩
theorem iw.symm {s r:St}(h:iw s r):iw r s:=⟨h.1.symm,h.2.1.symm,h.2.2.1.symm,h.2.2.2.1.symm,h.2.2.2.2.symm⟩
theorem iw.trans {s r q:St}(h:iw s r)(g:iw r q):iw s q:=⟨h.1.trans g.1,h.2.1.trans g.2.1,h.2.2.1.trans g.2.2.1,h.2.2.2.1.trans g.2.2.2.1,h.2.2.2.2.trans g.2.2.2.2⟩
def gx(g:Bool)(d:Option Nat)(st:St):St:=match d with
 |some d=>bif g then {st with t:=fun i=>bif Nat.beq i d then Dy (st.t i) else st.t i} else st
 |none=>st
structure kA (E:Env) (ops:List Oper) (e:Ev) (s s':St):Prop where
 op:ops[e.i]? =some e.o
 dst:iu s e.o=true
 kr:e.kr=kM E s e.o
 step:match e.out with
  |none=>LI ops s.t e.o=some false
  |some out=>LI ops s.t e.o=some true∧act E s e.o=some out∧iT s.h out.new=true∧∀p∈out.cond,p
 next :iw s' (gx (nG ops e.i) e.o.dst (s.put e.o.dst e.dn))
def rG(E:Env)(ops:List Oper):List Ev→St→St→Prop
 | [],s,s'=>iw s' s
 |e::es,s,s'=>∃s1,kA E ops e s s1∧rG E ops es s1 s'
def J6(kb:Nat)(ops:List Oper):List Ev→List Ev→Prop
 |_,[]=>True
 |tr,f::es=>wQ kb true ops tr f=true∧f.pre=lp tr f.o.after.toList∧J6 kb ops (f::tr) es
section
variable {P:Program} {C:Ctx} {A:Nat→Prop} {β:Nat→Value} {st:St} {a:Act} {w:World} {E:Env}
theorem aF.seq {s r:St}(hB:aF C A β s a w)(h:iw r s):aF C A β r a w:=by
 obtain⟨h1,h2,h3,h4,h5⟩:=h;refine⟨hB.defers,by rw [h3];exact hB.size,by rw [h1];exact hB.tmps,by rw [h2];exact hB.blocks,by rw [h2];exact hB.apart,hB.bound,hB.frame,hB.kE,hB.base,by rw [h2];exact hB.nA,by rw [h5];exact hB.qO,hB.laid,hB.held⟩
theorem UG {x:AV} {v:Value}(h:aa w A β v x):aa w A β v (Dy x):=by
 cases x with
 |bool b=>cases b<;>simpa [Dy,aa] using h
 |_=>exact h
theorem aF.lit(g:Bool)(d:Option Nat)(hB:aF C A β st a w):aF C A β (gx g d st) a w:=by
 cases d with
 |none=>exact hB
 |some d=>
  cases g with
  |false=>exact hB
  |true=>
   refine⟨hB.defers,hB.size,fun i=> ?_,hB.blocks,hB.apart,hB.bound,hB.frame,hB.kE,hB.base,hB.nA,hB.qO,hB.laid,hB.held⟩;show aa w A β _ (bif Nat.beq i d then Dy (st.t i) else st.t i);cases Nat.beq i d with
   |false=>exact hB.tmps i
   |true=>exact UG (hB.tmps i)
theorem iw.gx {s r:St}(h:iw s r)(g:Bool)(d:Option Nat):iw (gx g d s) (gx g d r):=by
 obtain⟨h1,h2,h3,h4⟩:=h;cases d with
 |none=>exact⟨h1,h2,h3,h4⟩
 |some d=>
  cases g with
  |false=>exact⟨h1,h2,h3,h4⟩
  |true=>exact⟨by simp only [Vg.gx,cond_true,h1],h2,h3,h4⟩
theorem getD_some {a:Array Value} {i:Nat} {v:Value}(h:a.getD i undef=v)(hv:v≠undef):a[i]? =some v:=by
 rw [Array.getD_eq_getD_getElem?] at h;cases hi:a[i]? with
 |none=>rw [hi] at h;exact absurd h.symm hv
 |some x=>rw [hi] at h;simpa using h
theorem Hi(hB:aF C A β st a w) {ops:Array Oper} {o:Oper} {x:Bool}(h:LI ops.toList st.t o=some x):Region.wanted o (yielded ops a.tmps)=x:=by
 unfold LI at h;unfold Region.wanted;cases hg:o.guard with
 |none=>rw [hg] at h;simpa using h
 |some jw=>
  obtain⟨j,want⟩:=jw;rw [hg] at h;simp only at h ⊢;unfold J0 at h;cases ho:ops[j]? with
  |none=>simp [ho] at h
  |some oj=>
   simp only [Array.getElem?_toList,ho] at h;cases hd:oj.dst with
   |none=>simp [hd] at h
   |some g=>
    simp only [hd] at h;have ht:=hB.tmps g;cases hv:st.t g with
    |tt=>
     rw [hv] at ht;simp only [aa] at ht;simp only [hv,Option.some.injEq] at h;have :=getD_some ht (by simp [undef]);simp only [yielded,ho,hd,Option.bind_some,this];cases want<;>simp_all
    |ff=>
     rw [hv] at ht;simp only [aa] at ht;simp only [hv,Option.some.injEq] at h;have :=getD_some ht (by simp [undef]);simp only [yielded,ho,hd,Option.bind_some,this];cases want<;>simp_all
    |undef=>
     rw [hv] at ht;simp only [aa] at ht;simp only [hv,Option.some.injEq] at h
     have :yielded ops a.tmps j=none:=by
      simp only [yielded,ho,hd,Option.bind_some];cases hx:a.tmps[g]? with
      |none=>rfl
      |some v=>
       rw [Array.getD_eq_getD_getElem?,hx] at ht;simp only [Option.getD_some] at ht;subst ht;rfl
     rw [this,←h];rfl
    |_=>rw [hv] at h;simp at h
theorem aF.WM(hB:aF C A β st a w) {d:Option Nat}(hd:∀t,d=some t→t<st.n):aF C A β (st.put d .skip) (a.put d undef) w:=
 hB.pure hd (c:= []) (r:= .undef) (by simp [aa])
theorem UH {o:Oper}(h:iu st o=true):∀t,o.dst=some t→t<st.n:=by
 intro t ht;unfold iu at h;rw [ht] at h;exact Nat.le_of_ble_eq_true h
theorem yU(hE:fq P C E) {ops:Array Oper} {e:Ev} {s s':St}(hf:kA E ops.toList e s s')(hR:Rel C s a w) {K:Act→World→Prop} {Q:Exit→Act→World→Prop}
  (hK:∀a' w',Rel C s' a' w'→K a' w'):wpOp P ops Q e.i K a w:=by
 obtain⟨A,β,hB⟩:=hR;have ho:ops[e.i]? =some e.o:=by have :=hf.op;simpa using this
 unfold wpOp;simp only [ho];have kI:=hf.step;have DD:=hf.next;unfold Ev.dn at DD;cases nB:e.out with
 |none=>
  rw [nB] at kI DD;rw [Hi hB kI];simp only [Bool.false_eq_true,if_false];exact hK _ _ ⟨A,β,((hB.WM (UH hf.dst)).lit _ _).seq DD⟩
 |some out=>
  rw [nB] at kI DD;obtain⟨h1,h2,h3,h4⟩:=kI;rw [Hi hB h1];simp only [if_true];refine .inl (Of hE hB h2 hf.dst h3 h4 fun a' w' lQ=> ?_);obtain⟨A',aJ,Og⟩:=lQ;exact hK _ _ ⟨A',aJ,(Og.lit _ _).seq DD⟩
theorem uu(hE:fq P C E) {ops:Array Oper} {Q:Exit→Act→World→Prop}:∀(es:List Ev) (s s':St) (a:Act) (w:World),rG E ops.toList es s s'→Rel C s a w→
  (∀a' w',Rel C s' a' w'→Q .normal a' w')→wpOps P ops Q (es.map (·.i)) a w
 | [],s,s',a,w,hx,hR,hQ=>by
   obtain⟨A,β,hB⟩:=hR;exact hQ _ _ ⟨A,β,hB.seq hx⟩
 |e::es,s,s',a,w,hx,hR,hQ=>by
  obtain⟨s1,h1,h2⟩:=hx;rw [List.map_cons,wpOps_cons];exact yU hE h1 hR fun a' w' lQ=>uu hE es s1 s' a' w' h2 lQ hQ
theorem oS:∀(ps:List Prop),Bb ps→∀p∈ps,p
 | [],_,p,hp=>by cases hp
 | [q],h,p,hp=>by
   rcases List.mem_cons.1 hp with rfl|hp
   · exact h
   · cases hp
 |q::r::rs,h,p,hp=>by
  rcases List.mem_cons.1 hp with rfl|hp
  · exact h.1
  · exact oS (r::rs) h.2 p hp
theorem vR {b:Bool} {W:List Nat} {base:St} {r1 r2:Option (List Prop×St)} {cs:List Prop} {m:St}(h:both b W base r1 r2=some (cs,m)):
  ∃c1 s1 c2 s2,r1=some (c1,s1)∧r2=some (c2,s2)∧rF b W base s1 s2=some m∧cs=CB b c1 c2:=by
 unfold both at h;split at h
 · rename_i c1 s1 c2 s2;split at h
   · rename_i s hs;simp only [Option.some.injEq,Prod.mk.injEq] at h;exact⟨c1,s1,c2,s2,rfl,rfl,by rw [hs,h.2],h.1.symm⟩
   · cases h
 · cases h
theorem Bn {b:Bool} {c1 c2:List Prop}(h:∀p∈CB b c1 c2,p):(b=true→∀p∈c1,p)∧(b=false→∀p∈c2,p):=by
 unfold CB at h;split at h
 · exact⟨fun _ p hp=>(by cases hp),fun _ p hp=>(by cases hp)⟩
 · have :=h _ (List.mem_cons_self ..);exact⟨fun hb=>oS _ (this.1 hb),fun hb=>oS _ (this.2 hb)⟩
theorem nb {c:List Prop} {r:Option (List Prop×St)} {cs:List Prop} {m:St}(h:vN c r=some (cs,m)):∃c',r=some (c',m)∧cs=c++c':=by
 unfold vN at h;split at h
 · rename_i c' s;simp only [Option.some.injEq,Prod.mk.injEq] at h;exact⟨c',by rw [h.2],h.1.symm⟩
 · cases h
theorem LM {d:Nat} {b:Bool}(hv:st.t d= .bool b):iw (st.lit d (bif b then .tt else .ff)) (gx true (some d) st):=by
 refine⟨?_,rfl,rfl,rfl,rfl⟩;funext i;simp only [St.lit,gx,cond_true];by_cases hi:i=d
 · subst hi;simp only [bG,cond_true,hv,Dy]
 · simp only [aR hi,cond_false]
theorem LN {d:Nat}(hv:∀b,st.t d≠ .bool b):iw st (gx true (some d) st):=by
 refine⟨?_,rfl,rfl,rfl,rfl⟩;funext i;simp only [gx,cond_true];by_cases hi:i=d
 · subst hi;simp only [bG,cond_true];cases hx:st.t i with
   |bool b=>exact absurd hx (hv b)
   |_=>rfl
 · simp only [aR hi,cond_false]
theorem Oh {g:Bool} {W:List Nat} {d:Option Nat} {next :St→Option (List Prop×St)} {cs:List Prop} {m:St}(h:fork g W d st next=some (cs,m))
  (hF:∀s0 c s,next s0=some (c,s)→eO W s0 s) {W':List Nat} (hW:∀i,aG W' i=false→aG W i=false) (ht:∀t,d=some t→aG W' t=true):eO W' st m:=by
 unfold fork at h;cases d with
 |none=>exact(hF _ _ _ h).mono hW
 |some d=>
  simp only at h;cases g with
  |false=>exact(hF _ _ _ h).mono hW
  |true=>
   simp only [cond_true] at h;split at h
   · rename_i b hv;obtain⟨c1,s1,c2,s2,r1,r2,hm,rfl⟩:=vR h;refine(eO.merge hm).mono fun i hi=> ?_;simp only [aG,Bool.or_eq_false_iff];refine⟨aR fun h=> ?_,hW i hi⟩;subst h;rw [ht i rfl] at hi;cases hi
   · exact(hF _ _ _ h).mono hW
theorem UI {g:Bool} {W:List Nat} {d:Option Nat} {next :St→Option (List Prop×St)} {cs:List Prop} {m:St}(h:fork g W d st next=some (cs,m))(dc:∀p∈cs,p)
  (hF:∀s0 c s,next s0=some (c,s)→eO W s0 s):
  ∃s0 c s,iw s0 (gx g d st)∧next s0=some (c,s)∧(∀p∈c,p)∧(∀(C:Ctx) A β a w,aF C A β s a w→aF C A β m a w):=by
 unfold fork at h;cases d with
 |none=>exact⟨st,cs,m,iw.refl _,h,dc,fun _ _ _ _ _ hB=>hB⟩
 |some d=>
  simp only at h;cases g with
  |false=>exact⟨st,cs,m,iw.refl _,h,dc,fun _ _ _ _ _ hB=>hB⟩
  |true=>
   simp only [cond_true] at h;split at h
   · rename_i b hv;obtain⟨c1,s1,c2,s2,r1,r2,hm,rfl⟩:=vR h;have hc:=Bn dc
     have e:∀x,∀i,aG (d::W) i=false→(st.lit d x).t i=st.t i:=by
      intro x i hi;simp only [aG,Bool.or_eq_false_iff] at hi;simp only [St.lit,hi.1,cond_false]
     refine⟨st.lit d (bif b then .tt else .ff),if b then c1 else c2,if b then s1 else s2,LM hv,?_,?_,fun C A β a w hB=> ?_⟩
     · cases b
       · exact r2
       · exact r1
     · cases b
       · exact hc.2 rfl
       · exact hc.1 rfl
     · have f1:=hF _ _ _ r1;have f2:=hF _ _ _ r2
       exact hB.merge hm (f1.mono fun i hi=>by simp only [aG,Bool.or_eq_false_iff] at hi;exact hi.2) (e _) rfl rfl rfl
        (f2.mono fun i hi=>by simp only [aG,Bool.or_eq_false_iff] at hi;exact hi.2) (e _) rfl rfl rfl
   · rename_i hv;exact⟨st,cs,m,LN (fun b hb=>hv b hb),h,dc,fun _ _ _ _ _ hB=>hB⟩
theorem Aq {o:Oper} {rest:List Oper}:∀t,o.dst=some t→aG (kL (o::rest)) t=true :=by
 intro t ht;simp only [kL,ht,aG,bG,Bool.true_or]
theorem DE {o:Oper} {rest:List Oper}:∀i,aG (kL (o::rest)) i=false→aG (kL rest) i=false :=by
 intro i hi;unfold kL at hi;split at hi
 · simp only [aG,Bool.or_eq_false_iff] at hi;exact hi.2
 · exact hi
theorem mB {dr:Bool} {ops:List Oper}:∀(rest:List Oper) (i:Nat) (tr:List Ev) (st:St) (cs:List Prop) (m:St),uj E dr ops i tr rest st=some (cs,m)→eO (kL rest) st m
 | [],i,tr,st,cs,m,h=>by
   simp only [uj,Option.some.injEq,Prod.mk.injEq] at h;rw [←h.2];exact eO.refl _ _
 |o::rest,i,tr,st,cs,m,h=>by
  have WN:∀W i,aG W i=false→aG (W++W) i=false :=fun W i hi=>by simp [cV,hi]
  simp only [uj] at h;split at h
  · cases h
  · cases hq:(iu st o&&wQ st.kb dr ops tr ⟨i,o,none,kM E st o,lp tr o.after.toList⟩) with
    |false=>simp [hq] at h
    |true=>
     simp only [hq,cond_true] at h;have :=mB rest _ _ _ _ _ h;exact((eO.put st o.dst .skip _ Aq).trans (this.mono DE)).mono (WN _)
  · split at h
    · cases h
    · rename_i out je;cases hq:(iu st o&&(iT st.h out.new&&wQ st.kb dr ops tr ⟨i,o,some out,kM E st o,lp tr o.after.toList⟩)) with
      |false=>simp [hq] at h
      |true=>
       simp only [hq,cond_true] at h;obtain⟨c',h',_⟩:=nb h;have :=Oh h' (fun s0 c s hn=>mB rest _ _ _ _ _ hn) DE Aq;exact((eO.put st o.dst out _ Aq).trans this).mono (WN _)
theorem J7 {g:Bool} {d:Option Nat}:iw (gx g d (st.put d .skip)) (st.put d .skip):=by
 cases d with
 |none=>exact iw.refl _
 |some d=>
  cases g with
  |false=>exact iw.refl _
  |true=>
   refine⟨?_,rfl,rfl,rfl,rfl⟩;funext i;simp only [gx,cond_true,St.put,Out.skip];by_cases hi:i=d
   · subst hi;simp only [bG,cond_true,Dy]
   · simp only [aR hi,cond_false]
theorem DF {kb:Nat} {dr:Bool} {ops:List Oper} {tr:List Ev} {f:Ev}(h:wQ kb dr ops tr f=true)(hd:dr=true):wQ kb true ops tr f=true :=by subst hd;exact h
theorem py {dr:Bool} {ops:List Oper}:∀(rest:List Oper) (i:Nat) (tr:List Ev) (st:St) (cs:List Prop) (m:St),uj E dr ops i tr rest st=some (cs,m)→(∀p∈cs,p)→
  (∀k,rest[k]? =ops[i+k]?)→
  ∃es sl,rG E ops es st sl∧es.map (·.i)=List.range' i rest.length∧(dr=true→J6 st.kb ops tr es)∧∀(C:Ctx) A β a w,aF C A β sl a w→aF C A β m a w
 | [],i,tr,st,cs,m,h,dc,hl=>by
   simp only [uj,Option.some.injEq,Prod.mk.injEq] at h;exact⟨[],st,iw.refl _,rfl,fun _=>trivial,fun _ _ _ _ _ hB=>by rw [←h.2];exact hB⟩
 |o::rest,i,tr,st,cs,m,h,dc,hl=>by
  have h0:ops[i]? =some o:=by simpa using(hl 0).symm
  have iU:∀k,rest[k]? =ops[i+1+k]? :=fun k=>by have :=hl (k+1);simpa [Nat.add_assoc,Nat.add_comm 1 k] using this
  simp only [uj] at h;split at h
  · cases h
  · rename_i hg;cases hq:(iu st o&&wQ st.kb dr ops tr ⟨i,o,none,kM E st o,lp tr o.after.toList⟩) with
    |false=>simp [hq] at h
    |true=>
     simp only [hq,cond_true] at h;rw [Bool.and_eq_true] at hq;obtain⟨es,sl,h1,h2,h3,h4⟩:=py rest _ _ _ _ _ h dc iU;refine⟨⟨i,o,none,kM E st o,lp tr o.after.toList⟩::es,sl,⟨st.put o.dst .skip,⟨h0,hq.1,rfl,hg,J7.symm⟩,h1⟩,?_,fun hd=>⟨DF hq.2 hd,rfl,h3 hd⟩,h4⟩;rw [List.map_cons,h2,List.length_cons,List.range'_succ]
  · rename_i hg;split at h
    · cases h
    · rename_i out je;cases hq:(iu st o&&(iT st.h out.new&&wQ st.kb dr ops tr ⟨i,o,some out,kM E st o,lp tr o.after.toList⟩)) with
      |false=>simp [hq] at h
      |true=>
       simp only [hq,cond_true] at h;rw [Bool.and_eq_true,Bool.and_eq_true] at hq;obtain⟨c',h',rfl⟩:=nb h;obtain⟨s0,c,s,e1,e2,e3,e4⟩:=UI h' (fun p hp=>dc p (List.mem_append_right _ hp)) (fun s0 c s hn=>mB rest _ _ _ _ _ hn);obtain⟨es,sl,h1,h2,h3,h4⟩:=py rest _ _ _ _ _ e2 e3 iU;refine⟨⟨i,o,some out,kM E st o,lp tr o.after.toList⟩::es,sl,⟨s0,⟨h0,hq.1,rfl,⟨hg,je,hq.2.1,fun p hp=>dc p (List.mem_append_left _ hp)⟩,e1⟩,h1⟩,?_,fun hd=>⟨DF hq.2.2 hd,rfl,by have :=h3 hd;rw [show s0.kb=st.kb from e1.2.2.2.1.trans (by cases o.dst<;>cases nG ops i<;>rfl)] at this;exact this⟩,fun C A β a w hB=>e4 _ _ _ _ _ (h4 _ _ _ _ _ hB)⟩;rw [List.map_cons,h2,List.length_cons,List.range'_succ]
theorem Bo {ops:Array Oper} {Q:Exit→Act→World→Prop} {i:Nat} {rest:List Nat} {o:Oper}(h:ops[i]? =some o)(hg:o.guard=none)(hw:o.wp P a w (wpOps P ops Q rest) Q):wpOps P ops Q (i::rest) a w:=by
 simp only [wpOps,h];rw [if_pos (by simp [Region.wanted,hg])];exact .inl hw
structure Qt (w w':World) (es:Array MapEntry) (ck:Nat):Prop where
 os:w'.os=w.os
 tape:w'.tape=w.tape
 output:w'.output=w.output
 size:w'.heap.size=w.heap.size+1
 same:∀b,b<w.heap.size→w'.heap[b]? =w.heap[b]?
 there:w'.heap[w.heap.size]? =some (.map es ck)
theorem Oi {d:Nat} {o:Oper} {t:TypeId} {k:Int} {x:Operand}(h:J2 d o=some (t,k,x)):o.op= .insert t (.tmp d) (.const (.int .i64 k)) x∧o.dst=none∧o.guard=none:=by
 unfold J2 at h;split at h
 · rename_i t' d' k' x' h1 h2 h3;cases hb:Nat.beq d' d with
   |false=>rw [hb] at h;cases h
   |true=>
    rw [hb] at h;simp only [cond_true,Option.some.injEq,Prod.mk.injEq] at h;obtain⟨rfl,rfl,rfl⟩:=h;rw [Nat.eq_of_beq_eq_true hb] at h1;exact⟨h1,h2,h3⟩
 · cases h
theorem yV(st:St)(t d:Nat):∀r,(cC st t d r).2.2=r.drop (cC st t d r).1.length∧(cC st t d r).1.length≤r.length
 | []=>⟨rfl,Nat.le_refl _⟩
 |o::r=>by
  simp only [cC];split
  · rename_i t' k x hx;cases hb:(Nat.beq t' t&&vO d x&&decide (lo .i64≤k∧k≤hi .i64)) with
    |false=>exact⟨rfl,Nat.zero_le _⟩
    |true=>
     have :=yV st t d r;simp only [cond_true,List.length_cons,List.drop_succ_cons];exact⟨this.1,by omega⟩
  · exact⟨rfl,Nat.zero_le _⟩
theorem Bp(st:St)(t d:Nat):∀r,(cC st t d r).2.1.length=(cC st t d r).1.length
 | []=>rfl
 |o::r=>by
  simp only [cC];split
  · rename_i t' k x hx;cases hb:(Nat.beq t' t&&vO d x&&decide (lo .i64≤k∧k≤hi .i64)) with
    |false=>rfl
    |true=>simp only [cond_true,List.length_cons,Bp st t d r]
  · rfl
theorem qo {T:bY} {ops rest:List Oper} {d:Nat} {ks:List Int} {vs:List AV}(h:sx T st ops=some (d,ks,vs,rest)):
  ∃o r t te kt et,ops=o::r∧o.op= .makeMap t none∧o.dst=some d∧o.guard=none∧T.find t=some te∧te.desc= .map kt et∧dq T kt xj=true∧iS ks=true∧d<st.n∧cC st t d r=(ks,vs,rest):=by
 cases ops with
 |nil=>simp [sx] at h
 |cons o r=>
  simp only [sx] at h;split at h
  · rename_i t d' h1 h2 h3;split at h
    · rename_i te kv;split at h
      · rename_i kt et hd;cases hb:(dq T kt xj&&iS (cC st t d' r).1&&Nat.blt d' st.n) with
        |false=>rw [hb] at h;cases h
        |true=>
         rw [hb] at h;simp only [cond_true,Option.some.injEq,Prod.mk.injEq] at h;obtain⟨rfl,h⟩:=h;simp only [Bool.and_eq_true] at hb;exact⟨o,r,t,te,kt,et,rfl,h1,h2,h3,kv,hd,hb.1.1,by rw [h] at hb;exact hb.1.2,Nat.le_of_ble_eq_true hb.2,h⟩
      · cases h
    · cases h
  · cases h
theorem yW {T:bY} {ops rest:List Oper} {d:Nat} {ks:List Int} {vs:List AV}(h:sx T st ops=some (d,ks,vs,rest)):rest=ops.drop (ks.length+1):=by
 obtain⟨o,r,t,te,kt,et,rfl,_,_,_,_,_,_,_,_,h⟩:=qo h;have :=yV st t d r;rw [h] at this;rw [List.drop_succ_cons];exact this.1
theorem LO {T:bY} {ops rest:List Oper} {d:Nat} {ks:List Int} {vs:List AV}(h:sx T st ops=some (d,ks,vs,rest)):vs.length=ks.length:=by
 obtain⟨o,r,t,te,kt,et,rfl,_,_,_,_,_,_,_,_,h⟩:=qo h;have :=Bp st t d r;rw [h] at this;exact this
theorem Bq {k:Int}:∀ {l:List Int},iS (l++ [k])=true→k∉l
 | [],_=>by simp
 |j::l,h=>by
  simp only [List.cons_append,iS,Bool.and_eq_true,Bool.not_eq_true'] at h;have h1:=Bq h.2;rintro(_|q)
  · have :CX k (l++ [k])=true :=(rB _ _).2 (by simp);rw [this] at h;cases h.1
  · exact h1 (by assumption)
theorem DG:∀ {l m:List Int},iS (l++m)=true→iS l=true
 | [],_,_=>rfl
 |j::l,m,h=>by
  simp only [List.cons_append,iS,Bool.and_eq_true,Bool.not_eq_true'] at h ⊢;refine⟨?_,DG h.2⟩;cases q:CX j l with
  |false=>rfl
  |true=>rw [(rB _ _).2 (List.mem_append_left _ ((rB _ _).1 q))] at h;cases h.1
theorem yX:∀(aH:List AV) (vs:List Value) (x:AV) (v:Value),af w A β vs aH→aa w A β v x→af w A β (vs++ [v]) (aH++ [x])
 | [],vs,x,v,h,hx=>by
   simp only [af] at h;subst h;simp only [List.nil_append,af];exact⟨v,[],rfl,hx,rfl⟩
 |a::aH,vs,x,v,h,hx=>by
  simp only [af] at h;obtain⟨u,bK,rfl,h1,h2⟩:=h;simp only [List.cons_append,af];exact⟨u,bK++ [v],rfl,h1,yX aH bK x v h2 hx⟩
theorem UJ {d:Nat} {v:Value} {x:Operand}(h:vO d x=true):(a.put (some d) v).eval x=a.eval x:=by
 cases x with
 |tmp i=>
  simp only [vO,Bool.not_eq_true'] at h;have :i≠d:=by rintro rfl;rw [bG] at h;cases h
  simp only [Act.eval,Act.put];rw [Array.getD_eq_getD_getElem?,Array.getD_eq_getD_getElem?,Array.getElem?_setIfInBounds];rw [if_neg (fun q=>this q.symm)]
 |_=>rfl
theorem LP {T:bY}(hT:bx T P)(hB:aF C A β st a w) {ops:Array Oper} {Q:Exit→Act→World→Prop} {d t kt et:Nat}(hd:d<st.n)(ht:P.underlying t=some (.map kt et))(JJ:P.underlying kt=some (.int .i64)):
  ∀(r:List Oper) (i:Nat) (es:Array MapEntry) (ck:Nat) (w':World) (k0:List Int) (c0:List AV),(∀k,r[k]? =ops[i+k]?)→Qt w w' es ck→es.toList.map (·.key)=k0.map (Value.int .i64)→af w A β (es.toList.map (·.val)) c0→
   iS (k0++(cC st t d r).1)=true→
   (∀LQ Oj ck',Qt w LQ Oj ck'→Oj.toList.map (·.key)=(k0++(cC st t d r).1).map (Value.int .i64)→af w A β (Oj.toList.map (·.val)) (c0++(cC st t d r).2.1)→
     wpOps P ops Q (List.range' (i+(cC st t d r).1.length) (cC st t d r).2.2.length) (a.put (some d) (.map (some w.heap.size))) LQ)→
   wpOps P ops Q (List.range' i r.length) (a.put (some d) (.map (some w.heap.size))) w'
 | [],i,es,ck,w',k0,c0,_,hm,hk,hv,_,hK=>by
   have :=hK w' es ck hm (by simpa [cC] using hk) (by simpa [cC] using hv);simpa [cC] using this
 |o::r,i,es,ck,w',k0,c0,hl,hm,hk,hv,hn,hK=>by
  have stop:cC st t d (o::r)=([],[],o::r)→wpOps P ops Q (List.range' i (o::r).length) (a.put (some d) (.map (some w.heap.size))) w':=by
   intro e;have :=hK w' es ck hm (by rw [e];simpa using hk) (by rw [e];simpa using hv);rw [e] at this;simpa using this
  cases ho:J2 d o with
  |none=>exact stop (by simp only [cC,ho])
  |some p=>
   obtain⟨t',k,x⟩:=p;cases hb:(Nat.beq t' t&&vO d x&&decide (lo .i64≤k∧k≤hi .i64)) with
   |false=>exact stop (by simp only [cC,ho,hb,cond_false])
   |true=>
    have e:cC st t d (o::r)=(k::(cC st t d r).1,ev st x::(cC st t d r).2.1,(cC st t d r).2.2):=by simp only [cC,ho,hb,cond_true]
    obtain⟨o1,o2,o3⟩:=Oi ho;simp only [Bool.and_eq_true] at hb;have htt:=Nat.eq_of_beq_eq_true hb.1.1;subst htt;rw [e] at hn hK;simp only at hn hK;have h0:ops[i]? =some o:=by simpa using(hl 0).symm
    have iU:∀k,r[k]? =ops[i+1+k]? :=fun k=>by have :=hl (k+1);simpa [Nat.add_assoc,Nat.add_comm 1 k] using this
    have GI:k∉k0:=Bq (DG (m:=(cC st t' d r).1) (by rw [List.append_assoc];exact hn));have hx:=aV hB x;rw [List.length_cons,List.range'_succ];have cU:d<a.tmps.size:=by rw [hB.size];exact hd
    have hem:(a.put (some d) (.map (some w.heap.size))).eval (.tmp d)= .map (some w.heap.size):=by
     simp only [Act.eval,Act.put];rw [Array.getD_eq_getD_getElem?,Array.getElem?_setIfInBounds,if_pos rfl,if_pos cU];rfl
    have gi:(Instr.mapUpdate t' (.map (some w.heap.size)) (.int .i64 k) (a.eval x)).run P w'= .ok () {w' with heap:=w'.heap.setIfInBounds w.heap.size (.map (es.push {key:= .int .i64 k,val:=a.eval x,born:=ck}) (ck+1))}:=by
     have hc:(Instr.checkKey false 10000 kt (.int .i64 k)).run P w'= .ok () w':=MapKept.run_checkKey JJ (by simp [MapKept.IsKey]) false 9999;simp [Instr.mapUpdate,run_underlying ht,MapKept.run_getObj_map hm.there,hc,MapKept.run_findKey JJ (qT k es.toList k0 0 hk GI),MapKept.run_setObj_map _ hm.there,Result.andThen]
    have LH:∀(v:Value) (b:Act),b.put none v=b:=fun _ _=>rfl;refine(Bo h0 o3 ?_);refine ry (w':= {w' with heap:=w'.heap.setIfInBounds w.heap.size (.map (es.push {key:= .int .i64 k,val:=a.eval x,born:=ck}) (ck+1))}) ?_ ?_
    · simp only [execOp,o1,hem,UJ hb.1.2];have :(a.put (some d) (.map (some w.heap.size))).eval (.const (.int .i64 k))= .int .i64 k:=rfl;rw [this];simp [gi,Result.andThen]
    · rw [o2,LH];refine LP hT hB hd ht JJ r (i+1) (es.push {key:= .int .i64 k,val:=a.eval x,born:=ck}) (ck+1) _ (k0++ [k]) (c0++ [ev st x]) iU ⟨hm.os,hm.tape,hm.output,?_,?_,?_⟩ ?_ ?_ (by rw [List.append_assoc];exact hn) ?_
      · simp [hm.size]
      · intro b bA;show(w'.heap.setIfInBounds _ _)[b]? =_;rw [(MapKept.heap_set hm.there).2 b (by omega)];exact hm.same b bA
      · exact(MapKept.heap_set hm.there).1
      · simp [hk]
      · simp only [Array.toList_push,List.map_append,List.map_cons,List.map_nil];exact yX _ _ _ _ hv hx
      · intro LQ Oj ck' m1 m2 m3;have :=hK LQ Oj ck' m1 (by rw [m2];simp) (by simpa using m3);rwa [List.length_cons,show i+((cC st t' d r).1.length+1)=i+1+(cC st t' d r).1.length by omega] at this
theorem LR {T:bY}(hT:bx T P) {ops:Array Oper} {rest:List Oper} {d:Nat} {ks:List Int} {vs:List AV} {Q:Exit→Act→World→Prop}(h:sx T st ops.toList=some (d,ks,vs,rest))(hR:Rel C st a w)
  (hK:∀a' w',Rel C (st.put (some d) {cond:= [],res:= .gf ks vs}) a' w'→wpOps P ops Q (List.range' (ks.length+1) rest.length) a' w'):wpOps P ops Q (List.range' 0 ops.toList.length) a w:=by
 obtain⟨A,β,hB⟩:=hR;obtain⟨o,r,t,te,kt,et,ho,o1,o2,o3,kv,hd,yA,J8,hdn,hi⟩:=qo h;obtain⟨hu,_⟩:=hT.ok t te kv;rw [hd] at hu
 have JJ:P.underlying kt=some (.int .i64):=by
  unfold dq at yA;split at yA
  · rename_i tk Cc;obtain⟨hku,_⟩:=hT.ok kt tk Cc;unfold xj at yA;split at yA
    · rename_i qS;rw [hku,qS]
    · cases yA
  · cases yA
 have h0:ops[0]? =some o:=by rw [←Array.getElem?_toList,ho];rfl
 have iU:∀k,r[k]? =ops[0+1+k]? :=fun k=>by
  rw [←Array.getElem?_toList,ho,show 0+1+k=k+1 by omega];rfl
 rw [ho,List.length_cons,List.range'_succ];refine Bo h0 o3 ?_;refine cS (v:= .map (some w.heap.size)) (w':=w.alloc (.map #[] 0)) ?_ ?_
 · simp [execOp,o1,Instr.makeMap]
 · rw [o2];have hn:iS ([]++(cC st t d r).1)=true :=by rw [hi];exact J8
   refine LP hT hB hdn hu JJ r (0+1) #[] 0 _ [] [] iU ⟨rfl,rfl,rfl,by simp,fun b hb=>my _ b hb,heap_alloc_new w _⟩ rfl (by simp [af]) hn ?_;intro LQ es ck m1 m2 m3;rw [hi] at m2 m3 ⊢;simp only [List.nil_append] at m2 m3;have e:0+1+ks.length=ks.length+1:=by omega
   simp only [e];refine hK _ _ ⟨fun b=>A b∨b=w.heap.size,β,?_⟩;have Ob:cP w LQ A (fun b=>A b∨b=w.heap.size):=fun b hb=>⟨.inl hb,m1.same b (hB.bound b hb)⟩
   refine hB.step (out:= {cond:= [],res:= .gf ks vs}) (fun t ht=>by cases ht;exact hdn) (fun k b hk=>by simp [au] at hk) (fun k b hk=>by simp [au] at hk) (fun _ _=>rfl) Ob m1.os m1.tape m1.output (by rw [m1.size];omega)
    (fun b hb _=>m1.same b hb) (fun b hb=> ?_) (fun b hb=> ?_) (fun k ab hk=>by simp [au] at hk) (fun k ab hk=>by simp [au] at hk) (fun k b ab hk=>by simp [au] at hk) (fun k k' b hk=>by simp [au] at hk) ?_
   · rw [m1.size];rcases hb with hb|hb
     · have :=hB.bound b hb;omega
     · omega
   · rcases hb with hb|hb
     · exact .inl hb
     · exact .inr (.inl (by omega))
   · simp only [aa];exact⟨w.heap.size,es,ck,rfl, .inr rfl,m1.there,m2,eA Ob _ _ m3⟩
theorem J9(hE:fq P C E) {id:Nat} {ops:Array Oper} {cs:List Prop} {m:St}(h:yR E false ops.toList st=some (cs,m))(dc:∀p∈cs,p)
  (hR:Rel C st a w) {Q:Exit→Act→World→Prop} (hQ:∀a' w',Rel C m a' w'→Q .normal a' w'):(Code.region id ops false).wp P Q a w:=by
 simp only [yR,cond_false] at h;split at h
 · rename_i d ks vs rest hp;refine wp_region ?_;have hl:=yW hp;rw [LO hp] at h
   have :=LR (Q:=Q) hE.fK hp hR fun a' w' lQ=>by
    obtain⟨es,sl,h1,h2,_,h4⟩:=py rest (ks.length+1) [] _ cs m h dc (fun k=>by rw [hl,List.getElem?_drop]);have :=uu (Q:=Q) hE es _ sl a' w' h1 lQ (fun a'' LQ ⟨A,β,hB⟩=>hQ _ _ ⟨A,β,h4 _ _ _ _ _ hB⟩);rwa [h2] at this
   rwa [Array.length_toList,←List.range_eq_range'] at this
 obtain⟨es,sl,h1,h2,_,h4⟩:=py ops.toList 0 [] st cs m h dc (fun k=>by simp);refine wp_region ?_;have :=uu (Q:=Q) hE es st sl a w h1 hR (fun a' w' ⟨A,β,hB⟩=>hQ _ _ ⟨A,β,h4 _ _ _ _ _ hB⟩);rw [h2] at this;rwa [Array.length_toList,←List.range_eq_range'] at this
theorem eO.ahead(st:St)(W:List Nat):eO W st (st.ahead W):=by
 refine⟨⟨ct st.kb (W.map .dst),fun k hk=> ?_,fun i _=>rfl,fun k _=>rfl⟩,rfl,rfl,fun k h=>h,fun k h=> ?_,rfl⟩
 · simp only [St.ahead,de,hk,Bool.or_true]
 · simp only [St.ahead,de,h,Bool.true_or]
theorem DH {dr:Bool} {ops:List Oper} {st:St} {cs:List Prop} {m:St}(h:yR E dr ops st=some (cs,m)):eO (kL ops) st m:=by
 unfold yR at h;cases dr with
 |false=>
  simp only [cond_false] at h;split at h
  · rename_i d ks vs rest hp;obtain⟨o,r,t,te,kt,et,rfl,_,h2,_,_,_,_,_,_,hi⟩:=qo hp;have hdr:=yW hp;have h1:eO [d] st (st.put (some d) {cond:= [],res:= .gf ks vs}):=eO.put st (some d) _ [d] (fun t ht=>by cases ht;simp [aG,bG]);refine(h1.trans (mB _ _ _ _ _ _ h)).mono fun i hX=> ?_
    have wP:∀(l:List Oper) (n:Nat),aG (kL l) i=false→aG (kL (l.drop n)) i=false :=by
     intro l;induction l with
     |nil=>intro n hh;simpa using hh
     |cons q l ih=>
      intro n hh;cases n with
      |zero=>exact hh
      |succ n=>
       rw [List.drop_succ_cons];apply ih;simp only [kL] at hh;split at hh
       · simp only [aG,Bool.or_eq_false_iff] at hh;exact hh.2
       · exact hh
    rw [hdr];have h3:=hX;simp only [kL,h2,aG,Bool.or_eq_false_iff] at h3;have h4:=wP (o::r) (ks.length+1) hX;simp only [List.singleton_append,aG,Bool.or_eq_false_iff];exact⟨h3.1,h4⟩
  · exact mB _ _ _ _ _ _ h
 |true=>exact((eO.ahead st _).trans (mB _ _ _ _ _ _ h)).mono (fun i hi=>by simp [cV,hi])
theorem aF.ahead(hB:aF C A β st a w)(W:List Nat):aF C A β (st.ahead W) a w:=by
 have hl:∀k ab,(st.ahead W).h k=some ab→∃c,st.h k=some c∧ab=dm (ct st.kb (W.map .dst)) c:=by
  intro k ab h;simp only [St.ahead] at h;cases hk:st.h k with
  |none=>rw [hk] at h;cases h
  |some c=>rw [hk] at h;simp only [cn,Option.some.injEq] at h;exact⟨c,rfl,h.symm⟩
 have hs:∀k,((st.ahead W).h k).isSome→(st.h k).isSome:=by
  intro k h;obtain⟨ab,fE⟩:=Option.isSome_iff_exists.1 h;obtain⟨c,hc,_⟩:=hl k ab fE;simp [hc]
 refine⟨hB.defers,hB.size,fun i=>na _ (fun _ _=>rfl) _ _ (hB.tmps i),fun k ab h=> ?_,fun k k' b h1 h2=>hB.apart k k' b (hs k h1) (hs k' h2),hB.bound,hB.frame,hB.kE,hB.base,fun k b h=>hB.nA k b (hs k h),hB.qO,hB.laid,hB.held⟩;obtain⟨c,hc,rfl⟩:=hl k ab h;exact xD _ (hB.blocks k c hc)
end
end Go.Vg

end
section
namespace Go.Vg
open Go
theorem uv {h h':aS}:∀(x:AV),(∀k∈aA x,h' k=h k)→fD h' x=fD h x:=by
 intro x hx;cases x<;>simp_all [fD,aA]
theorem Br {h h':aS}:∀(xs:List AV),(∀k∈aM xs,h' k=h k)→lG h' xs=lG h xs
 | [],_=>rfl
 |x::xs,hx=>by
  simp only [aM,List.mem_append] at hx;simp only [lG,uv x (fun k hk=>hx k (.inl hk)),Br xs (fun k hk=>hx k (.inr hk))]
theorem sA {h h':aS}(x:AV)(hx:∀k∈aA x,h' k=h k):me h' x=me h x:=by
 unfold me;split
 · rename_i cs;rw [Br cs (by simpa [aA] using hx)]
 · exact uv _ hx
theorem uw {h h':aS}:∀(xs:List AV),(∀k∈aM xs,h' k=h k)→jC h' xs=jC h xs
 | [],_=>rfl
 |x::xs,hx=>by
  simp only [aM,List.mem_append] at hx;simp only [jC,sA x (fun k hk=>hx k (.inl hk)),uw xs (fun k hk=>hx k (.inr hk))]
theorem Bt {h h':aS}:∀(ps:List (Nat×AV)),(∀k∈aM (ps.map (·.2)),h' k=h k)→lH h' ps=lH h ps
 | [],_=>rfl
 |(i,x)::ps,hx=>by
  simp only [List.map_cons,aM,List.mem_append] at hx;simp only [lH,sA x (fun k hk=>hx k (.inl hk)),Bt ps (fun k hk=>hx k (.inr hk))]
theorem xE {h:aS}(x:AV):∀k∈(fD h x).2,k∈aA x:=by
 intro k hk;cases x<;>simp only [fD] at hk;case own j=>split at hk<;>simp_all [aA]
 case pre j n=>split at hk<;>simp_all [aA]
 case view j sz off n=>
  split at hk
  · rename_i row l fr hj;cases hb:Nat.beq sz row.length with
    |true=>rw [hb] at hk;simpa [aA] using hk
    |false=>rw [hb] at hk;simp at hk
  · simp at hk
 all_goals simp at hk
theorem DJ {h:aS}:∀(xs:List AV),∀k∈(lG h xs).2,k∈aM xs
 | [],k,hk=>by simp [lG] at hk
 |x::xs,k,hk=>by
  simp only [lG,List.mem_append] at hk;simp only [aM,List.mem_append];exact hk.imp (xE x k) (DJ xs k)
theorem vS {h:aS}(x:AV):∀k∈(me h x).2,k∈aA x:=by
 intro k hk;unfold me at hk;split at hk
 · simp only [aA];exact DJ _ k hk
 · exact xE _ k hk
theorem xF {h:aS}:∀(xs:List AV),∀k∈(jC h xs).2,k∈aM xs
 | [],k,hk=>by simp [jC] at hk
 |x::xs,k,hk=>by
  simp only [jC,List.mem_append] at hk;simp only [aM,List.mem_append];exact hk.imp (vS x k) (xF xs k)
theorem DK {h:aS}:∀(ps:List (Nat×AV)),∀k∈(lH h ps).2,k∈aM (ps.map (·.2))
 | [],k,hk=>by simp [lH] at hk
 |(i,x)::ps,k,hk=>by
  simp only [lH,List.mem_append] at hk;simp only [List.map_cons,aM,List.mem_append];exact hk.imp (vS x k) (DK ps k)
theorem ix {h h':aS}:∀(ks:List Nat),(∀k∈ks,h' k=h k)→cm h' ks=cm h ks
 | [],_=>rfl
 |k::ks,hx=>by
  simp only [cm,hx k (List.mem_cons_self ..),ix ks (fun j hj=>hx j (List.mem_cons_of_mem _ hj))]
theorem Ka {h h':aS}(x:AV)(hx:∀k∈aA x,h' k=h k):zW h' x=zW h x:=by
 cases x<;>simp_all [zW,aA]
theorem wv {h h':aS}(T:bY)(t:TypeId)(x i:AV)(hx:∀k∈aA x,h' k=h k):ez T h' t x i=ez T h t x i:=by
 cases x<;>cases i<;>simp_all [ez,aA]
theorem DL {h h':aS}(T:bY)(t:TypeId)(x:AV)(hx:∀k∈aA x,h' k=h k):ny T h' t x=ny T h t x:=by
 cases x<;>simp_all [ny,aA]
theorem Ch {h h':aS}(T:bY)(t:TypeId)(x v:AV)(hx:∀k∈aA x,h' k=h k)(hv:∀k∈aA v,h' k=h k):ij T h' t x v=ij T h t x v:=by
 cases x;case ref k off=>simp only [ij,hx k (by simp [aA])]
 case elem k sz i j=>
  simp only [ij,hx k (by simp [aA]),sA v hv,ix (me h v).2 (fun j hj=>hv j (vS v j hj))]
 all_goals simp [ij]
theorem sB {h h':aS}(row:List Ty)(x:AV)(hx:∀k∈aA x,h' k=h k):kq h' row x=kq h row x:=by
 have :=uv x hx;cases x<;>simp_all [kq]
theorem Ar {h h':aS}(T:bY)(d:Nat)(t t':TypeId)(s x:AV)(hs:∀k∈aA s,h' k=h k)(hx:∀k∈aA x,h' k=h k):mn T h' d t t' s x=mn T h d t t' s x:=by
 unfold mn;split
 · rename_i e te he kv;split
   · rename_i row ko;rw [sB row x hx];cases s;case own k=>simp only [hs k (by simp [aA])]
     case pre k n=>simp only [hs k (by simp [aA])]
     all_goals rfl
   · rfl
 · rfl
theorem DN {h h':aS}(T:bY)(t t':TypeId)(s x:AV)(hs:∀k∈aA s,h' k=h k)(hx:∀k∈aA x,h' k=h k):nz T h' t t' s x=nz T h t t' s x:=by
 have fe:∀row,kq h' row x=kq h row x:=fun row=>sB row x hx;cases s;case own k=>simp only [nz,hs k (by simp [aA]),fe]
 case view k sz off n=>simp only [nz,hs k (by simp [aA]),fe]
 all_goals simp [nz]
theorem Ci {h h':aS}(T:bY)(t:TypeId)(x:AV)(hx:∀k∈aA x,h' k=h k):mo T h' t x=mo T h t x:=by
 cases x;case view k sz off n=>simp only [mo,hx k (by simp [aA])]
 all_goals simp [mo]
theorem Cj {h h':aS}(T:bY)(t:TypeId)(x:AV)(lo hi mx:Option AV)(hx:∀k∈aA x,h' k=h k):oO T h' t x lo hi mx=oO T h t x lo hi mx:=by
 unfold oO;generalize mU lo=a;generalize mU hi=b;generalize mU mx=c;cases x
 case own k=>
  have :=hx k (by simp [aA]);rcases a with _|a<;>rcases b with _|b<;>rcases c with _|_|c<;>first|rfl|simp only [this]
 all_goals (rcases a with _|_|a<;>rcases b with _|_|b<;>rcases c with _|_|c<;>rfl)
theorem GJ {h h':aS}(T:bY)(s d:TypeId)(k:Nat)(hx:h' k=h k):vH T h' s d k=vH T h s d k:=by simp only [vH,hx]
theorem yY {h h':aS}(T:bY)(s d:TypeId)(x:AV)(hx:∀k∈aA x,h' k=h k):lx T h' s d x=lx T h s d x:=by
 have hs:∀row,kq h' row x=kq h row x:=fun row=>sB row x hx;unfold lx;split
 · split<;>first|rfl|exact GJ T s d _ (hx _ (by simp [aA]))|(split<;>first|rfl|(split<;>first|rfl|simp only [hs]))
 · rfl
theorem ux {h h':aS}(T:bY)(d:Nat)(t:TypeId)(len:Nat)(ps:List (Nat×AV))(hx:∀k∈aM (ps.map (·.2)),h' k=h k):ik T h' d t len ps=ik T h d t len ps:=by
 unfold ik;simp only [Bt ps hx,ix (lH h ps).2 (fun j hj=>hx j (DK ps j hj))]
theorem DO {h h':aS}(E:Env)(d f:Nat)(xs:List AV)(hx:∀k∈aM xs,h' k=h k):lJ E h' d f xs=lJ E h d f xs:=by
 unfold lJ;simp only [uw xs hx,ix (jC h xs).2 (fun j hj=>hx j (xF xs j hj))]
theorem fw:∀(a b:List AV),aM (a++b)=aM a++aM b
 | [],_=>rfl
 |x::a,b=>by simp only [List.cons_append,aM,fw a b,List.append_assoc]
theorem j9 {x:AV}:∀ {xs:List AV},x∈xs→∀k∈aA x,k∈aM xs
 |y::ys,hx,k,hk=>by
  simp only [aM,List.mem_append];rcases List.mem_cons.1 hx with rfl|hx
  · exact .inl hk
  · exact .inr (j9 hx k hk)
theorem LS {E:Env} {st bQ:St} {o:Oper}(ht:∀x∈o.op.operands.toList,ev bQ x=ev st x)(hh:∀k∈kM E st o,bQ.h k=st.h k)(nI:bQ.kb=st.kb):
  cQ E bQ o=cQ E st o:=by
 have hk:∀x∈o.op.operands.toList,∀k∈aA (ev st x),bQ.h k=st.h k:=by
  intro x hx k hk;exact hh k (List.mem_cons_of_mem _ (List.mem_append_left _ (j9 (List.mem_map_of_mem hx) k hk)))
 have hd:∀d,o.dst=some d→bQ.h (st.kb+d)=st.h (st.kb+d):=by
  intro d hd;exact hh _ (by simp [kM,hd])
 obtain⟨dst,op,type,pos,after,guard⟩:=o;simp only at ht hk hd
 have UB:∀d,dst=some d→fresh bQ.h (st.kb+d)=fresh st.h (st.kb+d):=by
  intro d h;simp only [fresh,hd d h]
 cases op with
 |move x=>simp only [cQ,ht x (by simp [Op.operands])]
 |assign x=>simp only [cQ,ht x (by simp [Op.operands])]
 |pick c x y=>simp only [cQ,ht c (by simp [Op.operands]),ht x (by simp [Op.operands]),ht y (by simp [Op.operands])]
 |alloc t=>simp only [cQ,nI]
 |box t x=>simp only [cQ,ht x (by simp [Op.operands]),nI]
 |build t parts=>
  have :(parts.toList.map fun p=>(p.1,ev bQ p.2))=parts.toList.map fun p=>(p.1,ev st p.2):=by
   apply List.map_congr_left;intro p hp;rw [ht p.2 (by simp only [Op.operands];exact List.mem_map_of_mem hp)]
  simp only [cQ,this]
 |buildSlice t len parts=>
  have :(parts.toList.map fun p=>(p.1,ev bQ p.2))=parts.toList.map fun p=>(p.1,ev st p.2):=by
   apply List.map_congr_left;intro p hp;rw [ht p.2 (by simp only [Op.operands];exact List.mem_map_of_mem hp)]
  simp only [cQ,this,nI];cases dst with
  |none=>rfl
  |some d=>
   simp only [UB d rfl];rw [ux];intro k dx;refine hh k (List.mem_cons_of_mem _ (List.mem_append_left _ ?_));simp only [Op.operands,List.map_map] at dx ⊢;exact dx
 |load t x=>simp only [cQ,ht x (by simp [Op.operands]),DL _ t _ (hk x (by simp [Op.operands]))]
 |store t x y=>simp only [cQ,ht x (by simp [Op.operands]),ht y (by simp [Op.operands]),Ch _ t _ _ (hk x (by simp [Op.operands])) (hk y (by simp [Op.operands]))]
 |nilCheck x=>simp only [cQ,ht x (by simp [Op.operands])]
 |binOp op t x y yt=>simp only [cQ,ht x (by simp [Op.operands]),ht y (by simp [Op.operands])]
 |unOp op t x=>simp only [cQ,ht x (by simp [Op.operands])]
 |convert s d x=>simp only [cQ,ht x (by simp [Op.operands]),yY _ s d _ (hk x (by simp [Op.operands]))]
 |makeFunc f first bn=>
  have h1:first.toList.map (ev bQ)=first.toList.map (ev st):=List.map_congr_left fun x hx=>ht x (by simp [Op.operands];exact .inl (by simpa using hx))
  have h2:bn.toList.map (ev bQ)=bn.toList.map (ev st):=List.map_congr_left fun x hx=>ht x (by simp [Op.operands];exact .inr (by simpa using hx));simp only [cQ,h1,h2]
 |makeSlice t l c=>
  simp only [cQ,ht l (by simp [Op.operands]),ht c (by simp [Op.operands]),nI];cases dst with
  |none=>rfl
  |some d=>simp only [UB d rfl]
 |slice t x l hi mx=>
  have h1:l.map (ev bQ)=l.map (ev st):=by cases l with|none=>rfl|some y=>simp only [Option.map_some,ht y (by simp [Op.operands])]
  have h2:hi.map (ev bQ)=hi.map (ev st):=by cases hi with|none=>rfl|some y=>simp only [Option.map_some,ht y (by simp [Op.operands])]
  have h3:mx.map (ev bQ)=mx.map (ev st):=by cases mx with|none=>rfl|some y=>simp only [Option.map_some,ht y (by simp [Op.operands])]
  simp only [cQ,ht x (by simp [Op.operands]),h1,h2,h3,Cj _ t _ _ _ _ (hk x (by simp [Op.operands]))]
 |fieldAddr s x f=>simp only [cQ,ht x (by simp [Op.operands])]
 |field s x f=>simp only [cQ,ht x (by simp [Op.operands])]
 |indexAddr t x i=>simp only [cQ,qf,ht x (by simp [Op.operands]),ht i (by simp [Op.operands]),wv _ t _ _ (hk x (by simp [Op.operands]))]
 |index t x i=>simp only [cQ,ht x (by simp [Op.operands]),ht i (by simp [Op.operands])]
 |extract x i=>simp only [cQ,ht x (by simp [Op.operands])]
 |lookup t x i ok=>simp only [cQ,ht x (by simp [Op.operands]),ht i (by simp [Op.operands])]
 |call c=>
  obtain⟨callee,args,argTypes⟩:=c
  have bw:∀x∈args.toList,x∈(Op.call ⟨callee,args,argTypes⟩).operands.toList:=by
   intro x hx;simp only [Op.operands,Call.operands,Array.toList_append,List.mem_append];exact .inr hx
  have uy:args.toList.map (ev bQ)=args.toList.map (ev st):=List.map_congr_left fun x hx=>ht x (bw x hx);cases callee with
  |invoke r m=>simp only [cQ]
  |builtin b=>
   simp only [cQ];cases hl:args.toList with
   |nil=>cases b<;>rfl
   |cons x xs=>
    have hx:ev bQ x=ev st x:=ht x (bw x (by simp [hl]));have kx:=hk x (bw x (by simp [hl]));cases xs with
    |nil=>
     cases b<;>first|rfl|(cases argTypes.toList with
      |nil=>rfl
      |cons t ts=>cases ts with
       |nil=>first|(simp only [hx,Ka _ kx];done)|(simp only [hx,Ci _ t _ kx];done)
       |cons _ _=>rfl)
    |cons y ys=>
     have hy:ev bQ y=ev st y:=ht y (bw y (by simp [hl]));have ky:=hk y (bw y (by simp [hl]));cases ys with
     |cons z zs=>cases b<;>rfl
     |nil=>
      cases b
      case append=>
       cases xv:argTypes.toList with
       |nil=>rfl
       |cons t ts=>cases ts with
        |nil=>rfl
        |cons t' ts'=>cases ts' with
         |cons _ _=>rfl
         |nil=>
          simp only [nI,hx,hy];cases dst with
          |none=>rfl
          |some d=>simp only [UB d rfl,Ar _ (st.kb+d) t t' _ _ kx ky]
      case copy=>
       cases xv:argTypes.toList with
       |nil=>rfl
       |cons t ts=>cases ts with
        |nil=>rfl
        |cons t' ts'=>cases ts' with
         |cons _ _=>rfl
         |nil=>simp only [hx,hy,DN _ t t' _ _ kx ky]
      all_goals first|rfl|simp only [hx,hy]
  |value f=>
   have Ol:f∈(Op.call ⟨.value f,args,argTypes⟩).operands.toList:=by simp [Op.operands,Call.operands]
   have hf:ev bQ f=ev st f:=ht f Ol;have kf:=hk f Ol;simp only [cQ,hf,uy,nI];cases pn:ev st f with
   |fn jF first bn=>
    cases jF with
    |func g=>
     have uz:∀d,lJ E bQ.h d g (first++args.toList.map (ev st)++bn)=lJ E st.h d g (first++args.toList.map (ev st)++bn):=by
      intro d;refine DO E d g _ fun k dx=> ?_;simp only [fw,List.mem_append] at dx;rw [pn] at kf;simp only [aA,List.mem_append] at kf;rcases dx with(dx|dx)|dx
      · exact kf k (.inl dx)
      · refine hh k (List.mem_cons_of_mem _ (List.mem_append_left _ ?_));simp only [Op.operands,Call.operands,Array.toList_append,List.map_append,fw,List.mem_append];exact .inr dx
      · exact kf k (.inr dx)
     cases dst<;>simp only [uz]
    |_=>rfl
   |_=>rfl
 |_=>rfl
theorem Ck {h h':aS}(E:Env)(d f:Nat)(xs:List AV)(hx:∀k∈aM xs,h' k=h k):j4 E h' d f xs=j4 E h d f xs:=by
 unfold j4;simp only [uw xs hx,ix (jC h xs).2 (fun j hj=>hx j (xF xs j hj))]
theorem LU {E:Env} {st bQ:St} {o:Oper}(ht:∀x∈o.op.operands.toList,ev bQ x=ev st x)(hh:∀k∈kM E st o,bQ.h k=st.h k)(nI:bQ.kb=st.kb):
  wO E bQ o=wO E st o:=by
 have hk:∀x∈o.op.operands.toList,∀k∈aA (ev st x),bQ.h k=st.h k:=by
  intro x hx k hk;exact hh k (List.mem_cons_of_mem _ (List.mem_append_left _ (j9 (List.mem_map_of_mem hx) k hk)))
 obtain⟨dst,op,type,pos,after,guard⟩:=o;simp only at ht hk;cases op with
 |load t p=>
  simp only [wO,ht p (by simp [Op.operands])];cases hp:ev st p with
  |elem k sz i j=>
   have :=hk p (by simp [Op.operands]) k (by rw [hp];simp [aA]);cases E.T.find t with
   |none=>rfl
   |some te=>simp only [this]
  |_=>rfl
 |store t p v=>
  simp only [wO,ht p (by simp [Op.operands]),ht v (by simp [Op.operands])];cases hp:ev st p with
  |elem k sz i j=>
   have :=hk p (by simp [Op.operands]) k (by rw [hp];simp [aA]);cases ev st v with
   |view k3 s3 off len=>simp only [this]
   |_=>rfl
  |_=>rfl
 |slice t x l hi mx=>
  cases l with
  |none=>rfl
  |some l=>
   cases hi with
   |none=>rfl
   |some hi=>
    cases mx with
    |none=>rfl
    |some mx=>
     simp only [wO,ht x (by simp [Op.operands]),ht l (by simp [Op.operands]),ht hi (by simp [Op.operands]),ht mx (by simp [Op.operands])];cases hp:ev st x with
     |own k=>
      have :=hk x (by simp [Op.operands]) k (by rw [hp];simp [aA]);cases ev st l with
      |int _ _=>cases ev st hi with
       |int _ _=>cases ev st mx with
        |int _ _=>simp only [this]
        |_=>rfl
       |_=>rfl
      |_=>rfl
     |_=>rfl
 |indexAddr t x i=>
  simp only [wO,ht x (by simp [Op.operands]),ht i (by simp [Op.operands])];cases hp:ev st x with
  |own k=>
   have :=hk x (by simp [Op.operands]) k (by rw [hp];simp [aA]);cases ev st i with
   |int _ _=>simp only [this]
   |_=>rfl
  |_=>rfl
 |call c=>
  obtain⟨callee,args,argTypes⟩:=c
  have bw:∀x∈args.toList,x∈(Op.call ⟨callee,args,argTypes⟩).operands.toList:=by
   intro x hx;simp only [Op.operands,Call.operands,Array.toList_append,List.mem_append];exact .inr hx
  have uy:args.toList.map (ev bQ)=args.toList.map (ev st):=List.map_congr_left fun x hx=>ht x (bw x hx);cases callee with
  |invoke r m=>rfl
  |builtin b=>
   cases b<;>first|rfl|skip
   simp only [wO];cases hl:args.toList with
   |nil=>rfl
   |cons x xs=>
    cases xs with
    |cons _ _=>rfl
    |nil=>
     have hx:ev bQ x=ev st x:=ht x (bw x (by simp [hl]));have kx:=hk x (bw x (by simp [hl]));cases argTypes.toList with
     |nil=>rfl
     |cons t ts=>cases ts with
      |cons _ _=>rfl
      |nil=>
       simp only [hx];cases hp:ev st x with
       |own k=>
        have :=kx k (by rw [hp];simp [aA]);simp only [this]
       |_=>rfl
  |value f=>
   have Ol:f∈(Op.call ⟨.value f,args,argTypes⟩).operands.toList:=by simp [Op.operands,Call.operands]
   have hf:ev bQ f=ev st f:=ht f Ol;have kf:=hk f Ol;simp only [wO,hf,uy,nI];cases pn:ev st f with
   |fn jF first bn=>
    cases jF with
    |func g=>
     have uz:∀d,j4 E bQ.h d g (first++args.toList.map (ev st)++bn)=j4 E st.h d g (first++args.toList.map (ev st)++bn):=by
      intro d;refine Ck E d g _ fun k dx=> ?_;simp only [fw,List.mem_append] at dx;rw [pn] at kf;simp only [aA,List.mem_append] at kf;rcases dx with(dx|dx)|dx
      · exact kf k (.inl dx)
      · refine hh k (List.mem_cons_of_mem _ (List.mem_append_left _ ?_));simp only [Op.operands,Call.operands,Array.toList_append,List.map_append,fw,List.mem_append];exact .inr dx
      · exact kf k (.inr dx)
     cases dst<;>simp only [uz]
    |_=>rfl
   |_=>rfl
 |_=>rfl
theorem LV {E:Env} {st bQ:St} {o:Oper}(ht:∀x∈o.op.operands.toList,ev bQ x=ev st x)(hh:∀k∈kM E st o,bQ.h k=st.h k)(nI:bQ.kb=st.kb):
  Dr E bQ o=Dr E st o:=by
 have hk:∀x∈o.op.operands.toList,∀k∈aA (ev st x),bQ.h k=st.h k:=by
  intro x hx k hk;exact hh k (List.mem_cons_of_mem _ (List.mem_append_left _ (j9 (List.mem_map_of_mem hx) k hk)))
 obtain⟨dst,op,type,pos,after,guard⟩:=o;simp only at ht hk;cases op with
 |alloc t=>simp only [Dr,nI]
 |load t p=>
  simp only [Dr,ht p (by simp [Op.operands])];cases hp:ev st p with
  |ref k off=>
   have :=hk p (by simp [Op.operands]) k (by rw [hp];simp [aA]);cases E.T.find t with
   |none=>rfl
   |some te=>simp only [this]
  |_=>rfl
 |store t p v=>
  simp only [Dr,ht p (by simp [Op.operands]),ht v (by simp [Op.operands])];cases hp:ev st p with
  |ref k off=>
   have :=hk p (by simp [Op.operands]) k (by rw [hp];simp [aA]);simp only [this]
  |_=>rfl
 |_=>rfl
theorem Bu {h:aS}(x:AV):∀k∈aA (fD h x).1,k∈aA x:=by
 intro k hk;cases x with
 |own j=>simp only [fD] at hk;split at hk<;>simp [aA] at hk
 |pre j n=>simp only [fD] at hk;split at hk<;>simp [aA] at hk
 |view j sz off n=>
  simp only [fD] at hk;split at hk
  · rename_i e row l fr hj;cases hb:Nat.beq sz row.length<;>rw [hb] at hk<;>simp [aA] at hk
  · simp [aA] at hk
 |_=>exact hk
theorem Bv {h:aS}:∀(xs:List AV),∀k∈aM (lG h xs).1,k∈aM xs
 | [],k,hk=>hk
 |x::xs,k,hk=>by
  simp only [lG,aM,List.mem_append] at hk ⊢;rcases hk with hk|hk
  · exact .inl (Bu x k hk)
  · exact .inr (Bv xs k hk)
theorem Om {h:aS}(x:AV):∀k∈aA (me h x).1,k∈aA x:=by
 intro k hk;unfold me at hk;split at hk
 · simp only [aA] at hk ⊢;exact Bv _ k hk
 · exact Bu _ k hk
theorem uA {h:aS}:∀(m:List Bool) (xs:List AV),(∀k∈aM (cT h m xs).1,k∈aM xs)∧∀k∈(cT h m xs).2,k∈aM xs
 |m,[]=>⟨fun k hk=>hk,fun k hk=>by cases hk⟩
 |m,x::xs=>by
  obtain⟨g1,g2⟩:=uA (h:=h) m.tail xs;cases hm:m.headD false with
  |true=>
   simp only [cT,hm,cond_true,aM,List.mem_append];exact⟨fun k hk=>hk.elim .inl (fun hk=> .inr (g1 k hk)),fun k hk=> .inr (g2 k hk)⟩
  |false=>
   simp only [cT,hm,cond_false,aM,List.mem_append];exact⟨fun k hk=>hk.elim (fun hk=> .inl (Om x k hk)) (fun hk=> .inr (g1 k hk)),fun k hk=>hk.elim (fun hk=> .inl (vS x k hk)) (fun hk=> .inr (g2 k hk))⟩
theorem tg {h h':aS}:∀(m:List Bool) (xs:List AV),(∀k∈aM xs,h' k=h k)→cT h' m xs=cT h m xs
 |m,[],_=>rfl
 |m,x::xs,hx=>by
  have h1:=tg (h:=h) (h':=h') m.tail xs (fun k hk=>hx k (by simp only [aM,List.mem_append];exact .inr hk));have h2:=sA (h:=h) (h':=h') x (fun k hk=>hx k (by simp only [aM,List.mem_append];exact .inl hk));simp only [cT,h1,h2]
theorem qZ {h h':aS}:∀(ks:List Nat),(∀k∈ks,h' k=h k)→behind h' ks=behind h ks
 | [],_=>rfl
 |k::ks,hk=>by
  simp only [behind,hk k (List.mem_cons_self ..),qZ ks fun j hj=>hk j (List.mem_cons_of_mem _ hj)]
theorem uB {h:aS}:∀(ks ls:List Nat),(∀k∈ks,k∈ls)→∀j∈behind h ks,j∈behind h ls
 | [],ls,_,j,hj=>by cases hj
 |k::ks,ls,hk,j,hj=>by
  simp only [behind,List.mem_append] at hj;rcases hj with hj|hj
  · have :∀(ls:List Nat),k∈ls→j∈behind h ls:=by
     intro ls;induction ls with
     |nil=>intro h;cases h
     |cons l ls ih=>
      intro hl;simp only [behind,List.mem_append];rcases List.mem_cons.1 hl with rfl|hl
      · exact .inl hj
      · exact .inr (ih hl)
    exact this ls (hk k (List.mem_cons_self ..))
  · exact uB ks ls (fun i hi=>hk i (List.mem_cons_of_mem _ hi)) j hj
theorem xG:∀(l acc:List Nat) (k:Nat),k∈dedup acc l→k∈acc∨k∈l
 | [],acc,k,h=> .inl (by simpa [dedup] using h)
 |x::l,acc,k,h=>by
  simp only [dedup] at h;cases hm:aG acc x with
  |true=>
   rw [hm] at h;rcases xG l acc k h with h|h
   · exact .inl h
   · exact .inr (List.mem_cons_of_mem _ h)
  |false=>
   rw [hm] at h;rcases xG l (x::acc) k h with h|h
   · rcases List.mem_cons.1 h with rfl|h
     · exact .inr (List.mem_cons_self ..)
     · exact .inl h
   · exact .inr (List.mem_cons_of_mem _ h)
theorem th {h h':aS}:∀(K:List Nat),(∀k∈K,h' k=h k)→contents h' K=contents h K
 | [],_=>rfl
 |k::K,hk=>by simp only [contents,hk k (List.mem_cons_self ..),th K fun j hj=>hk j (List.mem_cons_of_mem _ hj)]
theorem Cl {h h':aS}(E:Env)(d f:Nat)(xs:List AV)(hx:∀k∈aM xs++behind h (aM xs),h' k=h k):j5 E h' d f xs=j5 E h d f xs:=by
 have Ca:∀k∈aM xs,h' k=h k:=fun k hk=>hx k (List.mem_append_left _ hk);unfold j5;split
 · rename_i m s hs;obtain⟨p1,p2⟩:=uA (h:=h) m xs;rw [tg m xs Ca,qZ (h:=h) (h':=h') _ (fun k hk=>Ca k (p1 k hk))];unfold JX
   rw [th (h:=h) (h':=h') _ (fun k hk=>by
    rcases xG _ _ k hk with hk|hk
    · cases hk
    · rcases List.mem_append.1 hk with hk|hk
      · exact Ca k (p1 k hk)
      · exact hx k (List.mem_append_right _ (uB _ _ p1 k hk))),ix (h:=h) (h':=h') _ (fun k hk=>Ca k (p2 k hk))]
 · rfl
theorem LW {E:Env} {st bQ:St} {o:Oper}(ht:∀x∈o.op.operands.toList,ev bQ x=ev st x)(hh:∀k∈kM E st o,bQ.h k=st.h k)(nI:bQ.kb=st.kb):
  LD E bQ o=LD E st o:=by
 obtain⟨dst,op,type,pos,after,guard⟩:=o;cases op with
 |call c=>
  obtain⟨callee,args,argTypes⟩:=c;cases callee with
  |value f=>
   simp only at ht
   have bw:∀x∈args.toList,x∈(Op.call ⟨.value f,args,argTypes⟩).operands.toList:=by
    intro x hx;simp only [Op.operands,Call.operands,Array.toList_append,List.mem_append];exact .inr hx
   have uy:args.toList.map (ev bQ)=args.toList.map (ev st):=List.map_congr_left fun x hx=>ht x (bw x hx);have hf:ev bQ f=ev st f:=ht f (by simp [Op.operands,Call.operands]);simp only [LD,hf,uy,nI];cases pn:ev st f with
   |fn jF first bn=>
    cases jF with
    |func g=>
     have wP:∀k∈aM (first++args.toList.map (ev st)++bn),k∈aM ((Op.call ⟨.value f,args,argTypes⟩).operands.toList.map (ev st)):=by
      intro k hk;have Ol:f∈(Op.call ⟨.value f,args,argTypes⟩).operands.toList:=by simp [Op.operands,Call.operands]
      have hfk:=j9 (List.mem_map_of_mem (f:=ev st) Ol);rw [pn] at hfk;simp only [aA,List.mem_append] at hfk;simp only [fw,List.mem_append] at hk;rcases hk with(hk|hk)|hk
      · exact hfk k (.inl hk)
      · simp only [Op.operands,Call.operands,Array.toList_append,List.map_append,fw,List.mem_append];exact .inr hk
      · exact hfk k (.inr hk)
     have uz:∀d,j5 E bQ.h d g (first++args.toList.map (ev st)++bn)=j5 E st.h d g (first++args.toList.map (ev st)++bn):=by
      intro d;refine Cl E d g _ fun k hk=> ?_;rcases List.mem_append.1 hk with hk|hk
      · exact hh k (List.mem_cons_of_mem _ (List.mem_append_left _ (wP k hk)))
      · exact hh k (List.mem_cons_of_mem _ (List.mem_append_right _ (List.mem_append_left _ (uB _ _ wP k hk))))
     cases dst<;>simp only [uz]
    |_=>rfl
   |_=>rfl
  |_=>rfl
 |_=>rfl
theorem lR {h:aS} {k e i j:Nat} {row:List Ty} {l:List (Row row)}(hk:h k=some (.gD e (some j) row l i)):∀ {ks:List Nat},k∈ks→j∈fg h ks
 |q::ks,hm=>by
  simp only [fg];rcases List.mem_cons.1 hm with rfl|hm
  · rw [hk];simp
  · split
    · exact List.mem_cons_of_mem _ (lR hk hm)
    · exact lR hk hm
theorem wT:∀ {cs:List AV} {xs:List AV} {k:Nat},nF cs=some (xs,k)→k∈aM cs
 | [],_,_,h=>by cases h
 |a::r,xs,k,h=>by
  unfold nF at h;simp only [aM,List.mem_append];cases r with
  |nil=>
   cases a<;>first|(simp only [Option.some.injEq,Prod.mk.injEq] at h;obtain⟨_,rfl⟩:=h;left;simp [aA])|cases h
  |cons b r=>
   simp only at h;split at h
   · rename_i x k' hl;simp only [Option.some.injEq,Prod.mk.injEq] at h;obtain⟨_,rfl⟩:=h;exact .inr (wT hl)
   · cases h
theorem GK {E:Env} {h h':aS} {t:TypeId}(p v:AV)(hp:∀k∈aA p,h' k=h k)(hv:∀k∈aA v,h' k=h k):vK E h' t p v=vK E h t p v:=by
 unfold vK;cases p with
 |elem k sz i j=>
  cases v with
  |agg cs=>
   have e:=hp k (by simp [aA]);have hx:∀xs k5,nF cs=some (xs,k5)→h' k5=h k5:=fun xs k5 hl=>hv k5 (by simp only [aA];exact wT hl);simp only [e];generalize nF cs=lo at hx ⊢;generalize h k=hk;cases hk with
   |none=>rfl
   |some ab=>
    cases lo with
    |none=>cases ab with
     |row e row l fr=>cases fr<;>rfl
     |_=>rfl
    |some x=>
     obtain⟨xs,k5⟩:=x;have e2:=hx xs k5 rfl;cases ab with
     |row e row l fr=>
      cases fr with
      |true=>rfl
      |false=>simp only [e2]
     |_=>rfl
  |_=>rfl
 |_=>rfl
theorem Cm {E:Env} {h h':aS} {t:TypeId}(p:AV)(hp:∀k∈aA p,h' k=h k)(ho:∀k∈fg h (aA p),h' k=h k):oR E h' t p=oR E h t p:=by
 unfold oR;cases p with
 |elem k sz i j=>
  have e1:=hp k (by simp [aA]);simp only [e1];cases E.T.find t with
  |none=>rfl
  |some te=>
   cases hk:h k with
   |none=>rfl
   |some ab=>
    cases ab with
    |gD e j' row l i0=>
     cases j' with
     |none=>rfl
     |some k5=>
      have e2:=ho k5 (lR hk (by simp [aA]));simp only [e2]
    |_=>rfl
 |_=>rfl
theorem DP {E:Env} {h h':aS} {t:TypeId}(x i:AV)(hp:∀k∈aA x,h' k=h k):rD E h' t x i=rD E h t x i:=by
 unfold rD;cases x with
 |own k=>
  have e1:=hp k (by simp [aA]);cases i with
  |int kk n=>simp only [e1]
  |_=>rfl
 |_=>rfl
theorem DQ {h h':aS} {k:Nat}(hk:h' k=h k)(ho:∀j∈fg h [k],h' j=h j):closing h' k=closing h k:=by
 unfold closing;rw [hk];cases hh:h k with
 |none=>rfl
 |some ab=>
  cases ab with
  |gD e j row l i=>
   cases j with
   |none=>rfl
   |some k5=>simp only [ho k5 (lR hh (by simp))]
  |_=>rfl
theorem sC {h:aS}:∀ {a b:List Nat},(∀k∈a,k∈b)→∀j∈fg h a,j∈fg h b
 | [],_,_,j,hj=>by simp [fg] at hj
 |k::a,b,hs,j,hj=>by
  simp only [fg] at hj;split at hj
  · rename_i hk;rcases List.mem_cons.1 hj with rfl|hj
    · exact lR hk (hs k (List.mem_cons_self ..))
    · exact sC (fun q hq=>hs q (List.mem_cons_of_mem _ hq)) j hj
  · exact sC (fun q hq=>hs q (List.mem_cons_of_mem _ hq)) j hj
theorem LX {E:Env} {st bQ:St} {o:Oper}(ht:∀x∈o.op.operands.toList,ev bQ x=ev st x)(hh:∀k∈kM E st o,bQ.h k=st.h k)(nI:bQ.kb=st.kb):
  Dv E bQ o=Dv E st o:=by
 unfold Dv Qo Qn;rw [LS ht hh nI,LU ht hh nI,LV ht hh nI,LW ht hh nI]
theorem On {E:Env} {st bQ:St} {o:Oper}(ht:∀x∈o.op.operands.toList,ev bQ x=ev st x)(hh:∀k∈kM E st o,bQ.h k=st.h k)(nI:bQ.kb=st.kb):
  act E bQ o=act E st o:=by
 have hN:=LX ht hh nI;have WO:∀x∈o.op.operands.toList,∀k∈aA (ev st x),k∈aM (o.op.operands.toList.map (ev st)):=fun x hx k hk=>j9 (List.mem_map_of_mem hx) k hk
 have hk:∀x∈o.op.operands.toList,∀k∈aA (ev st x),bQ.h k=st.h k:=fun x hx k hk=>
  hh k (List.mem_cons_of_mem _ (List.mem_append_left _ (WO x hx k hk)))
 have J8:∀x∈o.op.operands.toList,∀k∈fg st.h (aA (ev st x)),bQ.h k=st.h k:=fun x hx k hk=>
  hh k (List.mem_cons_of_mem _ (List.mem_append_right _ (List.mem_append_right _ (List.mem_append_left _ (sC (WO x hx) k hk)))))
 have hc:∀k∈nH E st.h o,bQ.h k=st.h k:=fun k hk=>hh k (List.mem_cons_of_mem _ (List.mem_append_right _ (List.mem_append_right _ (List.mem_append_right _ hk))))
 have hO:LF E bQ o=LF E st o:=by
  unfold LF;rw [hN]
  have gG:rE E bQ.h o=rE E st.h o:=by
   unfold rE;cases hd:o.dst with
   |none=>rfl
   |some d=>
    simp only;cases hcd:E.cls d with
    |none=>rfl
    |some k=>
     have hck:nH E st.h o=k::fg st.h [k]:=by simp [nH,hd,hcd]
     rw [hck] at hc;exact DQ (hc k (List.mem_cons_self ..)) (fun j hj=>hc j (List.mem_cons_of_mem _ hj))
  rw [gG];obtain⟨dst,op,type,pos,after,guard⟩:=o;simp only at ht hk J8 ⊢;split
  · rfl
  · cases op with
    |store t p v=>
     simp only;rw [ht p (by simp [Op.operands]),ht v (by simp [Op.operands])];exact GK _ _ (hk p (by simp [Op.operands])) (hk v (by simp [Op.operands]))
    |load t p=>
     simp only;rw [ht p (by simp [Op.operands])];exact Cm _ (hk p (by simp [Op.operands])) (J8 p (by simp [Op.operands]))
    |indexAddr t x i=>
     simp only;rw [ht x (by simp [Op.operands]),ht i (by simp [Op.operands])];exact DP _ _ (hk x (by simp [Op.operands]))
    |_=>rfl
 unfold act;rw [hO,hN]
end Go.Vg

end
section
namespace Go.Vg
open Go
theorem vT:∀(l:List Nat) (k:Nat),aG l k=true↔k∈l
 | [],k=>by simp [aG]
 |j::l,k=>by
  simp only [aG,Bool.or_eq_true,List.mem_cons,vT l k];constructor
  · rintro(h|h)
    · exact .inl (Nat.eq_of_beq_eq_true h)
    · exact .inr h
  · rintro(rfl|h)
    · exact .inl (bG _)
    · exact .inr h
theorem fk {l:List Nat} {k:Nat}:aG l k=false↔k∉l:=by
 rw [←vT,Bool.not_eq_true]
theorem pz {a b:List Nat}(h:pr a b=true):∀k∈a,k∉b:=by
 intro k hk;have :=(List.all_eq_true.1 h) k hk;rw [Bool.not_eq_true'] at this;exact fk.1 this
mutual
theorem DR(p:Nat→Bool):∀(a:AV),(∀k∈aA a,p k=false)→aI p a=a
 | .own k,h=>by simp [aI,h k (by simp [aA])]
 | .pre k _,h=>by simp [aI,h k (by simp [aA])]
 | .view k _ _ _,h=>by simp [aI,h k (by simp [aA])]
 | .ref k _,h=>by simp [aI,h k (by simp [aA])]
 | .elem k _ _ _,h=>by simp [aI,h k (by simp [aA])]
 | .agg cs,h=>by simp only [aI,jG p cs (by simpa [aA] using h)]
 | .cD cs,h=>by simp only [aI,jG p cs (by simpa [aA] using h)]
 | .gf _ cs,h=>by simp only [aI,jG p cs (by simpa [aA] using h)]
 | .fn f first bn,h=>by
   simp only [aA,List.mem_append] at h;simp only [aI,jG p first (fun k hk=>h k (.inl hk)),jG p bn (fun k hk=>h k (.inr hk))]
 | .c5,_| .undef,_| .int _ _,_| .bool _,_| .tt,_| .ff,_| .str _,_| .nil,_| .jn,_| .og _ _,_| .jA,_| .sl _ _,_| .full _ _,_| .gd _ _ _,_| .oY _ _,_=>by simp [aI]
theorem jG(p:Nat→Bool):∀(aH:List AV),(∀k∈aM aH,p k=false)→dY p aH=aH
 | [],_=>rfl
 |a::aH,h=>by
  simp only [aM,List.mem_append] at h;simp only [dY,DR p a (fun k hk=>h k (.inl hk)),jG p aH (fun k hk=>h k (.inr hk))]
end
theorem uD(p:Nat→Bool)(b:AB)(h:∀k∈hZ b,p k=false):dm p b=b:=by
 cases b with
 |cells cs=>simp only [dm,jG p cs (by simpa [hZ] using h)]
 |row _ _ _ _=>rfl
 |arr _ _=>rfl
 |views e j n m sz=>
  cases j with
  |none=>rfl
  |some j=>simp only [dm,eE,h j (by simp [hZ]),cond_false]
 |gD e j row l i=>
  cases j with
  |none=>rfl
  |some j=>simp only [dm,eE,h j (by simp [hZ]),cond_false]
theorem yZ {new:List (Nat×AB)} {k:Nat}(h:k∉new.map (·.1)):fM new k=false :=by
 rw [sy,gl new k (fk.2 h)];rfl
def Clean(e:Ev)(s:St):Prop :=(∀i,aI (fM e.dn.new) (s.t i)=s.t i)∧∀k,cn (fM e.dn.new) (s.h k)=s.h k
def ap(ops:List Oper)(e:Ev)(s:St):St:=gx (nG ops e.i) e.o.dst (s.put e.o.dst e.dn)
def WQ(g:Bool)(a:AV):AV:=bif g then Dy a else a
def xH(e:Ev)(k:Nat):Option (Option AB):=match au e.dn.new k with
 |some b=>some (some b)
 |none=>bif aG e.dn.del k then some none else match au e.dn.gw k with
  |some b=>some (some (tD e.dn k b))
  |none=>none
section
variable {P:Program} {C:Ctx} {E:Env} {ops:List Oper}
theorem WR {g:Bool} {d:Option Nat} {s:St}:(gx g d s).g=s.g:=by
 cases d<;>cases g<;>rfl
theorem DS {g:Bool} {d:Option Nat} {s:St}:(gx g d s).h=s.h∧(gx g d s).n=s.n∧(gx g d s).kb=s.kb:=by
 cases d<;>cases g<;>exact⟨rfl,rfl,rfl⟩
theorem Hj(e:Ev)(s:St):(ap ops e s).n=s.n:=DS.2.1
theorem As(e:Ev)(s:St):(ap ops e s).kb=s.kb:=DS.2.2
theorem Hk(e:Ev)(s:St):(ap ops e s).g=s.g:=WR
theorem DT {e:Ev} {s:St}(hc:Clean e s)(i:Nat):(ap ops e s).t i=if e.o.dst=some i then WQ (nG ops e.i) e.dn.res else s.t i:=by
 unfold ap;cases hd:e.o.dst with
 |none=>
  simp only [gx,St.put,reduceCtorEq,if_false];rw [pw];exact hc.1 i
 |some d=>
  by_cases hi:i=d
  · subst hi;cases nG ops e.i<;>simp [gx,St.put,WQ]
  · have hX:¬(some d=some i):=fun h=>hi (Option.some.inj h).symm;have :lK e.dn.new (s.t i)=s.t i:=by rw [pw];exact hc.1 i
    cases nG ops e.i<;>simp only [gx,St.put,aR hi,cond_false,cond_true,if_neg hX,this]
theorem DU {e:Ev} {s:St}(hc:Clean e s)(k:Nat):(ap ops e s).h k=match xH e k with
  |some v=>v
  |none=>s.h k:=by
 unfold ap;rw [DS.1];have hk:=hc.2 k;simp only [St.put,CY,xH];cases au e.dn.new k with
 |some b=>rfl
 |none=>
  simp only;cases aG e.dn.del k with
  |true=>rfl
  |false=>
   simp only [cond_false];cases au e.dn.gw k with
   |some b=>rfl
   |none=>
    simp only;cases hs:s.h k with
    |none=>rfl
    |some b=>
     rw [hs] at hk;simp only [cn,Option.some.injEq] at hk;simp only [ur,hk]
theorem qp {e:Ev} {k:Nat}(h:k∉e.dn.wr):xH e k=none:=by
 simp only [Out.wr,List.mem_append,not_or] at h;simp only [xH,gl _ k (fk.2 h.2.2),gl _ k (fk.2 h.1),fk.2 h.2.1,cond_false]
theorem ra:∀(l:List (Nat×AB)) (k:Nat) (c:AB),au l k=some c→∀j∈hZ c,j∈uf l
 |(j0,b0)::l,k,c,hc,j,hj=>by
  simp only [au] at hc;simp only [uf,List.mem_append];cases hb:Nat.beq k j0 with
  |true=>rw [hb] at hc;simp only [cond_true,Option.some.injEq] at hc;subst hc;exact .inl hj
  |false=>rw [hb] at hc;exact .inr (ra l k c hc j hj)
theorem Kb {e g:Ev} {k:Nat} {b:AB}(hp:pr e.dn.xB (g.dn.new.map (·.1))=true)(h:xH e k=some (some b)):dm (fM g.dn.new) b=b:=by
 have ahZ:∀j∈e.dn.xB,fM g.dn.new j=false :=fun j hj=>yZ (pz hp j hj);unfold xH at h;split at h
 · rename_i c hc;simp only [Option.some.injEq] at h;subst h;exact uD _ c fun j hj=>ahZ j (by simp only [Out.xB,List.mem_append];exact .inr (.inr (ra _ _ _ hc j hj)))
 · cases hd:aG e.dn.del k with
   |true=>rw [hd] at h;simp at h
   |false=>
    rw [hd] at h;simp only [cond_false] at h;split at h
    · rename_i c hc;simp only [Option.some.injEq] at h;subst h;have gG:∀j∈hZ c,fM g.dn.new j=false :=fun j hj=>ahZ j (by simp only [Out.xB,List.mem_append];exact .inr (.inl (ra _ _ _ hc j hj)));unfold tD;cases aG e.dn.raw k with
      |true=>exact uD _ c gG
      |false=>
      simp only [cond_false];rw [ur,fZ];have comm:(fun k=>fM e.dn.new k || fM g.dn.new k)=fun k=>fM g.dn.new k || fM e.dn.new k:=by funext k;exact Bool.or_comm _ _
      rw [comm,←fZ,uD _ c gG]
    · cases h
theorem Clean.ap {e g:Ev} {s:St}(hg:Clean g s)(he:Clean e s)(hp:pr e.dn.xB (g.dn.new.map (·.1))=true):Clean g (ap ops e s):=by
 refine⟨fun i=> ?_,fun k=> ?_⟩
 · rw [DT he];split
   · have :aI (fM g.dn.new) e.dn.res=e.dn.res:=DR _ _ fun k hk=>yZ (pz hp k (by simp [Out.xB,hk]));cases hq:nG ops e.i with
     |false=>exact this
     |true=>
      simp only [WQ,cond_true];cases hr:e.dn.res with
      |bool b=>cases b<;>rfl
      |_=>rw [hr] at this;exact this
   · exact hg.1 i
 · rw [DU he];cases hw:xH e k with
   |none=>exact hg.2 k
   |some v=>
    cases v with
    |none=>rfl
    |some b=>simp only [cn,Kb hp hw]
theorem y6 {h h':aS}:∀(l:List (Nat×AB)),(∀k∈l.map (·.1),h' k=h k)→iT h' l=iT h l
 | [],_=>rfl
 |(k,b)::l,hx=>by
  simp only [iT,hx k (by simp),y6 l (fun j hj=>hx j (by simp only [List.map_cons,List.mem_cons];exact .inr hj))]
theorem DV {t t':Nat→AV} {o:Oper}(h:∀x∈looks ops o,t' x=t x):LI ops t' o=LI ops t o:=by
 unfold LI;unfold looks at h;cases hg:o.guard with
 |none=>rfl
 |some jw=>
  obtain⟨j,want⟩:=jw;rw [hg] at h;simp only at h ⊢;cases hs:J0 ops j with
  |none=>rfl
  |some g=>
   rw [hs] at h;simp only [h g (by simp)]
theorem y7:∀(xs:List Operand) (i:Nat), .tmp i∈xs→i∈slotsOf xs
 |x::xs,i,h=>by
  rcases List.mem_cons.1 h with rfl|h
  · simp [slotsOf]
  · have :=y7 xs i h;cases x<;>simp [slotsOf,this]
theorem pA {h h':aS}:∀(ks:List Nat),(∀k∈ks,h' k=h k)→fg h' ks=fg h ks
 | [],_=>rfl
 |k::ks,hk=>by simp only [fg,hk k (List.mem_cons_self ..),pA ks fun j hj=>hk j (List.mem_cons_of_mem _ hj)]
theorem UK {s s':St} {o:Oper}(h:∀x∈looks ops o,s'.t x=s.t x)(hg:s'.g=s.g):∀x∈o.op.operands.toList,ev s' x=ev s x:=by
 intro x hx;cases x with
 |global i=>simp only [ev,hg]
 |tmp i=>exact h i (by unfold looks;exact List.mem_append_right _ (y7 _ i hx))
 |_=>rfl
theorem kA.CG {f:Ev} {s s1 s':St}(hf:kA E ops f s s1)(ht:∀x∈looks ops f.o,s'.t x=s.t x)(hk:∀k,k∈f.kr∨k∈f.dn.wr→s'.h k=s.h k)(hn:s'.n=s.n)(nI:s'.kb=s.kb)(WS:s'.g=s.g):
  kA E ops f s' (ap ops f s'):=by
 have hev:=UK ht WS
 have hkr:kM E s' f.o=kM E s f.o:=by
  have lj:∀k∈aM (f.o.op.operands.toList.map (ev s)),s'.h k=s.h k:=fun k dx=>hk k (.inl (by rw [hf.kr];exact List.mem_cons_of_mem _ (List.mem_append_left _ dx)))
  have hbc:qn s' f.o=qn s f.o:=by
   unfold qn;split
   · rw [List.map_congr_left hev,qZ _ lj]
   · rfl
  have gG:nH E s'.h f.o=nH E s.h f.o:=by
   have hm:∀q∈nH E s.h f.o,s'.h q=s.h q:=fun q hq=>hk q (.inl (by
    rw [hf.kr];exact List.mem_cons_of_mem _ (List.mem_append_right _ (List.mem_append_right _ (List.mem_append_right _ hq)))))
   unfold nH at hm ⊢;cases hd:f.o.dst with
   |none=>rfl
   |some d=>
    rw [hd] at hm;cases ah0:E.cls d with
    |none=>simp only [ah0]
    |some k=>
     simp only [ah0] at hm ⊢;rw [pA [k] (fun q hq=>hm q (by rw [List.mem_singleton.1 hq];exact List.mem_cons_self ..))]
  unfold kM;rw [nI,hbc,List.map_congr_left hev,pA _ lj,gG]
 refine⟨hf.op,?_,hf.kr.trans hkr.symm,?_,iw.refl _⟩
 · have :=hf.dst;unfold iu at this ⊢;rw [hn];exact this
 · have kI:=hf.step;cases ho:f.out with
   |none=>
    rw [ho] at kI;simp only [DV ht];exact kI
   |some out=>
    rw [ho] at kI;obtain⟨h1,h2,h3,h4⟩:=kI;have he:f.dn=out:=by simp [Ev.dn,ho]
    refine⟨by rw [DV ht];exact h1,?_,?_,h4⟩
    · rw [On hev (fun k dx=>hk k (.inl (by rw [hf.kr];exact dx))) nI];exact h2
    · rw [y6 out.new (fun k dx=>hk k (.inr (by rw [he];simp only [Out.wr,List.mem_append];exact .inr (.inr dx)))),h3]
theorem kA.seq {f:Ev} {s s1 r r1:St}(hf:kA E ops f s s1)(h:iw r s)(h1:iw r1 s1):kA E ops f r r1:=by
 have :=hf.CG (s':=r) (fun x _=>by rw [h.1]) (fun k _=>by rw [h.2.1]) h.2.2.1 h.2.2.2.1 h.2.2.2.2;refine⟨this.op,this.dst,this.kr,this.step,?_⟩;refine h1.trans (hf.next.trans ?_);refine iw.gx ?_ _ _;obtain⟨e1,e2,e3,e4,e5⟩:=h;refine⟨?_,?_,e3.symm,e4.symm,e5.symm⟩
 · simp only [St.put,e1]
 · simp only [St.put,e2]
theorem rG.seq:∀(es:List Ev) (s r q q':St),rG E ops es s q→iw r s→iw q' q→rG E ops es r q'
 | [],s,r,q,q',h,h1,h2=>h2.trans (iw.trans h h1.symm)
 |e::es,s,r,q,q',⟨s1,h,hx⟩,h1,h2=>⟨s1,h.seq h1 (iw.refl _),rG.seq es s1 s1 q q' hx (iw.refl _) h2⟩
theorem apart_spec {e f:Ev}(h:oA ops e f=true):(∀d,e.o.dst=some d→d∉looks ops f.o)∧(∀d,f.o.dst=some d→d∉looks ops e.o)∧(∀d,e.o.dst=some d→f.o.dst≠some d)∧
  (∀k∈e.dn.wr,k∉f.kr)∧(∀k∈f.dn.wr,k∉e.kr)∧(∀k∈e.dn.wr,k∉f.dn.wr)∧pr e.dn.xB (f.dn.new.map (·.1))=true∧pr f.dn.xB (e.dn.new.map (·.1))=true :=by
 unfold oA at h;simp only [Bool.and_eq_true] at h;obtain⟨⟨⟨⟨⟨⟨⟨h1,h2⟩,h3⟩,h4⟩,h5⟩,h6⟩,h7⟩,h8⟩:=h;refine⟨fun d hd=> ?_,fun d hd=> ?_,fun d hd C8=> ?_,pz h4,pz h5,pz h6,h7,h8⟩
 · rw [hd] at h1;simp only [yQ,Bool.not_eq_true'] at h1;exact fk.1 h1
 · rw [hd] at h2;simp only [yQ,Bool.not_eq_true'] at h2;exact fk.1 h2
 · rw [hd,C8] at h3;simp only [bG,Bool.not_true] at h3;cases h3
theorem swap {e f:Ev} {s s1 s2:St}(he:kA E ops e s s1)(hf:kA E ops f s1 s2)(ha:oA ops e f=true)(ce:Clean e s)(cf:Clean f s):
  kA E ops f s (ap ops f s)∧kA E ops e (ap ops f s) (ap ops e (ap ops f s))∧iw (ap ops e (ap ops f s)) s2:=by
 obtain⟨a1,a2,a3,a4,a5,a6,a7,a8⟩:=apart_spec ha;have n1:iw s1 (ap ops e s):=he.next;have cf1:Clean f (ap ops e s):=cf.ap ce a7;have ce1:Clean e (ap ops f s):=ce.ap cf a8;have hf':kA E ops f (ap ops e s) s2:=hf.seq n1.symm (iw.refl _)
 have hF:kA E ops f s (ap ops f s):=by
  refine hf'.CG (fun x hx=> ?_) (fun k hk=> ?_) (Hj _ _).symm (As _ _).symm (Hk _ _).symm
  · rw [DT ce,if_neg (fun h=>a1 x h hx)]
  · have :k∉e.dn.wr:=fun h=>by
     rcases hk with hk|hk
     · exact a4 k h hk
     · exact a6 k h hk
    rw [DU ce,qp this]
 have hE:kA E ops e (ap ops f s) (ap ops e (ap ops f s)):=by
  refine he.CG (fun x hx=> ?_) (fun k hk=> ?_) (Hj _ _) (As _ _) (Hk _ _)
  · rw [DT cf,if_neg (fun h=>a2 x h hx)]
  · have :k∉f.dn.wr:=fun h=>by
     rcases hk with hk|hk
     · exact a5 k h hk
     · exact a6 k hk h
    rw [DU cf,qp this]
 refine⟨hF,hE,iw.trans ?_ hf'.next.symm⟩;show iw (ap ops e (ap ops f s)) (ap ops f (ap ops e s));refine⟨?_,?_,by rw [Hj,Hj,Hj,Hj],by rw [As,As,As,As],by rw [Hk,Hk,Hk,Hk]⟩
 · funext i;rw [DT ce1,DT cf,DT cf1,DT ce];by_cases h1:e.o.dst=some i
   · have h2:¬f.o.dst=some i:=a3 i h1;simp only [h1,h2,if_true,if_false]
   · simp only [h1,if_false]
 · funext k;rw [DU ce1,DU cf,DU cf1,DU ce];by_cases h1:k∈e.dn.wr
   · have :k∉f.dn.wr:=a6 k h1;simp only [qp this]
   · simp only [qp h1]
def pB(ops:List Oper):List Ev→Prop
 | []=>True
 |e::es=>(∀f∈es,pr e.dn.xB (f.dn.new.map (·.1))=true∧(waits f e=true∨oA ops e f=true))∧pB ops es
theorem Qu:∀(es1:List Ev) (f:Ev) (nJ:List Ev) (s q:St),rG E ops (es1++f::nJ) s q→(∀e∈es1,oA ops e f=true)→
  pB ops (es1++f::nJ)→(∀g∈es1++f::nJ,Clean g s)→kA E ops f s (ap ops f s)∧rG E ops (es1++nJ) (ap ops f s) q
 | [],f,nJ,s,q,hx,ha,_,hc=>by
   obtain⟨s1,h1,h2⟩:=hx;refine⟨h1.CG (fun _ _=>rfl) (fun _ _=>rfl) rfl rfl rfl,rG.seq _ _ _ _ _ h2 h1.next.symm (iw.refl _)⟩
 |e::es1,f,nJ,s,q,hx,ha,hP,hc=>by
  obtain⟨s1,h1,h2⟩:=hx;have ce:=hc e (by simp)
  have NW:∀g∈es1++f::nJ,Clean g s1:=by
   intro g hg;have h:=(hc g (by simp only [List.cons_append,List.mem_cons];exact .inr hg)).ap (ops:=ops) ce (hP.1 g hg).1;have hn:iw s1 (ap ops e s):=h1.next;exact⟨fun i=>by rw [hn.1];exact h.1 i,fun k=>by rw [hn.2.1];exact h.2 k⟩
  obtain⟨b1,b2⟩:=Qu es1 f nJ s1 q h2 (fun e' WT=>ha e' (List.mem_cons_of_mem _ WT)) hP.2 NW;obtain⟨c1,c2,c3⟩:=swap h1 b1 (ha e (by simp)) ce (hc f (by simp));exact⟨c1,ap ops e (ap ops f s),c2,rG.seq _ _ _ _ _ b2 c3 (iw.refl _)⟩
end
end Go.Vg

end
section
namespace Go.Vg
open Go
section
variable {P:Program} {C:Ctx} {E:Env}
theorem rH {l:Array Bool} {i:Nat}(h:i<l.size):l.getD i true=l.getD i false :=by
 rw [Array.getD_eq_getD_getElem?,Array.getD_eq_getD_getElem?,Array.getElem?_eq_getElem h];rfl
theorem pB.sub:∀ {es1:List Ev} {f:Ev} {nJ:List Ev} {ops:List Oper},pB ops (es1++f::nJ)→pB ops (es1++nJ)
 | [],f,nJ,ops,h=>h.2
 |e::es1,f,nJ,ops,h=>by
  refine⟨fun g hg=>h.1 g ?_,pB.sub (es1:=es1) h.2⟩;have hg:g∈es1++nJ:=hg;show g∈es1++f::nJ;rw [List.mem_append] at hg ⊢;exact hg.imp id (List.mem_cons_of_mem _)
theorem pB.mid:∀ {es1:List Ev} {f:Ev} {nJ:List Ev} {ops:List Oper},pB ops (es1++f::nJ)→(∀e∈es1,pr e.dn.xB (f.dn.new.map (·.1))=true∧(waits f e=true∨oA ops e f=true))∧
  ∀g∈nJ,pr f.dn.xB (g.dn.new.map (·.1))=true
 | [],f,nJ,ops,h=>⟨fun e he=>(by cases he),fun g hg=>(h.1 g hg).1⟩
 |e::es1,f,nJ,ops,h=>by
  obtain⟨h1,h2⟩:=pB.mid (es1:=es1) h.2;refine⟨fun e' WT=> ?_,h2⟩;rcases List.mem_cons.1 WT with rfl|WT
  · exact h.1 f (by simp)
  · exact h1 e' WT
def ajJ(all:List Ev):Prop :=∀f∈all,∀k∈f.pre,∃x∈f.o.after.toList,Region.binds .any x=true∧(x.on=k∨∃g∈all,g.i=x.on∧k∈g.pre)
theorem Oo(hE:fq P C E) {ops:Array Oper} {Q:Exit→Act→World→Prop}:∀(fuel:Nat) (listed:Array Bool) (es:List Ev) (s q:St) (a:Act) (w:World),
  es.length≤fuel→rG E ops.toList es s q→pB ops.toList es→(∀g∈es,Clean g s)→(es.map (·.i)).Pairwise (· < ·)→(∀i,listed.getD i true=false↔∃e∈es,e.i=i)→
  (∀e∈es,∀x∈e.o.after.toList,Region.binds .any x=true→x.on<e.i)→(∀e∈es,ops[e.i]? =some e.o)→∀(all:List Ev),(∀e∈es,e∈all)→(∀g∈all,ops[g.i]? =some g.o)→ajJ all→(∀g∈all,listed.getD g.i true=true→∀k∈g.pre,listed.getD k false=true)→listed.size=ops.size→Rel C s a w→(∀a' w',Rel C q a' w'→Q .normal a' w')→wpAny P .any ops Q fuel listed a w:=by
 intro fuel;induction fuel with
 |zero=>
  intro listed es s q a w hl hx hP hc hi hm hb ho all jf hao WU gG cU hR hQ;have :es= []:=List.length_eq_zero_iff.1 (Nat.le_zero.1 hl);subst this;obtain⟨A,β,hB⟩:=hR;refine⟨?_,hQ _ _ ⟨A,β,hB.seq hx⟩⟩;rw [List.eq_nil_iff_forall_not_mem];intro j hj;obtain⟨h0,_⟩:=mem_ready.1 hj;obtain⟨e,he,_⟩:=(hm j).1 h0;cases he
 |succ fuel ih=>
  intro listed es s q a w hl hx hP hc hi hm hb ho all jf hao WU gG cU hR hQ;refine⟨fun hr=> ?_,fun i hX=> ?_⟩
  · cases es with
    |nil=>
     obtain⟨A,β,hB⟩:=hR;exact hQ _ _ ⟨A,β,hB.seq hx⟩
    |cons e es=>
     exfalso;have hoe:=ho e (by simp);have eM:e.i<ops.size:=(Array.getElem?_eq_some_iff.1 hoe).1
     have :e.i∈Region.ready .any ops listed:=by
      refine mem_ready.2 ⟨(hm e.i).2 ⟨e,by simp,rfl⟩,e.o,hoe,fun x j1 hbx=> ?_⟩;have hon:=hb e (by simp) x (by simpa using j1) hbx;rw [←rH (by rw [cU];omega)];cases hq:listed.getD x.on true with
      |true=>rfl
      |false=>
       obtain⟨g,hg,hgi⟩:=(hm x.on).1 hq;exfalso;rcases List.mem_cons.1 hg with rfl|hg
       · omega
       · have :e.i<g.i:=(List.pairwise_cons.1 hi).1 g.i (List.mem_map_of_mem hg);omega
     rw [hr] at this;cases this
  · obtain⟨h0,o,xI,Oq⟩:=mem_ready.1 hX;obtain⟨f,hf,hfi⟩:=(hm i).1 h0;obtain⟨es1,nJ,rfl⟩:=List.append_of_mem hf;subst hfi;have hof:=ho f (by simp);rw [hof] at xI;simp only [Option.some.injEq] at xI;subst xI;obtain⟨m1,m2⟩:=hP.mid
    have ah1:∀g∈all,ops[g.i]? =some f.o→∀k∈g.pre,listed.getD k false=true :=by
     intro g hg hgo k hk
     have hgf:g.o=f.o:=by
      have :=hao g hg;rw [hgo] at this;exact(Option.some.inj this).symm
     obtain⟨x,Ca,hx2,hx3⟩:=WU g hg k hk;rw [hgf] at Ca;have LY:=Oq x (by simpa using Ca) hx2;rcases hx3 with rfl|⟨g',wx,hgi,hkg⟩
     · exact LY
     · refine gG g' wx ?_ k hkg;rw [hgi];rw [Array.getD_eq_getD_getElem?] at LY ⊢;cases hq:listed[x.on]? with
       |none=>rfl
       |some b=>rw [hq] at LY;exact LY
    have Cn:∀e∈es1,oA ops.toList e f=true :=by
     intro e he;rcases(m1 e he).2 with hw|hw
     · exfalso;have hmk:e.i∈f.pre:=(vT _ _).1 hw;have this :=ah1 f (jf f (by simp)) hof e.i hmk;have he0:=(hm e.i).2 ⟨e,by simp [he],rfl⟩
       have eM:e.i<listed.size:=by
        rw [cU];exact(Array.getElem?_eq_some_iff.1 (ho e (by simp [he]))).1
       rw [rH eM] at he0;rw [he0] at this;cases this
     · exact hw
    obtain⟨c1,c2⟩:=Qu es1 f nJ s q hx Cn hP hc;refine yU hE c1 hR fun a' w' lQ=> ?_;have cf:=hc f (by simp)
    have hU:∀e∈es1++nJ,e∈es1++f::nJ:=by
     intro e he;rw [List.mem_append] at he ⊢;exact he.imp id (List.mem_cons_of_mem _)
    have dD:∀e∈es1++nJ,e.i≠f.i:=by
     intro e he;rw [List.map_append,List.map_cons,List.pairwise_append] at hi;obtain⟨p1,p2,p3⟩:=hi;rcases List.mem_append.1 he with he|he
     · have :e.i<f.i:=p3 e.i (List.mem_map_of_mem he) f.i (by simp);omega
     · have :f.i<e.i:=(List.pairwise_cons.1 p2).1 e.i (List.mem_map_of_mem he);omega
    have ar2:f.i<listed.size:=by rw [cU];exact(Array.getElem?_eq_some_iff.1 hof).1
    refine ih (listed.setIfInBounds f.i true) (es1++nJ) (ap ops.toList f s) q a' w' ?_ c2 hP.sub ?_ ?_ ?_ (fun e he=>hb e (hU e he)) (fun e he=>ho e (hU e he)) all (fun e he=>jf e (hU e he)) hao WU ?_ (by simpa using cU) lQ hQ
    · simp only [List.length_append,List.length_cons] at hl ⊢;omega
    · intro g hg;refine(hc g (hU g hg)).ap cf ?_;rcases List.mem_append.1 hg with hg|hg
      · exact(apart_spec (Cn g hg)).2.2.2.2.2.2.2
      · exact m2 g hg
    · refine hi.sublist ?_;rw [List.map_append,List.map_append,List.map_cons];exact List.Sublist.append (List.Sublist.refl _) (List.sublist_cons_self _ _)
    · intro i;by_cases hif:i=f.i
      · subst hif
        have :(listed.setIfInBounds f.i true).getD f.i true=true :=by
         rw [Array.getD_eq_getD_getElem?,Array.getElem?_setIfInBounds_self_of_lt ar2];rfl
        rw [this];constructor
        · intro h;cases h
        · rintro⟨e,he,h⟩;exact absurd h (dD e he)
      · rw [getD_set_ne true (fun h=>hif h.symm),hm i];constructor
        · rintro⟨e,he,rfl⟩;refine⟨e,?_,rfl⟩;rw [List.mem_append,List.mem_cons] at he;rw [List.mem_append];rcases he with he|rfl|he
          · exact .inl he
          · exact absurd rfl hif
          · exact .inr he
        · rintro⟨e,he,rfl⟩;exact⟨e,hU e he,rfl⟩
    · intro g hg WV k hk;by_cases hgf:g.i=f.i
      · exact getD_set_true (ah1 g hg (by rw [hgf];exact hof) k hk)
      · rw [getD_set_ne true (fun h=>hgf h.symm)] at WV;exact getD_set_true (gG g hg WV k hk)
theorem uE:∀(a b:List Nat) (k:Nat),k∈yP a b→k∈a∨k∈b
 | [],b,k,h=> .inr h
 |j::a,b,k,h=>by
  simp only [yP] at h;cases hj:aG b j with
  |true=>
   rw [hj] at h;rcases uE a b k h with h|h
   · exact .inl (List.mem_cons_of_mem _ h)
   · exact .inr h
  |false=>
   rw [hj] at h;rcases uE a (j::b) k h with h|h
   · exact .inl (List.mem_cons_of_mem _ h)
   · rcases List.mem_cons.1 h with rfl|h
     · exact .inl (List.mem_cons_self ..)
     · exact .inr h
theorem DW:∀(tr:List Ev) (i k:Nat),k∈J1 i tr→∃g∈tr,g.i=i∧k∈g.pre
 |e::tr,i,k,h=>by
  simp only [J1] at h;cases hb:Nat.beq e.i i with
  |true=>rw [hb] at h;exact⟨e,List.mem_cons_self ..,Nat.eq_of_beq_eq_true hb,h⟩
  |false=>
   rw [hb] at h;obtain⟨g,h1,h2⟩:=DW tr i k h;exact⟨g,List.mem_cons_of_mem _ h1,h2⟩
 | [],_,_,h=>by cases h
theorem xJ:∀(tr:List Ev) (xs:List Edge) (k:Nat),k∈lp tr xs→∃x∈xs,Region.binds .any x=true∧(x.on=k∨∃g∈tr,g.i=x.on∧k∈g.pre)
 |tr,x::xs,k,h=>by
  simp only [lp] at h;cases hb:Region.binds .any x with
  |true=>
   rw [hb] at h;rcases uE _ _ k h with h|h
   · refine⟨x,List.mem_cons_self ..,hb,?_⟩;rcases List.mem_cons.1 h with rfl|h
     · exact .inl rfl
     · exact .inr (DW tr _ k h)
   · obtain⟨y,h1,h2⟩:=xJ tr xs k h;exact⟨y,List.mem_cons_of_mem _ h1,h2⟩
  |false=>
   rw [hb] at h;obtain⟨y,h1,h2⟩:=xJ tr xs k h;exact⟨y,List.mem_cons_of_mem _ h1,h2⟩
 |_,[],_,h=>by cases h
theorem Ot {kb:Nat} {ops:List Oper}(es:List Ev):∀(tr:List Ev),J6 kb ops tr es→∀f∈es,∀k∈f.pre,∃x∈f.o.after.toList,Region.binds .any x=true∧(x.on=k∨∃g,(g∈tr∨g∈es)∧g.i=x.on∧k∈g.pre):=by
 induction es with
 |nil=>intro tr _ f hf;cases hf
 |cons e es ih=>
  intro tr h f hf k hk;obtain⟨_,hp,hr⟩:=h;rcases List.mem_cons.1 hf with rfl|hf
  · rw [hp] at hk;obtain⟨x,h1,h2,h3⟩:=xJ tr _ k hk;refine⟨x,h1,h2,h3.imp id ?_⟩;rintro⟨g,hg,h⟩;exact⟨g, .inl hg,h⟩
  · obtain⟨x,h1,h2,h3⟩:=ih (e::tr) hr f hf k hk;refine⟨x,h1,h2,h3.imp id ?_⟩;rintro⟨g,hg,h⟩;refine⟨g,?_,h⟩;rcases hg with hg|hg
    · rcases List.mem_cons.1 hg with rfl|hg
      · exact .inr (List.mem_cons_self ..)
      · exact .inl hg
    · exact .inr (List.mem_cons_of_mem _ hg)
theorem y8 {kb:Nat} {ops:List Oper}:∀(es tr:List Ev),J6 kb ops tr es→(∀e∈tr,∀f∈es,pr e.dn.xB (f.dn.new.map (·.1))=true∧(waits f e=true∨oA ops e f=true))∧
  pB ops es∧(∀f∈es,∀x∈f.o.after.toList,Region.binds .any x=true→x.on<f.i)∧∀f∈es,∀x∈f.dn.new,ct kb ((kL ops).map .dst) x.1=true
 | [],tr,_=>⟨fun _ _ f hf=>(by cases hf),trivial,fun f hf=>(by cases hf),fun f hf=>(by cases hf)⟩
 |f::es,tr,⟨h,_,hr⟩=>by
  obtain⟨r1,r2,r3,r4⟩:=y8 es (f::tr) hr;simp only [wQ,cond_true,Bool.and_eq_true,List.all_eq_true,Bool.or_eq_true] at h;obtain⟨⟨h1,h2⟩,h3⟩:=h;refine⟨fun e he g hg=> ?_,⟨fun g hg=>r1 f (by simp) g hg,r2⟩,fun g hg x hx hb=> ?_,fun g hg x hx=> ?_⟩
  · rcases List.mem_cons.1 hg with rfl|hg
    · exact h1 e he
    · exact r1 e (List.mem_cons_of_mem _ he) g hg
  · rcases List.mem_cons.1 hg with rfl|hg
    · rcases h2 x hx with h|h
      · rw [hb] at h;cases h
      · exact Nat.le_of_ble_eq_true h
    · exact r3 g hg x hx hb
  · rcases List.mem_cons.1 hg with rfl|hg
    · exact h3 x hx
    · exact r4 g hg x hx
theorem aF.drew {A:Nat→Prop} {β:Nat→Value} {st:St} {a:Act} {w:World}(hB:aF C A β st a w)(n:Nat):aF C A β st a {w with drawn:=n}:=by
 have hK:cP w {w with drawn:=n} A A:=fun b hb=>⟨hb,rfl⟩;refine⟨hB.defers,hB.size,fun i=>iI hK _ _ (hB.tmps i),fun k ab h=> ?_,hB.apart,hB.bound,⟨hB.frame.os,hB.frame.tape,hB.frame.output,hB.frame.size,hB.frame.block⟩,hB.kE,hB.base,hB.nA,hB.qO,fun i d hd=>(hB.laid i d hd).mono hK,hB.held⟩;have :=tI (w:=w) (aJ:=β) (new:= []) (w':= {w with drawn:=n}) (fun _ _=>rfl) rfl (fun b hb=>⟨rfl,id⟩) hK (hB.blocks k ab h);rwa [show cJ [] ab=ab from rfl] at this
theorem Hl {ops:List Oper}(es:List Ev):∀(s q:St),rG E ops es s q→∀e∈es,ops[e.i]? =some e.o:=by
 induction es with
 |nil=>intro s q _ e he;cases he
 |cons e es ih=>
  intro s q hx f hf;obtain⟨s1,h1,h2⟩:=hx;rcases List.mem_cons.1 hf with rfl|hf
  · exact h1.op
  · exact ih s1 q h2 f hf
theorem GL(hE:fq P C E)(hm:P.follows .mixedOrders=true) {id:Nat} {ops:Array Oper} {st:St} {a:Act} {w:World} {cs:List Prop} {m:St}(h:yR E true ops.toList st=some (cs,m))(dc:∀p∈cs,p)
  (hR:Rel C st a w) {Q:Exit→Act→World→Prop} (hQ:∀a' w',Rel C m a' w'→Q .normal a' w'):(Code.region id ops true).wp P Q a w:=by
 simp only [yR,cond_true] at h;obtain⟨es,sl,h1,h2,h3,h4⟩:=py ops.toList 0 [] _ cs m h dc (fun k=>by simp);obtain⟨_,p1,p2,p3⟩:=y8 es [] (h3 rfl);obtain⟨A,β,hB⟩:=hR
 have hlen:es.length=ops.size:=by
  have :=congrArg List.length h2;simpa using this
 have WW:∀i,(∃e∈es,e.i=i)↔i<ops.size:=by
  intro i;have :(∃e∈es,e.i=i)↔i∈es.map (·.i):=by simp
  rw [this,h2,List.mem_range'_1,Array.length_toList];omega
 refine wp_region_any hm (Oo (C:=C) hE ops.size _ es _ sl _ _ (by omega) h1 p1 (fun g hg=> ?_) ?_ (fun i=> ?_) p2 (fun e he=> ?_) es (fun _ h=>h) (fun e he=> ?_) ?_ ?_ (by simp) ⟨A,β,(hB.ahead _).drew _⟩ (fun a' w' ⟨A,β,hB⟩=>hQ _ _ ⟨A,β,h4 _ _ _ _ _ hB⟩))
 · have hp:∀k,fM g.dn.new k=true→ct st.kb ((kL ops.toList).map .dst) k=true :=by
    intro k hk
    have :∃x∈g.dn.new,x.1=k:=by
     clear hlen WW p3 h3 p2;have wx:=g.dn.new;rw [sy] at hk
     have :k∈g.dn.new.map (·.1):=by
      apply Classical.byContradiction;intro hn;rw [gl _ k (fk.2 hn)] at hk;cases hk
     simpa using this
    obtain⟨x,hx,rfl⟩:=this;exact p3 g hg x hx
   have ah2:∀k,(ct st.kb ((kL ops.toList).map .dst) k || fM g.dn.new k)=ct st.kb ((kL ops.toList).map .dst) k:=by
    intro k;cases hk:fM g.dn.new k with
    |false=>rw [Bool.or_false]
    |true=>rw [hp k hk];rfl
   refine⟨fun i=> ?_,fun k=> ?_⟩
   · simp only [St.ahead,dN,ah2]
   · simp only [St.ahead,iv,ah2]
 · rw [h2];exact List.pairwise_lt_range'
 · rw [WW];constructor
   · intro h;by_cases hi:i<ops.size
     · exact hi
     · rw [Array.getD_eq_getD_getElem?,Array.getElem?_eq_none (by simpa using hi)] at h;cases h
   · intro hi;rw [Array.getD_eq_getD_getElem?,Array.getElem?_replicate,if_pos hi];rfl
 · have :=Hl es _ _ h1 e he;simpa using this
 · have :=Hl es _ _ h1 e he;simpa using this
 · intro f hf k hk;obtain⟨x,g1,g2,g3⟩:=Ot es [] (h3 rfl) f hf k hk;refine⟨x,g1,g2,g3.imp (fun h=>h) ?_⟩;rintro⟨g,hg,h⟩;rcases hg with hg|hg
   · cases hg
   · exact⟨g,hg,h⟩
 · intro g hg WV;have hgi:g.i<ops.size:=(WW g.i).1 ⟨g,hg,rfl⟩;rw [Array.getD_eq_getD_getElem?,Array.getElem?_replicate,if_pos hgi] at WV;cases WV
theorem wU(hE:fq P C E)(hm:P.follows .mixedOrders=true) {id:Nat} {ops:Array Oper} {d:Bool} {st:St} {a:Act} {w:World} {cs:List Prop} {m:St}(h:yR E d ops.toList st=some (cs,m))(dc:∀p∈cs,p)
  (hR:Rel C st a w) {Q:Exit→Act→World→Prop} (hQ:∀a' w',Rel C m a' w'→Q .normal a' w'):(Code.region id ops d).wp P Q a w:=by
 cases d
 · exact J9 hE h dc hR hQ
 · exact GL hE hm h dc hR hQ
end
end Go.Vg

end
section
namespace Go.Vg
open Go
section
variable {P:Program} {C:Ctx} {E:Env} {A:Nat→Prop} {β:Nat→Value} {st:St} {a:Act} {w:World}
theorem eO.clear {W:List Nat} {s m:St}(h:eO W s.clear m):eO W s.clear m:=h
theorem aF.clear(hB:aF C A β st a w):aF C A β st.clear a w:=hB.seq ⟨rfl,rfl,rfl,rfl,rfl⟩
theorem WX(hB:aF C A β st a w) {c:Operand}(h:ev st c= .tt):a.eval c= .bool true :=by
 have :=aV hB c;rw [h] at this;simpa only [aa] using this
theorem WY(hB:aF C A β st a w) {c:Operand}(h:ev st c= .ff):a.eval c= .bool false :=by
 have :=aV hB c;rw [h] at this;simpa only [aa] using this
theorem LZ(hB:aF C A β st a w) {c:Operand} {b:Bool}(h:ev st c= .bool b):a.eval c= .bool b:=by
 have :=aV hB c;rw [h] at this;simpa only [aa] using this
theorem WZ(hB:aF C A β st a w) {c:Operand} {row:List Ty} {l:List (Row row)}(h:ev st c= .og row l):∃b,a.eval c= .bool b∧(b=true→l= []):=by
 have :=aV hB c;rw [h] at this;simpa only [aa] using this
theorem pC {W W':List Nat}:∀i,aG (W++W') i=false→aG W i=false :=by
 intro i h;rw [cV,Bool.or_eq_false_iff] at h;exact h.1
theorem uF {W W':List Nat}:∀i,aG (W++W') i=false→aG W' i=false :=by
 intro i h;rw [cV,Bool.or_eq_false_iff] at h;exact h.2
theorem jH:∀(c:Code) (st:St) (cs:List Prop) (m:St),e7 E c st=some (cs,m)→eO (tw c) st m
 | .skip,st,cs,m,h=>by
   simp only [e7,Option.some.injEq,Prod.mk.injEq] at h;rw [←h.2];exact eO.refl _ _
 | .region id ops d,st,cs,m,h=>by
   simp only [e7] at h;exact DH h
 | .seq x y,st,cs,m,h=>by
   simp only [e7] at h;split at h
   · rename_i c bQ hx;obtain⟨c',hy,_⟩:=nb h;exact(jH x _ _ _ hx).trans (jH y _ _ _ hy)
   · cases h
 | .cond c x y,st,cs,m,h=>by
   simp only [e7] at h;split at h
   · exact(jH x _ _ _ h).mono pC
   · exact(jH y _ _ _ h).mono uF
   · obtain⟨c1,s1,c2,s2,r1,r2,hm,rfl⟩:=vR h;exact eO.merge hm
   · cases h
 | .block id b,st,cs,m,h=>by
   simp only [e7] at h;exact jH b _ _ _ h
 | .loop _,st,cs,m,h=>by simp [e7] at h
 | .rangeFunc _ _ _ _,st,cs,m,h=>by simp [e7] at h
 | .exit _,st,cs,m,h=>by simp [e7] at h
 | .scope _,st,cs,m,h=>by simp [e7] at h
 | .label _,st,cs,m,h=>by simp [e7] at h
 | .goto _,st,cs,m,h=>by simp [e7] at h
 | .ret,st,cs,m,h=>by simp [e7] at h
 | .refuse _,st,cs,m,h=>by simp [e7] at h
theorem iM(hE:fq P C E)(hm:P.follows .mixedOrders=true):∀(c:Code) (st:St) (cs:List Prop) (m:St) (a:Act) (w:World) (Q:Exit→Act→World→Prop),e7 E c st=some (cs,m)→(∀p∈cs,p)→Rel C st a w→
  (∀a' w',Rel C m a' w'→Q .normal a' w')→c.wp P Q a w
 | .skip,st,cs,m,a,w,Q,h,dc,hR,hQ=>by
   simp only [e7,Option.some.injEq,Prod.mk.injEq] at h;exact wp_skip (hQ _ _ (by rw [←h.2];exact hR))
 | .region id ops d,st,cs,m,a,w,Q,h,dc,hR,hQ=>by
   simp only [e7] at h;exact wU hE hm h dc hR hQ
 | .seq x y,st,cs,m,a,w,Q,h,dc,hR,hQ=>by
   simp only [e7] at h;split at h
   · rename_i c bQ hx;obtain⟨c',hy,rfl⟩:=nb h
     exact wp_seq (iM hE hm x st _ _ a w _ hx (fun p hp=>dc p (List.mem_append_left _ hp)) hR fun a' w' lQ=>
      iM hE hm y bQ _ _ a' w' Q hy (fun p hp=>dc p (List.mem_append_right _ hp)) lQ hQ)
   · cases h
 | .cond c x y,st,cs,m,a,w,Q,h,dc,hR,hQ=>by
   obtain⟨A,β,hB⟩:=hR;simp only [e7] at h;split at h
   · rename_i hv;exact wp_cond_true (WX hB hv) (iM hE hm x st _ _ a w Q h dc ⟨A,β,hB⟩ hQ)
   · rename_i hv;exact wp_cond_false (WY hB hv) (iM hE hm y st _ _ a w Q h dc ⟨A,β,hB⟩ hQ)
   · rename_i b hv;obtain⟨c1,s1,c2,s2,r1,r2,hmg,rfl⟩:=vR h;have hc:=Bn dc;have f1:=(jH x _ _ _ r1).mono (W':=tw x++tw y) pC;have f2:=(jH y _ _ _ r2).mono (W':=tw x++tw y) uF;refine wp_cond_split (LZ hB hv) (fun hb=> ?_) (fun hb=> ?_)
     · subst hb
       exact iM hE hm x st.clear _ _ a w Q r1 (hc.1 rfl) ⟨A,β,hB.clear⟩ fun a' w' ⟨A',aJ,Og⟩=>
        hQ _ _ ⟨A',aJ,Og.merge (b:=true) hmg f1 (fun _ _=>rfl) rfl rfl rfl f2 (fun _ _=>rfl) rfl rfl rfl⟩
     · subst hb
       exact iM hE hm y st.clear _ _ a w Q r2 (hc.2 rfl) ⟨A,β,hB.clear⟩ fun a' w' ⟨A',aJ,Og⟩=>
        hQ _ _ ⟨A',aJ,Og.merge (b:=false) hmg f1 (fun _ _=>rfl) rfl rfl rfl f2 (fun _ _=>rfl) rfl rfl rfl⟩
   · cases h
 | .block id b,st,cs,m,a,w,Q,h,dc,hR,hQ=>by
   simp only [e7] at h;exact wp_block (iM hE hm b st _ _ a w _ h dc hR hQ)
 | .loop _,st,cs,m,a,w,Q,h,_,_,_=>by simp [e7] at h
 | .rangeFunc _ _ _ _,st,cs,m,a,w,Q,h,_,_,_=>by simp [e7] at h
 | .exit _,st,cs,m,a,w,Q,h,_,_,_=>by simp [e7] at h
 | .scope _,st,cs,m,a,w,Q,h,_,_,_=>by simp [e7] at h
 | .label _,st,cs,m,a,w,Q,h,_,_,_=>by simp [e7] at h
 | .goto _,st,cs,m,a,w,Q,h,_,_,_=>by simp [e7] at h
 | .ret,st,cs,m,a,w,Q,h,_,_,_=>by simp [e7] at h
 | .refuse _,st,cs,m,a,w,Q,h,_,_,_=>by simp [e7] at h
structure jl (W:List Nat) (base s:St):Prop where
 keep:∃p,(∀k,p k=true→ct base.kb s.news k=true)∧(∀i,aG W i=false→s.t i=aI p (base.t i))∧
  ∀k,aG s.bL k=false→ct base.kb s.news k=false→s.h k=cn p (base.h k)
 n:s.n=base.n
 kb:s.kb=base.kb
 bL:∀k,aG base.bL k=true→aG s.bL k=true
 news:∀k,ct base.kb base.news k=true→ct base.kb s.news k=true
 g:s.g=base.g
theorem eO.loose {W:List Nat} {s m:St}(h:eO W s m):jl W s m:=by
 obtain⟨p,h1,h2,h3⟩:=h.keep;exact⟨⟨p,h1,h2,fun k hk _=>h3 k hk⟩,h.n,h.kb,h.bL,h.news,h.g⟩
theorem jl.refl(W:List Nat)(s:St):jl W s s:=(eO.refl W s).loose
theorem jl.mono {W W':List Nat} {s0 s1:St}(h:jl W s0 s1)(hw:∀i,aG W' i=false→aG W i=false):jl W' s0 s1:=by
 obtain⟨p,a1,a2,a3⟩:=h.keep;exact⟨⟨p,a1,fun i hi=>a2 i (hw i hi),a3⟩,h.n,h.kb,h.bL,h.news,h.g⟩
theorem jl.trans {W W':List Nat} {s0 s1 s2:St}(h1:jl W s0 s1)(h2:jl W' s1 s2):jl (W++W') s0 s2:=by
 obtain⟨p,a1,a2,a3⟩:=h1.keep;obtain⟨q,b1,b2,b3⟩:=h2.keep
 have Ou:∀k,ct s0.kb s1.news k=true→ct s0.kb s2.news k=true :=by
  intro k h;have :=h2.news k (by rw [h1.kb];exact h);rwa [h1.kb] at this
 refine⟨⟨fun k=>p k || q k,fun k hk=> ?_,fun i hi=> ?_,fun k hk hn=> ?_⟩,h2.n.trans h1.n,h2.kb.trans h1.kb,fun k h=>h2.bL k (h1.bL k h),fun k h=>Ou k (h1.news k h),h2.g.trans h1.g⟩
 · rcases Bool.or_eq_true _ _ |>.mp hk with h|h
   · exact Ou k (a1 k h)
   · have :=b1 k h;rwa [h1.kb] at this
 · rw [cV,Bool.or_eq_false_iff] at hi;rw [b2 i hi.2,a2 i hi.1,dN]
 · have yA:aG s1.bL k=false :=by
    cases h:aG s1.bL k with
    |false=>rfl
    |true=>rw [h2.bL k h] at hk;cases hk
   have Uw:ct s0.kb s1.news k=false :=by
    cases h:ct s0.kb s1.news k with
    |false=>rfl
    |true=>rw [Ou k h] at hn;cases hn
   rw [b3 k hk (by rw [h1.kb];exact hn),a3 k yA Uw,iv]
def om:Value:= .slice none 0 0
def iV(bad:Nat→Bool)(s:List (Nat×Option Nat))(β:Nat→Value)(k:Nat):Value:=bif bad k then(match bT s k with
 |some (some j)=>β j
 |some none=>om
 |none=>β k) else β k
theorem jI {r r':List Ty} {l:List (Row r)} {m:List (Row r')}(h:eP r r' l=some m):∃e:r=r',m=e▸l:=by
 unfold eP at h;split at h
 · rename_i hr;simp only [Option.some.injEq] at h;exact⟨Ty.jB r r' hr,h.symm⟩
 · cases h
theorem iW:∀ {a b:List Prop},(∀p∈a++b,p)→(∀p∈a,p)∧∀p∈b,p:=by
 intro a b h;exact⟨fun p hp=>h p (List.mem_append_left _ hp),fun p hp=>h p (List.mem_append_right _ hp)⟩
theorem aY {p:Prop}(h:∀q∈ [p],q):p:=h p (by simp)
variable {bad:Nat→Bool} {s:List (Nat×Option Nat)}
structure Keyed (bad:Nat→Bool) (s:List (Nat×Option Nat)) (β aJ:Nat→Value):Prop where
 src:∀K k,bT s K=some (some k)→aJ K=β k
 nil:∀K,bT s K=some none→aJ K=om
 same:∀K,bT s K=none→bad K=false→aJ K=β K
 L0:∀K,bad K=false→aJ K=β K
theorem sD {aJ:Nat→Value}(hK:Keyed bad s β aJ) {k K:Nat}(h:uk s bad k K=true):aJ K=β k:=by
 unfold uk at h;split at h
 · rename_i j hj;rw [hK.src K j hj,Nat.eq_of_beq_eq_true h]
 · cases h
 · rename_i hj;simp only [Bool.and_eq_true,Bool.not_eq_true'] at h;have :=Nat.eq_of_beq_eq_true h.1;subst this;exact hK.L0 k h.2
mutual
theorem mC {aJ:Nat→Value}(hK:Keyed bad s β aJ):∀(x y:AV) (v:Value),(∀p∈Dz s bad x y,p)→aa w A β v x→aa w A aJ v y
 |x,y,v,h,hr=>by
  unfold Dz at h;split at h
  · simp [aa]
  · simpa only [aa] using hr
  · rename_i k n k' m;split at h
    · rename_i hk;subst hk;have :=aY h;subst this;simpa only [aa] using hr
    · exact(aY h).elim
  · simpa only [aa] using hr
  · simpa only [aa] using hr
  · have :=aY h;subst this;simpa only [aa] using hr
  · have :=aY h;subst this;simpa only [aa] using hr
  · have :=aY h;subst this;simpa only [aa] using hr
  · have :=aY h;subst this;simpa only [aa] using hr
  · simpa only [aa] using hr
  · simpa only [aa] using hr
  · simpa only [aa] using hr
  · rename_i r l;have :=aY h;subst this;simp only [aa] at hr ⊢;subst hr;simp only [Rd];exact⟨none,0,[],rfl,by simp,by simp [maxLen],by simp [b9],by simp⟩
  · rename_i r l r' l';split at h
    · rename_i m hm;obtain⟨e,he⟩:=jI hm;subst e;have :=aY h;subst he;subst this;simpa only [aa] using hr
    · exact(aY h).elim
  · rename_i r l r' l';split at h
    · rename_i m hm;obtain⟨e,he⟩:=jI hm;subst e;have :=aY h;subst he;subst this;simp only [aa] at hr ⊢;exact hr.1
    · exact(aY h).elim
  · rename_i k K;simp only [aa] at hr ⊢;split at h
    · rename_i j hj;cases hb:Nat.beq k j with
      |false=>rw [hb] at h;exact(aY h).elim
      |true=>
       have :=Nat.eq_of_beq_eq_true hb;subst this;rw [hK.src K k hj];exact hr
    · exact(aY h).elim
    · rename_i hj;cases hb:(Nat.beq k K&& !bad K) with
      |false=>rw [hb] at h;exact(aY h).elim
      |true=>
       simp only [Bool.and_eq_true,Bool.not_eq_true'] at hb;have :=Nat.eq_of_beq_eq_true hb.1;subst this;rw [hK.same k hj hb.2];exact hr
  · rename_i K;simp only [aa] at hr ⊢;split at h
    · rename_i hj;rw [hK.nil K hj];subst hr;exact⟨rfl,rfl⟩
    · exact(aY h).elim
  · rename_i k o k' o';simp only [aa] at hr ⊢;cases hb:uk s bad k k' with
    |false=>rw [hb] at h;exact(aY h).elim
    |true=>
     rw [hb] at h;have :=aY h;subst this;rw [sD hK hb];exact hr
  · rename_i xs ys;simp only [aa] at hr ⊢;obtain⟨arr,h1,h2⟩:=hr;exact⟨arr,h1,jJ hK xs ys _ h h2⟩
  · rename_i xs ys;simp only [aa] at hr ⊢;obtain⟨arr,h1,h2⟩:=hr;exact⟨arr,h1,jJ hK xs ys _ h h2⟩
  · rename_i f xs us f' ys vs;split at h
    · rename_i hf;subst hf;simp only [aa] at hr ⊢;obtain⟨a1,a2,h1,h2,h3⟩:=hr;obtain⟨g1,g2⟩:=iW h;exact⟨a1,a2,h1,jJ hK xs ys _ g1 h2,jJ hK us vs _ g2 h3⟩
    · exact(aY h).elim
  · rename_i ks xs ks' ys;split at h
    · rename_i lj;subst lj;simp only [aa] at hr ⊢;obtain⟨b,es,ck,h1,h2,h3,h4,h5⟩:=hr;exact⟨b,es,ck,h1,h2,h3,h4,jJ hK xs ys _ h h5⟩
    · exact(aY h).elim
  · exact(aY h).elim
theorem jJ {aJ:Nat→Value}(hK:Keyed bad s β aJ):∀(xs ys:List AV) (vs:List Value),(∀p∈uo s bad xs ys,p)→af w A β vs xs→af w A aJ vs ys
 | [],[],vs,_,hr=>by simpa only [af] using hr
 |x::xs,y::ys,vs,h,hr=>by
  simp only [uo] at h;obtain⟨g1,g2⟩:=iW h;simp only [af] at hr ⊢;obtain⟨v,bK,h1,h2,h3⟩:=hr;exact⟨v,bK,h1,mC hK x y v g1 h2,jJ hK xs ys bK g2 h3⟩
 | [],_::_,vs,h,_=>by simp only [uo] at h;exact(aY h).elim
 |_::_,[],vs,h,_=>by simp only [uo] at h;exact(aY h).elim
end
theorem sE {aJ:Nat→Value}(hK:Keyed bad s β aJ) {k K:Nat} {c b:AB}(hk:aJ K=β k)(h:∀p∈DA s bad (some c) b,p)(hr:BR w A β k c):BR w A aJ K b:=by
 unfold DA at h;split at h
 · rename_i xs ys heq;simp only [Option.some.injEq] at heq;subst heq;obtain⟨g,arr,e,h1,h2,h3,h4,h5⟩:=hr;exact⟨g,arr,e,hk.trans h1,h2,h3,jJ hK xs ys _ h h4,h5⟩
 · rename_i e r l fr e' r' l' zY heq;simp only [Option.some.injEq] at heq;subst heq;split at h
   · rename_i m hm;obtain⟨er,he⟩:=jI hm;subst er;subst he;cases hb:(Nat.beq e e'&&(fr==zY)) with
     |false=>rw [hb] at h;exact(aY h).elim
     |true=>
      rw [hb] at h;simp only [Bool.and_eq_true,beq_iff_eq] at hb;have he:=Nat.eq_of_beq_eq_true hb.1;have hf:=hb.2;subst he;subst hf;have :=aY h;subst this;obtain⟨xs,h1,h2,h3⟩:=hr;simp only [BR,hk];exact⟨xs,h1,h2,h3⟩
   · exact(aY h).elim
 · rename_i r l r' l' heq;simp only [Option.some.injEq] at heq;subst heq;split at h
   · rename_i m hm;obtain⟨er,he⟩:=jI hm;subst er;subst he;have :=aY h;subst this;obtain⟨g,arr,e,h1,h2,h3,h4⟩:=hr;exact⟨g,arr,e,hk.trans h1,h2,h3,h4⟩
   · exact(aY h).elim
 · rename_i e j r l i e' j' r' l' i' heq;simp only [Option.some.injEq] at heq;subst heq;split at h
   · rename_i m hm;obtain⟨er,he⟩:=jI hm;subst er;subst he;cases hb:(Nat.beq e e'&&uk s bad j j') with
     |false=>rw [hb] at h;exact(aY h).elim
     |true=>
      rw [hb] at h;simp only [Bool.and_eq_true] at hb;have he:=Nat.eq_of_beq_eq_true hb.1;have hj:=sD hK hb.2;subst he;have hl:=h _ (List.mem_cons_self ..);have hi:i=i':=h _ (List.mem_cons_of_mem _ (List.mem_cons_self ..));subst hl;subst hi;obtain⟨xs,v0,h1,h2,h3,h4⟩:=hr;simp only [BR,hk];refine⟨xs,v0,h1,h2,h3,fun q hq=> ?_⟩;simp only [Option.some.injEq] at hq;subst hq;rw [hj];exact h4 j rfl
   · exact(aY h).elim
 · rename_i e r l e' jj n m sz heq;simp only [Option.some.injEq] at heq;subst heq;cases hb:(Nat.beq e e'&&Nat.beq r.length 1) with
   |false=>rw [hb] at h;exact(aY h).elim
   |true=>
    rw [hb] at h;simp only [Bool.and_eq_true] at hb;have he:=Nat.eq_of_beq_eq_true hb.1;have W0:=Nat.eq_of_beq_eq_true hb.2;subst he;have hn:l.length=n:=h _ (List.mem_cons_self ..);have hm:m=0:=h _ (List.mem_cons_of_mem _ (List.mem_cons_self ..));subst hn;subst hm;obtain⟨xs,h1,h2,h3⟩:=hr;simp only [BR,hk];rw [W0] at h1;exact⟨xs,h1,fun b hb=>by simpa using h3 b hb,fun j' _ i hi=>absurd hi (Nat.not_lt_zero _)⟩
 · rename_i e j n m sz e' j' n' m' sz' heq;simp only [Option.some.injEq] at heq;subst heq;cases hb:(Nat.beq e e'&&uk s bad j j') with
   |false=>rw [hb] at h;exact(aY h).elim
   |true=>
    rw [hb] at h;simp only [Bool.and_eq_true] at hb;have he:=Nat.eq_of_beq_eq_true hb.1;have hj:=sD hK hb.2;subst he;have hn:n=n':=h _ (List.mem_cons_self ..);have hm:m=m':=h _ (List.mem_cons_of_mem _ (List.mem_cons_self ..));have hs:sz=sz':=h _ (List.mem_cons_of_mem _ (List.mem_cons_of_mem _ (List.mem_cons_self ..)));subst hn;subst hm;subst hs;obtain⟨xs,h1,h2,h3⟩:=hr;simp only [BR,hk];refine⟨xs,h1,h2,fun q hq i hi=> ?_⟩;simp only [Option.some.injEq] at hq;subst hq;obtain⟨v,e1,e2⟩:=h3 j rfl i hi;refine⟨v,e1,?_⟩;simp only [aa] at e2 ⊢;rw [hj];exact e2
 · exact(aY h).elim
end
end Go.Vg

end
section
namespace Go.Vg
open Go
section
variable {P:Program} {C:Ctx} {E:Env} {A:Nat→Prop} {β aJ:Nat→Value} {st:St} {a:Act} {w:World}
theorem Kc(p:Nat→Bool)(bZ:∀k,p k=false→aJ k=β k) {k:Nat}(hk:aJ k=β k) {ab:AB}(h:BR w A β k ab):BR w A aJ k (dm p ab):=by
 cases ab with
 |cells cs=>
  obtain⟨b,arr,e,h1,h2,h3,h4,h5⟩:=h;exact⟨b,arr,e,hk.trans h1,h2,h3,fj p bZ _ _ h4,h5⟩
 |row e row l fr=>
  obtain⟨xs,h1,h2,h3⟩:=h;simp only [dm,BR,hk];exact⟨xs,h1,h2,h3⟩
 |arr row l=>
  obtain⟨b,arr,e,h1,h2,h3,h4⟩:=h;exact⟨b,arr,e,hk.trans h1,h2,h3,h4⟩
 |gD e j row l i=>
  obtain⟨xs,v0,h1,h2,h3,h4⟩:=h;simp only [dm,BR,hk];refine⟨xs,v0,h1,h2,h3,fun j' eJ=> ?_⟩;cases j with
  |none=>simp [eE] at eJ
  |some j0=>
   simp only [eE] at eJ;cases hp:p j0 with
   |true=>rw [hp] at eJ;simp at eJ
   |false=>
    rw [hp] at eJ;simp only [cond_false,Option.some.injEq] at eJ;subst eJ;rw [bZ j0 hp];exact h4 j0 rfl
 |views e j n m sz=>
  obtain⟨xs,h1,h2,h3⟩:=h;simp only [dm,BR,hk];refine⟨xs,h1,h2,fun j' eJ i hi=> ?_⟩;cases j with
  |none=>simp [eE] at eJ
  |some j0=>
   simp only [eE] at eJ;cases hp:p j0 with
   |true=>rw [hp] at eJ;simp at eJ
   |false=>
    rw [hp] at eJ;simp only [cond_false,Option.some.injEq] at eJ;subst eJ;obtain⟨v,e1,e2⟩:=h3 j0 rfl i hi;exact⟨v,e1,tH (bZ j0 hp) e2⟩
theorem kN:∀(cu:List (Loc×Nat)) (s:List (Nat×Option Nat)),sources st cu=some s→∀K r,bT s K=some r→∃l,(l,K)∈cu
 | [],s,h,K,r,hl=>by
   simp only [sources,Option.some.injEq] at h;subst h;cases hl
 |(l,K0)::cu,s,h,K,r,hl=>by
  simp only [sources] at h;split at h
  · rename_i k s' iU gX;simp only [Option.some.injEq] at h;subst h;simp only [bT] at hl;cases hb:Nat.beq K K0 with
    |true=>exact⟨l,by rw [Nat.eq_of_beq_eq_true hb];exact List.mem_cons_self ..⟩
    |false=>
     rw [hb] at hl;obtain⟨l',h'⟩:=kN cu s' gX K r hl;exact⟨l',List.mem_cons_of_mem _ h'⟩
  · rename_i k o s' iU gX;simp only [Option.some.injEq] at h;subst h;simp only [bT] at hl;cases hb:Nat.beq K K0 with
    |true=>exact⟨l,by rw [Nat.eq_of_beq_eq_true hb];exact List.mem_cons_self ..⟩
    |false=>
     rw [hb] at hl;obtain⟨l',h'⟩:=kN cu s' gX K r hl;exact⟨l',List.mem_cons_of_mem _ h'⟩
  · rename_i s' iU gX;simp only [Option.some.injEq] at h;subst h;simp only [bT] at hl;cases hb:Nat.beq K K0 with
    |true=>exact⟨l,by rw [Nat.eq_of_beq_eq_true hb];exact List.mem_cons_self ..⟩
    |false=>
     rw [hb] at hl;obtain⟨l',h'⟩:=kN cu s' gX K r hl;exact⟨l',List.mem_cons_of_mem _ h'⟩
  · cases h
theorem L1(kb:Nat):∀(cu:List (Loc×Nat)) (l:Loc) (K:Nat),(l,K)∈cu→ct kb (cu.map fun x=>KS.one x.2) K=true
 |(l0,K0)::cu,l,K,h=>by
  simp only [List.map_cons,ct,KS.has,Bool.or_eq_true];rcases List.mem_cons.1 h with h|h
  · simp only [Prod.mk.injEq] at h;rw [h.2];exact .inl (bG _)
  · exact .inr (L1 kb cu l K h)
theorem Bw {τ:Type} {s:List (Nat×Option Nat)} {bad:Nat→Bool} {x:τ}:∀(l:List (Nat×(τ→AV))) (i:Nat) (f:τ→AV),fh l i=some f→∀p∈Dz s bad (st.t i) (f x),p∈CC s bad st x l
 |(j,g)::r,i,f,h,p,hp=>by
  simp only [fh] at h;simp only [CC,List.mem_append];cases hb:Nat.beq i j with
  |true=>
   rw [hb] at h;simp only [cond_true,Option.some.injEq] at h;have :=Nat.eq_of_beq_eq_true hb;subst this;subst h;exact .inl hp
  |false=>
   rw [hb] at h;exact .inr (Bw r i f h p hp)
def W2 {τ:Type}(s:List (Nat×Option Nat))(bad:Nat→Bool)(st:St)(x:τ)(K:Nat)(f:τ→AB):List Prop :=match bT s K with
 |some (some k)=>DA s bad (st.h k) (f x)
 |some none=>match f x with
  | .row _ _ l false=> [[]=l]
  |_=> [False]
 |none=>bif bad K then [False] else DA s bad (st.h K) (f x)
theorem DX {τ:Type} {s:List (Nat×Option Nat)} {bad:Nat→Bool} {x:τ}:∀(l:List (Nat×(τ→AB))) (i:Nat) (f:τ→AB),fh l i=some f→∀p∈W2 s bad st x i f,p∈J4 s bad st x l
 |(j,g)::r,i,f,h,p,hp=>by
  simp only [fh] at h;simp only [J4,List.mem_append];cases hb:Nat.beq i j with
  |true=>
   rw [hb] at h;simp only [cond_true,Option.some.injEq] at h;have :=Nat.eq_of_beq_eq_true hb;subst this;subst h;exact .inl hp
  |false=>
   rw [hb] at h;exact .inr (DX r i f h p hp)
theorem gJ:∀(s:List (Nat×Option Nat)) (K k:Nat),bT s K=some (some k)→k∈dA s
 |(j,r)::s,K,k,h=>by
  simp only [bT] at h;cases hb:Nat.beq K j with
  |true=>
   rw [hb] at h;simp only [cond_true,Option.some.injEq] at h;subst h;simp [dA]
  |false=>
   rw [hb] at h;have :=gJ s K k h;cases r<;>simp [dA,this]
theorem sF:∀(s:List (Nat×Option Nat)),ia (dA s)=true→∀K K' k,bT s K=some (some k)→bT s K'=some (some k)→K=K'
 |(j,r)::s,hn,K,K',k,h,h'=>by
  have Ov:ia (dA s)=true :=by
   cases r with
   |none=>exact hn
   |some j'=>simp only [dA,ia,Bool.and_eq_true] at hn;exact hn.2
  simp only [bT] at h h';cases hb:Nat.beq K j with
  |true=>
   cases bA:Nat.beq K' j with
   |true=>rw [Nat.eq_of_beq_eq_true hb,Nat.eq_of_beq_eq_true bA]
   |false=>
    rw [hb] at h;rw [bA] at h';simp only [cond_true,Option.some.injEq] at h;subst h;have :=gJ s K' k h';simp only [dA,ia,Bool.and_eq_true,Bool.not_eq_true'] at hn;exact absurd this (fk.1 hn.1)
  |false=>
   cases bA:Nat.beq K' j with
   |true=>
    rw [hb] at h;rw [bA] at h';simp only [cond_true,Option.some.injEq] at h';subst h';have :=gJ s K k h;simp only [dA,ia,Bool.and_eq_true,Bool.not_eq_true'] at hn;exact absurd this (fk.1 hn.1)
   |false=>
    rw [hb] at h;rw [bA] at h';exact sF s Ov K K' k h h'
theorem rI {s:List (Nat×Option Nat)} {bad:Nat→Bool} {o:Option AB} {b:AB}(h:∀p∈DA s bad o b,p):∃c,o=some c:=by
 cases o with
 |some c=>exact⟨c,rfl⟩
 |none=>unfold DA at h;exact(aY h).elim
theorem Kd {β:Nat→Value} {k e:Nat} {row:List Ty} {l:List (Row row)}(hk:β k=om)(hl: []=l):BR w A β k (.row e row l false):=by
 subst hl;refine⟨[],⟨by simp, .inl ⟨hk,rfl⟩⟩,by simp [b9],fun b hb=> ?_⟩;rw [hk] at hb;simp [om,ay] at hb
theorem UL {L:an} {W:List Nat} {base:St} {s:List (Nat×Option Nat)} {x:L.τ}(fe:sources st L.cu=some s)(W3:vP L W base st s=true)(hm:∀p∈vQ L W base st s x,p)(hB:aF C A β st a w)
  (hT:∀i,aG W i=false→∃p,(∀k,p k=true→ct base.kb (ca L W) k=true)∧st.t i=aI p (base.t i))
  (hH:∀k,aG st.bL k=false→ct base.kb (ca L W) k=false→fh L.keys k=none→∃p,(∀k,p k=true→ct base.kb (ca L W) k=true)∧st.h k=cn p (base.h k))
  (hn:st.n=base.n) (WS:st.g=base.g):aF C A (iV (ct base.kb (ca L W)) s β) (jq L W base x) a w:=by
 generalize wV:ct base.kb (ca L W)=bad at *;simp only [vP,wV,Bool.and_eq_true] at W3;obtain⟨⟨⟨⟨⟨⟨⟨o1,o2⟩,oP2⟩,o3⟩,o4⟩,o5⟩,o6⟩,o7⟩:=W3;rw [List.all_eq_true] at oP2 o3 o4 o5 o6 o7
 have W4:∀K r,bT s K=some r→bad K=true :=by
  intro K r h;obtain⟨l,hl⟩:=kN _ _ fe K r h;rw [←wV];simp only [ca,de,L1 base.kb _ l K hl,Bool.true_or,Bool.or_true]
 have uG:∀K,bad K=false→iV bad s β K=β K:=by
  intro K h;simp only [iV,h,cond_false]
 have wy:Keyed bad s β (iV bad s β):=by
  refine⟨fun K k h=> ?_,fun K h=> ?_,fun K _ h=>uG K h,uG⟩
  · simp only [iV,W4 K _ h,cond_true,h]
  · simp only [iV,W4 K _ h,cond_true,h]
 have hm1:∀i f,fh L.aO i=some f→∀p∈Dz s bad (st.t i) (f x),p:=by
  intro i f hf p hp;refine hm p ?_;simp only [vQ,wV,List.mem_append];exact .inl (Bw _ i f hf p hp)
 have hm2:∀K f,fh L.keys K=some f→∀p∈W2 s bad st x K f,p:=by
  intro K f hf p hp;refine hm p ?_;simp only [vQ,wV,List.mem_append];exact .inr (DX _ K f hf p hp)
 have fc:∀K ab,(jq L W base x).h K=some ab→BR w A (iV bad s β) K ab∧(iV bad s β K=om∨∃j,iV bad s β K=β j∧(st.h j).isSome∧((bad K=false∧j=K)∨(bad K=true∧bT s K=some (some j)))):=by
  intro K ab h;simp only [jq,wV] at h;cases hf:fh L.keys K with
  |some f=>
   rw [hf] at h;simp only [Option.some.injEq] at h;subst h;have hc:=hm2 K f hf;unfold W2 at hc;split at hc
   · rename_i k hk;obtain⟨c,nZ⟩:=rI hc;rw [nZ] at hc;exact⟨sE wy (wy.src K k hk) hc (hB.blocks k c nZ), .inr ⟨k,wy.src K k hk,by simp [nZ], .inr ⟨W4 K _ hk,hk⟩⟩⟩
   · rename_i hk;refine⟨?_, .inl (wy.nil K hk)⟩;split at hc
     · rename_i e row l hfx;rw [hfx];exact Kd (wy.nil K hk) (aY hc)
     · exact(aY hc).elim
   · rename_i hk;cases hb:bad K with
     |true=>rw [hb] at hc;exact(aY hc).elim
     |false=>
      rw [hb] at hc;simp only [cond_false] at hc;obtain⟨c,nZ⟩:=rI hc;rw [nZ] at hc;exact⟨sE wy (uG K hb) hc (hB.blocks K c nZ), .inr ⟨K,uG K hb,by simp [nZ], .inl ⟨rfl,rfl⟩⟩⟩
  |none=>
   rw [hf] at h;cases hb:bad K with
   |true=>rw [hb] at h;cases h
   |false=>
    rw [hb] at h;simp only [cond_false] at h
    have hd:aG st.bL K=false :=by
     cases hq:aG st.bL K with
     |false=>rfl
     |true=>
      have :=o7 K ((vT _ _).1 hq);rw [hf,hb] at this;cases this
    obtain⟨p,p1,p2⟩:=hH K hd hb hf;cases B9:base.h K with
    |none=>rw [B9] at h;cases h
    |some b0=>
     rw [B9] at h p2;simp only [cn,Option.some.injEq] at h p2;subst h;have fY:=Kc (aJ:=iV bad s β) bad uG (uG K hb) (hB.blocks K _ p2);rw [fZ] at fY
     have hpq:(fun k=>p k || bad k)=bad:=by
      funext k;cases hp:p k with
      |false=>rfl
      |true=>rw [p1 k hp];rfl
     rw [hpq] at fY;exact⟨fY, .inr ⟨K,uG K hb,by simp [p2], .inl ⟨rfl,rfl⟩⟩⟩
 have LC:∀K,((jq L W base x).h K).isSome→∀b,ay (iV bad s β K)=some b→∃j,iV bad s β K=β j∧(st.h j).isSome∧((bad K=false∧j=K)∨(bad K=true∧bT s K=some (some j))):=by
  intro K hK b hb;obtain⟨ab,fE⟩:=Option.isSome_iff_exists.1 hK;rcases(fc K ab fE).2 with h|h
  · rw [h] at hb;simp [om,ay] at hb
  · exact h
 have hsb:∀K j,bT s K=some (some j)→bad j=true :=fun K j h=>o6 j (gJ s K j h)
 refine⟨hB.defers,hB.size.trans hn,fun i=> ?_,fun K ab h=>(fc K ab h).1,fun K K' b h1 h2 g1 g2=> ?_,hB.bound,hB.frame,hB.kE,hB.base,fun K b h1 g1=> ?_,fun i d hd=>hB.qO i d ((congrFun WS i).trans hd),hB.laid,fun K hK=>by
  have :iV bad s β K=β K:=by
   unfold iV;cases bad K with
   |false=>rfl
   |true=>
    cases hl:bT s K with
    |none=>rfl
    |some y=>
     obtain⟨l,hl⟩:=kN _ _ fe K y hl;have :=oP2 _ hl;simp only at this;rw [hK] at this;cases this
  exact this.trans (hB.held K hK)⟩
 · have hi:=hB.tmps i
   show aa w A _ _ (match fh L.aO i with
    |some f=>f x
    |none=>bif aG W i then .c5 else aI (ct base.kb (ca L W)) (base.t i))
   rw [wV];cases hf:fh L.aO i with
   |some f=>exact mC wy _ _ _ (hm1 i f hf) hi
   |none=>
    simp only;cases hW:aG W i with
    |true=>simp [aa]
    |false=>
     obtain⟨p,p1,p2⟩:=hT i hW;rw [p2] at hi;have :=na (aJ:=iV bad s β) bad uG _ _ hi;rw [dN] at this
     have hpq:(fun k=>p k || bad k)=bad:=by
      funext k;cases hp:p k with
      |false=>rfl
      |true=>rw [p1 k hp];rfl
     rwa [hpq] at this
 · obtain⟨j,e1,l1,c1⟩:=LC K h1 b g1;obtain⟨j',e2,l2,c2⟩:=LC K' h2 b g2;rw [e1] at g1;rw [e2] at g2;have hj:j=j':=hB.apart j j' b l1 l2 g1 g2;subst hj;rcases c1 with⟨b1,rfl⟩|⟨b1,k1⟩<;>rcases c2 with⟨b2,h⟩|⟨b2,k2⟩
   · exact h
   · rw [hsb K' _ k2] at b1;cases b1
   · subst h;rw [hsb K _ k1] at b2;cases b2
   · exact sF s o2 K K' j k1 k2
 · obtain⟨j,e1,l1,c1⟩:=LC K h1 b g1;rw [e1] at g1;exact hB.nA j b l1 g1
theorem wX {L:an} {W:List Nat} {base:St} {Pp:L.τ→Prop}(h:yS L W base st Pp)(hR:Rel C st a w)
  (hT:∀i,aG W i=false→∃p,(∀k,p k=true→ct base.kb (ca L W) k=true)∧st.t i=aI p (base.t i))
  (hH:∀k,aG st.bL k=false→ct base.kb (ca L W) k=false→fh L.keys k=none→∃p,(∀k,p k=true→ct base.kb (ca L W) k=true)∧st.h k=cn p (base.h k))
  (hn:st.n=base.n) (WS:st.g=base.g):∃x,Pp x∧Rel C (jq L W base x) a w:=by
 obtain⟨A,β,hB⟩:=hR;unfold yS at h;split at h
 · exact h.elim
 · rename_i s hs;cases hk:vP L W base st s with
   |false=>rw [hk] at h;exact h.elim
   |true=>
    rw [hk] at h;obtain⟨x,h1,h2⟩:=h;exact⟨x,h2,A,_,UL hs hk (oS _ h1) hB hT hH hn WS⟩
def W5:Ex→Exit
 | .norm=> .normal
 | .exit i=> .exit i
 | .ret=> .ret
theorem xK:∀ {cs:List Prop} {k:Prop},J3 cs k→(∀p∈cs,p)∧k
 | [],k,h=>⟨fun p hp=>(by cases hp),h⟩
 |p::ps,k,h=>by
  obtain⟨h1,h2⟩:=xK (cs:=ps) h.2;refine⟨fun q hq=> ?_,h2⟩;rcases List.mem_cons.1 hq with rfl|hq
  · exact h.1
  · exact h1 q hq
theorem UM(kb:Nat) {W:List Nat} {d k:Nat}(h:(KS.dst d).has kb k=true):aG W d=true→ct kb (W.map .dst) k=true :=by
 induction W with
 |nil=>intro hd;cases hd
 |cons j W ih=>
  intro hd;simp only [aG,Bool.or_eq_true] at hd;simp only [List.map_cons,ct,Bool.or_eq_true];rcases hd with hd|hd
  · have :=Nat.eq_of_beq_eq_true hd;subst this;exact .inl h
  · exact .inr (ih hd)
theorem y9 {L:an} {W:List Nat} {base:St}:∀ {news:List KS},CD L W base news=true→∀k,ct base.kb news k=true→ct base.kb (ca L W) k=true
 | [],_,k,hk=>by cases hk
 |x::news,h,k,hk=>by
  simp only [CD,List.all_cons,Bool.and_eq_true] at h;simp only [ct,Bool.or_eq_true] at hk;rcases hk with hk|hk
  · cases x with
    |one j=>
     simp only [KS.has] at hk;rw [Nat.eq_of_beq_eq_true hk];exact h.1
    |dst d=>
     simp only [ca,de,Bool.or_eq_true];exact .inl (UM base.kb hk h.1)
  · exact y9 (news:=news) h.2 k hk
theorem jl.back {L:an} {W:List Nat} {base:St} {x:L.τ} {m:St}(h:jl W (jq L W base x) m)(nD:∀y∈L.aO,aG W y.1=true):jl W base (St.back L W base m):=by
 obtain⟨p,a1,a2,a3⟩:=h.keep;have nI:(jq L W base x).kb=base.kb:=rfl;rw [nI] at a1 a3;refine⟨⟨fun k=>ct base.kb (ca L W) k || p k,fun k hk=> ?_,fun i hi=> ?_,fun k hk GI=> ?_⟩,h.n,h.kb,fun k hk=> ?_,fun k hk=> ?_,h.g⟩
 · simp only [St.back,de,Bool.or_eq_true] at hk ⊢;rcases hk with hk|hk
   · exact .inr (.inl hk)
   · exact .inr (.inr (a1 k hk))
 · show m.t i=_;rw [a2 i hi,←dN]
   have :(jq L W base x).t i=aI (ct base.kb (ca L W)) (base.t i):=by
    show(match fh L.aO i with
     |some f=>f x
     |none=>bif aG W i then .c5 else aI (ct base.kb (ca L W)) (base.t i))=_
    have Ow:∀(l:List (Nat×(L.τ→AV))),(∀y∈l,aG W y.1=true)→fh l i=none:=by
     intro l;induction l with
     |nil=>intro _;rfl
     |cons y l ih=>
      intro hl;obtain⟨j,g⟩:=y;simp only [fh];have hj:=hl (j,g) (by simp);have :Nat.beq i j=false :=aR (fun h=>by subst h;rw [hi] at hj;cases hj);rw [this];exact ih fun y hy=>hl y (List.mem_cons_of_mem _ hy)
    rw [Ow L.aO nD,hi];rfl
   rw [this]
 · have dx:aG m.bL k=false∧aG (L.keys.map (·.1)) k=false :=by
    simp only [St.back,cV,Bool.or_eq_false_iff] at hk;exact⟨hk.1,hk.2.1⟩
   have Ov:ct base.kb (ca L W) k=false∧ct base.kb m.news k=false :=by
    simp only [St.back,de,Bool.or_eq_false_iff] at GI;exact⟨GI.2.1,GI.2.2⟩
   show m.h k=_;rw [a3 k dx.1 Ov.2,←iv]
   have :(jq L W base x).h k=cn (ct base.kb (ca L W)) (base.h k):=by
    show(match fh L.keys k with
     |some f=>some (f x)
     |none=>bif ct base.kb (ca L W) k then none else cn (ct base.kb (ca L W)) (base.h k))=_
    have Ow:∀(l:List (Nat×(L.τ→AB))),aG (l.map (·.1)) k=false→fh l k=none:=by
     intro l;induction l with
     |nil=>intro _;rfl
     |cons y l ih=>
      intro hl;obtain⟨j,g⟩:=y;simp only [List.map_cons,aG,Bool.or_eq_false_iff] at hl;simp only [fh,hl.1,cond_false];exact ih hl.2
    rw [Ow L.keys dx.2,Ov.1];rfl
   rw [this]
 · simp only [St.back,cV,hk,Bool.or_true]
 · simp only [St.back,de,hk,Bool.true_or]
abbrev Ox(C:Ctx)(W:List Nat)(st:St)(K:Ex→St→Prop)(Q:Exit→Act→World→Prop):Prop :=
 ∀e bQ a' w',K e bQ→jl W st bQ→Rel C bQ a' w'→Q (W5 e) a' w'
theorem L2 {L:an} {W:List Nat} {b:Code} {K:Ex→St→Prop} {V:(Ex→St→Prop)→St→Prop} {Q:Exit→Act→World→Prop}
  (hV:∀K' bQ a' w' Q',V K' bQ→Rel C bQ a' w'→Ox C W bQ K' Q'→b.wp P Q' a' w')
  (h:Qq L W K V st) (hR:Rel C st a w) (hQ:Ox C W st K Q):(Code.loop b).wp P Q a w:=by
 obtain⟨h0,acZ⟩:=h
 have nD:∀y∈L.aO,aG W y.1=true :=by
  unfold yS at h0;split at h0
  · exact h0.elim
  · rename_i s hs;cases hk:vP L W st st.clear s with
    |false=>rw [hk] at h0;exact h0.elim
    |true=>
     simp only [vP,Bool.and_eq_true] at hk;exact fun y hy=>(List.all_eq_true.1 hk.1.1.1.1.2) y hy
 have hRc:Rel C st.clear a w:=by
  obtain⟨A,β,hB⟩:=hR;exact⟨A,β,hB.clear⟩
 obtain⟨x0,hi0,hr0⟩:=wX h0 hRc (fun i _=>⟨fun _=>false,by simp,(oC _).symm⟩) (fun k _ _ _=>⟨fun _=>false,by simp,(wS _).symm⟩) rfl rfl;refine wp_loop_ghost (fun n a w=>∃x,L.inv x∧L.ah x=n∧Rel C (jq L W st x) a w) (L.ah x0) ⟨x0,hi0,rfl,hr0⟩ ?_;intro n a w hI;obtain⟨x,hx,rfl,hRx⟩:=hI;refine hV _ _ _ _ _ (acZ x hx) hRx ?_;intro e bQ a' w' hk hF lQ;cases e with
 |norm=>
  simp only [yT] at hk;cases hn:CD L W st bQ.news with
  |false=>rw [hn] at hk;exact hk.elim
  |true=>
   rw [hn] at hk;simp only [cond_true] at hk;obtain⟨p,a1,a2,a3⟩:=hF.keep;have nI:(jq L W st x).kb=st.kb:=rfl;rw [nI] at a1 a3;have wV:∀k,ct st.kb bQ.news k=true→ct st.kb (ca L W) k=true :=y9 hn;have hb:=hF.back nD
   obtain⟨x',j1,lE⟩:=wX hk lQ (fun i hi=>by
     obtain⟨q,q1,q2,q3⟩:=hb.keep;refine⟨fun k=>ct st.kb (ca L W) k || p k,fun k hk=> ?_,?_⟩
     · rcases Bool.or_eq_true _ _ |>.mp hk with h|h
       · exact h
       · exact wV k (a1 k h)
     · rw [a2 i hi,←dN]
       have :(jq L W st x).t i=aI (ct st.kb (ca L W)) (st.t i):=by
        show(match fh L.aO i with
         |some f=>f x
         |none=>bif aG W i then .c5 else aI (ct st.kb (ca L W)) (st.t i))=_
        have Ow:∀(l:List (Nat×(L.τ→AV))),(∀y∈l,aG W y.1=true)→fh l i=none:=by
         intro l;induction l with
         |nil=>intro _;rfl
         |cons y l ih=>
          intro hl;obtain⟨j,g⟩:=y;simp only [fh];have hj:=hl (j,g) (by simp);have :Nat.beq i j=false :=aR (fun h=>by subst h;rw [hi] at hj;cases hj);rw [this];exact ih fun y hy=>hl y (List.mem_cons_of_mem _ hy)
        rw [Ow L.aO nD,hi];rfl
       rw [this])
    (fun k hd xn Ow=>by
      have GI:ct st.kb bQ.news k=false :=by
       cases hq:ct st.kb bQ.news k with
       |false=>rfl
       |true=>rw [wV k hq] at xn;cases xn
      refine⟨fun k=>ct st.kb (ca L W) k || p k,fun k hk=> ?_,?_⟩
      · rcases Bool.or_eq_true _ _ |>.mp hk with h|h
        · exact h
        · exact wV k (a1 k h)
      · rw [a3 k hd GI,←iv]
        have :(jq L W st x).h k=cn (ct st.kb (ca L W)) (st.h k):=by
         show(match fh L.keys k with
          |some f=>some (f x)
          |none=>bif ct st.kb (ca L W) k then none else cn (ct st.kb (ca L W)) (st.h k))=_
         rw [Ow,xn];rfl
        rw [this]) hF.n hF.g
   exact⟨L.ah x',j1.2,x',j1.1,rfl,lE⟩
 |exit i=>
  simp only [yT] at hk;obtain⟨A,β,hB⟩:=lQ;exact hQ _ _ _ _ hk (hF.back nD) ⟨A,β,hB.seq ⟨rfl,rfl,rfl,rfl,rfl⟩⟩
 |ret=>
  simp only [yT] at hk;obtain⟨A,β,hB⟩:=lQ;exact hQ _ _ _ _ hk (hF.back nD) ⟨A,β,hB.seq ⟨rfl,rfl,rfl,rfl,rfl⟩⟩
end
end Go.Vg

end
section
namespace Go.Vg
open Go
section
variable {P:Program} {C:Ctx} {E:Env} {A:Nat→Prop} {β aJ:Nat→Value} {st:St} {a:Act} {w:World}
theorem DY {W:List Nat} {K:Ex→St→Prop} {Q:Exit→Act→World→Prop}(id:Nat)(hQ:Ox C W st K Q):Ox C W st (LJ id K) (Exit.inBlock id Q):=by
 intro e bQ a' w' hk hF hR;cases e with
 |norm=>exact hQ .norm _ _ _ hk hF hR
 |ret=>exact hQ .ret _ _ _ hk hF hR
 |exit j=>
  simp only [LJ] at hk;by_cases hj:j=id
  · subst hj;simp only [bG,cond_true] at hk;simp only [W5,Exit.inBlock,if_true];exact hQ .norm _ _ _ hk hF hR
  · simp only [aR hj,cond_false] at hk;simp only [W5,Exit.inBlock,if_neg hj];exact hQ (.exit j) _ _ _ hk hF hR
theorem L3(n:Int)(ks:List Int)(f:Nat→Prop)(h:CE n ks f 0 ks):∃j,f j:=by
 have :∀(r:List Int) (i:Nat),CE n ks f i r→(∃j,f j)∨(n∉r∧(se n ks→∃j,f j)):=by
  intro r;induction r with
  |nil=>intro i h;exact .inr ⟨by simp,fun q=>⟨i,h q⟩⟩
  |cons k r ih=>
   intro i h;by_cases hk:n=k
   · exact .inl ⟨i,h.1 hk⟩
   · rcases ih (i+1) h.2 with g|⟨g1,g2⟩
     · exact .inl g
     · exact .inr ⟨by simp [hk,g1],g2⟩
 rcases this ks 0 h with g|⟨g1,g2⟩
 · exact g
 · exact g2 ((tO n ks).2 g1)
theorem eX(hE:fq P C E)(hm:P.follows .mixedOrders=true) {L:Nat→Option an}:∀(c:Code) (K:Ex→St→Prop) (st:St) (a:Act) (w:World) (Q:Exit→Act→World→Prop),
  lP E L c K st→Rel C st a w→Ox C (tw c) st K Q→c.wp P Q a w
 | .skip,K,st,a,w,Q,h,hR,hQ=>by
   simp only [lP] at h;exact wp_skip (hQ .norm _ _ _ h (jl.refl _ _) hR)
 | .region id ops d,K,st,a,w,Q,h,hR,hQ=>by
   have fin:∀E',fq P C E'→J5 E' K st ops.toList d→(Code.region id ops d).wp P Q a w:=by
    intro E' hE' h;unfold J5 at h;split at h
    · rename_i cs m hr;obtain⟨h1,h2⟩:=xK h;exact wU hE' hm hr h1 hR fun a' w' lQ=>hQ .norm _ _ _ h2 (DH hr).loose lQ
    · exact h.elim
   simp only [lP] at h;split at h
   · rename_i n ks hw;obtain⟨i,hi⟩:=L3 n ks _ h;exact fin {E with Gr:=i} ⟨⟨hE.ok.fK,hE.ok.sig,hE.ok.oh⟩,hE.g⟩ hi
   · exact fin E hE h
 | .seq x y,K,st,a,w,Q,h,hR,hQ=>by
   simp only [lP] at h;refine wp_seq (eX hE hm x _ st a w _ h hR fun e bQ a' w' hk hF lQ=> ?_);cases e with
   |norm=>
    exact eX hE hm y K bQ a' w' Q hk lQ fun e awB a'' LQ dx hF' ar6=>hQ e _ _ _ dx (hF.trans hF') ar6
   |exit i=>exact hQ (.exit i) _ _ _ hk (hF.mono pC) lQ
   |ret=>exact hQ .ret _ _ _ hk (hF.mono pC) lQ
 | .cond c x y,K,st,a,w,Q,h,hR,hQ=>by
   simp only [lP] at h;have hx:Ox C (tw x) st K Q:=fun e bQ a' w' hk hF lQ=>hQ e _ _ _ hk (hF.mono pC) lQ;have hy:Ox C (tw y) st K Q:=fun e bQ a' w' hk hF lQ=>hQ e _ _ _ hk (hF.mono uF) lQ;split at h
   · rename_i cs m hr;obtain⟨h1,h2⟩:=xK h;unfold ahY at hr;cases hs:(!Qr E c&&(j7 x&&j7 y)) with
     |false=>rw [hs] at hr;cases hr
     |true=>
      rw [hs] at hr;exact iM hE hm _ st _ _ a w Q hr h1 hR fun a' w' lQ=>hQ .norm _ _ _ h2 (jH _ _ _ _ hr).loose lQ
   · obtain⟨A,β,hB⟩:=hR;split at h
     · rename_i hv;exact wp_cond_true (WX hB hv) (eX hE hm x K st a w Q h ⟨A,β,hB⟩ hx)
     · rename_i hv;exact wp_cond_false (WY hB hv) (eX hE hm y K st a w Q h ⟨A,β,hB⟩ hy)
     · rename_i b hv;exact wp_cond_split (LZ hB hv) (fun hb=>eX hE hm x K st a w Q (h.1 hb) ⟨A,β,hB⟩ hx) (fun hb=>eX hE hm y K st a w Q (h.2 hb) ⟨A,β,hB⟩ hy)
     · rename_i row l hv;obtain⟨b,hb,hl⟩:=WZ hB hv;exact wp_cond_split hb (fun ht=>eX hE hm x K st a w Q (h.1 (hl ht)) ⟨A,β,hB⟩ hx) (fun _=>eX hE hm y K st a w Q h.2 ⟨A,β,hB⟩ hy)
     · exact h.elim
 | .block id b,K,st,a,w,Q,h,hR,hQ=>by
   have ar7:lP E L b (LJ id K) st→(Code.block id b).wp P Q a w:=fun h=>wp_block (eX hE hm b _ st a w _ h hR (DY id hQ));cases b with
   |loop b=>
    simp only [lP] at h;split at h
    · rename_i An hA;exact wp_block (L2 (fun K' bQ a' w' Q' hv lQ hQ'=>eX hE hm b K' bQ a' w' Q' hv lQ hQ') h hR (DY id hQ))
    · exact h.elim
   |_=>exact ar7 (by first|exact h|(simp only [lP] at h ⊢;first|exact h|exact h.elim))
 | .exit i,K,st,a,w,Q,h,hR,hQ=>by
   simp only [lP] at h;exact wp_exit (hQ (.exit i) _ _ _ h (jl.refl _ _) hR)
 | .ret,K,st,a,w,Q,h,hR,hQ=>by
   simp only [lP] at h;exact wp_ret (hQ .ret _ _ _ h (jl.refl _ _) hR)
 | .loop _,K,st,a,w,Q,h,_,_=>by simp [lP] at h
 | .rangeFunc _ _ _ _,K,st,a,w,Q,h,_,_=>by simp [lP] at h
 | .scope c,K,st,a,w,Q,h,hR,hQ=>by
   simp only [lP] at h;refine wp_scope_straight (eX hE hm c K st a w _ h hR fun e bQ a' w' hk hF lQ=> ?_);have :=hQ e bQ a' w' hk hF lQ;cases e<;>exact this
 | .label _,K,st,a,w,Q,h,hR,hQ=>by
   simp only [lP] at h;exact wp_label (hQ .norm _ _ _ h (jl.refl _ _) hR)
 | .goto _,K,st,a,w,Q,h,_,_=>by simp [lP] at h
 | .refuse _,K,st,a,w,Q,h,_,_=>by simp [lP] at h
termination_by c=>SizeOf.sizeOf c
end
end Go.Vg

end
section
namespace Go.Vg
open Go
section
variable {P:Program} {C:Ctx} {E:Env} {A A':Nat→Prop} {β aJ:Nat→Value} {st:St} {a:Act} {w:World} {T:bY}
theorem DZ:Keyed (fun _=>true) [] β aJ:=⟨fun K k h=>(by cases h),fun K h=>(by cases h),fun K _ h=>(by cases h),fun K h=>(by cases h)⟩
def CH(tmps:Array Value):ResultVar→Sem Value
 | .tmp t=>pure (tmps.getD t undef)
 | .cell x t=>do loadVar t (←asAddr (tmps.getD x undef))
theorem Bx(fn:Func)(tmps:Array Value):results fn tmps=(do
  let vs ←fn.results.mapM (CH tmps)
  pure (if h:vs.size=1 then vs[0] else .tuple vs)):=by
 unfold results;congr
theorem oD(hT:bx T P)(hB:aF C A β st a w):∀(rs:List ResultVar) (aH:List AV),j8 T st rs=some aH→
  ∃vs,(rs.mapM (CH a.tmps)).run P w= .ok vs w∧af w A β vs aH
 | [],aH,h=>by
   simp only [j8,Option.some.injEq] at h;subst h;exact⟨[],by simp,by simp [af]⟩
 | .tmp t::rs,aH,h=>by
   simp only [j8] at h;split at h
   · rename_i l hl;simp only [Option.some.injEq] at h;subst h;obtain⟨vs,h1,h2⟩:=oD hT hB rs l hl;refine⟨a.tmps.getD t undef::vs,?_,?_⟩
     · simp only [List.mapM_cons,CH,Sem.run_bind,Sem.run_pure,Result.andThen_ok,h1]
     · simp only [af];exact⟨_,_,rfl,hB.tmps t,h2⟩
   · cases h
 | .cell x t::rs,aH,h=>by
   simp only [j8] at h;split at h
   · rename_i k off hk;split at h
     · rename_i out l ho hl;simp only [Option.some.injEq] at h;subst h;obtain⟨vs,h1,h2⟩:=oD hT hB rs l hl;have hx:=hB.tmps x;rw [hk] at hx
       have mw:out.cond= []:=by
        simp only [ny] at ho;split at ho
        · split at ho
          · simp only [Option.some.injEq] at ho;subst ho;rfl
          · cases ho
        · cases ho
       obtain⟨_,v,g1,g2⟩:=Be hT hB hx ho (by rw [mw];intro p hp;cases hp);simp only [aa] at hx;obtain⟨b,Oy,UN⟩:=hx;refine⟨v::vs,?_,?_⟩
       · rw [UN] at g1;simp only [Instr.loadAt,Instr.sureAddr,Sem.run_bind,Sem.run_pure,Result.andThen_ok] at g1;have ha:(asAddr (a.tmps.getD x undef)).run P w= .ok ⟨b,off,none⟩ w:=by simp only [UN,asAddr,Sem.run_pure]
         simp only [List.mapM_cons,CH,Sem.run_bind,ha,Sem.run_pure,Result.andThen_ok,g1,h1]
       · simp only [af];exact⟨_,_,rfl,g2,h2⟩
     · cases h
   · cases h
theorem L4 {α:Type} {R:List Value→α→Prop}:∀(xs:List Value) (l:List α),xs.length=l.length→(∀(i:Nat) (v:Value) (x:α),xs[i]? =some v→l[i]? =some x→R [v] x)→b9 R xs l
 | [],[],_,_=>by simp [b9]
 |v::xs,x::l,hl,h=>by
  simp only [b9];exact⟨[v],xs,rfl,h 0 v x rfl rfl,L4 xs l (by simpa using hl) fun i v x h1 h2=>h (i+1) v x (by simpa using h1) (by simpa using h2)⟩
 | [],_::_,hl,_=>by simp at hl
 |_::_,[],hl,_=>by simp at hl
theorem za(hB:aF C A β st a w)(hA:∀b,A b→A' b)(r:List Ty)(l:List (Row r))(k:Nat)(v:Value)(h:∀p∈(xC st.h r l k).1,p)(hF:∀k'∈(xC st.h r l k).2,∀b,ay (β k')=some b→A' b)
  (hr:aa w A β v (.own k)):aa w A' aJ v (.sl r l)∧∀k'∈(xC st.h r l k).2,(st.h k').isSome:=by
 generalize he:xC st.h r l k=g at h hF ⊢;unfold xC at he;split at he
 · rename_i e j n m sz hk;split at he
   · rename_i e2 Qs bytes fr hj;cases hb:Nat.beq Qs.length 1 with
     |false=>rw [hb] at he;subst he;exact(aY h).elim
     |true=>
      rw [hb] at he;have hr2:=Nat.eq_of_beq_eq_true hb;simp only [cond_true] at he;split at he
      · rename_i g' hg;subst he;obtain⟨er,Cd⟩:=jI hg;subst er;subst Cd;have hmn:m=n:=h _ (List.mem_cons_self ..);have hgl:ib sz n bytes=l:=h _ (List.mem_cons_of_mem _ (List.mem_cons_self ..));subst hmn;subst hgl;have hFk:∀b,ay (β k)=some b→A' b:=hF k (by simp);have hFj:∀b,ay (β j)=some b→A' b:=hF j (by simp);refine⟨?_,fun k' dx=> ?_⟩
        · simp only [aa] at hr;obtain⟨rfl,_⟩:=hr;have hlen:(ib sz m bytes).length=m:=by simp [ib]
          simp only [aa,Rd];rcases mz hB hk with⟨h1,h2⟩|⟨b,cap,cur,h1,h2,h3,h4,h5,h6,h7⟩
          · subst h2;exact⟨none,0,[],by rw [h1];simp [ib],by simp [ib],by simp,by simp [ib,b9],by simp⟩
          · refine⟨_,cap,cur.toList.take m,by rw [h1,hlen],by rw [hlen];exact h3,h4,?_,fun _=>⟨b,0,rfl,hFk b (by rw [h1];rfl),?_⟩⟩
            · refine L4 _ _ (by rw [hlen,List.length_take];simp;omega) fun i u x hu hx=> ?_
              have hi:i<m:=by
               have :=(List.getElem?_eq_some_iff.1 hx).1;omega
              obtain⟨v',e1,e3⟩:=h7 j rfl i hi;rw [hu] at e1;simp only [Option.some.injEq] at e1;subst e1
              have j1:x=(bytes.drop (i*sz)).take sz:=by
               simp only [ib,List.getElem?_map,List.getElem?_range hi,Option.map_some,Option.some.injEq] at hx;exact hx.symm
              have hp:=(oQ (A':=A') hB e3 hA (fun q hq=>by
               have hq':=xE _ q hq;simp only [aA,List.mem_singleton] at hq';subst hq';exact hFj)).1
              simp only [fD,hj,hr2,bG,cond_true,aa] at hp;simp only [bk];refine⟨u,[],rfl,?_,rfl⟩;rw [j1];exact hp
            · intro q u hq;rw [List.getElem?_take] at hq;split at hq
              · simp [World.cell?,h2];simpa using hq
              · cases hq
        · simp only [List.mem_cons,List.not_mem_nil,or_false] at dx;rcases dx with rfl|rfl
          · simp [hk]
          · simp [hj]
      · subst he;exact(aY h).elim
   · subst he;exact(aY h).elim
 · subst he;obtain⟨g1,g2⟩:=oQ hB hr hA hF;exact⟨mC DZ _ _ _ h g1,fun k hk=>by obtain⟨e,row,l,fr,hr⟩:=g2 k hk;simp [hr]⟩
mutual
theorem By(hB:aF C A β st a w) {s:List (Nat×Option Nat)}(hA:∀b,A b→A' b)(h1:∀i k,bT s i=some (some k)→aJ i=β k)(h2:∀i,bT s i=some none→aJ i=om):∀(x y:AV) (v:Value),
  (∀p∈(uq st.h s x y).1,p)→(∀k∈(uq st.h s x y).2,∀b,ay (β k)=some b→A' b)→aa w A β v y→aa w A' aJ v x∧∀k∈(uq st.h s x y).2,(st.h k).isSome
 |x,y,v,h,hF,hr=>by
  generalize he:uq st.h s x y=r at h hF ⊢;unfold uq at he;split at he
  · rename_i i k;subst he;simp only at h hF ⊢;refine⟨?_,fun k hk=>(by cases hk)⟩;simp only [aa] at hr ⊢;split at h
    · rename_i j hj;cases hb:Nat.beq k j with
      |false=>rw [hb] at h;exact(aY h).elim
      |true=>
       have :=Nat.eq_of_beq_eq_true hb;subst this;rw [h1 i k hj];exact hr
    · exact(aY h).elim
  · rename_i i;subst he;simp only at h hF ⊢;refine⟨?_,fun k hk=>(by cases hk)⟩;simp only [aa] at hr ⊢;split at h
    · rename_i hj;rw [h2 i hj];subst hr;exact⟨rfl,rfl⟩
    · exact(aY h).elim
  · rename_i r0 l0 k;subst he;exact za hB hA r0 l0 k v h hF hr
  · rename_i xs ys;subst he;simp only [aa] at hr ⊢;obtain⟨arr,e1,e2⟩:=hr;obtain⟨g1,g2⟩:=sG hB hA h1 h2 xs ys _ h hF e2;exact⟨⟨arr,e1,g1⟩,g2⟩
  · rename_i xs ys;subst he;simp only [aa] at hr ⊢;obtain⟨arr,e1,e2⟩:=hr;obtain⟨g1,g2⟩:=sG hB hA h1 h2 xs ys _ h hF e2;exact⟨⟨arr,e1,g1⟩,g2⟩
  · subst he;obtain⟨g1,g2⟩:=oQ hB hr hA hF;exact⟨mC DZ _ _ _ h g1,fun k hk=>by obtain⟨e,row,l,fr,hr⟩:=g2 k hk;simp [hr]⟩
theorem sG(hB:aF C A β st a w) {s:List (Nat×Option Nat)}(hA:∀b,A b→A' b)(h1:∀i k,bT s i=some (some k)→aJ i=β k)(h2:∀i,bT s i=some none→aJ i=om):∀(xs ys:List AV) (vs:List Value),
  (∀p∈(pv st.h s xs ys).1,p)→(∀k∈(pv st.h s xs ys).2,∀b,ay (β k)=some b→A' b)→af w A β vs ys→af w A' aJ vs xs∧∀k∈(pv st.h s xs ys).2,(st.h k).isSome
 | [],[],vs,_,_,hr=>by
   simp only [af] at hr ⊢;exact⟨hr,fun k hk=>by simp [pv] at hk⟩
 |x::xs,y::ys,vs,h,hF,hr=>by
  simp only [pv] at h hF ⊢;obtain⟨g1,g2⟩:=iW h;simp only [af] at hr ⊢;obtain⟨v,bK,e,r1,r2⟩:=hr;obtain⟨q1,q2⟩:=By hB hA h1 h2 x y v g1 (fun k hk=>hF k (List.mem_append_left _ hk)) r1;obtain⟨q3,q4⟩:=sG hB hA h1 h2 xs ys bK g2 (fun k hk=>hF k (List.mem_append_right _ hk)) r2;refine⟨⟨v,bK,e,q1,q3⟩,fun k hk=> ?_⟩;rcases List.mem_append.1 hk with hk|hk
  · exact q2 k hk
  · exact q4 k hk
 | [],_::_,vs,h,_,_=>by simp only [pv] at h;exact(aY h).elim
 |_::_,[],vs,h,_,_=>by simp only [pv] at h;exact(aY h).elim
end
def Qv(h:aS)(s:List (Nat×Option Nat))(i:Nat)(b:AB):List Prop :=match bT s i with
 |some (some k)=>DA s (fun _=>true) (h k) b
 |some none=>match b with
  | .row _ _ l false=> [[]=l]
  |_=> [False]
 |none=> [False]
theorem D1 {h:aS} {s:List (Nat×Option Nat)}:∀(bs:List AB) (i j:Nat) (b:AB),bs[j]? =some b→∀p∈Qv h s (i+j) b,p∈DB h s i bs
 |b0::bs,i,0,b,hb,p,hp=>by
  simp only [List.getElem?_cons_zero,Option.some.injEq] at hb;subst hb;simp only [DB,List.mem_append];exact .inl hp
 |b0::bs,i,j+1,b,hb,p,hp=>by
  simp only [DB,List.mem_append];refine .inr (D1 bs (i+1) j b (by simpa using hb) p ?_);rw [show i+1+j=i+(j+1) by omega];exact hp
theorem aF.init {G:Nat→Option GD} {args:List Value} {cz:List AV} {n:Nat}(hA:∀b,A b→b<w.heap.size)(hG:∀i d,G i=some d→o0 w A i d)(hr:af w A β args cz)(hn:cz.length≤n):
  aF ⟨w,A,fun _=>False,G,β⟩ A β (St.init G n cz) {tmps:=args.toArray++Array.replicate (n-args.toArray.size) undef,defers:= []} w:=by
 have hlen:=c6 cz args hr
 have mg:∀(aH:List AV) (vs:List Value) (i:Nat),af w A β vs aH→aa w A β (vs.getD i undef) (aH.getD i .undef):=by
  intro aH;induction aH with
  |nil=>intro vs i h;simp only [af] at h;subst h;simp [aa]
  |cons x aH ih=>
   intro vs i h;simp only [af] at h;obtain⟨v,bK,rfl,h1,h2⟩:=h;cases i with
   |zero=>simpa using h1
   |succ i=>simpa using ih bK i h2
 refine⟨rfl,?_,fun i=> ?_,fun k ab h=>(by cases h),fun k k' b h=>(by cases h),hA,⟨rfl,rfl,rfl,Nat.le_refl _,fun b _ _=>rfl⟩,fun b _ h=> .inl h,fun b h=>h,fun k b h=>(by cases h),fun i d h=>h,hG,fun k _=>rfl⟩
 · simp [St.init];omega
 · have :=mg cz args i hr;show aa w A β _ (cz.getD i .undef)
   have e:(args.toArray++Array.replicate (n-args.toArray.size) undef).getD i undef=args.getD i undef:=by
    rw [Array.getD_eq_getD_getElem?];by_cases hi:i<args.length
    · rw [Array.getElem?_append_left (by simpa using hi)];simp [List.getD]
    · rw [Array.getElem?_append_right (by simpa using hi)];simp only [Array.getElem?_replicate,List.getD,List.getElem?_eq_none (Nat.not_lt.1 hi)];split<;>rfl
   rw [e];exact this
theorem Oz(hT:bx T P) {fn:Func} {w0:World} {A0:Nat→Prop} {G:Nat→Option GD} {yr:Nat→Value}(hB:aF ⟨w0,A0,fun _=>False,G,yr⟩ A β st a w) {want:AV} {bs:List AB}(h:LK T st fn.results.toList want bs):
  ∃v,(results fn a.tmps).run P w= .ok v w∧∃A' aJ,j3 w0 A0 w v want bs A' aJ:=by
 unfold LK at h;split at h
 · exact h.elim
 · rename_i aH has;cases hq:(ia (dA (oB st.h want (fi aH) bs))&&((uq st.h (oB st.h want (fi aH) bs) want (fi aH)).2.all fun k=> !aG (dA (oB st.h want (fi aH) bs)) k)&&fF bs.length bs) with
   |false=>rw [hq] at h;exact h.elim
   |true=>
    rw [hq] at h;simp only [cond_true] at h;simp only [Bool.and_eq_true,List.all_eq_true] at hq;obtain⟨⟨q1,q2⟩,q3⟩:=hq;obtain⟨c1,c2⟩:=iW (oS _ h);generalize hs:oB st.h want (fi aH) bs=s at *;obtain⟨vs,p1,p2⟩:=oD hT hB fn.results.toList aH has
    have hv:∃v,(results fn a.tmps).run P w= .ok v w∧aa w A β v (fi aH):=by
     have hl:=c6 aH vs p2;refine⟨if h:vs.toArray.size=1 then vs.toArray[0] else .tuple vs.toArray,?_,?_⟩
     · rw [Bx,Array.mapM_eq_mapM_toList];simp only [Sem.run_bind,map_eq_pure_bind,p1,Result.andThen_ok,Sem.run_pure]
     · match aH,vs,hl,p2 with
       | [x],[v],_,p2=>
         simp only [af] at p2;obtain⟨v',bK,e,g1,_⟩:=p2;simp only [List.cons.injEq] at e;rw [e.1];simpa [fi] using g1
       | [],[],_,p2=>
         simp only [fi];simp [aa,af]
       |x::y::l,v::u::m,_,p2=>
        have dD:¬(v::u::m).toArray.size=1:=by simp
        rw [dif_neg dD];simp only [fi,aa];exact⟨_,rfl,by simpa using p2⟩
    obtain⟨v,Lf,Gs⟩:=hv;let F:=(uq st.h s want (fi aH)).2
    let gk:Nat→Value:=fun i=>match bT s i with
     |some (some k)=>β k
     |_=>om
    obtain⟨r1,r2⟩:=By (A':=bM A β F) (aJ:=gk) hB (fun b hb=> .inl hb) (fun i k hk=>by simp only [gk,hk]) (fun i hk=>by simp only [gk,hk]) want (fi aH) v c1 (fun k hk b hb=> .inr ⟨k,hk,hb⟩) Gs;have hK:cP w w A (bM A β F):=fun b hb=>⟨.inl hb,rfl⟩
    have ko:∀i ab,bs[i]? =some ab→BR w (bM A β F) gk i ab∧(gk i=om∨∃k,bT s i=some (some k)∧gk i=β k∧(st.h k).isSome):=by
     intro i ab hi;have hc:∀p∈Qv st.h s i ab,p:=fun p hp=>c2 p (D1 bs 0 i ab hi p (by rw [Nat.zero_add];exact hp));unfold Qv at hc;have ac1:Keyed (fun _=>true) s β gk:=⟨fun K k h=>by simp only [gk,h],fun K h=>by simp only [gk,h],fun K _ h=>(by cases h),fun K h=>(by cases h)⟩
     have yM:∀k c,bT s i=some (some k)→st.h k=some c→BR w A gk i ab→BR w (bM A β F) gk i ab:=by
      intro k c hk nZ fY;have D3:gk i=β k:=by simp only [gk,hk]
      have xr:∀b,ay (gk i)=some b→¬A b→¬bM A β F b:=by
       rintro b hb jy (wz|⟨j,hj,tU⟩)
       · exact jy wz
       · rw [D3] at hb;have :j=k:=hB.apart j k b (r2 j hj) (by simp [nZ]) tU hb;subst this;have GI:=q2 j hj;rw [Bool.not_eq_true'] at GI;exact fk.1 GI (gJ s i j hk)
      rcases oz bs i ab q3 hi with⟨e,row,l,rfl⟩|⟨e,j,n,m,sz,rfl,_⟩
      · obtain⟨xs,x1,x2,x3⟩:=fY;refine⟨xs,x1,bE (fun c x hx=>bF hK row c x hx) l xs x2,fun b hb=> ?_⟩;have :=x3 b hb;simp only [Bool.false_eq_true,if_false] at this ⊢;exact xr b hb this
      · obtain⟨xs,x1,x2,x3⟩:=fY;refine⟨xs,x1,fun b hb=>xr b hb (x2 b hb),fun j' eJ i' hX=> ?_⟩;obtain⟨v,e1,e2⟩:=x3 j' eJ i' hX;exact⟨v,e1,tH rfl e2⟩
     split at hc
     · rename_i k hk;obtain⟨c,nZ⟩:=rI hc;rw [nZ] at hc;have D3:gk i=β k:=by simp only [gk,hk]
       have fY:=sE (aJ:=gk) ac1 D3 hc (hB.blocks k c nZ);exact⟨yM k c hk nZ fY, .inr ⟨k,hk,D3,by simp [nZ]⟩⟩
     · rename_i hk;have D3:gk i=om:=by simp only [gk,hk]
       split at hc
       · exact⟨Kd D3 (aY hc), .inl D3⟩
       · exact(aY hc).elim
     · exact(aY hc).elim
    have fc:∀i ab b,bs[i]? =some ab→ay (gk i)=some b→∃k,bT s i=some (some k)∧ay (β k)=some b∧(st.h k).isSome:=by
     intro i ab b hi hb;rcases(ko i ab hi).2 with hn|⟨k,h1,h2,h3⟩
     · rw [hn] at hb;simp [om,ay] at hb
     · exact⟨k,h1,by rw [←h2];exact hb,h3⟩
    refine⟨v,Lf,bM A β F,gk,⟨hB.frame.os,hB.frame.tape,hB.frame.output,hB.frame.size,fun b hb=>hB.frame.block b hb (fun h=>h),fun b hb=> .inl (hB.base b hb),fun b hb C0=> ?_,fun b hb=> ?_,r1,fun i ab hi=>⟨(ko i ab hi).1,fun b hb=> ?_⟩,fun i j b hi hj hb bA=> ?_⟩⟩
    · rcases C0 with C0|⟨j,hj,tU⟩
      · rcases hB.kE b hb C0 with h|h
        · exact h
        · exact h.elim
      · rcases hB.nA j b (r2 j hj) tU with h|h
        · exact absurd hb (Nat.not_lt.2 h)
        · exact h.elim
    · rcases hb with hb|⟨j,hj,tU⟩
      · exact hB.bound b hb
      · exact kJ hB (r2 j hj) tU
    · obtain⟨k,_,g2,g3⟩:=fc i ab b hi hb;rcases hB.nA k b g3 g2 with h|h
      · exact h
      · exact h.elim
    · obtain⟨x,hx⟩:∃x,bs[i]? =some x:=⟨_,List.getElem?_eq_getElem hi⟩;obtain⟨y,hy⟩:∃y,bs[j]? =some y:=⟨_,List.getElem?_eq_getElem hj⟩;obtain⟨k,g1,g2,g3⟩:=fc i x b hx hb;obtain⟨k',g1',g2',g3'⟩:=fc j y b hy bA;have :k=k':=hB.apart k k' b g3 g3' g2 g2';subst this;exact sF s q1 i j k g1 g1'
theorem Ke(hE:ai P E)(hm:P.follows .mixedOrders=true) {f:FuncId} {fn:Func} {c:Code} {s:bf}(L:List AV→Nat→Option an)(hf:P.funcs[f]? =some fn)(hb:fn.body=some c)
  (h:∀cz pre res bs,s cz=some (pre,res,bs)→pre→WL E (L cz) c fn.ntmps fn.results.toList cz res bs):Valid P E.lI f s:=by
 intro w A β args cz pre res bs hA hG bw hs hp;have D4:=h cz pre res bs hs hp;unfold WL at D4;cases hn:Nat.ble cz.length fn.ntmps with
 |false=>rw [hn] at D4;exact D4.elim
 |true=>
  rw [hn] at D4;refine calls_of_wp hf hb (eX (C:=⟨w,A,fun _=>False,E.lI,β⟩) ⟨hE,rfl⟩ hm c _ _ _ w _ D4 ⟨A,β,aF.init hA hG bw (Nat.le_of_ble_eq_true hn)⟩ ?_);intro e bQ a' w' hk _ hR;obtain⟨A',aJ,hB⟩:=hR
  have key:LK E.T bQ fn.results.toList res bs→bodyPost P fn (fun e w'=>∃v,e= .returned v∧∃A' aJ,j3 w A w' v res bs A' aJ) .ret a' w':=by
   intro hk;obtain⟨v,h1,A2,gk,h2⟩:=Oz hE.fK hB hk;exact⟨hB.defers,v,h1,v,rfl,A2,gk,h2⟩
  cases e with
  |norm=>exact key hk
  |ret=>exact key hk
  |exit i=>exact hk.elim
end
end Go.Vg

end
section
namespace Go.Vg
open Go
@[reducible] def fu (α:Type):List α:= []
mutual
def D.ok:(t:Ty)→D t→Prop
 | .int k,x=>lo k≤DI.toInt k x∧DI.toInt k x≤hi k
 | .bool,_=>True
 | .str,s=>s.length≤9223372036854775807
 | .slice row,l=>l.length≤9223372036854775807∧∀x,x∈l→Row.ok row x
def Row.ok:(ts:List Ty)→Row ts→Prop
 | [],_=>True
 |t::ts,x=>D.ok t (Row.hd x)∧Row.ok ts (Row.tl x)
end
mutual
def AV.facts:AV→Prop
 | .int k n=>lo k≤n∧n≤hi k
 | .str s=>s.length≤9223372036854775807
 | .sl row l=>D.ok (.slice row) l
 | .full row l=>D.ok (.slice row) l
 | .agg cs=>vU cs
 | .cD cs=>vU cs
 |_=>True
def vU:List AV→Prop
 | []=>True
 |a::aH=>a.facts∧vU aH
end
section
variable {P:Program} {E:Env} {w:World} {A:Nat→Prop} {β:Nat→Value}
theorem Kf {α:Type} {R:List Value→α→Prop} {p:α→Prop}(h:∀c x,R c x→p x):∀(l:List α) (cs:List Value),b9 R cs l→∀x,x∈l→p x
 | [],_,_,x,hx=>by cases hx
 |y::l,_,⟨c1,c2,hc,h1,h2⟩,x,hx=>by
  rcases List.mem_cons.1 hx with rfl|hx
  · exact h _ _ h1
  · exact Kf h l c2 h2 x hx
mutual
theorem OA:∀(t:Ty) (v:Value) (x:D t),Rd w A t v x→D.ok t x
 | .int k,v,x,h=>by simp only [Rd] at h;simp only [D.ok];exact h.2
 | .bool,v,x,h=>by simp only [D.ok]
 | .str,v,s,h=>by simp only [Rd] at h;simp only [D.ok];exact h.2
 | .slice row,v,l,h=>by
   simp only [Rd] at h;obtain⟨a,cap,cs,h1,h2,h3,h4,h5⟩:=h;simp only [D.ok];exact⟨Nat.le_trans h2 h3,Kf (fun c x hx=>zb row c x hx) l cs h4⟩
theorem zb:∀(ts:List Ty) (vs:List Value) (x:Row ts),bk w A ts vs x→Row.ok ts x
 | [],vs,x,h=>by simp only [Row.ok]
 |t::ts,vs,x,h=>by
  simp only [bk] at h;obtain⟨v,bK,h1,h2,h3⟩:=h;simp only [Row.ok];exact⟨OA t v _ h2,zb ts bK _ h3⟩
end
mutual
theorem Kg:∀(a:AV) (v:Value),aa w A β v a→a.facts
 | .int k n,v,h=>by simp only [aa] at h;simp only [AV.facts];exact h.2
 | .str s,v,h=>by simp only [aa] at h;simp only [AV.facts];exact h.2
 | .sl row l,v,h=>by simp only [aa] at h;simp only [AV.facts];exact OA _ _ _ h
 | .full row l,v,h=>by simp only [aa] at h;simp only [AV.facts];exact OA _ _ _ h.1
 | .agg cs,v,h=>by
   simp only [aa] at h;obtain⟨arr,_,h2⟩:=h;simp only [AV.facts];exact rb cs _ h2
 | .cD cs,v,h=>by
   simp only [aa] at h;obtain⟨arr,_,h2⟩:=h;simp only [AV.facts];exact rb cs _ h2
 | .c5,_,_| .undef,_,_| .bool _,_,_| .tt,_,_| .ff,_,_| .nil,_,_| .jn,_,_| .og _ _,_,_| .jA,_,_| .gd _ _ _,_,_| .oY _ _,_,_| .own _,_,_| .pre _ _,_,_| .view _ _ _ _,_,_| .ref _ _,_,_| .elem _ _ _ _,_,_| .fn _ _ _,_,_| .gf _ _,_,_=>by simp only [AV.facts]
theorem rb:∀(aH:List AV) (vs:List Value),af w A β vs aH→vU aH
 | [],_,_=>by simp only [vU]
 |a::aH,vs,h=>by
  simp only [af] at h;obtain⟨v,bK,_,h1,h2⟩:=h;simp only [vU];exact⟨Kg a v h1,rb aH bK h2⟩
end
end
def bY.Ok(P:Program):bY→Prop
 | .leaf=>True
 | .node l k v r=>l.Ok P∧r.Ok P∧P.underlying k=some v.desc∧NQ P k v.desc∧∃i,P.info? k=some i∧i.size=v.size∧i.bytes=v.bytes∧i.zero=some v.zero
theorem bY.Ok.at {P:Program} {T:bY}(h:T.Ok P):∀t te,T.find t=some te→(P.underlying t=some te.desc∧∃i,P.info? t=some i∧i.size=te.size∧i.bytes=te.bytes∧i.zero=some te.zero)∧NQ P t te.desc:=by
 induction T with
 |leaf=>intro t te ht;cases ht
 |node l k v r ihl ihr=>
  obtain⟨h1,h2,h3,h5,h4⟩:=h;intro t te ht;simp only [bY.find] at ht;cases hb:Nat.beq t k with
  |true=>
   rw [hb] at ht;simp only [cond_true,Option.some.injEq] at ht;have :=Nat.eq_of_beq_eq_true hb;subst this;subst ht;exact⟨⟨h3,h4⟩,h5⟩
  |false=>
   rw [hb] at ht;simp only [cond_false] at ht;cases hl:Nat.blt t k with
   |true=>rw [hl] at ht;exact ihl h1 t te ht
   |false=>rw [hl] at ht;exact ihr h2 t te ht
theorem bx.of {P:Program} {T:bY}(h:T.Ok P):bx T P:=⟨fun t te ht=>(h.at t te ht).1,fun t te ht=>(h.at t te ht).2⟩
end Go.Vg

end
section
namespace Go.Vg
open Go
inductive PS where
 |one (t:Ty)
 |agg (ts:List Ty)
@[reducible] def PS.flat:List PS→List Ty
  | []=> []
  | .one t::ps=>t::PS.flat ps
  | .agg ts::ps=>ts++PS.flat ps
def PS.cells:List PS→List AV→Option (List AV)
 | [],[]=>some []
 | .one _::ps,a::aH=>match PS.cells ps aH with
   |some l=>some (a::l)
   |none=>none
 | .agg ts::ps, .agg cs::aH=>bif Nat.beq cs.length ts.length then match PS.cells ps aH with
   |some l=>some (cs++l)
   |none=>none
   else none
 |_,_=>none
def PS.group:List PS→List AV→List AV
 | [],_=> []
 | .one _::ps,cs=>cs.headD .c5::PS.group ps cs.tail
 | .agg ts::ps,cs=> .agg (cs.take ts.length)::PS.group ps (cs.drop ts.length)
def D5(ps:List PS)(cz:List AV):Option (Row (PS.flat ps)):=match PS.cells ps cz with
 |some cs=>kp (PS.flat ps) cs
 |none=>none
def Kh(ps:List PS)(x:Row (PS.flat ps)):List AV:=PS.group ps (fp (PS.flat ps) x)
def ar(ps:List PS)(f:Row (PS.flat ps)→Prop×AV×List AB):bf:=fun cz=>match D5 ps cz with
 |some x=>some (f x)
 |none=>none
def lz(ps:List PS)(μ:Row (PS.flat ps)→Nat)(m:Nat)(f:Row (PS.flat ps)→Prop×AV×List AB):bf:=
 ar ps fun x=>(μ x<m∧(f x).1,(f x).2)
section
variable {P:Program} {E:Env} {w:World} {A:Nat→Prop} {β:Nat→Value}
theorem jr:∀(aH bs:List AV) (us vs:List Value),af w A β us aH→af w A β vs bs→af w A β (us++vs) (aH++bs)
 | [],bs,us,vs,h,g=>by
   simp only [af] at h;subst h;simpa using g
 |a::aH,bs,us,vs,h,g=>by
  simp only [af] at h;obtain⟨v,xo,rfl,h1,h2⟩:=h;simp only [List.cons_append,af];exact⟨v,xo++vs,rfl,h1,jr aH bs xo vs h2 g⟩
theorem mD:∀(aH bs:List AV) (vs:List Value),af w A β vs (aH++bs)→∃us ws,vs=us++ws∧af w A β us aH∧af w A β ws bs
 | [],bs,vs,h=>⟨[],vs,rfl,by simp [af],h⟩
 |a::aH,bs,vs,h=>by
  simp only [List.cons_append,af] at h;obtain⟨v,bK,rfl,h1,h2⟩:=h;obtain⟨us,ws,rfl,h3,h4⟩:=mD aH bs bK h2;exact⟨v::us,ws,rfl,by simp only [af];exact⟨v,us,rfl,h1,h3⟩,h4⟩
theorem qq(aH:List AV)(vs:List Value)(h:af w A β vs aH):vs.length=aH.length:=(c6 aH vs h).symm▸rfl
theorem sH:∀(ps:List PS) (cz cs:List AV) (args:List Value),PS.cells ps cz=some cs→af w A β args cz→
  cs.length=(PS.flat ps).length∧∃vs,af w A β vs cs∧∀eW,eW.length=cs.length→af w A β vs eW→af w A β args (PS.group ps eW)
 | [],[],cs,args,h,hr=>by
   simp only [PS.cells,Option.some.injEq] at h;subst h;exact⟨rfl,[],by simp [af],fun eW _ _=>by simpa only [PS.group] using hr⟩
 | .one t::ps,a::aH,cs,args,h,hr=>by
   simp only [PS.cells] at h;split at h
   · rename_i l hl;simp only [Option.some.injEq] at h;subst h;simp only [af] at hr;obtain⟨v,D6,rfl,h1,h2⟩:=hr;obtain⟨g1,vs,g2,g3⟩:=sH ps aH l D6 hl h2;refine⟨by simp [PS.flat,g1],v::vs,by simp only [af];exact⟨v,vs,rfl,h1,g2⟩,fun eW iU lE=> ?_⟩;cases eW with
     |nil=>simp at iU
     |cons c eW=>
      simp only [af] at lE;obtain⟨v',bK,e,r1,r2⟩:=lE;simp only [List.cons.injEq] at e;obtain⟨rfl,rfl⟩:=e;simp only [PS.group,List.headD,List.tail,af];exact⟨v,D6,rfl,r1,g3 eW (by simpa using iU) r2⟩
   · cases h
 | .agg ts::ps,a::aH,cs,args,h,hr=>by
   cases a with
   |agg N0=>
    simp only [PS.cells] at h;cases hb:Nat.beq N0.length ts.length with
    |false=>rw [hb] at h;cases h
    |true=>
     rw [hb] at h;have hlen:=Nat.eq_of_beq_eq_true hb;simp only [cond_true] at h;split at h
     · rename_i l hl;simp only [Option.some.injEq] at h;subst h;simp only [af] at hr;obtain⟨v,D6,rfl,h1,h2⟩:=hr;simp only [aa] at h1;obtain⟨arr,rfl,h1⟩:=h1;obtain⟨g1,vs,g2,g3⟩:=sH ps aH l D6 hl h2;refine⟨by simp [PS.flat,g1,hlen],arr.toList++vs,jr _ _ _ _ h1 g2,fun eW iU lE=> ?_⟩;have hk:(eW.take ts.length).length=ts.length:=by rw [List.length_take];simp at iU;omega
       obtain⟨us,ws,e,r1,r2⟩:=mD (eW.take ts.length) (eW.drop ts.length) _ (by rw [List.take_append_drop];exact lE)
       have hu:us.length=arr.toList.length:=by
        rw [qq _ _ r1,hk,qq _ _ h1,hlen]
       obtain⟨e1,e2⟩:=List.append_inj e hu.symm;subst e1;subst e2;simp only [PS.group,af,aa];exact⟨_,D6,rfl,⟨arr,rfl,r1⟩,g3 _ (by simp at iU ⊢;omega) r2⟩
     · cases h
   |_=>simp [PS.cells] at h
 | [],_::_,cs,args,h,_=>by simp [PS.cells] at h
 | .one _::_,[],cs,args,h,_=>by simp [PS.cells] at h
 | .agg _::_,[],cs,args,h,_=>by simp [PS.cells] at h
theorem pE(ps:List PS) {cz:List AV} {args:List Value} {x:Row (PS.flat ps)}(h:D5 ps cz=some x)(hr:af w A β args cz):
  af w A β args (Kh ps x)∧Row.ok (PS.flat ps) x:=by
 unfold D5 at h;split at h
 · rename_i cs dc;obtain⟨g1,vs,g2,g3⟩:=sH ps cz cs args dc hr;have hv:=pg _ _ _ _ g2 h;exact⟨g3 _ (by rw [lL,g1]) (jD _ _ _ hv),zb _ _ _ hv⟩
 · cases h
theorem ag(hE:ai P E)(hm:P.follows .mixedOrders=true) {f:FuncId} {fn:Func} {c:Code}(ps:List PS) {F:Row (PS.flat ps)→Prop×AV×List AB}
  (L:Row (PS.flat ps)→Nat→Option an) (hf:P.funcs[f]? =some fn) (hb:fn.body=some c)
  (h:∀x,(F x).1→Row.ok (PS.flat ps) x→WL E (L x) c fn.ntmps fn.results.toList (Kh ps x) (F x).2.1 (F x).2.2):Valid P E.lI f (ar ps F):=by
 intro w A β args cz pre res bs hA hG bw hs hp;unfold ar at hs;split at hs
 · rename_i x hx;simp only [Option.some.injEq] at hs;obtain⟨g1,g2⟩:=pE ps hx bw
   have hv:Valid P E.lI f (fun Hm=>open Classical in if Hm=Kh ps x then some (F x) else none):=by
    refine Ke hE hm (fun _=>L x) hf hb fun Hm awC awD bs' gX tx=> ?_;split at gX
    · rename_i e;subst e;simp only [Option.some.injEq] at gX;have :=h x (by rw [gX];exact tx) g2;rw [gX] at this;exact this
    · cases gX
   exact hv w A β args (Kh ps x) pre res bs hA hG g1 (by simp only [if_true,hs]) hp
 · cases hs
theorem xL {G:Nat→Option GD} {f:FuncId}(ps:List PS)(μ:Row (PS.flat ps)→Nat) {F:Row (PS.flat ps)→Prop×AV×List AB}
  (h:∀m,Valid P G f (lz ps μ m F)→Valid P G f (lz ps μ (m+1) F)):Valid P G f (ar ps F):=by
 have jf:∀m,Valid P G f (lz ps μ m F):=by
  intro m;induction m with
  |zero=>
   intro w A β args cz pre res bs hA hG bw hs hp;unfold lz ar at hs;split at hs
   · simp only [Option.some.injEq] at hs;have :=congrArg Prod.fst hs;simp only at this;rw [←this] at hp;exact absurd hp.1 (Nat.not_lt_zero _)
   · cases hs
  |succ m ih=>exact h m ih
 intro w A β args cz pre res bs hA hG bw hs hp;unfold ar at hs;split at hs
 · rename_i x hx;simp only [Option.some.injEq] at hs;refine jf (μ x+1) w A β args cz (μ x<μ x+1∧pre) res bs hA hG bw ?_ ⟨Nat.lt_succ_self _,hp⟩;unfold lz ar;simp only [hx,hs]
 · cases hs
theorem aD.of {f:FuncId} {fn:Func} {c:Code}(hf:P.funcs[f]? =some fn)(hb:fn.body=some c)(hn:(fn.name== "runtime.NumGoroutine")=false):aD P f:=by
 intro args w;have hp:Sem.run P program w= .ok P w:=rfl;simp only [callFunc,Sem.run_bind,hp,Result.andThen_ok,hf,hn,hb,Option.isNone_some];rfl
def Env.cons(f:Nat)(s:bf)(E:Env):Env:= {E with sig:=fun g=>bif Nat.beq g f then some s else E.sig g}
theorem ai.cons(hE:ai P E) {f:FuncId} {s:bf}(h:Valid P E.lI f s)(hf:aD P f):ai P (E.cons f s):=by
 refine⟨hE.fK,fun g t hg=> ?_,hE.oh⟩;simp only [Env.cons] at hg;cases hb:Nat.beq g f with
 |true=>
  rw [hb] at hg;simp only [cond_true,Option.some.injEq] at hg;have :=Nat.eq_of_beq_eq_true hb;subst this;subst hg;exact⟨h,hf⟩
 |false=>
  rw [hb] at hg;exact hE.sig g t hg
theorem ai.none {T:bY}(G:Nat→Option GD)(hT:bx T P):ai P {T:=T,sig:=fun _=>none,lI:=G}:=⟨hT,fun f s h=>(by cases h),fun f m s h=>(by cases h)⟩
end
end Go.Vg

end
section
namespace Go.Vg
open Go
def zc(T:bY)(off:Nat):List Field→Bool
 | []=>true
 |f::fs=>Nat.beq f.offset off&&(match T.find f.type with
  |some te=>zc T (off+te.size) fs
  |none=>false)
def L5(T:bY):List Field→Nat
 | []=>0
 |f::fs=>(match T.find f.type with
  |some te=>te.size
  |none=>0)+L5 T fs
def sI(T:bY):Nat→TypeId→Bool
 |0,_=>false
 |n+1,t=>match T.find t with
  |none=>false
  |some te=>match te.desc with
   | .slice e=>sI T n e&&(match T.find e with
     |some ee=>Nat.blt 0 ee.size
     |none=>false)
   | .struct fs=>zc T 0 fs.toList&&Nat.beq te.size (L5 T fs.toList)&&fs.toList.all (fun f=>sI T n f.type)
   | .array k e=>sI T n e&&(match T.find e with
     |some ee=>Nat.beq te.size (k*ee.size)
     |none=>false)
   |_=>true
section
variable {P:Program} {E:Env} {w:World} {A:Nat→Prop} {T:bY} {H:Type} {enc:TypeId×Value→H} {sp:Nat→Bool} {held:Bool}
theorem bx.cells(hT:bx T P) {t:TypeId} {te:TE}(h:T.find t=some te):P.cellsOf t=te.size:=by
 obtain⟨_,i,h1,h2,_⟩:=hT.ok t te h;simp [Program.cellsOf,h1,h2]
theorem pF:∀(r1 r2:List Ty) (c1 c2:List Value) (x:Row r1) (y:Row r2),bk w A r1 c1 x→bk w A r2 c2 y→∃z:Row (r1++r2),bk w A (r1++r2) (c1++c2) z
 | [],r2,c1,c2,x,y,h1,h2=>by
   simp only [bk] at h1;subst h1;exact⟨y,h2⟩
 |t::ts,r2,c1,c2,x,y,h1,h2=>by
  simp only [bk] at h1;obtain⟨v,vs,rfl,g1,g2⟩:=h1;obtain⟨z,hz⟩:=pF ts r2 vs c2 _ y g2 h2;refine⟨Row.mk (Row.hd x) z,?_⟩;show bk w A (t::(ts++r2)) (v::(vs++c2)) (Row.mk (Row.hd x) z);simp only [bk];exact⟨v,vs++c2,rfl,by rw [pe];exact g1,by rw [tV];exact hz⟩
theorem Hn {row:List Ty} {sz:Nat} {a:Addr}(cU:0<sz):∀(k:Nat),(∀i,i<k→∃eW r,eW.length=sz∧(∀j,j<sz→w.cell? ((a.add (i*sz)).add j)=eW[j]?)∧bk w A row eW r)→
  ∃(l:List (Row row)) (cs:List Value),l.length=k∧cs.length=k*sz∧b9 (bk w A row) cs l∧(∀j,j<k*sz→w.cell? (a.add j)=cs[j]?)
 |0,_=>⟨[],[],rfl,by simp,by simp [b9],fun j hj=>by simp at hj⟩
 |k+1,h=>by
  obtain⟨l,cs,h1,h2,h3,h4⟩:=Hn cU k fun i hi=>h i (by omega);obtain⟨eW,r,g1,g2,g3⟩:=h k (by omega);refine⟨l++ [r],cs++eW,by simp [h1],by simp [h2,g1,Nat.add_mul],gE l [r] cs eW h3 ⟨eW,[],by simp,g3,by simp [b9]⟩,fun j hj=> ?_⟩;by_cases eM:j<k*sz
  · rw [h4 j eM,List.getElem?_append_left (by omega)]
  · rw [List.getElem?_append_right (by omega),h2,←g2 (j-k*sz) (by rw [Nat.add_mul] at hj;omega)];congr 1
    simp only [Addr.add];by_cases hk:k*sz=0
    · simp [hk]
    · by_cases hj0:j-k*sz=0
      · have :j=k*sz:=by omega
        subst this;simp [hk]
      · have hj1:¬j=0:=by omega
        rw [if_neg hj1,if_neg hk,if_neg hj0];simp only [Addr.mk.injEq,true_and,and_true];omega
theorem D7(hT:bx T P) {n m:Nat}(cs:List Value)
  (ih:∀t row (cs:List Value) x,rowOf T n t=some row→sI T n t=true→DataW.trod enc P w 0 sp held m t cs=some x→∃r:Row row,bk w A row cs r):
  ∀(fs:List Field) (off:Nat) (row:List Ty),fs.foldr (fun f acc=>wF (rowOf T n f.type) acc) (some [])=some row→zc T off fs=true→(fs.all fun f=>sI T n f.type)=true→
   (∀f∈fs,∃x,DataW.trod enc P w 0 sp held m f.type ((cs.drop f.offset).take (P.cellsOf f.type))=some x)→cs.length=off+L5 T fs→
   ∃r:Row row,bk w A row (cs.drop off) r
 | [],off,row,hr,_,_,_,hl=>by
   simp only [List.foldr_nil,Option.some.injEq] at hr;subst hr;exact⟨(),by simp only [bk];simp [L5] at hl;exact List.drop_eq_nil_of_le (by omega)⟩
 |f::fs,off,row,hr,hf,ha,hx,hl=>by
  simp only [List.foldr_cons] at hr;generalize ajN:fs.foldr (fun f acc=>wF (rowOf T n f.type) acc) (some [])=rest at hr;unfold wF at hr;split at hr
  · rename_i r1 r2 h1;simp only [Option.some.injEq] at hr;subst hr;simp only [zc,Bool.and_eq_true] at hf;obtain⟨OB,Au⟩:=hf;have ho:=Nat.eq_of_beq_eq_true OB;simp only [List.all_cons,Bool.and_eq_true] at ha;split at Au
    · rename_i te kv;have hc:=hT.cells kv;obtain⟨x,Ca⟩:=hx f (List.mem_cons_self ..);rw [hc,ho] at Ca;obtain⟨y,hy⟩:=ih _ _ _ _ h1 ha.1 Ca;simp only [L5,kv] at hl;obtain⟨z,hz⟩:=D7 hT cs ih fs (off+te.size) r2 ajN Au ha.2 (fun g hg=>hx g (List.mem_cons_of_mem _ hg)) (by omega);obtain⟨u,hu⟩:=pF _ _ _ _ _ _ hy hz;refine⟨u,?_⟩
      have :(cs.drop off).take te.size++cs.drop (off+te.size)=cs.drop off:=by
       rw [←List.drop_drop,List.take_append_drop]
      rw [this] at hu;exact hu
    · cases Au
  · cases hr
theorem Ho {r:List Ty}(cs:List Value)(sz:Nat):∀(k off:Nat),(∀i,i<k→∃x:Row r,bk w A r ((cs.drop (off+i*sz)).take sz) x)→cs.length=off+k*sz→
  ∃x:Row ((List.replicate k r).flatten),bk w A ((List.replicate k r).flatten) (cs.drop off) x
 |0,off,_,hl=>⟨(),by
  show bk w A [] _ _;simp only [bk];exact List.drop_eq_nil_of_le (by omega)⟩
 |k+1,off,h,hl=>by
  obtain⟨x,hx⟩:=h 0 (by omega);rw [Nat.zero_mul,Nat.add_zero] at hx
  obtain⟨y,hy⟩:=Ho cs sz k (off+sz) (fun i hi=>by
   obtain⟨z,hz⟩:=h (i+1) (by omega);refine⟨z,?_⟩;rw [show off+sz+i*sz=off+(i+1)*sz by rw [Nat.add_mul];omega];exact hz) (by rw [Nat.add_mul] at hl;omega)
  obtain⟨u,hu⟩:=pF _ _ _ _ _ _ hx hy;have e:(cs.drop off).take sz++cs.drop (off+sz)=cs.drop off:=by rw [←List.drop_drop,List.take_append_drop]
  rw [e] at hu;exact⟨u,hu⟩
theorem nK {t:Ty} {v:Value} {x:D t}(h:Rd w A t v x):bk w A [t] [v] (Row.mk x ()):=by
 simp only [bk];exact⟨v,[],rfl,by rw [pe];exact h,rfl⟩
theorem vV(hT:bx T P)(hA:∀b,b<w.heap.size→A b):∀(n m:Nat) (t:TypeId) (row:List Ty) (cs:List Value) (x:DataW H×List MemPlace),rowOf T n t=some row→sI T n t=true→
  DataW.trod enc P w 0 sp held m t cs=some x→∃r:Row row,bk w A row cs r
 |0,m,t,row,cs,x,hr,_,_=>by simp [rowOf] at hr
 |n+1,m,t,row,cs,x,hr,hf,h=>by
  unfold rowOf at hr;unfold sI at hf;split at hr
  · cases hr
  · rename_i te kv;rw [kv] at hf;obtain⟨hu,_⟩:=hT.ok t te kv;have dc:=hT.cells kv;simp only at hf;split at hr
    · rename_i k hd;simp only [Option.some.injEq] at hr;subst hr;rw [hd] at hu;obtain⟨z,rfl,_,hw⟩:=DataW.trod_int hu h
      have hz:lo k≤z∧z≤hi k:=by
       cases k<;>simpa [Lit.wf,IntKind.min,IntKind.max,IntKind.signed,IntKind.bits,lo,hi] using hw
      refine⟨Row.mk (DI.ofInt k z:D (.int k)) (),nK ?_⟩;simp only [Rd,G9 hz];exact⟨trivial,hz⟩
    · rename_i hd;simp only [Option.some.injEq] at hr;subst hr;rw [hd] at hu;obtain⟨b,rfl,_⟩:=DataW.trod_bool hu h;exact⟨Row.mk (b:D .bool) (),nK (by simp only [Rd])⟩
    · rename_i hd;simp only [Option.some.injEq] at hr;subst hr;rw [hd] at hu;obtain⟨s,rfl,_,hs⟩:=DataW.trod_string hu h;refine⟨Row.mk (s.data.toList:D .str) (),nK ?_⟩;simp only [Rd];exact⟨trivial,by simpa using hs⟩
    · rename_i e hd;split at hr
      · rename_i r hre;simp only [Option.some.injEq] at hr;subst hr;rw [hd] at hu hf;simp only [Bool.and_eq_true] at hf;obtain⟨OB,Au⟩:=hf;split at Au
        · rename_i ee o9;have cU:0<ee.size:=by simpa using Au
          have OC:=hT.cells o9;rcases DataW.trod_slice hu h with⟨rfl,_⟩|⟨a,len,cap,elems,rest,m',_,rfl,_,hb,hl,hm,hlen,Df,_⟩
          · refine⟨Row.mk (([]:List (Row r)):D (.slice r)) (),nK ?_⟩;simp only [Rd];exact⟨none,0,[],rfl,by simp,by simp,by simp [b9],by simp⟩
          · rw [OC] at Df
            obtain⟨l,cs,g1,g2,g3,g4⟩:=Hn (w:=w) (A:=A) (row:=r) (a:=a) cU len fun i hi=>by
             have h1:=Df i hi;rw [List.getElem?_eq_getElem (by omega),Option.bind_eq_some_iff] at h1;obtain⟨eW,c1,c2⟩:=h1;obtain⟨_,d1,d2⟩:=World.cells?_some c1;obtain⟨y,hy⟩:=vV hT hA n m' e r eW _ hre OB c2;exact⟨eW,y,d1,d2,hy⟩
            refine⟨Row.mk (l:D (.slice r)) (),nK ?_⟩;simp only [Rd];refine⟨some a,cap,cs,by rw [g1],by rw [g1];exact hl,hm,g3,fun dD=> ?_⟩
            have iJ:0<len*ee.size:=by
             rw [←g2];exact List.length_pos_iff.2 dD
            have h0:=g4 0 iJ;rw [List.getElem?_eq_getElem (by omega)] at h0;obtain⟨b,o,s⟩:=a;simp only [Addr.add,if_true,World.cell?] at h0
            have hs:s=none:=by
             cases s with
             |none=>rfl
             |some q=>simp at h0;split at h0<;>cases h0
            subst hs;refine⟨b,o,rfl,hA b ?_,fun j v hj=> ?_⟩
            · split at h0
              · rename_i bA;exact(Array.getElem?_eq_some_iff.1 bA).1
              · cases h0
            · have sJ:=(List.getElem?_eq_some_iff.1 hj).1;have :=g4 j (by omega);rw [hj] at this;rw [←this];congr 1
              simp only [Addr.add];split<;>simp_all
        · cases Au
      · cases hr
    · rename_i fs hd;rw [hd] at hu hf;simp only [Bool.and_eq_true] at hf;obtain⟨⟨OB,Au⟩,hf3⟩:=hf;obtain⟨xs,m',_,_,hl,LY,hx⟩:=DataW.trod_struct hu h
      have :=D7 (A:=A) hT cs (fun t row cs x h1 h2 h3=>vV hT hA n m' t row cs x h1 h2 h3) fs.toList 0 row hr OB hf3 (fun f hf=>by
       obtain⟨i,hi⟩:=List.getElem?_of_mem hf;have :=hx i f (by simpa using hi);rw [this];have eM:i<xs.length:=by rw [LY];have :=(List.getElem?_eq_some_iff.1 hi).1;simpa using this
       exact⟨_,List.getElem?_eq_getElem eM⟩) (by rw [hl,dc,Nat.eq_of_beq_eq_true Au];omega)
      simpa using this
    · rename_i k e hd;rw [hd] at hu hf;split at hr
      · rename_i r hre;simp only [Option.some.injEq] at hr;subst hr;simp only [Bool.and_eq_true] at hf;obtain⟨OB,Au⟩:=hf;split at Au
        · rename_i ee o9;have OC:=hT.cells o9;obtain⟨xs,m',_,_,hl,LY,hx⟩:=DataW.trod_array hu h
          have :=Ho (w:=w) (A:=A) (r:=r) cs ee.size k 0 (fun i hi=>by
           have h1:=hx i hi;rw [List.getElem?_eq_getElem (by omega),OC] at h1;obtain⟨y,hy⟩:=vV hT hA n m' e r _ _ hre OB h1;exact⟨y,by simpa using hy⟩) (by rw [hl,dc,Nat.eq_of_beq_eq_true Au];omega)
          simpa using this
        · cases Au
      · cases hr
    · cases hr
end
end Go.Vg

end
section
namespace Go.Vg
open Go Go.ChangeShapes Go.WideShapes Go.ChangeAt Go.RowKit
def PS.of(T:bY)(t:TypeId):Option PS:=match T.find t,rowOf T qd t with
 |some te,some row=>bif sI T qd t then(bif te.desc.jW then some (.agg row) else match row with
  | [u]=>some (.one u)
  |_=>none) else none
 |_,_=>none
def PS.UO(T:bY):List TypeId→Option (List PS)
 | []=>some []
 |t::ts=>match PS.of T t,PS.UO T ts with
  |some p,some ps=>some (p::ps)
  |_,_=>none
section
variable {P:Program} {E:Env} {w:World} {A:Nat→Prop} {β:Nat→Value} {T:bY} {H:Type} {enc:TypeId×Value→H} {sp:Nat→Bool} {held:Bool}
theorem W6:∀(t:Ty) (x:D t),∃y,Le t (yg t x)=some y
 | .int k,x=>⟨_,by simp [yg,Le];rfl⟩
 | .bool,b=>⟨b,rfl⟩
 | .str,s=>⟨s,rfl⟩
 | .slice row,l=>by
   simp only [yg,Le,eP]
   have :Ty.tC row row=true :=by
    have :∀(r:List Ty),Ty.tC r r=true :=fun r=>uH r;exact this row
   rw [dif_pos this];exact⟨_,rfl⟩
where
 OD:∀(t:Ty),Ty.beq t t=true
  | .int k=>by simp [Ty.beq]
  | .bool=>rfl
  | .str=>rfl
  | .slice r=>by simp only [Ty.beq];exact uH r
 uH:∀(r:List Ty),Ty.tC r r=true
  | []=>rfl
  |t::ts=>by simp only [Ty.tC,OD t,uH ts,Bool.and_self]
theorem re:∀(ts:List Ty) (x:Row ts) (us:List Ty) (aH:List AV) (z:Row us),kp us aH=some z→∃y,kp (ts++us) (fp ts x++aH)=some y
 | [],x,us,aH,z,h=>⟨z,h⟩
 |t::ts,x,us,aH,z,h=>by
  obtain⟨d,hd⟩:=W6 t (Row.hd x);obtain⟨y,hy⟩:=re ts (Row.tl x) us aH z h;refine⟨Row.mk d y,?_⟩;show kp (t::(ts++us)) (yg t (Row.hd x)::(fp ts (Row.tl x)++aH))=_;simp only [kp,hd,hy]
theorem D8(hT:bx T P)(hA:∀b,b<w.heap.size→A b):∀(ts:List TypeId) (ps:List PS) (vs:List Value) (ds:List (DataW H)) (q:List MemPlace),PS.UO T ts=some ps→
  (∀(j:Nat) t v,ts[j]? =some t→vs[j]? =some v→∃b,Value.okWide P w .any b t v)→
  DataW.TrodAll enc P w 0 sp held ts vs ds q→ds.length=ts.length∧∃cz cs z,af w A β vs cz∧PS.cells ps cz=some cs∧kp (PS.flat ps) cs=some z
 | [],ps,vs,ds,q,hp,_,h=>by
   simp only [PS.UO,Option.some.injEq] at hp;subst hp;cases vs with
   |nil=>
    cases ds with
    |nil=>exact⟨rfl,[],[],(),by simp only [af],rfl,rfl⟩
    |cons _ _=>simp [DataW.TrodAll] at h
   |cons _ _=>simp [DataW.TrodAll] at h
 |t::ts,ps,vs,ds,q,hp,W3,h=>by
  simp only [PS.UO] at hp;split at hp
  · rename_i p ps' h1 h2;simp only [Option.some.injEq] at hp;subst hp;match vs,ds,h with
    |v::vs,d::ds,h=>
     simp only [DataW.TrodAll] at h;obtain⟨q1,q2,g1,g2,_⟩:=h;obtain⟨k1,cz,cs,z,k2,k3,k4⟩:=D8 hT hA ts ps' vs ds q2 h2 (fun j t' v' hj hv=>W3 (j+1) t' v' (by simpa using hj) (by simpa using hv)) g2;refine⟨by simp [k1],?_⟩;obtain⟨b,hv⟩:=W3 0 t v rfl rfl;obtain⟨m,hm⟩:=g1;unfold PS.of at h1;split at h1
     · rename_i te row kv ko;cases Al:sI T qd t with
       |false=>rw [Al] at h1;cases h1
       |true=>
        rw [Al] at h1;simp only [cond_true] at h1;obtain⟨hu,_⟩:=hT.ok t te kv;obtain⟨r,hr⟩:=vV (A:=A) hT hA qd m t row _ _ ko Al hm;have hrel:=jD (β:=β) _ _ _ hr;cases Gu:te.desc.jW with
        |true=>
         rw [Gu] at h1;simp only [cond_true,Option.some.injEq] at h1;subst h1
         have :∃arr:Array Value,v= .agg arr:=by
          unfold Value.okWide at hv;rw [hu] at hv;cases hd:te.desc with
          |struct fs=>rw [hd] at hv;obtain⟨arr,e,_⟩:=hv;exact⟨arr,e⟩
          |array k e=>rw [hd] at hv;obtain⟨arr,e,_⟩:=hv;exact⟨arr,e⟩
          |_=>rw [hd] at Gu;cases Gu
         obtain⟨arr,rfl⟩:=this;obtain⟨y,hy⟩:=re row r _ _ z k4;refine⟨.agg (fp row r)::cz,fp row r++cs,y,?_,?_,hy⟩
         · simp only [af,aa];exact⟨_,vs,rfl,⟨arr,rfl,hrel⟩,k2⟩
         · simp only [PS.cells,lL,k3,bG,cond_true]
        |false=>
         rw [Gu] at h1;simp only [cond_false] at h1;split at h1
         · rename_i u;simp only [Option.some.injEq] at h1;subst h1;obtain⟨y,hy⟩:=re [u] r _ _ z k4
           have hc:v.cells.toList= [v]:=by
            unfold Value.okWide at hv;rw [hu] at hv;cases v with
            |agg arr=>
             exfalso;cases hd:te.desc<;>rw [hd] at hu hv Gu<;>simp_all [Cell.okWide,Cell.ok,TypeDesc.jW]
            |_=>rfl
           rw [hc] at hrel;simp only [fp,af] at hrel;obtain⟨v',bK,e,e1,_⟩:=hrel;simp only [List.cons.injEq] at e;obtain⟨rfl,_⟩:=e;refine⟨yg u (Row.hd r)::cz,yg u (Row.hd r)::cs,y,?_,?_,hy⟩
           · simp only [af];exact⟨_,vs,rfl,e1,k2⟩
           · simp only [PS.cells,k3]
         · cases h1
     · cases h1
    | [],_::_,h=>simp [DataW.TrodAll] at h
    | [],[],h=>simp [DataW.TrodAll] at h
    |_::_,[],h=>simp [DataW.TrodAll] at h
  · cases hp
theorem D9(hl:laidOutB P=true) {W W':World}(hb:Below W.heap.size W W'):∀(ts:List TypeId) (vs:List Value) (ds:List (DataW H)) (q:List MemPlace),(∀t∈ts,P.readableRec t=true∧t<P.types.size)→
  DataW.TrodAll enc P W 0 (fun _=>true) true ts vs ds q→(∀x∈q,x.block<W.heap.size)→DataW.TrodAll enc P W' 0 (fun b=>decide (b<W.heap.size)) true ts vs ds q
 | [],[],[],q,_,h,_=>h
 |t::ts,v::vs,d::ds,q,ht,h,hq=>by
  simp only [DataW.TrodAll] at h ⊢;obtain⟨q1,q2,g1,g2,rfl⟩:=h
  exact⟨q1,q2,Below.trod hl (ht t (List.mem_cons_self ..)).1 (ht t (List.mem_cons_self ..)).2 g1 hb (fun x hx=>hq x (List.mem_append_left _ hx)),
   D9 hl hb ts vs ds q2 (fun u hu=>ht u (List.mem_cons_of_mem _ hu)) g2 (fun x hx=>hq x (List.mem_append_right _ hx)),rfl⟩
 | [],_::_,_,_,_,h,_=>by simp [DataW.TrodAll] at h
 | [],[],_::_,_,_,h,_=>by simp [DataW.TrodAll] at h
 |_::_,[],_,_,_,h,_=>by simp [DataW.TrodAll] at h
 |_::_,_::_,[],_,_,h,_=>by simp [DataW.TrodAll] at h
theorem GM(hT:bx T P)(hl:laidOutB P=true) {G:Nat→Option GD} {f:FuncId} {fn:Func} {s:ChangeSpec} {ps:List PS}(hv:Valid P G f (ar ps fun _=>(True, .bool true,[])))
  (hps:PS.UO T fn.params.toList=some ps) (W7:(fn.params.toList.all fun t=>P.readableRec t&&decide (t<P.types.size))=true) {tb:TypeId} (rv:fn.resultTypes= #[tb]) (htb:P.underlying tb=some .bool)
  (UD:s.vars= []) (hs:∀(H:Type) (ds:List (DataW H)),ds.length=fn.params.toList.length→s.fn H ds= {results:= [.lit (.bool true)],args:=ds})
  {W:World} {base:Nat} {args:Array Value} {ds gs:List (DataW H)} {before:List MemPlace} (hG:∀i d,G i=some d→o0 W (fun b=>b<W.heap.size) i d)
  (Dq:∀(j:Nat) t v,fn.params[j]? =some t→args[j]? =some v→Value.okWide P W .any base t v)
  (hW:DataW.Whole enc P fn.params.toList s.vars false W args.toList ds gs before):
  Calls P f args W fun e W'=>∃v,e= .returned v∧s.post enc P fn false true false false W args v W':=by
 have hW':=hW;obtain⟨p,q,hA,hV,rfl,xu,hnd⟩:=hW;rw [UD] at hV
 have hV':gs= []∧q= []:=by
  cases gs with
  |nil=>exact⟨rfl,by simpa [DataW.TrodVars] using hV⟩
  |cons _ _=>simp [DataW.TrodVars] at hV
 obtain⟨rfl,rfl⟩:=hV';simp only [List.append_nil] at hW';obtain⟨hlen,cz,cs,z,k1,k2,k3⟩:=D8 (β:=fun _=>undef) (A:=fun b=>b<W.heap.size) hT (fun b hb=>hb) _ ps _ _ _ hps (fun j t v hj hv=>⟨base,Dq j t v (by simpa using hj) (by simpa using hv)⟩) hA;have hc:=hv W (fun b=>b<W.heap.size) (fun _=>undef) args.toList cz True (.bool true) [] (fun b hb=>hb) hG k1 (by simp only [ar,D5,k2,k3]) trivial;rw [Array.toArray_toList] at hc;refine hc.mono ?_;rintro e W' ⟨v,rfl,A',aJ,hp⟩;have hvt:=hp.res;simp only [aa] at hvt;subst hvt;have hb:Below W.heap.size W W':=⟨hp.os,hp.tape,hp.output,hp.size,fun k hk=>hp.same k hk⟩;have eM:∀x∈p,x.block<W.heap.size:=fun x hx=>by simpa using hW'.lt x hx
 rw [List.all_eq_true] at W7
 have bw:=D9 hl hb fn.params.toList args.toList ds p (fun t ht=>by
  have :=W7 t ht;simp only [Bool.and_eq_true,decide_eq_true_eq] at this;exact this) hA eM
 have Da:=hs H ds hlen;refine⟨_,rfl,ds,[],p,[],p,[],hW',?_,?_,?_,hb.frame _,fun h=>by cases h⟩
 · rw [rv];simp only [List.append_nil,Da,Value.resultList];exact trodAll_mk1 (shut_bool htb true)
 · simp only [List.append_nil,Da];exact bw
 · rw [UD];simp only [List.append_nil,Da];rfl
end
end Go.Vg

end
section
namespace Go.V
theorem nL {a b:Bool}:((bif a then true else b)=true)=(a=true∨b=true):=by cases a<;>simp
theorem fl {a b:Bool}:((bif a then true else b)=false)=(a=false∧b=false):=by cases a<;>simp
theorem L6 {a b:Bool}:((bif a then b else false)=true)=(a=true∧b=true):=by cases a<;>simp
theorem zd {a b:Bool}:((bif a then b else false)=false)=(a=false∨b=false):=by cases a<;>simp
end Go.V
namespace Go.S
theorem aw {α:Type}(l:List α)(n:Nat)(d:α)(h:n<l.length):l.take (n+1)=l.take n++ [l.getD n d]:=by
 rw [List.take_add_one,List.getElem?_eq_getElem h];simp [List.getD,List.getElem?_eq_getElem h]
theorem bo {α:Type}(l:List α)(n:Nat)(d:α)(h:n<l.length):l.getD n d∈l:=by
 simp [List.getD,List.getElem?_eq_getElem h]
theorem Av {α β:Type} {P:α→Prop} {f:α→β→α}:∀(l:List β) (a:α),P a→(∀a x,x∈l→P a→P (f a x))→P (l.foldl f a)
 | [],_,h,_=>h
 |x::l,a,h,hs=>Av l (f a x) (hs a x (List.mem_cons_self ..) h) fun a y hy=>hs a y (List.mem_cons_of_mem _ hy)
theorem mem_set {α:Type} {l:List α} {i:Nat} {a b:α}(h:b∈l.set i a):b=a∨b∈l:=by
 rcases List.mem_or_eq_of_mem_set h with h|h
 · exact .inr h
 · exact .inl h
theorem Ea {α:Type} {f:α→α}:∀ {l:List α},(∀x∈l,f x=x)→l.map f=l
 | [],_=>rfl
 |x::l,h=>by rw [List.map_cons,h x (List.mem_cons_self ..),Ea fun y hy=>h y (List.mem_cons_of_mem _ hy)]
end Go.S
namespace Go.S
end Go.S

end
