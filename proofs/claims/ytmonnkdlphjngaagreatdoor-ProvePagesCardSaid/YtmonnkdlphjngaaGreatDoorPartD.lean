import Derived.Test.YtmonnkdlphjngaaGreatDoorPartC
set_option linter.unusedVariables false
set_option linter.unusedSimpArgs false
section
namespace Go.S
theorem aph {n:Int} {g:List UInt8} {l:List Sg}(h:bM n g l=true):(dU n g l).length<=5000:=by
 have :=OE h;grind[xu,hB,dU]
theorem dV {n:Int} {g:List UInt8} {l:List Sg}(h:bM n g l=true):0<=n/\n<=1000/\g.length=32/\l.length<=64:=by
 grind[ga,mK]
theorem B1 {v:Int}(h:c5 v=false):0<=v/\v<=4611686018427387904:=by
 grind[c5,Bool.or_eq_false_iff,decide_eq_false_iff_not]
theorem af0 {p:List (List UInt8)}(h:qc p):(dS p).length<=2057:=by
 have :=Al p;rw [C4 (by have :=h.1;omega) h.2] at this;omega
theorem af1 {p:List (List UInt8)}(h:qc p)(k:Nat):(hJ p k).length<=2057/\∀i:Nat,(p.getD i []).length<=32:=by
 have q:∀(l:List (List UInt8)),cR l=true->l.flatten.length=32*l.length:=by
  intro l;induction l with
  |nil=>grind
  |cons a l ih=>
   grind[cb,List.mem_cons_self,List.flatten_cons,List.length_append,List.length_cons,List.mem_cons_of_mem]
 have e:=q (p.take k) ((cb _).2 fun d hd=>(cb p).1 h.2 d (List.mem_of_mem_take hd));have :=bG (p.length:Int);have :=h.1;refine⟨?_,fun i=> ?_⟩
 . grind[hJ,List.length_append,List.length_take]
 . by_cases hi:i<p.length
   . have :=(cb p).1 h.2 _ (bu p i [] hi);omega
   grind
theorem ac6 {p:List (List UInt8)} {k:Nat}(hk:(k:Int)<p.length):hJ p k++p.getD (Int.toNat (k:Int)) []=hJ p (k+1):=by
 grind[Int.toNat_natCast,hJ,au]
theorem aAm(p:List (List UInt8)):num p.length=hJ p 0:=by simp [hJ]
theorem af2 {p:List (List UInt8)} {k:Nat}(h:ei p k)(hk:¬(k:Int)<p.length):hJ p k=dS p:=by
 grind[ei,hJ,dS,List.take_length]
theorem aO6 {p:Pf}(h:tF p=true):(ew p).length<=7000:=by
 have :=RC p;grind[Ui]
theorem aPU {n:Int} {g:List UInt8} {s:List Sg} {l:List (List Pf)}(h:azi n g s l) {k j:Nat}(hk:(k:Int)<l.length)(hj:(j:Int)<(l.getD k []).length):tF ((l.getD k []).getD j vu)=true :=
 (h.2.2 _ (bu l k [] (by omega))).2 _ (bu _ j vu (by omega))
theorem aLD {n:Int} {g:List UInt8} {s:List Sg} {l:List (List Pf)}(h:azi n g s l) {k:Nat}(hk:k<=l.length):(yq n g s l k).length<=130000000:=by
 have :=Lz n g s l k fun i hi=>(h.2.2 _ (bu l i [] (by omega))).1;rw [Rz h.1 (fun x hx=>(h.2.2 x hx).2) k hk] at this;have :=h.2.1;grind
theorem aPV {n:Int} {g:List UInt8} {s:List Sg} {l:List (List Pf)}(h:azi n g s l) {k j:Nat}(hk:k<l.length)(hj:j<=(jl l k).length):(apu n g s l k j).length<=140000000:=by
 have h1:=aLD h (k:=k) (by omega);have h2:=C5 (jl l k) j;have hm:=h.2.2 _ (bu l k [] hk);grind[Ry,jl,apu,List.length_append]
theorem aSD(n:Int)(g:List UInt8)(s:List Sg)(l:List (List Pf))(k:Nat):yq n g s l k++num (l.getD (Int.toNat (k:Int)) []).length=apu n g s l k 0:=by
 grind[Int.toNat_natCast,apu,jJ,jl]
theorem aO7 {n:Int} {g:List UInt8} {s:List Sg} {l:List (List Pf)} {k j:Nat}(hj:(j:Int)<(l.getD k []).length):apu n g s l k j++ew ((l.getD k []).getD j vu)=apu n g s l k (j+1):=by
 grind[jl,vu,au,apu,jJ]
theorem aPW {n:Int} {g:List UInt8} {s:List Sg} {l:List (List Pf)} {k j:Nat}(hk:(k:Int)<l.length)(h:j<=(jl l k).length)(hj:¬(j:Int)<(l.getD k []).length):apu n g s l k j=yq n g s l (k+1):=by
 grind[jl,apu,yq,au]
theorem aPX {n:Int} {g:List UInt8} {s:List Sg} {l:List (List Pf)} {k:Nat}(h:ei l k)(hk:¬(k:Int)<l.length):yq n g s l k=ze n g s l:=by
 have e:k=l.length:=by grind[ei]
 rw [e];rfl
theorem aN0(n:Int)(g:List UInt8)(s:List Sg)(l:List (List Pf)): [1]++dU n g s=yq n g s l 0:=by simp [yq]
theorem api {n:Int} {g:List UInt8} {l:List Sg}(h:bM n g l=true):bz (hB n g l)/\small (hB n g l):=by
 grind[Vp,bz,small]
end Go.S

end
section
namespace Go.S
def aAA(n:Int)(g:List UInt8)(l:List Sg):List UInt8×Int:=if bM n g l then(qG 3 (hB n g l),0) else([],1)
def aO8(n:Int)(g:List UInt8)(l:List Sg):List UInt8:=nU 3 (hB n g l)
def avG(docs:List (List UInt8))(l:List aT):List UInt8×Int:=
 if cv docs l then(qG 3 (hB docs.length (root (leaves docs)) (aZ docs l)),0) else([],7)
def nu(docs:List (List UInt8))(i:Int):List UInt8:=docs.getD i.toNat []
def VP(docs:List (List UInt8))(i:Int):Prop :=0<=i/\i<docs.length
def aMe(a b:List UInt8):Bool:=decide (a=b)
def Am(d:List bL)(ts:List (List UInt8)):List Pf:=ts.map (hZ d)
def nv(d:List bL)(ts:List (List UInt8))(k:Nat):List Pf:=(ts.take k).map (hZ d)
def HJ(d:List bL)(ts:List (List UInt8)):Prop :=bf d/\aY d=true/\ts.length<=1000/\∀t∈ts,isTerm t=true
def tI(l:List aT)(ts:List (List UInt8)):List (List Pf):=l.map fun s=>Am s.2.2 ts
def j6(l:List aT)(ts:List (List UInt8))(k:Nat):List (List Pf):=tI (l.take k) ts
def iD(docs:List (List UInt8))(l:List aT)(q:List gb):List UInt8×Int:=
 if cv docs l=false then([],7) else if de q=false then([],1)
 else nq docs.length (root (leaves docs)) (aZ docs l) (tI l (b7 q))
def cF(docs:List (List UInt8))(l:List aT)(i:Int):List UInt8×Int:=
 if cv docs l=false then([],7) else if i<0\/(docs.length:Int)<=i then([],5)
 else uY docs.length (root (leaves docs)) (aZ docs l) i (docs.getD i.toNat []) (path (leaves docs) i)
def aoU(a b:List (List UInt8)):Bool:=decide (a.length<=b.length)&&decide (a=b.take a.length)
def aAs(a b:List (List UInt8))(k:Nat):Prop :=a.length<=b.length/\k<=a.length/\a.take k=b.take k
def anR(docs:List (List UInt8))(l:List aT)(ada:List (List UInt8))(l':List aT):List UInt8×Int:=
 if cv docs l=false\/cv ada l'=false then([],7) else if aoU docs ada=false then([],1)
 else aAH docs.length (root (leaves docs)) (aZ docs l) ada.length (root (leaves ada)) (aZ ada l') (ag3 (leaves ada) docs.length)
end Go.S

end
section
namespace Go.S
theorem LA {n:Int} {g:List UInt8} {l:List Sg}(h:bM n g l=true):((dU n g l).length:Int)<=4009:=by
 have :=OE h;grind[xu,hB,dU]
theorem VQ:∀(p:List (List UInt8)),cR p=true->p.flatten.length=32*p.length
 | [],_=>rfl
 |a::p,h=>by
  have ha:=(cb _).1 h a (R! ..);have :=VQ p ((cb _).2 fun d hd=>(cb _).1 h d (G! _ hd));rw [List.flatten_cons,C!,D?,ha,this];omega
theorem LB {p:List (List UInt8)}(h:cR p=true):(dS p).length<=32*p.length+9:=by
 grind[bG,dS,List.length_append,VQ]
theorem HK {b:List UInt8}(h:(b.length:Int)<=1048576):sb (b,false)=b/\rh (b,false)=0:=by
 simp_all[sb,rh,T!]
theorem uZ {docs:List (List UInt8)} {l:List aT}(h:cv docs l=true):docs.length<=1000/\(∀i,((docs.getD i []).length:Int)<=2000):=by
 have hf:=(RI.of (jI.1 h).1).fair;simp [cP,Bool.and_eq_true,List.all_eq_true,decide_eq_true_eq] at hf;grind
theorem mL(l:List (List UInt8)):(leaves l).length=l.length:=by simp [leaves]
theorem HL {docs:List (List UInt8)} {l:List aT}(h:cv docs l=true) {i:Int}(h0:0<=i)(h1:i<docs.length):
  (path (leaves docs) i).length<=10/\cR (path (leaves docs) i)=true :=by
 have :=(uZ h).1;exact⟨xr h0 (by grind[mL]) (by grind[mL]),Aj _ _ _ rfl (gF docs)⟩
theorem af3 {docs:List (List UInt8)} {l:List aT}(h:cv docs l=true) {i:Int}(h0:0<=i)(h1:i<docs.length):
  cF docs l i=(abG docs.length (root (leaves docs)) (aZ docs l) i (docs.getD i.toNat []) (path (leaves docs) i),0)/\
  Uh (cF docs l i).1=(((docs.length:Int),root (leaves docs),aZ docs l,i,docs.getD i.toNat [],path (leaves docs) i),0)/\
  ((cF docs l i).1.length:Int)<=1048576:=by
 obtain⟨d1,d2⟩:=uZ h;obtain⟨p1,p2⟩:=HL h h0 h1;have hr:=re h;have hn:c5 i=false :=xq h0 (by omega)
 have hl:((abG docs.length (root (leaves docs)) (aZ docs l) i (docs.getD i.toNat []) (path (leaves docs) i)).length:Int)<=1048576:=by
  have a1:=LA hr;grind[bG,xu,LB,abG,List.length_append,List.length_singleton]
 have e:cF docs l i=(abG docs.length (root (leaves docs)) (aZ docs l) i (docs.getD i.toNat []) (path (leaves docs) i),0):=by
  unfold cF uY OA;rw [if_neg (by rw [h];decide),if_neg (by omega),Lt hr,Rx hn,yr (d2 _),C4 (by omega) p2];have :=HK hl;simp only [abG] at this;simp only [cat,Bool.or_false,abG];rw [this.1,this.2]
 grind[ac5]
theorem aAQ {a b:List (List UInt8)}(h:aoU a b=true):a.length<=b.length:=by
 simp [aoU,B!,I!] at h;omega
theorem aAR {docs ada:List (List UInt8)} {l l':List aT}(h:cv docs l=true)(h':cv ada l'=true)(hb:aoU docs ada=true):
  anR docs l ada l'=(apz docs.length (root (leaves docs)) (aZ docs l) ada.length (root (leaves ada)) (aZ ada l') (ag3 (leaves ada) docs.length),0)/\
  Sk (anR docs l ada l').1=(((docs.length:Int),root (leaves docs),aZ docs l,(ada.length:Int),root (leaves ada),aZ ada l',ag3 (leaves ada) docs.length),0)/\
  ((anR docs l ada l').1.length:Int)<=1048576:=by
 have d1:=(uZ h').1;have hr:=re h;have nz:=re h'
 have hp:cR (ag3 (leaves ada) docs.length)=true/\(ag3 (leaves ada) docs.length).length<=11:=by
  unfold ag3;split
  . split
    . exact⟨rfl,J! _⟩
    . exact apw 10 _ _ _ (gF ada) (by grind[mL])
  . exact⟨rfl,J! _⟩
 unfold anR;generalize ag3 (leaves ada) docs.length=p at *
 have hl:((apz docs.length (root (leaves docs)) (aZ docs l) ada.length (root (leaves ada)) (aZ ada l') p).length:Int)<=1048576:=by
  have a1:=LA hr;have a2:=LA nz;grind[LB,apz,List.length_append,List.length_singleton]
 have e:(if cv docs l=false\/cv ada l'=false then(([]:List UInt8),(7:Int)) else if aoU docs ada=false then([],1) else aAH docs.length (root (leaves docs)) (aZ docs l) ada.length (root (leaves ada)) (aZ ada l') p)=(apz docs.length (root (leaves docs)) (aZ docs l) ada.length (root (leaves ada)) (aZ ada l') p,0):=by
  unfold aAH aAG;rw [if_neg (by grind),if_neg (by grind),Lt hr,Lt nz,C4 (by omega) hp.1];simp_all[HK,apz,cat,Bool.or_false]
 grind[aHb]
theorem af4 {v:Int}(h:v<16384):(num v).length<=2:=by
 grind[num,mC]
theorem RF {l:List Int}(h:cc l=true):(mn l).length<=2*l.length+2:=by
 have hl:=mI h
 have q:∀k,k<=l.length->((List.range k).flatMap (fun i=>num (l.getD i 0-eU l i-1))).length<=2*k:=by
  intro k;induction k with
  |zero=>simp
  |succ k ih=>
   intro hk;have h1:=CS (Oa h (k:=k) (by omega));have h2:=(kM l k).1 ((kL l).1 h k (by omega));have h3:=af4 (v:=l.getD k 0-eU l k-1) (by omega);rw [List.range_succ,w?,C!];simp only [List.flatMap_cons,List.flatMap_nil,C?];omega
 have :=q l.length (N! _);have h3:=af4 (v:=(l.length:Int)) (by omega);simp only [mn,dc,C!];omega
theorem LC {d:List bL}(h:aY d=true)(t:List UInt8):cc (ji d t)=true :=by
 unfold ji;split
 . rename_i h1;have hb:=apA h1;simp_all[qT,br]
 . rfl
theorem af5 {d:List bL}(h:aY d=true) {i:Nat}(hi:i<=d.length):eI (bw (hY d i)).1.1 (bw (hY d i)).1.2.1 (bw (hY d i)).1.2.2=true :=by
 rcases xd h (k:=i) with q|q
 . have e:hY d i=fG (if i=0 then [] else dI d (i-1)) (if i<d.length then dI d i else []) (fM (if i=0 then [] else gy d (i-1))):=rfl;grind[Q1]
 omega
theorem Un {d:List bL}(h:aY d=true)(hp:d.length<=1048576)(t:List UInt8):tF (hZ d t)=true :=by
 obtain⟨f1,f2,f3⟩:=HC (t:=t) h;have hlen:(leaves (eh d)).length=d.length+1:=by rw [mL,f3]
 refine yu.2 ⟨xq f1 (by grind[hZ]),af5 h (by omega),?_,Aj _ _ _ rfl (gF _),?_⟩
 . have :=xr (l:=leaves (eh d)) (i:=br d t+1) (t:=21) f1 (by omega) (by omega);grind[hZ]
 grind[hZ,LC,RF,mI]
theorem Uo {d:List bL}(h:aY d=true)(hp:d.length<=100)(hd:∀t,(ji d t).length<=200)(t:List UInt8):(ew (hZ d t)).length<=880:=by
 obtain⟨f1,f2,f3⟩:=HC (t:=t) h;have hlen:(leaves (eh d)).length=d.length+1:=by rw [mL,f3]
 have a1:=bG (br d t+1);have a2:=nZ (af5 h (i:=(br d t+1).toNat) (by omega));have a3:=xu (fG (bw (hY d (br d t+1).toNat)).1.1 (bw (hY d (br d t+1).toNat)).1.2.1 (bw (hY d (br d t+1).toNat)).1.2.2);have a4:=LB (Aj _ (leaves (eh d)) (br d t+1) rfl (gF _));have a5:=xr (l:=leaves (eh d)) (i:=br d t+1) (t:=7) f1 (by omega) (by omega)
 have a6:(text (if fx d t then mn (ji d t) else [])).length<=411:=by
  have :=xu (if fx d t then mn (ji d t) else [])
  have q:(if fx d t then mn (ji d t) else []).length<=402:=by
   split
   . have :=RF (LC h t);have :=hd t;omega
   . exact J! _
  omega
 simp [ew,hZ,C!];omega
theorem af6 {d:List bL}(h:aY d=true)(hp:d.length<=1048576)(ts:List (List UInt8)):∀p∈Am d ts,tF p=true :=by
 intro p sX;obtain⟨t,_,rfl⟩:=List.mem_map.1 sX;grind[Un]
theorem C6 {docs:List (List UInt8)} {l:List aT}(h:cv docs l=true):∀s∈l,aY s.2.2=true/\s.2.2.length<=1048576/\bf s.2.2:=by
 intro s hs;have R:=RI.of (jI.1 h).1;obtain⟨h1,h2,_⟩:=R.seg s hs;refine⟨?_,h2.1,h2⟩;have :dQ s.1 s.2.1 s.2.2=true :=h1;simp [dQ,Bool.and_eq_true] at this;grind
theorem HN {docs:List (List UInt8)} {l:List aT}(h:cv docs l=true) {ts:List (List UInt8)}(ht:ts.length<=16):∀x∈tI l ts,(x.length:Int)<=16/\∀p∈x,tF p=true :=by
 intro x hx;obtain⟨s,hs,rfl⟩:=List.mem_map.1 hx;grind[C6,Am,af6]
theorem D6 {docs:List (List UInt8)} {l:List aT}(h:cv docs l=true):(aZ docs l).length=l.length:=by
 grind[aZ,fi,jI,List.length_map]
theorem af7 {docs:List (List UInt8)} {l:List aT} {q:List gb}(h:cv docs l=true)(hq:de q=true):
  iD docs l q=(sb (ze docs.length (root (leaves docs)) (aZ docs l) (tI l (b7 q)),false),rh (ze docs.length (root (leaves docs)) (aZ docs l) (tI l (b7 q)),false)):=by
 have hm:=HN h (pb hq);have hl:(tI l (b7 q)).length=(aZ docs l).length:=by rw [D6 h];simp [tI]
 have ha:EZ (tI l (b7 q))=true :=List.all_eq_true.2 fun x hx=>decide_eq_true (hm x hx).1;unfold iD nq;rw [if_neg (by rw [h];decide),if_neg (by rw [hq];decide),if_neg (by rw [hl,ha];simp),Rz (re h) (fun x hx=>(hm x hx).2) _ (Nat.le_refl _)];rfl
theorem ac7 {docs:List (List UInt8)} {l:List aT} {q:List gb}(h:cv docs l=true)(hq:de q=true)(he:(iD docs l q).2=0):
  iD docs l q=(ze docs.length (root (leaves docs)) (aZ docs l) (tI l (b7 q)),0)/\((iD docs l q).1.length:Int)<=1048576/\
  eJ (iD docs l q).1=(((docs.length:Int),root (leaves docs),aZ docs l,tI l (b7 q)),0):=by
 have e:=af7 h hq;rw [e] at he |-
 have hl:((ze docs.length (root (leaves docs)) (aZ docs l) (tI l (b7 q))).length:Int)<=1048576:=by
  simp_all[rh,T!]
 have hb:=HK hl;rw [hb.1,hb.2];exact⟨rfl,hl,afM (re h) (by grind[D6,tI]) (HN h (pb hq)) hl⟩
theorem xv {α:Type}(f:α->List UInt8)(c:Nat):∀(l:List α),(∀x∈l,(f x).length<=c)->(l.flatMap f).length<=c*l.length
 | [],_=>by simp
 |a::l,h=>by
  have ih:=xv f c l fun x hx=>h x (List.mem_cons_of_mem _ hx);grind[List.length_append,List.length_cons,Nat.mul_succ]
theorem apj {docs:List (List UInt8)} {l:List aT} {q:List gb}(h:cv docs l=true)(hq:de q=true)(hg:kn docs l=false):(iD docs l q).2=0:=by
 rw [af7 h hq];refine(HK ?_).2;have ht:=pb hq;have hl:l.length<=64:=(RI.of (jI.1 h).1).le |> fun q=>by grind[eF]
 have hD:∀s∈l,fN s.2.2=false :=by
  grind[kn,Bool.or_eq_false_iff,List.any_eq_false]
 have j7:∀x∈tI l (b7 q),(jJ x x.length).length<=880*16+9:=by
  intro x hx;obtain⟨s,hs,rfl⟩:=g?.1 hx;obtain⟨f1,f2,f3⟩:=C6 h s hs;obtain⟨g1,g2⟩:=TU (hD s hs)
  have hd:∀t,(ji s.2.2 t).length<=200:=by
   intro t;unfold ji;split
   . rename_i hb;have bS:=apA hb;exact(g2 _ (bu s.2.2 (br s.2.2 t).toNat ([],[]) (by omega))).2
   grind
  have :=xv ew 880 (Am s.2.2 (b7 q)) (fun p hp=>by
   obtain⟨t,_,rfl⟩:=List.mem_map.1 hp;grind[Uo])
  grind[bG,Am,b7,Ak,List.length_append,Nat.mul_le_mul_left]
 have :=xv (fun x=>jJ x x.length) _ _ j7;have hn:(tI l (b7 q)).length=l.length:=by simp [tI]
 have a1:=LA (re h);grind[Nat.mul_le_mul_left,ze,yq,List.length_append,List.length_singleton,List.take_length]
end Go.S

end
section
namespace Go.S
def aM9(docs:List (List UInt8))(l:List aT):List UInt8:=aO8 docs.length (root (leaves docs)) (aZ docs l)
def hx(l:List nF):Q7:=(bQ (cY l).1 (cY l).2).1
def aoV(l m:List nF)(k:Nat):Q7:=lj (hx l) m k
theorem aRA {n:Int} {g:List UInt8} {l:List Sg}(h:¬(hW n g l).2=0):aAA n g l=([],1)/\(hW n g l).2=1:=by
 grind[bM,EY,Ua,aAA]
theorem aPY {n:Int} {g:List UInt8} {l:List Sg}(h:(hW n g l).2=0):aAA n g l=(qG 3 (hW n g l).1,0)/\bz (hW n g l).1:=by
 simp_all[afv,aAA,W!,api]
theorem af8 {docs:List (List UInt8)} {l:List aT}(h:¬(gg docs l).2=0):cv docs l=false :=by
 grind[yo]
theorem pW {docs:List (List UInt8)} {l:List aT}(h:(gg docs l).2=0):cv docs l=true/\(gg docs l).1.1=(docs.length:Int)/\(gg docs l).1.2.1=root (leaves docs)/\(gg docs l).1.2.2=aZ docs l:=by
 grind[cv,yo,afu]
theorem aRB {docs:List (List UInt8)} {l:List aT}(h:¬(gg docs l).2=0):avG docs l=([],7):=by grind[avG,af8]
theorem aPZ {docs:List (List UInt8)} {l:List aT}(h:(gg docs l).2=0):aAA (gg docs l).1.1 (gg docs l).1.2.1 (gg docs l).1.2.2=avG docs l:=by
 simp_all[pW,avG,aAA,W!,re]
theorem D7 {t:List UInt8}(h:isTerm t=true):small t:=by grind[xc,small]
theorem aH5(d:List bL)(ts:List (List UInt8)): []=nv d ts 0:=rfl
theorem apk(d:List bL)(ts:List (List UInt8))(k:Nat):(nv d ts k).length<=ts.length:=by grind[nv,List.length_take]
theorem af9 {d:List bL} {ts:List (List UInt8)} {k:Nat}(h:(k:Int)<ts.length):nv d ts k++ [hZ d (ts.getD (Int.toNat (k:Int)) [])]=nv d ts (k+1):=by
 grind[Int.toNat_natCast,nv,au]
theorem apl {d:List bL} {ts:List (List UInt8)} {k:Nat}(h:ei ts k)(hk:¬(k:Int)<ts.length):nv d ts k=Am d ts:=by
 grind[ei,nv,Am,List.take_length]
theorem aAn {d:List bL} {ts:List (List UInt8)}(h:HJ d ts) {k:Nat}(hk:(k:Int)<ts.length):isTerm (ts.getD (Int.toNat (k:Int)) [])=true :=by
 exact h.2.2.2 _ (bu ts k [] (by omega))
theorem aH6(l:List aT)(ts:List (List UInt8)): []=j6 l ts 0:=rfl
theorem apm(l:List aT)(ts:List (List UInt8))(k:Nat):(j6 l ts k).length<=l.length:=by grind[j6,tI,List.length_take]
theorem aga {l:List aT} {ts:List (List UInt8)} {k:Nat}(h:(k:Int)<l.length):j6 l ts k++ [Am (l.getD (Int.toNat (k:Int)) (0,0,[])).2.2 ts]=j6 l ts (k+1):=by
 grind[Int.toNat_natCast,j6,tI,au]
theorem apn {l:List aT} {ts:List (List UInt8)} {k:Nat}(h:ei l k)(hk:¬(k:Int)<l.length):j6 l ts k=tI l ts:=by
 grind[ei,j6,List.take_length]
theorem LD {docs:List (List UInt8)} {l:List aT}(h:cv docs l=true):l.length<=64:=by simpa [eF] using(RI.of (jI.1 h).1).le
theorem ac9 {docs:List (List UInt8)} {l:List aT}(h:cv docs l=true):c8 docs/\rf (leaves docs)/\small (leaves docs):=by
 obtain⟨h1,h2⟩:=Ag (jI.1 h).1;exact⟨h1,h2,h2⟩
theorem apo {docs:List (List UInt8)} {l:List aT} {q:List gb}(h:cv docs l=true)(hq:de q=true) {k:Nat}(hk:(k:Int)<l.length):HJ (l.getD (Int.toNat (k:Int)) (0,0,[])).2.2 (b7 q):=by
 obtain⟨f1,f2,f3⟩:=C6 h _ (bu l k (0,0,[]) (by omega));exact⟨f3,f1,by grind[pb],Rw hq⟩
theorem agb {docs:List (List UInt8)} {l:List aT} {q:List gb}(h:¬(gg docs l).2=0):iD docs l q=([],7):=by simp_all[iD,W!,af8]
theorem VR {docs:List (List UInt8)} {l:List aT} {q:List gb}(h:(gg docs l).2=0)(hq:de q=false):iD docs l q=([],1):=by
 simp_all[iD,T!,pW,W!]
theorem ON {docs:List (List UInt8)} {l:List aT} {q:List gb}(h:cv docs l=true)(hq:de q=true) {k:Nat}(h1:ei l k)(hk:¬(k:Int)<l.length):
  nq ((len docs:Nat):Int) (root (leaves docs)) (aZ docs l) (j6 l (b7 q) k)=iD docs l q/\tG (j6 l (b7 q) k):=by
 rw [apn h1 hk];refine⟨by unfold iD;rw [if_neg (by grind),if_neg (by grind)];rfl,?_,?_⟩
 . grind[LD,tI]
 . intro x hx p hp;have :=(yu.1 ((HN h (pb hq) x hx).2 p hp)).2.2.2.2;omega
theorem agc {docs:List (List UInt8)} {l:List aT} {i:Int}(h:¬(gg docs l).2=0):cF docs l i=([],7):=by simp_all[cF,W!,af8]
theorem VS {docs:List (List UInt8)} {l:List aT} {i:Int}(h:(gg docs l).2=0)(hi:i<0\/(docs.length:Int)<=i):cF docs l i=([],5):=by
 simp_all[cF,T!,pW,W!]
theorem B2 {docs:List (List UInt8)} {l:List aT} {i:Int}(h:(gg docs l).2=0)(hi:¬i<0/\¬(docs.length:Int)<=i):
  nm (leaves docs) i=0/\uY (gg docs l).1.1 (gg docs l).1.2.1 (gg docs l).1.2.2 i (docs.getD i.toNat []) (j4 (leaves docs) i)=cF docs l i/\(docs.getD i.toNat []).length<=1099511627776:=by
 obtain⟨h1,h2,h3,h4⟩:=pW h;have q:cR (leaves docs)=true/\0<=i/\i<(leaves docs).length:=⟨gF docs,by omega,by grind[mL]⟩;refine⟨by simp_all[nm,if_pos],?_,by grind[uZ]⟩;simp_all[cF,j4,if_pos,if_neg]
theorem apq {docs:List (List UInt8)} {l:List aT} {i:Int}(h:cv docs l=true)(hi:VP docs i):jU (leaves docs) i:=⟨⟨gF docs,(ac9 h).2.1⟩,hi.1,by rw [mL];exact hi.2⟩
theorem aP0 {a:List (List UInt8)} {b:List (List UInt8)} {m:List aT}(h:cv b m=true)(hb:aoU a b=true):aze (leaves b) (a.length:Int):=⟨⟨gF b,(ac9 h).2.1⟩,by omega,by simp_all[mL,aAQ]⟩
theorem aRC(a b:List (List UInt8)):(bif decide ((a.length:Int)<=b.length) then apH a (b.take (Int.toNat (a.length:Int))) else false)=aoU a b:=by
 grind[Int.toNat_natCast,aoU,apH,decide_eq_true,decide_eq_false]
theorem aRD {y2:List aT} {ts:List (List UInt8)} {k j:Nat}(hk:(k:Int)<y2.length)(h:ei ts j)(hj:¬(j:Int)<ts.length):j6 y2 ts k++ [nv (aB y2 k).2.2 ts j]=j6 y2 ts (k+1):=by
 rw [apl h hj,<-aga hk,Q!];rfl
theorem aLE(p:Pf):(p.1,p.2.1,p.2.2.1,p.2.2.2.1,p.2.2.2.2.1,p.2.2.2.2.2)=p:=rfl
theorem aRE {y2:List aT} {ts:List (List UInt8)} {k j:Nat}(hj:(j:Int)<ts.length):
  nv (aB y2 k).2.2 ts j++ [((hZ (y2.getD (Int.toNat (k:Int)) (0,0,[])).2.2 (ts.getD (Int.toNat (j:Int)) [])).1,(hZ (y2.getD (Int.toNat (k:Int)) (0,0,[])).2.2 (ts.getD (Int.toNat (j:Int)) [])).2.1,(hZ (y2.getD (Int.toNat (k:Int)) (0,0,[])).2.2 (ts.getD (Int.toNat (j:Int)) [])).2.2.1,(hZ (y2.getD (Int.toNat (k:Int)) (0,0,[])).2.2 (ts.getD (Int.toNat (j:Int)) [])).2.2.2.1,(hZ (y2.getD (Int.toNat (k:Int)) (0,0,[])).2.2 (ts.getD (Int.toNat (j:Int)) [])).2.2.2.2.1,(hZ (y2.getD (Int.toNat (k:Int)) (0,0,[])).2.2 (ts.getD (Int.toNat (j:Int)) [])).2.2.2.2.2)]=nv (aB y2 k).2.2 ts (j+1):=by
 rw [aLE,<-af9 hj,Q!];rfl
theorem aRF {a:List (List UInt8)} {l:List aT} {b:List (List UInt8)} {m:List aT}(h:¬(gg a l).2=0\/¬(gg b m).2=0):anR a l b m=([],7):=by
 unfold anR;grind[af8]
theorem aP1 {a:List (List UInt8)} {l:List aT} {b:List (List UInt8)} {m:List aT}(h:(gg a l).2=0)(h':(gg b m).2=0)(hb:aoU a b=false):anR a l b m=([],1):=by
 simp_all[anR,T!,pW,W!]
theorem aP2 {a:List (List UInt8)} {l:List aT} {b:List (List UInt8)} {m:List aT}(h:(gg a l).2=0)(h':(gg b m).2=0)(hb:aoU a b=true):
  aAH (gg a l).1.1 (gg a l).1.2.1 (gg a l).1.2.2 (gg b m).1.1 (gg b m).1.2.1 (gg b m).1.2.2 (ag3 (leaves b) (a.length:Int))=anR a l b m/\apE (leaves b) (a.length:Int)=0:=by
 obtain⟨h1,h2,h3,h4⟩:=pW h;obtain⟨g1,g2,g3,g4⟩:=pW h';simp_all[aAQ,anR,T!,apE,W!,gF,mL]
theorem aP3 {a b:List (List UInt8)}(h:(b.length:Int)<a.length):aoU a b=false :=by
 grind[aoU,decide_eq_false]
theorem aSE {a b:List (List UInt8)}(h:¬(b.length:Int)<a.length):aAs a b 0:=⟨by omega,J! _,by simp⟩
theorem aP4 {a b:List (List UInt8)} {k:Nat}(h:aAs a b k)(hk:(k:Int)<a.length)(he:aMe (a.getD (Int.toNat (k:Int)) []) (b.getD (Int.toNat (k:Int)) [])=false):aoU a b=false :=by
 have dR:=of_decide_eq_false he;grind[aoU]
theorem aO9 {a b:List (List UInt8)} {k:Nat}(h:aAs a b k)(hk:(k:Int)<a.length)(he:aMe (a.getD (Int.toNat (k:Int)) []) (b.getD (Int.toNat (k:Int)) [])=true):aAs a b (k+1):=by
 rw [Q!] at he;refine⟨h.1,by omega,?_⟩;rw [au a k [] (by omega),au b k [] (by have :=h.1;omega),h.2.2,of_decide_eq_true he]
theorem aP5 {a b:List (List UInt8)} {k:Nat}(h:aAs a b k)(hk:¬(k:Int)<a.length):aoU a b=true :=by
 have q:=h.2.2;grind[List.take_length,aoU,decide_eq_true]
end Go.S

end
section
namespace Go.S
def kx:Q7:=([pc],[(0,1,[(pc,[0])])])
def kP:List (List Pf):=tI kx.2 (b7 eW)
theorem ayf:(bQ (cE (Vg.cW (List UInt8)) (Vg.cW (Int×Int×List (List UInt8×List Int))) [104,97,121]).1.1 (cE (Vg.cW (List UInt8)) (Vg.cW (Int×Int×List (List UInt8×List Int))) [104,97,121]).1.2).1=kx:=by
 rfl
theorem OO:cv kx.1 kx.2=true :=by rfl
theorem k_q:de eW=true :=by rfl
theorem aIa:sa eW:=⟨by unfold small;decide,by unfold small;decide⟩
theorem k_g:kn kx.1 kx.2=false :=by rfl
theorem k_1:(iD kx.1 kx.2 eW).2=0:=apj OO k_q k_g
theorem k_2:(iD kx.1 kx.2 eW).1.length<=140737488355328/\(eJ (iD kx.1 kx.2 eW).1).2=0/\(eJ (iD kx.1 kx.2 eW).1).1.2.2.2=kP:=by
 have h:=ac7 OO k_q k_1;rw [h.2.2];exact⟨by omega,rfl,rfl⟩
theorem aIc:(cF kx.1 kx.2 1).2=5:=by
 rfl
theorem aAp {docs:List (List UInt8)} {l:List aT} {i:Int}(h:cv docs l=false):cF docs l i=([],7):=by simp_all[cF,W!]
theorem aAq {docs:List (List UInt8)} {l:List aT} {i:Int}(h:cv docs l=true)(hi:i<0\/(docs.length:Int)<=i):cF docs l i=([],5):=by
 simp_all[cF,T!,W!]
theorem apr {docs:List (List UInt8)} {l:List aT} {i:Int}(h:cv docs l=true)(hi:¬i<0/\¬(docs.length:Int)<=i):B0 ((len docs:Nat):Int) (root (leaves docs)) (aZ docs l) i (nu docs i) (path (leaves docs) i):=by
 obtain⟨d1,d2⟩:=uZ h;obtain⟨p1,p2⟩:=HL h (i:=i) (by omega) (by omega);exact⟨re h,xq (by omega) (by omega),by grind[nu],by omega,p2⟩
theorem aAr {docs:List (List UInt8)} {l:List aT} {i:Int}(h:cv docs l=true)(hi:¬i<0/\¬(docs.length:Int)<=i):cF docs l i=(abG ((len docs:Nat):Int) (root (leaves docs)) (aZ docs l) i (nu docs i) (path (leaves docs) i),0):=
 (af3 h (by omega) (by omega)).1
theorem aRH {docs:List (List UInt8)} {l:List aT} {q:List gb}(h:cv docs l=false):iD docs l q=([],7)/\avG docs l=([],7):=by
 grind[iD,avG]
theorem aNb {docs:List (List UInt8)} {l:List aT} {q:List gb}(h:cv docs l=true)(hq:de q=false):iD docs l q=([],1):=by
 simp_all[iD,T!,W!]
theorem aRI {docs:List (List UInt8)} {l:List aT}(h:cv docs l=true):avG docs l=(aM9 docs l,0):=by unfold avG;rw [if_pos h];rfl
theorem aRJ {docs:List (List UInt8)} {l:List aT} {q:List gb}(h:cv docs l=true)(hq:de q=true)(hg:kn docs l=false):
 iD docs l q=(ze ((len docs:Nat):Int) (root (leaves docs)) (aZ docs l) (tI l (b7 q)),0):=(ac7 h hq (apj h hq hg)).1
theorem aRK {docs:List (List UInt8)} {l:List aT} {q:List gb}(h:cv docs l=true)(hq:de q=true):azi ((len docs:Nat):Int) (root (leaves docs)) (aZ docs l) (tI l (b7 q)):=by
 refine⟨re h,by grind[LD,tI],fun x hx=> ?_⟩;have :=HN h (pb hq) x hx;grind
theorem aRL {a:List (List UInt8)} {l:List aT} {b:List (List UInt8)} {m:List aT}(h:cv a l=false\/cv b m=false):anR a l b m=([],7):=by simp_all[anR,W!]
theorem aRM {a:List (List UInt8)} {l:List aT} {b:List (List UInt8)} {m:List aT}(h:cv a l=true/\cv b m=true)(hb:aoU a b=false):anR a l b m=([],1):=by
 simp_all[anR,T!,W!]
theorem aRN {a:List (List UInt8)} {l:List aT} {b:List (List UInt8)} {m:List aT}(h:cv a l=true/\cv b m=true)(hb:aoU a b=true):
 anR a l b m=(apz ((len a:Nat):Int) (root (leaves a)) (aZ a l) ((len b:Nat):Int) (root (leaves b)) (aZ b m) (ag3 (leaves b) ((len a:Nat):Int)),0):=(aAR h.1 h.2 hb).1
theorem aPc {a b:List (List UInt8)} {m:List aT}(h:cv b m=true):qc (ag3 (leaves b) ((len a:Nat):Int)):=by
 have d1:=(uZ h).1;unfold ag3;split
 . split
   . exact⟨J! _,rfl⟩
   . have :=apw 10 (leaves b) ((len a:Nat):Int) false (gF b) (by grind[mL]);exact⟨by omega,this.1⟩
 . exact⟨J! _,rfl⟩
end Go.S

end
section
namespace Go.S
theorem aA2 {docs:List (List UInt8)}:∀(S:List Sp) (a:Int),eG docs a S=true->(S.length:Int)<=dK a S-a
 | [],a,_=>by simp [dK]
 |s::r,a,h=>by
  simp [eG,Bool.and_eq_true,decide_eq_true_eq,c9] at h;have ih:=aA2 r s.2 h.2.2;grind[List.length_cons,dK]
theorem aLF {docs:List (List UInt8)} {l:List aT}(h:bk docs l=true):l.length<=docs.length:=by
 have R:=RI.of h;have h1:=aA2 _ 0 R.row;have h2:=R.bd;have h3:=R.Q8;omega
theorem aJ0 {docs:List (List UInt8)} {l:List aT}(h:bk docs l=true)(a b c:Int)(d:List UInt8):
  (lC docs l a b c d).1.1.length+(lC docs l a b c d).1.2.length<=docs.length+l.length+1/\(lC docs l a b c d).1.1.take docs.length=docs/\docs.length<=(lC docs l a b c d).1.1.length:=by
 have h2:=Ra h a b c d;by_cases h0:a=0
 . have h1:=acY h a b c d;rw [T! (by omega)] at h2;have hg:=fi h;refine⟨by omega,?_,?_⟩
   . unfold lC;grind[cE]
   . unfold lC;grind[cE]
 grind[keeps]
theorem azb {x:Q7}(h:bk x.1 x.2=true)(m:List nF):∀k,(lj x m k).1.length+(lj x m k).2.length<=x.1.length+x.2.length+k/\(lj x m k).1.take x.1.length=x.1/\x.1.length<=(lj x m k).1.length
 |0=>⟨N! _,List.take_length,N! _⟩
 |k+1=>by
  have ih:=azb h m k;rw [lj];split
  . grind
  . have hr:=D1 h m k;have :=aJ0 hr (o0 m k).1 (o0 m k).2.1 (o0 m k).2.2.1 (o0 m k).2.2.2;grind
theorem aJ1(l:List nF):(hx l).1=(cY l).1:=(pf l).1
theorem aAt(l:List nF):cv (hx l).1 (hx l).2=true :=by rw [aJ1];exact(pf l).2.2.2.2
theorem aLG(l:List nF):(hx l).1.length+(hx l).2.length<=41:=by
 have h:=(azb (x:=([],[])) Vd l (min l.length 40)).1;grind[List.length_nil,afw,Rq,aoT,aJ1,hx,cY]
theorem aHc(l m:List nF)(k:Nat):bk (aoV l m k).1 (aoV l m k).2=true :=D1 (jI.1 (aAt l)).1 m k
theorem aN1(l m:List nF) {k:Nat}(hk:k<=40):
  cv (bQ (aoV l m k).1 (aoV l m k).2).1.1 (bQ (aoV l m k).1 (aoV l m k).2).1.2=true/\aoU (hx l).1 (bQ (aoV l m k).1 (aoV l m k).2).1.1=true :=by
 have hr:=aHc l m k;have hs:=azb (jI.1 (aAt l)).1 m k;have h41:=aLG l;have hle:=aLF hr;have e:aoV l m k=lj (hx l) m k:=rfl;grind[Rq,aoU,decide_eq_true]
theorem aJ2(w:Wp):((sb w).length:Int)<=1048576:=by
 grind[sb]
theorem aPe(l m:List nF)(k:Nat):
  (bif decide (((m.getD (Int.toNat (k:Int)) (0,0,0,[])).2.2.2.length:Int)<=2500) then(lC (aoV l m k).1 (aoV l m k).2 (m.getD (Int.toNat (k:Int)) (0,0,0,[])).1 (m.getD (Int.toNat (k:Int)) (0,0,0,[])).2.1 (m.getD (Int.toNat (k:Int)) (0,0,0,[])).2.2.1 (m.getD (Int.toNat (k:Int)) (0,0,0,[])).2.2.2).1.1 else(aoV l m k).1)=(aoV l m (k+1)).1/\
  (bif decide (((m.getD (Int.toNat (k:Int)) (0,0,0,[])).2.2.2.length:Int)<=2500) then(lC (aoV l m k).1 (aoV l m k).2 (m.getD (Int.toNat (k:Int)) (0,0,0,[])).1 (m.getD (Int.toNat (k:Int)) (0,0,0,[])).2.1 (m.getD (Int.toNat (k:Int)) (0,0,0,[])).2.2.1 (m.getD (Int.toNat (k:Int)) (0,0,0,[])).2.2.2).1.2 else(aoV l m k).2)=(aoV l m (k+1)).2:=by
 have e:aoV l m (k+1)=if(2500:Int)<(o0 m k).2.2.2.length then aoV l m k else(lC (aoV l m k).1 (aoV l m k).2 (o0 m k).1 (o0 m k).2.1 (o0 m k).2.2.1 (o0 m k).2.2.2).1:=by
  rfl
 rw [e];show(bif decide (((o0 m k).2.2.2.length:Int)<=2500) then _ else _)=_/\(bif decide (((o0 m k).2.2.2.length:Int)<=2500) then _ else _)=_;by_cases h:((o0 m k).2.2.2.length:Int)<=2500
 . rw [P? h,T! (by omega)];exact⟨rfl,rfl⟩
 grind
theorem aP6 {docs:List (List UInt8)} {l:List aT} {q:List gb}(h:cv docs l=true):(iD docs l q).1.length<=140737488355328/\
  ((iD docs l q).2=0->(eJ (iD docs l q).1).2=0/\(eJ (iD docs l q).1).1.1=((len docs:Nat):Int)/\(eJ (iD docs l q).1).1.2.1=root (leaves docs)/\(eJ (iD docs l q).1).1.2.2.1=aZ docs l):=by
 cases hq:de q with
 |false=>simp_all[aNb,J!]
 |true=>
  refine⟨?_,fun he=> ?_⟩
  . rw [af7 h hq];have :=aJ2 (ze docs.length (root (leaves docs)) (aZ docs l) (tI l (b7 q)),false);grind
  . rw [(ac7 h hq he).2.2];exact⟨rfl,rfl,rfl,rfl⟩
theorem aPf {docs:List (List UInt8)} {l:List aT} {i:Int}(h:cv docs l=true):(cF docs l i).1.length<=140737488355328/\
  ((cF docs l i).2=0->(Uh (cF docs l i).1).2=0/\(Uh (cF docs l i).1).1.1=((len docs:Nat):Int)/\(Uh (cF docs l i).1).1.2.1=root (leaves docs)/\(Uh (cF docs l i).1).1.2.2.1=aZ docs l):=by
 by_cases hi:i<0\/(docs.length:Int)<=i
 . simp_all[aAq,J!]
 . have :=af3 h (i:=i) (by omega) (by omega);refine⟨by omega,fun _=> ?_⟩;rw [this.2.1];exact⟨rfl,rfl,rfl,rfl⟩
theorem aJ3 {a:List (List UInt8)} {l:List aT} {b:List (List UInt8)} {m:List aT}(h:cv a l=true)(h':cv b m=true)(hb:aoU a b=true):
  (anR a l b m).1.length<=140737488355328/\(anR a l b m).2=0/\Sk (anR a l b m).1=((((len a:Nat):Int),root (leaves a),aZ a l,((len b:Nat):Int),root (leaves b),aZ b m,ag3 (leaves b) (a.length:Int)),0):=by
 have :=aAR h h' hb;exact⟨by omega,by grind,this.2.1⟩
theorem aN2 {docs:List (List UInt8)} {l:List aT}:small (aZ docs l):=aAv docs l
theorem azf:∀(n:Nat) (l:List Sp),l.length<=n->(uS (tw n l)).2=false
 |0,l,h=>by have :l= []:=M?.1 (by omega);subst this;rfl
 |n+1,l,h=>by
  simp [tw];by_cases hn:(uS l).2=true
  . rw [W! hn];have hb:=afb hn;have :=acP (l:=l) (i:=(uS l).1.toNat) (by omega);exact azf n _ (by omega)
  grind
theorem aBK(l:List Sp):∀k,(CZ l k).2=false->∀j,j<k->afa l (j+1)<afa l j
 |0,_,j,hj=>by omega
 |k+1,h,j,hj=>by
  simp [CZ] at h;split at h
  . cases h
  . by_cases e:j=k
    . grind
    . exact aBK l k h j (by omega)
theorem aAB(l:List Sp) {k:Nat}(h:∀j,j<k->afa l (j+1)<afa l j):∀j,j<=k->afa l j+j<=afa l 0
 |0,_=>by omega
 |j+1,hj=>by
  have ih:=aAB l h j (by omega);grind
theorem aBL {docs:List (List UInt8)}:∀(S:List Sp) (a:Int),eG docs a S=true->∀i,i<S.length->c9 docs (jH S i).1 (jH S i).2=true
 |s::r,a,h,0,_=>by
  simp [eG,B!] at h;exact h.2.1
 |s::r,a,h,i+1,hi=>by
  simp [eG,Bool.and_eq_true] at h;have :=aBL r s.2 h.2.2 i (by grind);grind[jH]
theorem aBM {docs:List (List UInt8)} {S:List Sp}(h:eG docs 0 S=true) {i:Nat}(hi:i<S.length):0<=afa S i/\afa S i<=9:=by
 have hf:=aBL S 0 h i hi;simp [c9,cP,Bool.and_eq_true,decide_eq_true_eq] at hf;unfold afa az8;unfold lg;have h0:((jH S i).2-(jH S i).1).toNat≠0:=by omega
 have :=(Nat.log2_lt (k:=10) h0).2 (by omega);omega
theorem aAS {docs:List (List UInt8)} {S:List Sp}(h:eG docs 0 S=true)(hn:(uS S).2=false):S.length<=10:=by
 by_cases h0:S.length=0
 . omega
 . have hd:=aAB S (aBK S (S.length-1) hn) (S.length-1) (N! _);have h1:=aBM h (i:=0) (by omega);have h2:=aBM h (i:=S.length-1) (by omega);omega
theorem aJ4 {docs:List (List UInt8)} {l:List aT}(h:cv docs l=true):
  (tz docs l).1=docs/\cv (tz docs l).1 (tz docs l).2=true/\(tz docs l).2.length<=l.length/\(tz docs l).2.length<=10:=by
 obtain⟨hr,hd⟩:=jI.1 h;have hk:=keeps hr (a:=3) 0 0 [] (by decide);have e:lC docs l 3 0 0 []=(tz docs l,0):=by rfl
 have hk2:=hk.2.2 (by decide);have hs:=Kn docs l;refine⟨hk.1,jI.2 ⟨hs,?_⟩,hk2.2,?_⟩
 . grind[D4]
 . have R:=(o8 docs l).settle.1;have hn:=azf (eF (aq docs l).2).length (eF (aq docs l).2) (Nat.le_refl _);have :=aAS R.row hn;have hb:=R.bd.2.2.2;have e2:(tz docs l).2=bF (aq docs l).1 (tx (eF (aq docs l).2)):=rfl;grind
theorem aJ5 {l:List (List UInt8)} {m:Int}(h:m=(l.length:Int)):ag3 l m= []:=by
 grind[ag3,aAo]
theorem aP7(l:List nF):(anR (hx l).1 (hx l).2 (tz (hx l).1 (hx l).2).1 (tz (hx l).1 (hx l).2).2).1.length<=140737488355328/\
  (anR (hx l).1 (hx l).2 (tz (hx l).1 (hx l).2).1 (tz (hx l).1 (hx l).2).2).2=0/\
  Sk (anR (hx l).1 (hx l).2 (tz (hx l).1 (hx l).2).1 (tz (hx l).1 (hx l).2).2).1=((((len (hx l).1:Nat):Int),root (leaves (hx l).1),aZ (hx l).1 (hx l).2,((len (hx l).1:Nat):Int),root (leaves (hx l).1),aZ (hx l).1 (tz (hx l).1 (hx l).2).2,[]),0)/\
  (aZ (hx l).1 (tz (hx l).1 (hx l).2).2).length<=(aZ (hx l).1 (hx l).2).length/\(aZ (hx l).1 (tz (hx l).1 (hx l).2).2).length<=11:=by
 have h:=aAt l;obtain⟨s1,s2,s3,s4⟩:=aJ4 h;grind[aoU,hx,tz,aJ3,aJ5,mL,D6]
end Go.S

end
