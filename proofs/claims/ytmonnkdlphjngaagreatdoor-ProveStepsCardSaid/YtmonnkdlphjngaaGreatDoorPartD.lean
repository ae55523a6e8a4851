import Derived.Test.YtmonnkdlphjngaaGreatDoorPartC
set_option linter.unusedVariables false
set_option linter.unusedSimpArgs false
section
namespace Go.S
def kx:IH:=([zV],[(0,1,[(zV,[0])])])
def kP:List (List Pf):=oN kx.2 (aO gk)
theorem azG:(bo (cn (Vg.dw B8) (Vg.dw (Int×Int×List (B8×List Int))) [104,97,121]).1.1 (cn (Vg.dw B8) (Vg.dw (Int×Int×List (B8×List Int))) [104,97,121]).1.2).1=kx:=by
 rfl
theorem Ă:aV kx.1 kx.2=true :=by rfl
theorem k_q:bL gk=true :=by rfl
theorem aIZ:lR gk:=⟨by unfold small;decide,by unfold small;decide⟩
theorem k_g:fq kx.1 kx.2=false :=by rfl
theorem k_1:(cQ kx.1 kx.2 gk).2=0:=ö Ă k_q k_g
theorem k_2:(cQ kx.1 kx.2 gk).1.length<=140737488355328/\(fh (cQ kx.1 kx.2 gk).1).2=0/\(fh (cQ kx.1 kx.2 gk).1).1.2.2.2=kP:=by
 have h:=GF Ă k_q k_1;rw [h.2.2];exact⟨w!,rfl,rfl⟩
theorem aI1:(bO kx.1 kx.2 1).2=5:=by
 rfl
theorem aCd {docs:List B8} {l:List ax} {i:Int}(h:aV docs l=false):bO docs l i=([],7):=by simp_all[bO,R!]
theorem akr {docs:List B8} {l:List ax} {i:Int}(h:aV docs l=true)(hi:i<0\/(docs.length:Int)<=i):bO docs l i=([],5):=by
 simp_all[bO,N!,R!]
theorem arU {docs:List B8} {l:List ax} {i:Int}(h:aV docs l=true)(hi:¬i<0/\¬(docs.length:Int)<=i):E4 ((len docs:Nat):Int) (root (leaves docs)) (aw docs l) i (xF docs i) (path (leaves docs) i):=by
 obtain⟨d1,d2⟩:=qk h;obtain⟨p1,p2⟩:=L4 h (i:=i) w! w!;exact⟨ij h,Da w! w!,by grind[xF],w!,p2⟩
theorem aCe {docs:List B8} {l:List ax} {i:Int}(h:aV docs l=true)(hi:¬i<0/\¬(docs.length:Int)<=i):bO docs l i=(mA ((len docs:Nat):Int) (root (leaves docs)) (aw docs l) i (xF docs i) (path (leaves docs) i),0):=
 (T9 h w! w!).1
theorem aks {docs:List B8} {l:List ax} {q:List fa}(h:aV docs l=false):cQ docs l q=([],7)/\iX docs l=([],7):=by
 grind[cQ,iX]
theorem akt {docs:List B8} {l:List ax} {q:List fa}(h:aV docs l=true)(hq:bL q=false):cQ docs l q=([],1):=by
 simp_all[cQ,N!,R!]
theorem aCf {docs:List B8} {l:List ax}(h:aV docs l=true):iX docs l=(L5 docs l,0):=by unfold iX;rw [if_pos h];rfl
theorem aCg {docs:List B8} {l:List ax} {q:List fa}(h:aV docs l=true)(hq:bL q=true)(hg:fq docs l=false):
 cQ docs l q=(pH ((len docs:Nat):Int) (root (leaves docs)) (aw docs l) (oN l (aO q)),0):=(GF h hq (ö h hq hg)).1
theorem aCh {docs:List B8} {l:List ax} {q:List fa}(h:aV docs l=true)(hq:bL q=true):xE ((len docs:Nat):Int) (root (leaves docs)) (aw docs l) (oN l (aO q)):=by
 refine⟨ij h,by grind[wz,oN],fun x hx=> ?_⟩;have :=E6 h (kN hq) x hx;grind
theorem aCi {a:List B8} {l:List ax} {b:List B8} {m:List ax}(h:aV a l=false\/aV b m=false):b8 a l b m=([],7):=by simp_all[b8,R!]
theorem aCj {a:List B8} {l:List ax} {b:List B8} {m:List ax}(h:aV a l=true/\aV b m=true)(hb:jD a b=false):b8 a l b m=([],1):=by
 simp_all[b8,N!,R!]
theorem aCk {a:List B8} {l:List ax} {b:List B8} {m:List ax}(h:aV a l=true/\aV b m=true)(hb:jD a b=true):
 b8 a l b m=(np ((len a:Nat):Int) (root (leaves a)) (aw a l) ((len b:Nat):Int) (root (leaves b)) (aw b m) (cb (leaves b) ((len a:Nat):Int)),0):=(Ub h.1 h.2 hb).1
theorem aku {a b:List B8} {m:List ax}(h:aV b m=true):jo (cb (leaves b) ((len a:Nat):Int)):=by
 have d1:=(qk h).1;unfold cb;split
 . split
   . exact⟨K! _,rfl⟩
   . have :=qj 10 (leaves b) ((len a:Nat):Int) false (eX b) (by grind[gX]);exact⟨w!,this.1⟩
 . exact⟨K! _,rfl⟩
end Go.S

end
section
namespace Go.S
theorem ă {docs:List B8}:∀(S:List Sp) (a:Int),eB docs a S=true->(S.length:Int)<=eo a S-a
 | [],a,_=>by simp [eo]
 |s::r,a,h=>by
  simp [eB,Bool.and_eq_true,decide_eq_true_eq,dn] at h;have ih:=ă r s.2 h.2.2;grind[List.length_cons,eo]
theorem arV {docs:List B8} {l:List ax}(h:ba docs l=true):l.length<=docs.length:=by
 have R:=RI.of h;have h1:=ă _ 0 R.row;have h2:=R.bd;have h3:=R.QJ;omega
theorem akv {docs:List B8} {l:List ax}(h:ba docs l=true)(a b c:Int)(d:B8):
  (cF docs l a b c d).1.1.length+(cF docs l a b c d).1.2.length<=docs.length+l.length+1/\(cF docs l a b c d).1.1.take docs.length=docs/\docs.length<=(cF docs l a b c d).1.1.length:=by
 have h2:=LC h a b c d;by_cases h0:a=0
 . have h1:=OT h a b c d;rw [N! w!] at h2;have hg:=fY h;refine⟨w!,?_,?_⟩
   . unfold cF;grind[cn]
   . unfold cF;grind[cn]
 grind[keeps]
theorem GG {x:IH}(h:ba x.1 x.2=true)(m:List hZ):∀k,(bG x m k).1.length+(bG x m k).2.length<=x.1.length+x.2.length+k/\(bG x m k).1.take x.1.length=x.1/\x.1.length<=(bG x m k).1.length
 |0=>⟨O! _,List.take_length,O! _⟩
 |k+1=>by
  have ih:=GG h m k;rw [bG];split
  . grind
  . have hr:=uy h m k;have :=akv hr (fm m k).1 (fm m k).2.1 (fm m k).2.2.1 (fm m k).2.2.2;grind
theorem akw(l:List hZ):(hx l).1=(cr l).1:=(pf l).1
theorem E8(l:List hZ):aV (hx l).1 (hx l).2=true :=by rw [akw];exact(pf l).2.2.2.2
theorem Ą(l:List hZ):(hx l).1.length+(hx l).2.length<=41:=by
 have h:=(GG (x:=([],[])) QI l (min l.length 40)).1;grind[List.length_nil,TT,EV,Î,akw,hx,cr]
theorem afM(l m:List hZ)(k:Nat):ba (gd l m k).1 (gd l m k).2=true :=uy (gx.1 (E8 l)).1 m k
theorem so(l m:List hZ) {k:Nat}(hk:k<=40):
  aV (bo (gd l m k).1 (gd l m k).2).1.1 (bo (gd l m k).1 (gd l m k).2).1.2=true/\jD (hx l).1 (bo (gd l m k).1 (gd l m k).2).1.1=true :=by
 have hr:=afM l m k;have hs:=GG (gx.1 (E8 l)).1 m k;have h41:=Ą l;have hle:=arV hr;have e:gd l m k=bG (hx l) m k:=rfl;grind[EV,jD,decide_eq_true]
theorem akx(w:Wp):((pF w).length:Int)<=1048576:=by
 grind[pF]
theorem Uf(l m:List hZ)(k:Nat):
  (bif decide (((m.getD (Int.toNat (k:Int)) (0,0,0,[])).2.2.2.length:Int)<=2500) then(cF (gd l m k).1 (gd l m k).2 (m.getD (Int.toNat (k:Int)) (0,0,0,[])).1 (m.getD (Int.toNat (k:Int)) (0,0,0,[])).2.1 (m.getD (Int.toNat (k:Int)) (0,0,0,[])).2.2.1 (m.getD (Int.toNat (k:Int)) (0,0,0,[])).2.2.2).1.1 else(gd l m k).1)=(gd l m (k+1)).1/\
  (bif decide (((m.getD (Int.toNat (k:Int)) (0,0,0,[])).2.2.2.length:Int)<=2500) then(cF (gd l m k).1 (gd l m k).2 (m.getD (Int.toNat (k:Int)) (0,0,0,[])).1 (m.getD (Int.toNat (k:Int)) (0,0,0,[])).2.1 (m.getD (Int.toNat (k:Int)) (0,0,0,[])).2.2.1 (m.getD (Int.toNat (k:Int)) (0,0,0,[])).2.2.2).1.2 else(gd l m k).2)=(gd l m (k+1)).2:=by
 have e:gd l m (k+1)=if(2500:Int)<(fm m k).2.2.2.length then gd l m k else(cF (gd l m k).1 (gd l m k).2 (fm m k).1 (fm m k).2.1 (fm m k).2.2.1 (fm m k).2.2.2).1:=by
  rfl
 rw [e];show(bif decide (((fm m k).2.2.2.length:Int)<=2500) then _ else _)=_/\(bif decide (((fm m k).2.2.2.length:Int)<=2500) then _ else _)=_;by_cases h:((fm m k).2.2.2.length:Int)<=2500
 . rw [S? h,N! w!];exact⟨rfl,rfl⟩
 grind
theorem Rc {docs:List B8} {l:List ax} {q:List fa}(h:aV docs l=true):(cQ docs l q).1.length<=140737488355328/\
  ((cQ docs l q).2=0->(fh (cQ docs l q).1).2=0/\(fh (cQ docs l q).1).1.1=((len docs:Nat):Int)/\(fh (cQ docs l q).1).1.2.1=root (leaves docs)/\(fh (cQ docs l q).1).1.2.2.1=aw docs l):=by
 cases hq:bL q with
 |false=>simp_all[akt,K!]
 |true=>
  refine⟨?_,fun he=> ?_⟩
  . rw [W4 h hq];have :=akx (pH docs.length (root (leaves docs)) (aw docs l) (oN l (aO q)),false);grind
  . rw [(GF h hq he).2.2];exact⟨rfl,rfl,rfl,rfl⟩
theorem L6 {docs:List B8} {l:List ax} {i:Int}(h:aV docs l=true):(bO docs l i).1.length<=140737488355328/\
  ((bO docs l i).2=0->(di (bO docs l i).1).2=0/\(di (bO docs l i).1).1.1=((len docs:Nat):Int)/\(di (bO docs l i).1).1.2.1=root (leaves docs)/\(di (bO docs l i).1).1.2.2.1=aw docs l):=by
 by_cases hi:i<0\/(docs.length:Int)<=i
 . simp_all[akr,K!]
 . have :=T9 h (i:=i) w! w!;refine⟨w!,fun _=> ?_⟩;rw [this.2.1];exact⟨rfl,rfl,rfl,rfl⟩
theorem zZ {a:List B8} {l:List ax} {b:List B8} {m:List ax}(h:aV a l=true)(h':aV b m=true)(hb:jD a b=true):
  (b8 a l b m).1.length<=140737488355328/\(b8 a l b m).2=0/\cR (b8 a l b m).1=((((len a:Nat):Int),root (leaves a),aw a l,((len b:Nat):Int),root (leaves b),aw b m,cb (leaves b) (a.length:Int)),0):=by
 have :=Ub h h' hb;exact⟨w!,x!,this.2.1⟩
theorem Bi {docs:List B8} {l:List ax}:small (aw docs l):=NG docs l
theorem HY:∀(n:Nat) (l:List Sp),l.length<=n->(eC (nJ n l)).2=false
 |0,l,h=>by have :l= []:=R?.1 w!;subst this;rfl
 |n+1,l,h=>by
  simp [nJ];by_cases hn:(eC l).2=true
  . rw [R! hn];have hb:=EH hn;have :=A5 (l:=l) (i:=(eC l).1.toNat) w!;exact HY n _ w!
  grind
theorem ą(l:List Sp):∀k,(tx l k).2=false->∀j,j<k->oi l (j+1)<oi l j
 |0,_,j,hj=>by omega
 |k+1,h,j,hj=>by
  simp [tx] at h;split at h
  . cases h
  . by_cases e:j=k
    . grind
    . exact ą l k h j w!
theorem O0(l:List Sp) {k:Nat}(h:∀j,j<k->oi l (j+1)<oi l j):∀j,j<=k->oi l j+j<=oi l 0
 |0,_=>by omega
 |j+1,hj=>by
  have ih:=O0 l h j w!;grind
theorem Ć {docs:List B8}:∀(S:List Sp) (a:Int),eB docs a S=true->∀i,i<S.length->dn docs (gF S i).1 (gF S i).2=true
 |s::r,a,h,0,_=>by
  simp [eB,B!] at h;exact h.2.1
 |s::r,a,h,i+1,hi=>by
  simp [eB,Bool.and_eq_true] at h;have :=Ć r s.2 h.2.2 i x!;grind[gF]
theorem ć {docs:List B8} {S:List Sp}(h:eB docs 0 S=true) {i:Nat}(hi:i<S.length):0<=oi S i/\oi S i<=9:=by
 have hf:=Ć S 0 h i hi;simp [dn,c8,Bool.and_eq_true,decide_eq_true_eq] at hf;unfold oi mv;unfold lg;have h0:((gF S i).2-(gF S i).1).toNat≠0:=by omega
 have :=(Nat.log2_lt (k:=10) h0).2 w!;omega
theorem Ug {docs:List B8} {S:List Sp}(h:eB docs 0 S=true)(hn:(eC S).2=false):S.length<=10:=by
 by_cases h0:S.length=0
 . omega
 . have hd:=O0 S (ą S (S.length-1) hn) (S.length-1) (O! _);have h1:=ć h (i:=0) w!;have h2:=ć h (i:=S.length-1) w!;omega
theorem aky {docs:List B8} {l:List ax}(h:aV docs l=true):
  (cq docs l).1=docs/\aV (cq docs l).1 (cq docs l).2=true/\(cq docs l).2.length<=l.length/\(cq docs l).2.length<=10:=by
 obtain⟨hr,hd⟩:=gx.1 h;have hk:=keeps hr (a:=3) 0 0 [] (by decide);have e:cF docs l 3 0 0 []=(cq docs l,0):=by rfl
 have hk2:=hk.2.2 (by decide);have hs:=B6 docs l;refine⟨hk.1,gx.2 ⟨hs,?_⟩,hk2.2,?_⟩
 . grind[zP]
 . have R:=(lv docs l).settle.1;have hn:=HY (bW (al docs l).2).length (bW (al docs l).2) (Nat.le_refl _);have :=Ug R.row hn;have hb:=R.bd.2.2.2;have e2:(cq docs l).2=aG (al docs l).1 (jB (bW (al docs l).2)):=rfl;grind
theorem akz {l:List B8} {m:Int}(h:m=(l.length:Int)):cb l m= []:=by
 grind[cb,qi]
theorem arW(l:List hZ):(b8 (hx l).1 (hx l).2 (cq (hx l).1 (hx l).2).1 (cq (hx l).1 (hx l).2).2).1.length<=140737488355328/\
  (b8 (hx l).1 (hx l).2 (cq (hx l).1 (hx l).2).1 (cq (hx l).1 (hx l).2).2).2=0/\
  cR (b8 (hx l).1 (hx l).2 (cq (hx l).1 (hx l).2).1 (cq (hx l).1 (hx l).2).2).1=((((len (hx l).1:Nat):Int),root (leaves (hx l).1),aw (hx l).1 (hx l).2,((len (hx l).1:Nat):Int),root (leaves (hx l).1),aw (hx l).1 (cq (hx l).1 (hx l).2).2,[]),0)/\
  (aw (hx l).1 (cq (hx l).1 (hx l).2).2).length<=(aw (hx l).1 (hx l).2).length/\(aw (hx l).1 (cq (hx l).1 (hx l).2).2).length<=11:=by
 have h:=E8 l;obtain⟨s1,s2,s3,s4⟩:=aky h;grind[jD,hx,cq,zZ,akz,gX,zX]
end Go.S

end
