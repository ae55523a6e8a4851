import Derived.Test.YtimebdkngdbpkaaGreatDoorPartC
import Derived.Lib.LaidTab
import Derived.Test.YtimebdkngdbpkaaGreatDoorProg
import Derived.WalkKit
set_option linter.unusedVariables false
set_option linter.unusedSimpArgs false
set_option linter.unusedSectionVars false
section
namespace Go.S
def Ac(n:Int)(g:B8)(l:List Sg)(k:Nat):B8:=num n++g++num l.length++ig (l.take k)
def PT(n:Int)(g:B8)(l:List Sg)(k:Nat):Prop :=dO n g l=true/\k<=l.length
def rV(b:B8)(a e f:Int):(Int×Int)×Sg:=
 (((an b (af b (af b a e).1.2.1 (af b a e).1.2.2).1.2.1 (af b (af b a e).1.2.1 (af b a e).1.2.2).1.2.2).1.2.1,
   (an b (af b (af b a e).1.2.1 (af b a e).1.2.2).1.2.1 (af b (af b a e).1.2.1 (af b a e).1.2.2).1.2.2).1.2.2),
  f,(af b a e).2,(af b (af b a e).1.2.1 (af b a e).1.2.2).2,
  (an b (af b (af b a e).1.2.1 (af b a e).1.2.2).1.2.1 (af b (af b a e).1.2.1 (af b a e).1.2.2).1.2.2).2)
abbrev Ps:=(Int×Int)×Int×List Sg
def pd(b:B8)(a e:Int):Nat->Ps
 |0=>((a,e),0,[])
 |k+1=>((rV b (pd b a e k).1.1 (pd b a e k).1.2 (pd b a e k).2.1).1,(rV b (pd b a e k).1.1 (pd b a e k).1.2 (pd b a e k).2.1).2.2.1,
   (pd b a e k).2.2++ [(rV b (pd b a e k).1.1 (pd b a e k).1.2 (pd b a e k).2.1).2])
def gn(b:B8):(Int×B8×Int)×Int×Int:=
 (((af b 0 0).2,(an b (af b 0 0).1.2.1 (af b 0 0).1.2.2).2,
   (af b (an b (af b 0 0).1.2.1 (af b 0 0).1.2.2).1.2.1 (an b (af b 0 0).1.2.1 (af b 0 0).1.2.2).1.2.2).2),
  (af b (an b (af b 0 0).1.2.1 (af b 0 0).1.2.2).1.2.1 (an b (af b 0 0).1.2.1 (af b 0 0).1.2.2).1.2.2).1.2.1,
  (af b (an b (af b 0 0).1.2.1 (af b 0 0).1.2.2).1.2.1 (an b (af b 0 0).1.2.1 (af b 0 0).1.2.2).1.2.2).1.2.2)
def iL(b:B8)(k:Nat):Ps:=pd b (gn b).2.1 (gn b).2.2 k
def pN(b:B8):Nat:=(gn b).1.2.2.toNat
theorem JB(b:B8)(a e:Int):(af b a e).1.1=b/\(an b a e).1.1=b:=by
 grind[af,an]
theorem Vs {b:B8} {a e:Int}(h:e≠0):bU b a e=e:=by simp_all[bU,Q!]
theorem Fl {b:B8} {a:Int}(h:0<=a)(h1:a<=b.length):bU b a 0=0:=by
 simp_all[bU,Q!,inside,Bool.and_eq_false_iff,j?]
theorem ÿ {b:B8} {a e:Int}(h:e≠0):af b a e=((b,a,e),0):=by
 simp_all[af,Vs,R!]
theorem Ā {b:B8} {a e:Int}(h:e≠0):an b a e=((b,a,e),[]):=by
 simp_all[an,Vs,R!]
theorem GQ {b:B8} {a:Int}(h:0<=a)(h1:a<=b.length)(h2:(first (b.drop a.toNat)).2.2=0):af b a 0=((b,a+(first (b.drop a.toNat)).2.1,0),(first (b.drop a.toNat)).1):=by
 have e:(aD b a).2.2=0:=h2;unfold af;rw [Fl h h1,if_neg (fun q=>q rfl),if_neg (fun q=>q e)];simp_all[aD,Pc,if_true]
theorem Sb {b:B8} {a:Int}(h:0<=a)(h1:a<=b.length)(h2:(first (b.drop a.toNat)).2.2≠0):af b a 0=((b,a,(first (b.drop a.toNat)).2.2),0):=by
 have e:(aD b a).2.2≠0:=h2;unfold af;rw [Fl h h1,if_neg (fun q=>q rfl),if_pos e];rfl
theorem ag4 {b:B8} {a:Int}(h:0<=a)(h1:a+32<=b.length):an b a 0=((b,a+32,0),(b.drop a.toNat).take 32):=by
 unfold an;rw [Fl h w!,if_neg (fun q=>q rfl),if_neg w!]
theorem ag5 {b:B8} {a:Int}(h:0<=a)(h1:a<=b.length)(h2:(b.length:Int)<a+32):an b a 0=((b,a,4),[]):=by
 unfold an;rw [Fl h h1,if_neg (fun q=>q rfl),if_pos w!]
theorem ag6 {b:B8} {a e f:Int}(h:e≠0):(rV b a e f).1=(a,e):=by
 grind[rV,ÿ,Ā]
theorem amk {b:B8} {a f:Int}(h:0<=a)(h1:a<=b.length)(h2:(rh (b.drop a.toNat) f).2.2=0):
  rV b a 0 f=((a+(rh (b.drop a.toNat) f).2.1,0),(rh (b.drop a.toNat) f).1)/\a+(rh (b.drop a.toNat) f).2.1<=b.length:=by
 unfold rh at h2 |-;split at h2
 . grind
 . rename_i q1;split at h2
   . grind
   . rename_i q2;split at h2
     . grind
     . rename_i q3;rw [Q! q1,Q! q2,Q! q3];have q1':=Q? q1;have q2':=Q? q2;have b0:=mM (b.drop a.toNat);have b1:=mM ((b.drop a.toNat).drop (first (b.drop a.toNat)).2.1.toNat);have r1:=GQ h h1 q1';rw [D?] at q3;generalize hn:(first (b.drop a.toNat)).2.1=n at *;have ed:(b.drop a.toNat).drop n.toNat=b.drop (a+n).toNat:=by rw [Y?];congr 1;omega
       rw [ed] at q2' b1 q3 |-;have r2:=GQ (b:=b) (a:=a+n) w! w! q2';generalize hm:(first (b.drop (a+n).toNat)).2.1=m at *;have ed2:(b.drop a.toNat).drop (n+m).toNat=b.drop (a+n+m).toNat:=by rw [Y?];congr 1;omega
       have r3:=ag4 (b:=b) (a:=a+n+m) w! w!;unfold rV;simp only [r1,r2,r3,ed2];refine⟨?_,w!⟩;congr 2
       omega
theorem aml {b:B8} {a f:Int}(h:0<=a)(h1:a<=b.length)(h2:(rh (b.drop a.toNat) f).2.2≠0):(rV b a 0 f).1.2=(rh (b.drop a.toNat) f).2.2:=by
 unfold rh at h2 |-;by_cases q1:(first (b.drop a.toNat)).2.2=0
 . have b0:=mM (b.drop a.toNat);have r1:=GQ h h1 q1;generalize hn:(first (b.drop a.toNat)).2.1=n at *;have ed:(b.drop a.toNat).drop n.toNat=b.drop (a+n).toNat:=by grind[List.drop_drop]
   rw [ed] at h2 |-;have hb:a+n<=b.length:=by grind
   by_cases q2:(first (b.drop (a+n).toNat)).2.2=0
   . have b1:=mM (b.drop (a+n).toNat);have r2:=GQ (b:=b) (a:=a+n) w! hb q2;generalize hm:(first (b.drop (a+n).toNat)).2.1=m at *;by_cases q3:((b.drop a.toNat).length:Int)<n+m+32
     . grind[List.length_drop,ag5,rV]
     grind
   . grind[Sb,Ā,rV]
 simp_all[R!,Sb,ÿ,Ā,rV]
theorem GR {b:B8} {p:Int}(hp:0<=p)(Q5:p<=b.length):∀k,((jG b p k).2.2.2=0->pd b p 0 k=(((jG b p k).2.2.1,0),(jG b p k).2.1,(jG b p k).1)/\0<=(jG b p k).2.2.1/\(jG b p k).2.2.1<=b.length)/\((jG b p k).2.2.2≠0->(pd b p 0 k).1.2=(jG b p k).2.2.2)
 |0=>⟨fun _=>⟨rfl,hp,Q5⟩,fun h=>absurd rfl h⟩
 |k+1=>by
  obtain⟨i1,i2⟩:=GR (b:=b) hp Q5 k;rw [jG,pd];generalize jG b p k=s at *;generalize pd b p 0 k=t at *;by_cases h1:s.2.2.2=0
  . obtain⟨rfl,j1,j2⟩:=i1 h1;by_cases h2:(rh (b.drop s.2.2.1.toNat) s.2.1).2.2=0
    . obtain⟨g1,g2⟩:=amk j1 j2 h2;have g3:=(PR h2).2.1;grind
    simp_all[R!,absurd,aml]
  simp_all[R!,ag6]
theorem Vt(b:B8)(a e:Int):∀k,(pd b a e k).2.2.length=k
 |0=>rfl
 |k+1=>by simp [pd,K!,W!,Vt b a e k]
theorem L1 {b:B8} {a e:Int}(h:e≠0):∀k,(pd b a e k).1=(a,e)
 |0=>rfl
 |k+1=>by simp only [pd,L1 h k];exact ag6 h
theorem Da(b:B8):
  ((gn b).2.2≠0/\(gn b).1.2.2=0/\hR b=((0,[],[]),(gn b).2.2))\/
  ((gn b).2.2=0/\0<=(gn b).2.1/\(gn b).2.1<=b.length/\0<=(gn b).1.2.2/\hR b=if 64<(gn b).1.2.2 then((0,[],[]),2) else C9 b (gn b).1.1 (gn b).1.2.1 (jG b (gn b).2.1 (gn b).1.2.2.toNat)):=by
 have b0:=mM b;unfold hR;by_cases q1:(first b).2.2=0
 . have r1:=GQ (b:=b) (a:=0) (P? _) (Int.natCast_nonneg _) q1;generalize hn:(first b).2.1=n at *;by_cases q2:(b.length:Int)<n+32
   . simp_all[R!,ag5,ÿ,gn,trivial]
   . rw [Q! q2];have r2:=ag4 (b:=b) (a:=n) w! w!;have b1:=mM (b.drop (n+32).toNat);by_cases q3:(first (b.drop (n+32).toNat)).2.2=0
     . grind[GQ,gn]
     . have r3:=Sb (b:=b) (a:=n+32) w! w! q3;simp_all[gn,trivial]
 . simp_all[Sb,P?,Int.natCast_nonneg,Ā,ÿ,gn,trivial]
theorem Vu {b:B8}(h:64<(gn b).1.2.2):hR b=((0,[],[]),2):=by
 grind[Da]
theorem ag7 {b:B8}(h:¬64<(gn b).1.2.2)(h0:done b (iL b (pN b)).1.1 (iL b (pN b)).1.2≠0):hR b=((0,[],[]),done b (iL b (pN b)).1.1 (iL b (pN b)).1.2):=by
 unfold iL pN at *;rcases Da b with⟨h1,h2,h3⟩|⟨h1,h2,h3,h4,h5⟩
 . simp_all[L1,done,R!]
 . rw [h5,if_neg h];obtain⟨l1,l2⟩:=GR h2 h3 (gn b).1.2.2.toNat;generalize jG b (gn b).2.1 (gn b).1.2.2.toNat=s at *;unfold C9;by_cases h6:s.2.2.2=0
   . simp_all[Q!,inside,B!,J!,done]
   simp_all[R!,done]
theorem ā {b:B8}(h:¬64<(gn b).1.2.2)(h0:done b (iL b (pN b)).1.1 (iL b (pN b)).1.2=0):
  hR b=if dO (gn b).1.1 (gn b).1.2.1 (iL b (pN b)).2.2 then(((gn b).1.1,(gn b).1.2.1,(iL b (pN b)).2.2),0) else((0,[],[]),2):=by
 unfold iL pN at *;rcases Da b with⟨h1,h2,h3⟩|⟨h1,h2,h3,h4,h5⟩
 . simp_all[L1,done,R!,absurd]
 . rw [h5,if_neg h];obtain⟨l1,l2⟩:=GR h2 h3 (gn b).1.2.2.toNat;generalize jG b (gn b).2.1 (gn b).1.2.2.toNat=s at *;unfold C9;by_cases h6:s.2.2.2=0
   . grind[done]
   simp_all[done,R!,absurd]
end Go.S

end
section
namespace Go.S
end Go.S

end
section
namespace Go.S
theorem amm(n:Int)(g:B8)(l:List Sg):(bif decide (0<=n) then bif decide (n<=1000) then bif decide ((g.length:Int)=32) then pK l n else false else false else false)=dO n g l:=by
 grind[dO,decide]
theorem amn {docs:List B8} {l:List aT}(h:bD docs l=false\/¬kW docs l=(docs.length:Int)):iK docs l=((0,[],[]),7):=by
 grind[gC,iK]
theorem Vv {docs:List B8} {l:List aT}(h:bD docs l=true/\kW docs l=(docs.length:Int)):iK docs l=(((docs.length:Int),root (leaves docs),cL docs l),0):=by
 simp_all[gC,H?,iK,R!]
theorem L2 {docs:List B8} {l:List aT}(h:bD docs l=true):kQ docs/\small (leaves docs):=by
 have R:=RI.of h;have hb:=R.bd;refine⟨⟨w!,fun b hb=> ?_⟩,?_⟩
 . have :=R.fair;simp [eb,Bool.and_eq_true,List.all_eq_true,decide_eq_true_eq] at this;grind
 grind[small,leaves,List.length_map]
theorem Vw(docs:List B8):ae2 (leaves docs)=0/\sU (leaves docs)=root (leaves docs):=by
 grind[ae2,sU,rU]
theorem asW {v:Int}(h:fD v=false)(l:B8):v7 v=0/\lh l v=l++num v:=by grind[v7,lh]
theorem L3 {v:Int}(h:0<=v)(h1:v<=1099511627776):fD v=false :=by
 grind[fD,Bool.or_eq_false_iff,decide_eq_false_iff_not]
theorem X7 {n:Int} {g:B8} {l:List Sg}(h:dO n g l=false):hW n g l=([],1):=by grind[hW]
theorem JC {n:Int} {g:B8} {l:List Sg}(h:dO n g l=true):hW n g l=(hB n g l,0):=by grind[hW]
theorem X8 {n:Int} {g:B8} {l:List Sg} {k:Nat}(h:PT n g l k)(hk:(k:Int)<l.length):fD (sg l k).2.1=false/\fD (sg l k).2.2.1=false/\(sg l k).2.2.2.length=32:=by
 have hg:=GP ((qg (ij.1 h.1).2.2.2).2.1 k w!);grind[L3]
theorem JD {n:Int} {g:B8} {l:List Sg} {k:Nat}(h:PT n g l k):(Ac n g l k).length<=100000:=by
 have hr:=ij.1 h.1;have h1:=eN n;have h2:=eN (l.length:Int);have h3:=(qg hr.2.2.2).1
 have h4:∀j,j<=l.length->(ig (l.take j)).length<=50*j:=by
  intro j;induction j with
  |zero=>grind[ig]
  |succ j ih=>
   intro hj;have hg:=GP ((qg hr.2.2.2).2.1 j w!);have :=ih w!;rw [ax l j (0,0,0,[]) w!];simp [ig,List.flatMap_append,List.flatMap_cons,List.flatMap_nil,List.append_nil,List.length_append] at this |-;grind[eN,sg,C8,List.length_append]
 have h6:=h.2;grind[Ac,List.length_append]
theorem aBk(n:Int)(g:B8)(l:List Sg):num n++g++num (l.length:Int)=Ac n g l 0:=by simp [Ac,ig]
theorem ag8 {n:Int} {g:B8} {l:List Sg} {k:Nat}(hk:(k:Int)<l.length):Ac n g l k++num (sg l k).2.1++num (sg l k).2.2.1++(sg l k).2.2.2=Ac n g l (k+1):=by
 simp [Ac];rw [ax l k (0,0,0,[]) w!];simp [ig,List.flatMap_append,List.flatMap_cons,List.flatMap_nil,F?,C8,sg,Y!]
theorem Ă {n:Int} {g:B8} {l:List Sg} {k:Nat}(hk:¬(k:Int)<l.length):Ac n g l k=hB n g l:=by
 grind[Ac,hB,List.take_of_length_le]
theorem ag9 {b:B8} {k:Nat}(h:(k:Int)<(gn b).1.2.2):k+1<=pN b:=by grind[pN]
theorem X9 {b:B8} {k:Nat}(h:k<=pN b)(h1:¬(k:Int)<(gn b).1.2.2):k=pN b:=by grind[pN]
theorem avq(b:B8)(k:Nat):(iL b k).2.2.length=k:=Vt b _ _ k
theorem asX {b:B8} {k:Nat}(h:¬64<(gn b).1.2.2)(hk:k<=pN b)(h1:¬(k:Int)<(gn b).1.2.2)(h0:¬done b (iL b k).1.1 (iL b k).1.2=0):hR b=((0,[],[]),done b (iL b k).1.1 (iL b k).1.2):=by
 grind[X9,ag7]
theorem asY {b:B8} {k:Nat}(h:¬64<(gn b).1.2.2)(hk:k<=pN b)(h1:¬(k:Int)<(gn b).1.2.2)(h0:done b (iL b k).1.1 (iL b k).1.2=0)(h2:dO (gn b).1.1 (gn b).1.2.1 (iL b k).2.2=false):hR b=((0,[],[]),2):=by
 rw [X9 hk h1] at h0 h2;simp_all[ā,Q!]
theorem asZ {b:B8} {k:Nat}(h:¬64<(gn b).1.2.2)(hk:k<=pN b)(h1:¬(k:Int)<(gn b).1.2.2)(h0:done b (iL b k).1.1 (iL b k).1.2=0)(h2:dO (gn b).1.1 (gn b).1.2.1 (iL b k).2.2=true):hR b=(((gn b).1.1,(gn b).1.2.1,(iL b k).2.2),0):=by
 rw [X9 hk h1] at h0 h2 |-;simp_all[ā,R!]
end Go.S

end
section
namespace Go.S
theorem tg {docs:List B8} {l:List aT}:gC docs l=true↔bD docs l=true/\kW docs l=(docs.length:Int):=by
 simp_all[gC,B!,J!]
theorem aha {docs:List B8} {l:List aT}(h:gC docs l=false):iK docs l=((0,[],[]),7):=by grind[iK]
theorem Bg {docs:List B8} {l:List aT}(h:gC docs l=true):iK docs l=(((docs.length:Int),root (leaves docs),cL docs l),0):=Vv (tg.1 h)
theorem Ya {docs:List B8} {l:List aT}(h:gC docs l=true):dO (docs.length:Int) (root (leaves docs)) (cL docs l)=true :=by
 obtain⟨h1,h2⟩:=tg.1 h;have hb:=(RI.of h1).bd;grind[ij,Int.natCast_nonneg,Jw,rU,X2]
theorem ahb {n:Int} {g:B8} {l:List Sg}(h:(hW n g l).2=0):dO n g l=true/\hW n g l=(hB n g l,0):=by
 grind[JC,X7]
theorem ă {n:Int} {g:B8} {l:List Sg}(h:dO n g l=true):(hB n g l).length<=100000:=by
 have :=JD (k:=l.length) ⟨h,Nat.le_refl _⟩;grind[Ă]
theorem apart {a b:Hd}(ha:(hW a.1 a.2.1 a.2.2).2=0)(hb:(hW b.1 b.2.1 b.2.2).2=0):(bif decide ((hW a.1 a.2.1 a.2.2).1=(hW b.1 b.2.1 b.2.2).1)==X3 a.1 a.2.1 a.2.2 b.1 b.2.1 b.2.2 then true else false)=true :=by
 grind[ahb,X6,Vr,decide_eq_true,decide_eq_false]
theorem ahc(l:List rA):(eG l).2.length<=40:=by
 grind[PM,min,LZ,eG]
theorem adh {docs:List B8} {l:List aT}(h:bD docs l=true)(a b c:Int)(d:B8):(oa docs l a b c d).1.1.length<=docs.length+1:=by
 by_cases h0:a=0
 . have hg:=kY h;unfold oa;grind[cA]
 grind[keeps]
theorem L4(l:List rA):∀k,(mU ([],[]) l k).1.length<=k
 |0=>S! _
 |k+1=>by
  have ih:=L4 l k;rw [mU];split
  . omega
  . have :=adh (R9 l k) (tf l k).1 (tf l k).2.1 (tf l k).2.2.1 (tf l k).2.2.2;omega
theorem ahd(l:List rA):(eG l).1.length<=40:=by grind[L4,min,eG]
theorem Yb(docs:List B8)(l:List aT):bV docs l=oa docs l 1 0 0 []:=by rfl
theorem Vx {docs:List B8} {l:List aT}(h:bD docs l=true)(hl:l.length<64):
  (bV docs l).1.1=docs/\bD docs (bV docs l).1.2=true/\cz (bV docs l).1.2=docs.length/\(bV docs l).1.2.length<=l.length+1/\gC docs (bV docs l).1.2=true :=by
 grind[keeps,Fj,Vl,Yb,tg,IA]
theorem pf(l:List rA):(bV (eG l).1 (eG l).2).1.1=(eG l).1/\bD (eG l).1 (bV (eG l).1 (eG l).2).1.2=true/\cz (bV (eG l).1 (eG l).2).1.2=(eG l).1.length/\(bV (eG l).1 (eG l).2).1.2.length<=41/\gC (eG l).1 (bV (eG l).1 (eG l).2).1.2=true :=by
 grind[ahc,Vx,amg]
theorem avr {docs:List B8} {l:List aT} {d:B8}(h:bD docs l=true)(h1:¬(2000:Int)<d.length)(h2:docs.length<1000):cA docs l d=((docs++ [d],l),0):=by
 grind[kY,asU]
theorem grow(l:List rA) {d:B8}(hd:¬(2000:Int)<d.length) {x:List aT}(hx:(bV (eG l).1 (eG l).2).1.2=x):
  iK (eG l).1 x=((((eG l).1.length:Int),root (leaves (eG l).1),cL (eG l).1 x),0)/\cA (eG l).1 x d=(((eG l).1++ [d],x),0)/\
  ∃s r,bV ((eG l).1++ [d]) x=(((eG l).1++ [d],x++ [s]),0)/\iK ((eG l).1++ [d]) (x++ [s])=((((eG l).1.length:Int)+1,r,cL (eG l).1 x++ [Fe s]),0):=by
 have h40:=ahd l;obtain⟨p1,p2,p3,p4,p5⟩:=pf l;rw [hx] at p2 p3 p4 p5;have ha:=avr p2 hd w!;have hr:=append_right (eG l).1 x d;rw [ha] at hr;have hg:=kY hr
 have hf:bV ((eG l).1++ [d]) x=(((eG l).1++ [d],x++ [(cz x,(((eG l).1++ [d]).length:Int),make ((eG l).1++ [d]) (cz x) ((eG l).1++ [d]).length)]),0):=by
  grind[bV,kW]
 refine⟨Bg p5,ha,_,root (leaves ((eG l).1++ [d])),hf,?_⟩;have hfl:=Vx (docs:=(eG l).1++ [d]) (l:=x) hr w!;grind[Bg,cL,eG,cz,make,Fe,kY]
end Go.S

end
section
namespace Go.S
def bl(i n:Int):List Bool:=if h:n<2 then [] else if i<((sp n.toNat:Nat):Int) then false ::bl i ((sp n.toNat:Nat):Int) else true ::bl (i-((sp n.toNat:Nat):Int)) (n-((sp n.toNat:Nat):Int))
termination_by n.toNat
decreasing_by
 . have :=ka (n:=n.toNat) w!;omega
 . have :=ka (n:=n.toNat) w!;omega
def Ri(d:B8)(x:Bool×B8):B8:=if x.1 then bc x.2 d else bc d x.2
def Ą(d:B8)(s:List Bool)(p:List B8):B8:=(List.zip s.reverse p).foldl Ri d
def ahe(d:B8)(i n:Int)(p:List B8):B8:=Ą d (bl i n) p
def amo(i n:Int):Int:=((bl i n).length:Int)
def path(l:List B8)(i:Int):List B8:=if h:l.length<2 then [] else if i<((sp l.length:Nat):Int) then path (l.take (sp l.length)) i++ [root (l.drop (sp l.length))] else path (l.drop (sp l.length)) (i-((sp l.length:Nat):Int))++ [root (l.take (sp l.length))]
termination_by l.length
decreasing_by
 . have :=ka (n:=l.length) w!;rw [T?];omega
 . have :=ka (n:=l.length) w!;rw [D?];omega
theorem kl {i n:Int}(h:n<2):bl i n= []:=by rw [bl,dif_pos h]
theorem nF {i n:Int}(h:2<=n)(hi:i<((sp n.toNat:Nat):Int)):bl i n=false ::bl i ((sp n.toNat:Nat):Int):=by rw [bl,dif_neg w!,R! hi]
theorem pe {i n:Int}(h:2<=n)(hi:¬i<((sp n.toNat:Nat):Int)):bl i n=true ::bl (i-((sp n.toNat:Nat):Int)) (n-((sp n.toNat:Nat):Int)):=by rw [bl,dif_neg w!,Q! hi]
theorem Sc {l:List B8} {i:Int}(h:l.length<2):path l i= []:=by rw [path,dif_pos h]
theorem Sd {l:List B8} {i:Int}(h:2<=l.length)(hi:i<((sp l.length:Nat):Int)):path l i=path (l.take (sp l.length)) i++ [root (l.drop (sp l.length))]:=by rw [path,dif_neg w!,R! hi]
theorem Se {l:List B8} {i:Int}(h:2<=l.length)(hi:¬i<((sp l.length:Nat):Int)):path l i=path (l.drop (sp l.length)) (i-((sp l.length:Nat):Int))++ [root (l.take (sp l.length))]:=by rw [path,dif_neg w!,Q! hi]
theorem Db {C:Nat->Prop}(h0:∀n,n<2->C n)(h1:∀n,2<=n->C (sp n)->C (n-sp n)->C n)(n:Nat):C n:=by
 induction n using Nat.strongRecOn with
 |_ n ih=>
  by_cases h:n<2
  . exact h0 n h
  . have hb:=ka (n:=n) w!;exact h1 n w! (ih _ w!) (ih _ w!)
theorem adi(n:Nat):∀(l:List B8) (i:Int),l.length=n->(path l i).length=(bl i l.length).length:=by
 refine Db (C:=fun n=>∀(l:List B8) (i:Int),l.length=n->(path l i).length=(bl i l.length).length) (fun n h l i e=> ?_) (fun n h i1 i2 l i e=> ?_) n
 . grind[Sc,kl]
 . have hb:=ka (n:=l.length) w!;by_cases hi:i<((sp l.length:Nat):Int)
   . rw [Sd w! hi,nF w! x!,List.length_append];grind
   . rw [Se w! hi,pe w! x!,List.length_append];grind
def qh(l:List B8)(i:Int):List B8:=if cY l=true/\0<=i/\i<l.length then path l i else []
def Ad(l:List B8)(i:Int):Int:=if cY l=true/\0<=i/\i<l.length then 0 else 1
def dz(l:List B8):Prop :=l.length<=1099511627776
def fp(l:List B8)(i:Int)(k:List B8×Int×List B8):Prop :=
 cY k.1=true/\k.1.length<=l.length/\0<=k.2.1/\k.2.1<k.1.length/\path l i=path k.1 k.2.1++k.2.2.reverse/\k.2.2.length+k.1.length<=l.length
def fc(d:B8)(i n:Int)(p:List B8):Int:=
 if(d.length:Int)=32/\1<=n/\n<=1099511627776/\0<=i/\i<n then(if(p.length:Int)=amo i n/\cY p=true then 0 else 6) else 1
def mV(d:B8)(i n:Int)(p:List B8):B8:=if fc d i n p=0 then ahe d i n p else []
def gQ(d:B8)(i n:Int)(p:List B8)(k:Nat):B8:=((List.zip (bl i n).reverse p).take k).foldl Ri d
def mW(i n:Int):Prop :=0<=i/\i<n/\n<=1099511627776
def jf(i n:Int)(k:Int×Int×List Bool):Prop :=0<=k.1/\k.1<k.2.1/\k.2.1<=n/\bl i n=k.2.2++bl k.1 k.2.1/\(k.2.2.length:Int)+k.2.1<=n
end Go.S

end
section
namespace Go.S
def lQ(m n:Int):List Bool:=if h:n<=m\/n<2 then [] else if m<=((sp n.toNat:Nat):Int) then false ::lQ m ((sp n.toNat:Nat):Int) else true ::lQ (m-((sp n.toNat:Nat):Int)) (n-((sp n.toNat:Nat):Int))
termination_by n.toNat
decreasing_by
 . have :=ka (n:=n.toNat) w!;omega
 . have :=ka (n:=n.toNat) w!;omega
def as1(r:B8×B8)(x:Bool×B8):B8×B8:=if x.1 then(bc x.2 r.1,bc x.2 r.2) else(r.1,bc r.2 x.2)
def Bh(s:List Bool)(r:B8×B8)(p:List B8):B8×B8:=(List.zip s.reverse p).foldl as1 r
def aBl(one two:B8)(s:List Bool)(r:B8×B8)(p:List B8):Bool:=decide (p.length=s.length)&&decide (Bh s r p=(one,two))
def ahf(s:List Bool)(one two:B8)(p:List B8):Bool:=decide (1<=p.length)&&aBl one two s (p.getD 0 [],p.getD 0 []) (p.drop 1)
def JE(m:Int):Bool:=decide (Vg.aK m (m-1)=0)
def accepted(m n:Int)(one two:B8)(p:List B8):Bool:=
 if m=0 then decide (p.length=0)&&decide (one=sum [])
 else if m=n then decide (p.length=0)&&decide (one=two)
 else ahf (lQ m n) one two (if JE m then one::p else p)
def jc(m n:Int)(one two:B8)(p:List B8):Int:=
 if m<0\/n<m\/1099511627776<n\/(one.length:Int)≠32\/(two.length:Int)≠32 then 1 else if cY p=true/\accepted m n one two p=true then 0 else 6
def strip(i j:Nat):Nat×Nat:=if h:i%2=1 then strip (i/2) (j/2) else(i,j)
termination_by i
def lR(i j:Int)(one two:B8)(p:List B8):Bool:=ahf (bl ((strip i.toNat j.toNat).1:Int) ((strip i.toNat j.toNat).2+1:Int)) one two p
def mn(i j:Int)(p:List B8):Prop :=0<=i/\i<j/\1<=p.length/\j<1099511627776
theorem PU {m n:Int}(h:n<=m\/n<2):lQ m n= []:=by rw [lQ,dif_pos h]
theorem GS {m n:Int}(h:2<=n)(h1:m<n)(hi:m<=((sp n.toNat:Nat):Int)):lQ m n=false ::lQ m ((sp n.toNat:Nat):Int):=by rw [lQ,dif_neg w!,R! hi]
theorem PV {m n:Int}(h:2<=n)(h1:m<n)(hi:¬m<=((sp n.toNat:Nat):Int)):lQ m n=true ::lQ (m-((sp n.toNat:Nat):Int)) (n-((sp n.toNat:Nat):Int)):=by rw [lQ,dif_neg w!,Q! hi]
theorem Vy {n:Nat}(h:3<=n):sp n=2*sp ((n+1)/2):=by
 unfold sp;have e:((n+1)/2-1)=(n-1)/2:=by omega
 have h1:2<=n-1:=by omega
 rw [e,Nat.log2_def,R! h1,Nat.pow_succ];omega
theorem Vz:sp 2=1:=by decide
def GU(i n:Int):List Bool:=if i%2=1 then [true] else if i<n-1 then [false] else []
theorem VA(n:Nat):∀i:Int,0<=i->i<n->2<=n->bl i n=bl (i/2) ((n+1)/2:Int)++GU i n:=by
 induction n using Nat.strongRecOn with
 |_ n ih=>
  intro i h0 h1 h2;by_cases h3:n=2
  . subst h3;have e2:(((2:Nat):Int)+1)/2=1:=by decide
    rw [e2,kl (show(1:Int)<2 by omega)];rcases(by omega :i=0\/i=1) with h|h
    . subst h;rw [nF w! (by rw [Z!,Vz];omega),Z!,Vz,kl w!];rfl
    . subst h;rw [pe w! (by rw [Z!,Vz];omega),Z!,Vz,kl w!];rfl
  . have hs:=Vy (n:=n) w!;have hb:=ka (n:=n) w!;have en:(((n:Nat):Int)+1)/2=(((n+1)/2:Nat):Int):=by omega
    rw [en];by_cases hi:i<((sp n:Nat):Int)
    . rw [nF (n:=(n:Int)) w! (by exact hi),nF (n:=(((n+1)/2:Nat):Int)) w! (by rw [Z!];omega)];rw [Z!,Z!];have :=ih (sp n) w! i h0 hi w!;rw [this,o?];have e1:(((sp n:Nat):Int)+1)/2=((sp ((n+1)/2):Nat):Int):=by omega
      rw [e1];unfold GU;split
      . rfl
      . rw [R! w!,R! w!]
    . rw [pe (n:=(n:Int)) w! (by exact hi),pe (n:=(((n+1)/2:Nat):Int)) w! (by rw [Z!];omega)];rw [Z!,Z!];have ed:(n:Int)-((sp n:Nat):Int)=((n-sp n:Nat):Int):=by omega
      have ed2:i/2-((sp ((n+1)/2):Nat):Int)=(i-((sp n:Nat):Int))/2:=by omega
      have ed3:(((n+1)/2:Nat):Int)-((sp ((n+1)/2):Nat):Int)=(((n-sp n:Nat):Int)+1)/2:=by omega
      have el:GU i n=GU (i-((sp n:Nat):Int)) ((n-sp n:Nat):Int):=by
       unfold GU;by_cases q:i%2=1
       . rw [R! q,R! w!]
       . have q':¬(i-((sp n:Nat):Int))%2=1:=by omega
         rw [Q! q,Q! q'];by_cases q2:i<(n:Int)-1
         . rw [R! q2,R! w!]
         . rw [Q! q2,Q! w!]
      rw [ed,ed2,ed3,el,o?];congr 1
      by_cases h1':n-sp n=1
      . rw [h1'];have :i-((sp n:Nat):Int)=0:=by omega
        rw [this,kl w!,kl (by decide)];rfl
      . exact ih (n-sp n) w! _ w! w! w!
theorem Sf(n:Nat):∀m:Int,1<=m->m<n->2<=n->lQ m n=if m%2=1 then bl (m-1) n else lQ (m/2) (((n+1)/2:Nat):Int):=by
 induction n using Nat.strongRecOn with
 |_ n ih=>
  intro m h0 h1 h2;by_cases h3:n=2
  . have :m=1:=by omega
    simp_all[R!,GS,Z!,Vz,PU,nF,kl]
  . have hs:=Vy (n:=n) w!;have hb:=ka (n:=n) w!;by_cases hi:m<=((sp n:Nat):Int)
    . rw [GS (n:=(n:Int)) w! h1 x!,Int.toNat_natCast];by_cases hm:m%2=1
      . rw [if_pos hm,nF (n:=(n:Int)) w! x!,Int.toNat_natCast];grind
      . rw [if_neg hm,GS (n:=(((n+1)/2:Nat):Int)) w! w! x!,Int.toNat_natCast];grind[PU]
    . rw [PV (n:=(n:Int)) w! h1 x!,Int.toNat_natCast];have ed:(n:Int)-((sp n:Nat):Int)=((n-sp n:Nat):Int):=by omega
      have :=ih (n-sp n) w! (m-((sp n:Nat):Int)) w! w! w!;rw [ed,this];by_cases hm:m%2=1
      . rw [if_pos hm,if_pos w!,pe (n:=(n:Int)) w! x!,Int.toNat_natCast,ed];grind
      . rw [if_neg hm,if_neg w!,PV (n:=(((n+1)/2:Nat):Int)) w! w! x!,Int.toNat_natCast];grind
theorem L5 {i j:Nat}(h:i%2=1):strip i j=strip (i/2) (j/2):=by rw [strip,dif_pos h]
theorem IB {i j:Nat}(h:¬i%2=1):strip i j=(i,j):=by rw [strip,dif_neg h]
theorem Oc(i:Nat):∀j:Nat,i<j->lQ ((i:Int)+1) ((j:Int)+1)=bl ((strip i j).1:Int) ((strip i j).2+1:Int):=by
 induction i using Nat.strongRecOn with
 |_ i ih=>
  intro j h;have e:(j:Int)+1=((j+1:Nat):Int):=by omega
  rw [e,Sf (j+1) _ w! w! w!];by_cases hi:i%2=1
  . rw [if_neg w!,L5 hi];grind
  . rw [if_pos w!,IB hi];grind
end Go.S

end
section
namespace Go.S
def L6(l:List B8):List B8:=l.reverse
end Go.S

end
section
namespace Go.S
theorem amp {n:Nat}(h:2<=n):n<=2*sp n:=by
 have :=Nat.lt_log2_self (n:=n-1);grind[sp,Nat.pow_succ]
theorem VB {n t:Nat}(h:2<=n)(h1:n<=2^(t+1)):sp n<=2^t/\n-sp n<=2^t:=by
 have h2:=ka h;have h3:=amp h
 have :sp n<=2^t:=by
  unfold sp at *;have :2^Nat.log2 (n-1)<2^(t+1):=by omega
  grind[Nat.pow_lt_pow_iff_right]
 omega
theorem GV:∀(t n:Nat) (i:Int),0<=i->i<n->n<=2^t->(bl i n).length<=t
 |0,n,i,h0,h1,h=>by grind[kl]
 |t+1,n,i,h0,h1,h=>by
  by_cases h2:2<=n
  . have hs:=VB h2 h;by_cases hi:i<((sp n:Nat):Int)
    . rw [nF w! (by exact hi),Z!];have :=GV t (sp n) i h0 hi hs.1;simp;omega
    . rw [pe w! (by exact hi),Z!];have :=GV t (n-sp n) (i-((sp n:Nat):Int)) w! w! hs.2;rw [Int.natCast_sub w!] at this;simp;omega
  grind[kl]
theorem ahg {l:List B8} {i:Int} {t:Nat}(h0:0<=i)(h1:i<l.length)(h:l.length<=2^t):(path l i).length<=t:=by
 rw [adi _ l i rfl];simp_all[GV]
theorem xI {l:List B8}(h:cY l=true)(k:Nat):cY (l.take k)=true :=(fN _).2 fun d hd=>(fN l).1 h d (List.mem_of_mem_take hd)
theorem xJ {l:List B8}(h:cY l=true)(k:Nat):cY (l.drop k)=true :=(fN _).2 fun d hd=>(fN l).1 h d (List.mem_of_mem_drop hd)
theorem L7 {l:List B8} {d:B8}(h:cY l=true)(h1:d.length=32):cY (l++ [d])=true :=
 (fN _).2 fun x hx=>by
   grind[fN,List.mem_singleton]
theorem Yc(n:Nat):∀(l:List B8) (i:Int),l.length=n->cY l=true->cY (path l i)=true :=by
 refine Db (C:=fun n=>∀(l:List B8) (i:Int),l.length=n->cY l=true->cY (path l i)=true) ?_ ?_ n
 . intro n h l i e _;rw [Sc w!];rfl
 . intro n h h1 h2 l i e hd;have hb:=ka h;by_cases hi:i<((sp l.length:Nat):Int)
   . grind[Sd,L7,xI,Jw,xJ,List.length_take]
   grind[Se,L7,xJ,Jw,xI,List.length_drop]
theorem GW {l:List B8}(h:2<=l.length)(h1:l.length<=1099511627776):split l.length=((sp l.length:Nat):Int):=by
 grind[C0,Int.toNat_natCast]
theorem aBm {l:List B8} {i:Int}(h:cY l=true)(h0:0<=i)(h1:i<l.length):fp l i (l,i,[]):=
 ⟨h,S! _,h0,h1,z!,z!⟩
theorem aBn {l m acc:List B8} {i j:Int}(h:fp l i (m,j,acc))(h2:2<=m.length)(hj:j<((sp m.length:Nat):Int)):
  fp l i (m.take (sp m.length),j,acc++ [root (m.drop (sp m.length))]):=by
 obtain⟨a1,a2,a3,a4,a5,a6⟩:=h;have hb:=ka h2;refine⟨xI a1 _,?_,a3,?_,?_,?_⟩
 . grind
 . grind
 . grind[Sd,List.reverse_append]
 grind
theorem aBo {l m acc:List B8} {i j:Int}(h:fp l i (m,j,acc))(h2:2<=m.length)(hj:¬j<((sp m.length:Nat):Int)):
  fp l i (m.drop (sp m.length),j-((sp m.length:Nat):Int),acc++ [root (m.take (sp m.length))]):=by
 obtain⟨a1,a2,a3,a4,a5,a6⟩:=h;have hb:=ka h2;refine⟨xJ a1 _,?_,x!,?_,?_,?_⟩
 . grind
 . grind
 . grind[Se,List.reverse_append]
 grind
theorem amq {l m acc:List B8} {i j:Int}(h:fp l i (m,j,acc))(h2:¬1<(m.length:Int)):L6 acc=path l i:=by
 have :=h.2.2.2.2.1;grind[L6,Sc]
def adj(l:List B8)(i:Int):Prop :=j9 l/\0<=i/\i<l.length
theorem ahh {l:List B8} {i:Int}(h:cY l=false\/i<0\/(l.length:Int)<=i): []=qh l i/\1=Ad l i:=by
 grind[cY,qh,Ad]
theorem amr {l:List B8} {i:Int}(h:cY l=true/\¬i<0/\¬(l.length:Int)<=i):qh l i=path l i/\Ad l i=0:=by
 grind[cY,qh,Ad]
theorem Cb {l:List B8} {i:Int} {x:List B8×Int×List B8}(hp:l.length<=1099511627776)(h:fp l i x)(h2:1<(x.1.length:Int)):
  (0<=split x.1.length/\split x.1.length<=x.1.length/\ -9223372036854775808<=x.2.1-split x.1.length/\x.2.1-split x.1.length<=9223372036854775807)/\
  j9 (x.1.take (split x.1.length).toNat)/\j9 (x.1.drop (split x.1.length).toNat)/\(∀d:B8,x.2.2.length+ [d].length<=8796093022208)/\
  len (x.1.take (split x.1.length).toNat)<len x.1/\len (x.1.drop (split x.1.length).toNat)<len x.1:=by
 obtain⟨a1,a2,a3,a4,a5,a6⟩:=h;have hb:=ka (n:=x.1.length) w!;rw [GW w! w!,Int.toNat_natCast];refine⟨w!,⟨xI a1 _,x!⟩,⟨xJ a1 _,x!⟩,fun d=>by grind,?_,?_⟩
 . grind[len,List.length_take]
 grind[len,List.length_drop]
theorem avt {l:List B8} {i:Int} {x:List B8×Int×List B8}(hp:l.length<=1099511627776)(h:fp l i x)(h2:1<(x.1.length:Int))(hj:x.2.1<split x.1.length):
  fp l i (x.1.take (split x.1.length).toNat,x.2.1,x.2.2++ [root (x.1.drop (split x.1.length).toNat)]):=by
 have :=h.2.1;grind[GW,Int.toNat_natCast,aBn]
theorem avu {l:List B8} {i:Int} {x:List B8×Int×List B8}(hp:l.length<=1099511627776)(h:fp l i x)(h2:1<(x.1.length:Int))(hj:¬x.2.1<split x.1.length):
  fp l i (x.1.drop (split x.1.length).toNat,x.2.1-split x.1.length,x.2.2++ [root (x.1.take (split x.1.length).toNat)]):=by
 have :=h.2.1;rw [GW w! w!] at hj |-;exact aBo h w! hj
theorem avv {l:List B8} {i:Int} {x:List B8×Int×List B8}(hp:l.length<=1099511627776)(h:fp l i x):small x.2.2:=by
 have :=h.2.2.2.2.2;grind[small]
theorem ą {l:List B8} {i:Int} {x:List B8×Int×List B8}(h0:cY l=true/\¬i<0/\¬(l.length:Int)<=i)(h:fp l i x)(h2:¬1<(x.1.length:Int)):L6 x.2.2=qh l i/\0=Ad l i:=by
 grind[amr,amq]
theorem adk {l:List B8} {i:Int}(h:cY l=true/\¬i<0/\¬(l.length:Int)<=i):fp l i (l,i,[]):=aBm h.1 w! w!
end Go.S

end
section
namespace Go.S
abbrev Pf:=Int×B8×B8×B8×List B8×B8
def jO(d:List cb)(t:B8):Pf:=
 (bp d t+1,(bf (kR d (bp d t+1).toNat)).1.1,(bf (kR d (bp d t+1).toNat)).1.2.1,(bf (kR d (bp d t+1).toNat)).1.2.2,path (leaves (gh d)) (bp d t+1),if jN d t then zN (pc d t) else [])
def VC:Pf:=(0,[],[],[],[],[])
def gj(d:List cb)(t:B8):Pf×Int:=if aY d&&isTerm t then(jO d t,0) else(VC,1)
theorem Ć {d:List cb} {t:B8}(h:dE d≠0\/isTerm t=false):gj d t=(VC,1):=by
 grind[gj,dE,aY]
theorem wy {d:List cb} {t:B8}(h:aY d=true)(h1:isTerm t=true):gj d t=(jO d t,0):=by
 grind[gj]
theorem VD {d:List cb} {t:B8}(h:aY d=true):0<=bp d t+1/\bp d t+1<=d.length/\(gh d).length=d.length+1:=by
 have :=Fb (d:=d) (t:=t) d.length;unfold bp;grind[gh,gO]
theorem adl(d:List cb) {i:Int}(h0:0<=i)(h:i<=d.length):(gh d).getD i.toNat []=kR d i.toNat:=by
 grind[gh,gO]
end Go.S

end
section
namespace Go.S
theorem ć {d:List cb}(hp:bh d)(hr:aY d=true)(t:B8):
  (0<=bp d t+1/\bp d t+1<=1048576/\bp d t+1<(bP d).length/\(bp d t+1).toNat<(bP d).length)/\((bP d).getD (bp d t+1).toNat []).length<=140737488355328/\kQ (bP d)/\dz (leaves (bP d))/\adj (leaves (bP d)) (bp d t+1)/\
  (bP d).getD (bp d t+1).toNat []=kR d (bp d t+1).toNat/\qh (leaves (bP d)) (bp d t+1)=path (leaves (gh d)) (bp d t+1)/\bP d=gh d:=by
 obtain⟨f1,f2,f3⟩:=VD (t:=t) hr;have e:bP d=gh d:=by grind[bP]
 have hl:=hp.1;have hlen:(leaves (gh d)).length=d.length+1:=by grind[leaves]
 have ha:=adl d f1 f2;rw [e];refine⟨w!,?_,(n4 hp hr).1,by grind[dz],⟨(n4 hp hr).2,f1,w!⟩,ha,?_,rfl⟩
 . rcases Fa hr (k:=(bp d t+1).toNat) with q|q
   . grind[C2,kR]
   omega
 . have q:cY (leaves (gh d))=true/\0<=bp d t+1/\bp d t+1<(leaves (gh d)).length:=⟨(n4 hp hr).2.1,f1,w!⟩;simp_all[qh,R!]
theorem Sh {d:List cb}(hp:bh d)(hr:aY d=true)(t:B8):
  jO d t=(bp d t+1,(bf ((bP d).getD (bp d t+1).toNat [])).1.1,(bf ((bP d).getD (bp d t+1).toNat [])).1.2.1,(bf ((bP d).getD (bp d t+1).toNat [])).1.2.2,qh (leaves (bP d)) (bp d t+1),if jN d t then pa (pc d t) else []):=by
 have q:=ć hp hr t;rw [q.2.2.2.2.2.1,q.2.2.2.2.2.2.1];unfold jO;congr 5
 split
 . have :bF (pc d t)=true :=by
    unfold pc;rename_i h1;rw [if_pos h1];have hb:=Jy h1;exact(wi hr (i:=(bp d t).toNat) w!).2
   unfold pa;rw [this];rfl
 . rfl
end Go.S

end
section
namespace Go.S
abbrev cv:=Int×B8
def iM(l:List cv)(i:Nat):cv:=l.getD i (0,[])
def nW(l:List cv):Nat->Int
 |0=>0
 |k+1=>nW l k+if(iM l k).1=0 then 1 else 0
def iv(l:List cv)(k:Nat):Int:=2*nW l k-k
def th(l:List cv)(i:Nat):Bool:=
 if(iM l i).1=0 then isTerm (iM l i).2 else(decide (1<=(iM l i).1)&&decide ((iM l i).1<=3))&&(decide ((iM l i).2= [])&&decide (2<=iv l i))
def bL(l:List cv):Bool:=(List.range l.length).all (th l)&&(decide (iv l l.length=1)&&decide (nW l l.length<=16))
def nh(l:List cv)(k:Nat):Prop :=k<=l.length/\l.length<=1099511627776/\∀i,i<k->th l i=true
def nO(l:List cv):Bool:=l.any (fun o=>decide ((200:Int)<o.2.length)) || decide ((60:Int)<l.length)
def Dc(l:List cv)(k:Nat):Prop :=k<=l.length/\∀o∈l.take k,¬(200:Int)<o.2.length
def bO(l:List cv)(k:Nat):List B8:=((l.take k).filter fun o=>decide (o.1=0)).map (·.2)
def nP(l:List cv):List B8:=bO l l.length
def aA(l:List cv):List B8:=sorted (nP l)
theorem vg(l:List cv):∀k,0<=nW l k/\nW l k<=k
 |0=>by simp [nW]
 |k+1=>by have :=vg l k;grind[nW]
theorem Si {l:List cv} {k:Nat}(h:(iM l k).1=0):nW l (k+1)=nW l k+1:=by simp_all[nW,R!]
theorem L8 {l:List cv} {k:Nat}(h:¬(iM l k).1=0):nW l (k+1)=nW l k:=by simp_all[nW,Q!]
theorem VE {l:List cv} {k:Nat}(h:(iM l k).1=0):iv l (k+1)=iv l k+1:=by grind[iv,Si]
theorem JF {l:List cv} {k:Nat}(h:¬(iM l k).1=0):iv l (k+1)=iv l k-1:=by grind[iv,L8]
theorem aBp {l:List cv}(h:small l):nh l 0:=⟨T! _,h,fun i hi=>by omega⟩
theorem VF {l:List cv} {k:Nat}(h:nh l k)(hk:(k:Int)<l.length)(h1:th l k=true):nh l (k+1):=by
 refine⟨w!,h.2.1,fun i hi=> ?_⟩;by_cases he:i=k
 . grind
 . exact h.2.2 i w!
theorem Ĉ {l:List cv} {k:Nat}(hk:(k:Int)<l.length)(h:th l k=false):false=bL l:=by
 grind[List.range,th,bL]
theorem ams {l:List cv} {k:Nat}(h:nh l k)(hk:¬(k:Int)<l.length):(decide (iv l k=1)&&decide (nW l k<=16))=bL l:=by
 have e:k=l.length:=by have :=h.1;omega
 subst e;have :(List.range l.length).all (th l)=true :=List.all_eq_true.2 fun i hi=>h.2.2 i (List.mem_range.1 hi);grind[bL]
theorem L9 {l:List cv} {k:Nat}(h:(iM l k).1=0):th l k=isTerm (iM l k).2:=by simp_all[th,R!]
theorem ahi {l:List cv} {k:Nat}(h:¬(iM l k).1=0)(h1:1<=(iM l k).1)(h2:(iM l k).1<=3)(h3:(iM l k).2= [])(h4:2<=iv l k):th l k=true :=by
 simp_all[th,Q!]
theorem amt {l:List cv} {k:Nat}(h:¬(iM l k).1=0)(h1:¬1<=(iM l k).1\/¬(iM l k).1<=3\/¬(iM l k).2= []\/¬2<=iv l k):th l k=false :=by
 grind[th]
theorem ahj {l:List cv} {k:Nat}(h:Dc l k)(hk:(k:Int)<l.length)(h1:¬(200:Int)<(iM l k).2.length):Dc l (k+1):=by
 refine⟨w!,?_⟩;rw [ax l k (0,[]) w!];intro o ho;rcases G!.1 ho with q|q
 . exact h.2 o q
 . rw [p?.1 q];exact h1
theorem amu {l:List cv} {k:Nat}(hk:(k:Int)<l.length)(h1:(200:Int)<(iM l k).2.length):true=nO l:=by
 have :l.any (fun o=>decide ((200:Int)<o.2.length))=true :=List.any_eq_true.2 ⟨_,bA l k _ (show k<l.length by omega),decide_eq_true h1⟩;grind[nO]
theorem amv {l:List cv} {k:Nat}(h:Dc l k)(hk:¬(k:Int)<l.length):decide ((60:Int)<l.length)=nO l:=by
 have :l.any (fun o=>decide ((200:Int)<o.2.length))=false :=by
  rw [<-Bool.not_eq_true,List.any_eq_true];rintro⟨o,ho,h1⟩;exact h.2 o (by grind[List.take_of_length_le]) (of_decide_eq_true h1)
 grind[nO]
theorem ahk {l:List cv}(h:nO l=false):l.length<=60/\∀o∈l,o.2.length<=200:=by
 grind[nO,Bool.or_eq_false_iff,of_decide_eq_false,decide,List.any_eq_true,decide_eq_true]
theorem adm {l:List cv}(h:nO l=false):small l:=by grind[ahk,small]
theorem ĉ {l:List cv} {k:Nat}(hk:(k:Int)<l.length)(h:(iM l k).1=0):bO l k++ [(iM l k).2]=bO l (k+1):=by
 unfold bO;rw [ax l k (0,[]) w!,List.filter_append,List.map_append];have :(List.filter (fun o:cv=>decide (o.1=0)) [l.getD k (0,[])])= [iM l k]:=by grind[iM]
 grind
theorem ahl {l:List cv} {k:Nat}(hk:(k:Int)<l.length)(h:¬(iM l k).1=0):bO l k=bO l (k+1):=by
 unfold bO;rw [ax l k (0,[]) w!,List.filter_append,List.map_append];have :(List.filter (fun o:cv=>decide (o.1=0)) [l.getD k (0,[])])= []:=by grind[iM]
 grind
theorem amw {l:List cv} {k:Nat}(h:k<=l.length)(hk:¬(k:Int)<l.length):bO l k=nP l:=by
 grind[nP]
theorem ahm(l:List cv):∀k,k<=l.length->((bO l k).length:Int)=nW l k
 |0,_=>by rfl
 |k+1,hk=>by
  have ih:=ahm l k w!;by_cases h:(iM l k).1=0
  . rw [<-ĉ w! h,Si h,K!,<-ih];simp
  . rw [<-ahl w! h,L8 h,ih]
theorem Ċ {l:List cv}:bL l=true↔(∀i,i<l.length->th l i=true)/\iv l l.length=1/\nW l l.length<=16:=by
 simp_all[bL,B!,X!,s?,J!]
theorem ow {l:List cv}(h:bL l=true):(aA l).length<=16:=by
 obtain⟨_,_,h3⟩:=Ċ.1 h;have :=qd (nP l);have e:=ahm l l.length (Nat.le_refl _);grind[aA,nP]
theorem VG {l:List cv}(h:bL l=true):∀t∈aA l,isTerm t=true :=by
 obtain⟨h1,_,_⟩:=Ċ.1 h;intro t ht;have :=(ie (nP l) t).1 ht;simp only [nP,bO,List.mem_map,List.mem_filter,decide_eq_true_eq,List.take_length] at this;obtain⟨o,⟨ho,h0⟩,rfl⟩:=this;obtain⟨i,hi,rfl⟩:=List.mem_iff_getElem.1 ho;grind[iM,L9]
theorem ahn {l:List cv} {k:Nat}(h:nh l k)(hk:(k:Int)<l.length)(h0:(l.getD k (0,[])).1=0)(ht:isTerm (l.getD (Int.toNat (k:Int)) (0,[])).2=true):nh l (k+1):=
 VF h hk (by rw [L9 h0];rwa [Z!] at ht)
theorem aho {l:List cv} {k:Nat}(hk:(k:Int)<l.length)(h0:(l.getD k (0,[])).1=0)(ht:isTerm (l.getD (Int.toNat (k:Int)) (0,[])).2=false):false=bL l:=
 Ĉ hk (by rw [L9 h0];rwa [Z!] at ht)
theorem Ma {l:List cv} {k:Nat}(h:nh l k)(hk:(k:Int)<l.length)(h0:¬(l.getD k (0,[])).1=0)(h1:1<=(l.getD k (0,[])).1/\(l.getD k (0,[])).1<=3)(h2:(l.getD k (0,[])).2= []/\¬iv l k<2):nh l (k+1):=
 VF h hk (ahi h0 h1.1 h1.2 h2.1 w!)
theorem Fm {l:List cv} {k:Nat}(hk:(k:Int)<l.length)(h0:¬(l.getD k (0,[])).1=0)(h:¬(1<=(l.getD k (0,[])).1/\(l.getD k (0,[])).1<=3)\/¬(l.getD k (0,[])).2= []\/iv l k<2):false=bL l:=
 Ĉ hk (amt h0 (by
   grind[iM]))
theorem amx {l:List cv} {k:Nat}(h:nh l k)(hk:¬(k:Int)<l.length):(bif decide (iv l k=1) then decide (nW l k<=16) else false)=bL l:=by
 grind[ams]
theorem aBq(l:List cv): []=bO l 0:=rfl
theorem ahp {l:List cv} {k:Nat}(hk:(k:Int)<l.length)(h:(l.getD k (0,[])).1=0):bO l k++ [(l.getD (Int.toNat (k:Int)) (0,[])).2]=bO l (k+1):=by exact ĉ hk h
theorem ahq {l:List cv} {k:Nat}(hp:l.length<=1099511627776)(h:gP l k)(s:B8):(bO l k).length+ [s].length<=8796093022208/\small (bO l k)/\small (eD (bO l k))/\small (bR (eD (bO l k))):=by
 grind[XD,bO,qd,LF,gP,List.length_singleton,small]
theorem amy {l:List cv} {k:Nat}(h:gP l k)(hk:¬(k:Int)<l.length):bR (eD (bO l k))=aA l/\sorted (bO l k)=aA l:=by
 have :=amw h hk;rw [LF,this];exact⟨rfl,rfl⟩
def xK:B8:= [104,97,121]
abbrev El:=Int×Int×B8
def kE1:List El:= [(-1,0,xK)]
def kE:List El:= [(-1,0,xK),(-2,3,[])]
def eO:List cv:= [(0,xK)]
def hdT(l:List B8):B8:=l.getD 0 []
def rW(k:Nat):Int:=if k=0 then -1 else 0
def tI(l:List El)(n:Int):El:=l.getD n.toNat (0,0,[])
def eR(l:List cv):Prop :=small l/\∀o∈l,small o.2
theorem ahs {l:List cv}(h:nO l=false):eR l:=by
 refine⟨adm h,fun o ho=> ?_⟩;have :=(ahk h).2 o ho;grind[small]
theorem avw {l:List cv}(h:eR l)(k:Nat):small (iM l k).2:=by
 by_cases hk:k<l.length
 . exact h.2 _ (bA l k _ hk)
 . unfold iM;rw [List.getD_eq_getElem?_getD,List.getElem?_eq_none w!];exact Nat.zero_le _
theorem wz {x:Nat}(h:(x:Int)<(([104,97,121]:List Int).length:Int)):x=0\/x=1\/x=2:=by
 grind
theorem ge3 {x:Nat}(h2:fe x 3)(h:¬(x:Int)<(([104,97,121]:List Int).length:Int)):x=3:=by
 grind[fe]
end Go.S

end
section
namespace Go.S
abbrev Wp:=B8×Bool
def lp(v:Int):Wp:=if fD v then([],true) else(num v,false)
def gk(b:B8)(dg:Int):Wp:=if dg<b.length then([],true) else(text b,false)
def pg(n:Int)(g:B8)(l:List Sg):Wp:=if dO n g l then gk (hB n g l) 10000 else([],true)
def IC(d:B8):Bool:=decide ((d.length:Int)=32)
def jB(p:List B8):Wp:=if 64<(p.length:Int) then([],true) else(num p.length++(p.takeWhile IC).flatten,!cY p)
def gl(p:List B8)(k:Nat):B8:=num p.length++(p.take k).flatten
def ly(p:List B8)(k:Nat):Prop :=p.length<=64/\k<=p.length/\∀d∈p.take k,(d.length:Int)=32
def cat(a b:Wp):Wp:=(a.1++b.1,a.2 || b.2)
def jP(p:Pf):Wp:=
 if fX p.2.1 p.2.2.1 p.2.2.2.1 then cat (cat (cat (lp p.1) (gk (ra p.2.1 p.2.2.1 p.2.2.2.1) 200)) (jB p.2.2.2.2.1)) (gk p.2.2.2.2.2 4000)
 else((lp p.1).1,true)
def pfD(l:List Pf)(i:Nat):Pf:=l.getD i VC
def Mb(l:List Pf):Nat->Wp
 |0=>(num l.length,false)
 |k+1=>cat (Mb l k) (jP (pfD l k))
def iO(l:List (List Pf))(i:Nat):List Pf:=l.getD i []
def eS(n:Int)(g:B8)(s:List Sg)(l:List (List Pf)):Nat->Wp
 |0=>cat ([1],false) (pg n g s)
 |k+1=>cat (eS n g s l k) (Mb (iO l k) (iO l k).length)
def Fo(w:Wp):B8:=if w.2 then [] else if 1048576<(w.1.length:Int) then [] else w.1
def Fp(w:Wp):Int:=if w.2 then 1 else if 1048576<(w.1.length:Int) then 3 else 0
def Sj(l:List (List Pf)):Bool:=l.all fun x=>decide ((x.length:Int)<=16)
def nG(n:Int)(g:B8)(s:List Sg)(l:List (List Pf)):B8×Int:=
 if(l.length:Int)≠s.length\/Sj l=false then([],1) else(Fo (eS n g s l l.length),Fp (eS n g s l l.length))
def VH(p:Pf):Bool:= !fD p.1&&(fX p.2.1 p.2.2.1 p.2.2.2.1&&(decide ((p.2.2.2.2.1.length:Int)<=64)&&(cY p.2.2.2.2.1&&decide ((p.2.2.2.2.2.length:Int)<=4000))))
abbrev Rs:=Int×Int
def cC(b:B8)(a e:Int):Rs×Hd:=
 if(ai b a e 10000).1.2.2≠0 then((ai b a e 10000).1.2,(0,[],[]))
 else(((ai b a e 10000).1.2.1,(hR (ai b a e 10000).2).2),(hR (ai b a e 10000).2).1)
def jC(b:B8)(a e:Int):Rs×Lk:=
 if(ai b a e 200).1.2.2≠0 then((ai b a e 200).1.2,([],[],[]))
 else(((ai b a e 200).1.2.1,(bf (ai b a e 200).2).2),(bf (ai b a e 200).2).1)
def dP(b:B8)(a e dg:Int):Rs×Int:=
 if dg<(af b a e).2 then(((af b a e).1.2.1,2),0) else((af b a e).1.2,(af b a e).2)
def Ae(b:B8)(a e:Int):Nat->Rs×List B8
 |0=>((a,e),[])
 |k+1=>((an b (Ae b a e k).1.1 (Ae b a e k).1.2).1.2,(Ae b a e k).2++ [(an b (Ae b a e k).1.1 (Ae b a e k).1.2).2])
def ph(b:B8)(a e:Int):Nat:=(dP b a e 64).2.toNat
def dh(b:B8)(a e:Int)(k:Nat):Rs×List B8:=Ae b (dP b a e 64).1.1 (dP b a e 64).1.2 k
def jD(b:B8)(a e:Int):Rs×List B8:=dh b a e (ph b a e)
def q1(b:B8)(a e:Int):Rs×Int:=((af b a e).1.2,(af b a e).2)
def q2(b:B8)(a e:Int):Rs×Lk:=jC b (q1 b a e).1.1 (q1 b a e).1.2
def q3(b:B8)(a e:Int):Rs×List B8:=jD b (q2 b a e).1.1 (q2 b a e).1.2
def q4(b:B8)(a e:Int):Rs×B8:=((ai b (q3 b a e).1.1 (q3 b a e).1.2 4000).1.2,(ai b (q3 b a e).1.1 (q3 b a e).1.2 4000).2)
def gw(b:B8)(a e:Int):Rs×Pf:=((q4 b a e).1,((q1 b a e).2,(q2 b a e).2.1,(q2 b a e).2.2.1,(q2 b a e).2.2.2,(q3 b a e).2,(q4 b a e).2))
def Cc(b:B8)(a e:Int):Nat->Rs×List Pf
 |0=>((a,e),[])
 |k+1=>((gw b (Cc b a e k).1.1 (Cc b a e k).1.2).1,(Cc b a e k).2++ [(gw b (Cc b a e k).1.1 (Cc b a e k).1.2).2])
def Yd(b:B8)(a e:Int):Nat:=(dP b a e 16).2.toNat
def ċ(b:B8)(a e:Int)(k:Nat):Rs×List Pf:=Cc b (dP b a e 16).1.1 (dP b a e 16).1.2 k
def as2(b:B8)(a e:Int):Rs×List Pf:=ċ b a e (Yd b a e)
def ri(b:B8)(a e:Int):Nat->Rs×List (List Pf)
 |0=>((a,e),[])
 |k+1=>((as2 b (ri b a e k).1.1 (ri b a e k).1.2).1,(ri b a e k).2++ [(as2 b (ri b a e k).1.1 (ri b a e k).1.2).2])
def eZ(b:B8)(kind:UInt8):Int:=if 1048576<(b.length:Int) then 3 else if b.length=0 then 4 else if b.getD 0 0=kind then 0 else 2
abbrev An:=Hd×List (List Pf)
def aH(b:B8):Rs×Hd:=cC b 1 0
def gR(b:B8)(k:Nat):Rs×List (List Pf):=ri b (aH b).1.1 (aH b).1.2 k
def aN(b:B8):Nat:=(aH b).2.2.2.length
def ba(b:B8):(Int×B8×List Sg×List (List Pf))×Int:=
 if eZ b 1≠0 then((0,[],[],[]),eZ b 1)
 else if done b (gR b (aN b)).1.1 (gR b (aN b)).1.2≠0 then((0,[],[],[]),done b (gR b (aN b)).1.1 (gR b (aN b)).1.2)
 else(((aH b).2.1,(aH b).2.2.1,(aH b).2.2.2,(gR b (aN b)).2),0)
def VI(b:B8):Rs×Hd:=cC b 1 0
def pg2(b:B8):Rs×Int:=q1 b (VI b).1.1 (VI b).1.2
def pg3(b:B8):Rs×B8:=((ai b (pg2 b).1.1 (pg2 b).1.2 2000).1.2,(ai b (pg2 b).1.1 (pg2 b).1.2 2000).2)
def Dd(b:B8):Rs×List B8:=jD b (pg3 b).1.1 (pg3 b).1.2
def aM(b:B8):(Int×B8×List Sg×Int×B8×List B8)×Int:=
 if eZ b 2≠0 then((0,[],[],0,[],[]),eZ b 2)
 else if done b (Dd b).1.1 (Dd b).1.2≠0 then((0,[],[],0,[],[]),done b (Dd b).1.1 (Dd b).1.2)
 else(((VI b).2.1,(VI b).2.2.1,(VI b).2.2.2,(pg2 b).2,(pg3 b).2,(Dd b).2),0)
def st1(b:B8):Rs×Hd:=cC b 1 0
def st2(b:B8):Rs×Hd:=cC b (st1 b).1.1 (st1 b).1.2
def De(b:B8):Rs×List B8:=jD b (st2 b).1.1 (st2 b).1.2
def aC(b:B8):(Int×B8×List Sg×Int×B8×List Sg×List B8)×Int:=
 if eZ b 3≠0 then((0,[],[],0,[],[],[]),eZ b 3)
 else if done b (De b).1.1 (De b).1.2≠0 then((0,[],[],0,[],[],[]),done b (De b).1.1 (De b).1.2)
 else(((st1 b).2.1,(st1 b).2.2.1,(st1 b).2.2.2,(st2 b).2.1,(st2 b).2.2.1,(st2 b).2.2.2,(De b).2),0)
end Go.S

end
section
namespace Go.S
theorem amA {p:List B8}(h:cY p=true):p.takeWhile IC=p:=by
 induction p with
 |nil=>rfl
 |cons a l ih=>
  simp_all[cY,List.all_cons,B!,List.takeWhile_cons_of_pos,IC]
theorem PW {p:Pf}:VH p=true↔fD p.1=false/\fX p.2.1 p.2.2.1 p.2.2.2.1=true/\(p.2.2.2.2.1.length:Int)<=64/\cY p.2.2.2.2.1=true/\(p.2.2.2.2.2.length:Int)<=4000:=by
 simp_all[VH,B!,J?,J!]
end Go.S

end
section
namespace Go.S
end Go.S

end
section
namespace Go.S
def qi(d:Bool)(w:Wp):Bool:=d || w.2
def bytesOf(w:Wp):B8:=w.1
def lS(w:Wp):Bool:=w.2
def ti(l:List (List Pf)):Prop :=l.length<=1000/\∀x∈l,∀p∈x,p.2.2.2.2.2.length<=1099511627776
def fq(n:Int)(g:B8)(s:List Sg)(l:List (List Pf))(k j:Nat):Wp:=cat (eS n g s l k) (Mb (iO l k) j)
def mo(s:List Sg)(l:List (List Pf))(k:Nat):Prop :=k<=l.length/\l.length=s.length/\ti l/\∀i,i<k->(iO l i).length<=16
def kn(s:List Sg)(l:List (List Pf))(k j:Nat):Prop :=mo s l k/\k<l.length/\(iO l k).length<=16/\j<=(iO l k).length
def Af(b:B8)(k j:Nat):Rs×List Pf:=ċ b (gR b k).1.1 (gR b k).1.2 j
def pj(b:B8)(k:Nat):Nat:=Yd b (gR b k).1.1 (gR b k).1.2
theorem aht(s:B8):(text s).length<=s.length+9:=by
 grind[eN,text,List.length_append]
theorem Bi(b:B8) {m:Int}(hm:0<=m):((gk b m).1.length:Int)<=m+9:=by
 grind[gk,aht]
theorem VJ(v:Int):(lp v).1.length<=9:=by
 grind[lp,eN]
theorem adq(n:Int)(g:B8)(s:List Sg):(pg n g s).1.length<=10009:=by
 unfold pg;split
 . have :=Bi (hB n g s) (m:=10000) (by decide);omega
 grind
theorem Č:∀(p:List B8),(p.takeWhile IC).flatten.length<=32*p.length
 | []=>by simp
 |a::p=>by
  have :=Č p;by_cases h:IC a=true
  . rw [List.takeWhile_cons_of_pos h,List.flatten_cons,K!,G?];have :(a.length:Int)=32:=V? h;omega
  simp_all
theorem Mc(p:List B8):(jB p).1.length<=2057:=by
 grind[jB,eN,Č,List.length_append]
theorem VK(p:Pf):(jP p).1.length<=7000:=by
 have h1:=VJ p.1;have h2:=Bi (ra p.2.1 p.2.2.1 p.2.2.2.1) (m:=200) (by decide);have h3:=Mc p.2.2.2.2.1;have h4:=Bi p.2.2.2.2.2 (m:=4000) (by decide);grind[jP,cat,List.length_append]
theorem GX(l:List Pf):∀k,(Mb l k).1.length<=7000*k+9
 |0=>by grind[Mb,eN]
 |k+1=>by
  have :=GX l k;have :=VK (pfD l k);simp [Mb,cat,K!];omega
theorem PX(n:Int)(g:B8)(s:List Sg)(l:List (List Pf)):∀k,(∀i,i<k->(iO l i).length<=16)->(eS n g s l k).1.length<=120000*k+20000
 |0,_=>by
  grind[adq,eS,cat,List.length_append,List.length_singleton]
 |k+1,h=>by
  have :=PX n g s l k fun i hi=>h i w!;have :=GX (iO l k) (iO l k).length;have :=h k w!;simp [eS,cat,K!];omega
theorem aBs {p:List B8}(h:¬(64:Int)<p.length):ly p 0:=⟨w!,T! _,z!⟩
theorem amB {p:List B8} {k:Nat}(h:ly p k):(gl p k).length<=2057:=by
 obtain⟨h1,h2,h3⟩:=h
 have q:∀(l:List B8),(∀d∈l,(d.length:Int)=32)->l.flatten.length=32*l.length:=by
  intro l;induction l with
  |nil=>grind
  |cons a l ih=>
   grind
 grind[eN,List.length_take,gl,List.length_append]
theorem VL {p:List B8} {k:Nat}(h:ly p k)(hk:(k:Int)<p.length)(hd:((p.getD k []).length:Int)=32):ly p (k+1)/\gl p k++p.getD k []=gl p (k+1):=by
 have e:=ax p k [] w!;refine⟨⟨h.1,w!,?_⟩,?_⟩
 . rw [e];intro d hm;rcases G!.1 hm with q|q
   . exact h.2.2 d q
   grind
 grind[gl]
theorem amC {p:List B8}:∀ {k:Nat},(∀d∈p.take k,(d.length:Int)=32)->k<p.length->¬((p.getD k []).length:Int)=32->p.takeWhile IC=p.take k:=by
 induction p with
 |nil=>grind
 |cons a p ih=>
  intro k h hk hd;cases k with
  |zero=>simp_all[List.takeWhile_cons_of_neg,IC,J!]
  |succ k=>
   have ha:=h a z!;rw [List.takeWhile_cons_of_pos (show IC a=true from H? ha),List.take_succ_cons,ih (k:=k) (fun d hd=>h d (by exact E! _ hd)) (by simpa using hk) hd]
theorem č {p:List B8} {k:Nat}(h:ly p k)(hk:(k:Int)<p.length)(hd:¬((p.getD k []).length:Int)=32):jB p=(gl p k,true):=by
 have hD:cY p=false :=by
  grind[fN,bA]
 unfold jB gl;rw [if_neg (by have :=h.1;omega),hD,amC h.2.2 w! hd];rfl
theorem Ď {p:List B8} {k:Nat}(h:ly p k)(hk:¬(k:Int)<p.length):jB p=(gl p k,false):=by
 have e:k=p.length:=by have :=h.2.1;omega
 have hD:cY p=true :=(fN p).2 fun d hd=>by have :=h.2.2 d x!;omega
 unfold jB gl;rw [if_neg (by have :=h.1;omega),hD,amA hD,e,List.take_length];rfl
theorem ahu {p:List B8}(h:(64:Int)<p.length):jB p=([],true):=by simp_all[jB,R!]
theorem aBt {s:List Sg} {l:List (List Pf)}(hp:ti l)(h:(l.length:Int)=s.length):mo s l 0:=⟨T! _,w!,hp,fun i hi=>by omega⟩
theorem avx {s:List Sg} {l:List (List Pf)} {k:Nat}(h:mo s l k)(hk:(k:Int)<l.length)(h1:¬(16:Int)<(iO l k).length):kn s l k 0:=⟨h,w!,w!,T! _⟩
theorem ahv {s:List Sg} {l:List (List Pf)} {k j:Nat}(h:kn s l k j)(hj:(j:Int)<(iO l k).length):kn s l k (j+1):=⟨h.1,h.2.1,h.2.2.1,w!⟩
theorem ď {n:Int} {g:B8} {s:List Sg} {l:List (List Pf)} {k j:Nat}(h:kn s l k j)(hj:¬(j:Int)<(iO l k).length):mo s l (k+1)/\fq n g s l k j=eS n g s l (k+1):=by
 have e:j=(iO l k).length:=by have :=h.2.2.2;omega
 refine⟨⟨by have :=h.2.1;omega,h.1.2.1,h.1.2.2.1,fun i hi=> ?_⟩,by subst e;rfl⟩;by_cases q:i=k
 . subst q;exact h.2.2.1
 . exact h.1.2.2.2 i w!
theorem avy {n:Int} {g:B8} {s:List Sg} {l:List (List Pf)}(h:¬(l.length:Int)=s.length):nG n g s l=([],1):=by simp_all[nG,R!]
theorem Đ {n:Int} {g:B8} {s:List Sg} {l:List (List Pf)} {k:Nat}(hk:(k:Int)<l.length)(h:(16:Int)<(iO l k).length):nG n g s l=([],1):=by
 have :Sj l=false :=by
  rw [<-Bool.not_eq_true];intro q;have :=of_decide_eq_true (List.all_eq_true.1 q _ (bA l k [] w!));grind[iO]
 simp_all[nG,R!]
theorem đ {n:Int} {g:B8} {s:List Sg} {l:List (List Pf)} {k:Nat}(h:mo s l k)(hk:¬(k:Int)<l.length):nG n g s l=(Fo (eS n g s l k),Fp (eS n g s l k)):=by
 have e:k=l.length:=by have :=h.1;omega
 subst e
 have :Sj l=true :=X!.2 fun x hx=>by
  obtain⟨i,hi,rfl⟩:=List.mem_iff_getElem.1 hx;have :=h.2.2.2 i hi;have e:iO l i=l[i]:=by simp [iO,F!,hi]
  rw [e] at this;exact H? w!
 unfold nG;rw [if_neg (by rw [this,h.2.1];simp)]
theorem ahw {s:List Sg} {l:List (List Pf)} {k j:Nat}(h:kn s l k j)(hj:(j:Int)<(iO l k).length):(pfD (iO l k) j).2.2.2.2.2.length<=1099511627776:=
 h.1.2.2.1.2 _ (bA l k [] h.2.1) _ (bA (iO l k) j VC w!)
theorem Ē {n:Int} {g:B8} {s:List Sg} {l:List (List Pf)} {k:Nat}(h:mo s l k):(eS n g s l k).1.length<=130000000:=by
 have :=PX n g s l k h.2.2.2;have :=h.1;have :=h.2.2.1.1;omega
theorem ahx {n:Int} {g:B8} {s:List Sg} {l:List (List Pf)} {k j:Nat}(h:kn s l k j):(fq n g s l k j).1.length<=140000000:=by
 have :=Ē (n:=n) (g:=g) h.1;have :=GX (iO l k) j;have :=h.2.2.1;have :=h.2.2.2
 grind[fq,cat,List.length_append]
end Go.S

end
section
namespace Go.S
theorem amD(v:Int):(lh [] v).length<=9:=by
 grind[lh,eN]
theorem aBu(v:Int):lh [] v=(lp v).1:=by grind[lh,lp]
theorem aBv(v:Int)(d:Bool):(bif !decide (v7 v=0) then true else d)=qi d (lp v):=by
 grind[v7,lp,qi,fD]
theorem Sk {n:Nat}(h:n<=1000):lp (n:Int)=(num (n:Int),false):=by
 grind[lp,L3]
theorem ē {b:B8} {m:Int}(h:m<b.length):gk b m=([],true):=by simp_all[gk,R!]
theorem ahy {b:B8} {m:Int}(h:¬m<b.length):gk b m=(text b,false):=by simp_all[gk,Q!]
theorem ahz {n:Int} {g:B8} {s:List Sg}(h:¬(hW n g s).2=0):pg n g s=([],true):=by
 grind[dO,JC,pg]
theorem amE {n:Int} {g:B8} {s:List Sg}(h:(hW n g s).2=0):pg n g s=gk (hW n g s).1 10000/\(hW n g s).1.length<=100000:=by
 simp_all[ahb,pg,R!,ă]
theorem amF(a b c:B8):(ke a b c).length<=200:=by
 grind[ke,C2]
theorem avz {a b c:B8}(h:¬rb a b c=0):fX a b c=false :=by
 grind[fX,rb]
theorem amG {a b c:B8}(h:rb a b c=0):fX a b c=true/\ke a b c=ra a b c:=by
 cases q:fX a b c with
 |true=>exact⟨rfl,by grind[ke]⟩
 |false=>grind[rb]
theorem Ĕ {p1:Int} {p2 p3 p4:B8} {p5:List B8} {p6:B8}(h:¬rb p2 p3 p4=0):jP (p1,p2,p3,p4,p5,p6)=((lp p1).1,true):=by
 grind[jP,avz]
theorem ahA {p1:Int} {p2 p3 p4:B8} {p5:List B8} {p6:B8}(h:rb p2 p3 p4=0):jP (p1,p2,p3,p4,p5,p6)=cat (cat (cat (lp p1) (gk (ke p2 p3 p4) 200)) (jB p5)) (gk p6 4000):=by
 grind[jP,amG]
theorem as3 {n:Int} {g:B8} {s:List Sg} {l:List (List Pf)} {k j:Nat}(p:Pf)(hp:p=pfD (iO l k) j)(d:Bool)(b:B8)(hd:d=lS (fq n g s l k j))(hb:b=bytesOf (fq n g s l k j)):
  qi d (jP p)=lS (fq n g s l k (j+1))/\b++bytesOf (jP p)=bytesOf (fq n g s l k (j+1)):=by
 subst hp;subst hd;subst hb;simp [qi,lS,bytesOf,fq,Mb,cat,Bool.or_assoc,Y!,and_self]
theorem ĕ {b:B8} {c:UInt8}(h:(1048576:Int)<b.length):eZ b c=3:=by simp_all[eZ,R!]
theorem Ė {b:B8} {c:UInt8}(h:¬(1048576:Int)<b.length)(h1:(b.length:Int)=0):eZ b c=4:=by simp_all[eZ,Q!,R!]
theorem ahB {b:B8} {c:UInt8}(h:¬(1048576:Int)<b.length)(h1:¬(b.length:Int)=0)(h2:¬((b.getD (Int.toNat 0) 0).toNat:Int)=c.toNat):eZ b c=2:=by
 grind[eZ]
theorem avA {b:B8} {c:UInt8}(h:¬(1048576:Int)<b.length)(h1:¬(b.length:Int)=0)(h2:((b.getD (Int.toNat 0) 0).toNat:Int)=c.toNat):eZ b c=0:=by
 unfold eZ;grind[UInt8.toNat_inj]
theorem JG(b:B8)(a e m:Int):(ai b a e m).2.length<=b.length:=by
 grind[ai,cM]
theorem ahC(b:B8)(a e:Int) {m:Int}(hm:0<=m):(dP b a e m).2<=m:=by
 grind[dP]
theorem amH {b:B8} {a e m:Int}(h:m<(af b a e).2):dP b a e m=(((af b a e).1.2.1,2),0):=by simp_all[dP,R!]
theorem avB {b:B8} {a e m:Int}(h:¬m<(af b a e).2):dP b a e m=((af b a e).1.2,(af b a e).2):=by simp_all[dP,Q!]
theorem avC {b:B8} {a e:Int}(h:¬(ai b a e 10000).1.2.2=0):cC b a e=((ai b a e 10000).1.2,(0,[],[])):=by simp_all[cC,R!]
theorem amI {b:B8} {a e:Int}(h:(ai b a e 10000).1.2.2=0):cC b a e=(((ai b a e 10000).1.2.1,(hR (ai b a e 10000).2).2),(hR (ai b a e 10000).2).1):=by simp_all[cC,Q!]
theorem avD {b:B8} {a e:Int}(h:¬(ai b a e 200).1.2.2=0):jC b a e=((ai b a e 200).1.2,([],[],[])):=by simp_all[jC,R!]
theorem amJ {b:B8} {a e:Int}(h:(ai b a e 200).1.2.2=0):jC b a e=(((ai b a e 200).1.2.1,(bf (ai b a e 200).2).2),(bf (ai b a e 200).2).1):=by simp_all[jC,Q!]
theorem ė(b:B8)(a e:Int):∀k,(Ae b a e k).2.length=k
 |0=>rfl
 |k+1=>by simp only [Ae];rw [K!,ė b a e k];rfl
theorem JH(b:B8)(a e:Int)(k:Nat):(dh b a e k).2.length=k:=ė ..
theorem Ę(b:B8)(a e:Int):∀k,(Cc b a e k).2.length=k
 |0=>rfl
 |k+1=>by simp only [Cc];rw [K!,Ę b a e k];rfl
theorem amK(b:B8)(k j:Nat):(Af b k j).2.length=j:=Ę ..
theorem ę(b:B8)(a e:Int):∀k,(ri b a e k).2.length=k
 |0=>rfl
 |k+1=>by simp only [ri];rw [K!,ę b a e k];rfl
theorem amL(b:B8)(k:Nat):(gR b k).2.length=k:=ę ..
theorem Md(b:B8)(a e:Int):ph b a e<=64:=by simp_all[ahC,ph]
theorem ahD(b:B8)(k:Nat):pj b k<=16:=by simp_all[ahC,gR,pj,Yd]
theorem Ye {x:Nat} {v:Int}(h:(x:Int)<v):x+1<=v.toNat:=by omega
theorem Me {x:Nat} {v:Int}(h:fe x v.toNat)(h1:¬(x:Int)<v):x=v.toNat:=by grind[fe]
theorem amM(b:B8):(hR b).1.2.2.length<=64:=by
 by_cases h:(hR b).2=0
 . grind[qg,ij,X5]
 simp_all[ag3,T!]
theorem Yf(b:B8):aN b<=64:=by
 grind[aN,aH,cC,amM]
theorem Sl {b:B8} {x:Nat}(h:(x:Int)<((cC b 1 0).2.2.2.length:Int)):x+1<=aN b:=by
 have :aN b=(cC b 1 0).2.2.2.length:=rfl;omega
theorem Yg {b:B8} {x:Nat}(h:fe x (aN b))(h1:¬(x:Int)<((cC b 1 0).2.2.2.length:Int)):x=aN b:=by
 have :aN b=(cC b 1 0).2.2.2.length:=rfl;grind[fe]
theorem as4 {b:B8}(h:¬eZ b 1=0):ba b=((0,[],[],[]),eZ b 1):=by simp_all[ba,R!]
theorem ahE {b:B8} {k:Nat}(h:eZ b 1=0)(hk:k=aN b)(h1:¬done b (gR b k).1.1 (gR b k).1.2=0):ba b=((0,[],[],[]),done b (gR b k).1.1 (gR b k).1.2):=by simp_all[ba,Q!,R!]
theorem as5 {b:B8} {k:Nat}(h:eZ b 1=0)(hk:k=aN b)(h1:done b (gR b k).1.1 (gR b k).1.2=0):ba b=(((aH b).2.1,(aH b).2.2.1,(aH b).2.2.2,(gR b k).2),0):=by simp_all[ba,Q!]
theorem avE {b:B8}(h:¬eZ b 2=0):aM b=((0,[],[],0,[],[]),eZ b 2):=by simp_all[aM,R!]
theorem ahF {b:B8}(h:eZ b 2=0)(h1:¬done b (Dd b).1.1 (Dd b).1.2=0):aM b=((0,[],[],0,[],[]),done b (Dd b).1.1 (Dd b).1.2):=by simp_all[aM,Q!,R!]
theorem ahG {b:B8}(h:eZ b 2=0)(h1:done b (Dd b).1.1 (Dd b).1.2=0):aM b=(((VI b).2.1,(VI b).2.2.1,(VI b).2.2.2,(pg2 b).2,(pg3 b).2,(Dd b).2),0):=by simp_all[aM,Q!]
theorem avF {b:B8}(h:¬eZ b 3=0):aC b=((0,[],[],0,[],[],[]),eZ b 3):=by simp_all[aC,R!]
theorem str_1 {b:B8}(h:eZ b 3=0)(h1:¬done b (De b).1.1 (De b).1.2=0):aC b=((0,[],[],0,[],[],[]),done b (De b).1.1 (De b).1.2):=by simp_all[aC,Q!,R!]
theorem ahH {b:B8}(h:eZ b 3=0)(h1:done b (De b).1.1 (De b).1.2=0):aC b=(((st1 b).2.1,(st1 b).2.2.1,(st1 b).2.2.2,(st2 b).2.1,(st2 b).2.2.1,(st2 b).2.2.2,(De b).2),0):=by simp_all[aC,Q!]
end Go.S

end
section
namespace Go.S
theorem ko {n:Int} {g:B8} {l:List Sg}(h:dO n g l=true):0<=n/\n<=1000/\g.length=32/\l.length<=64:=by
 grind[ij,qg]
theorem amN {n:Int} {g:B8} {l:List Sg}(h:dO n g l=true):bQ (hB n g l)/\small (hB n g l):=by
 grind[ă,bQ,small]
end Go.S

end
section
namespace Go.S
def ik(n:Int)(g:B8)(l:List Sg):B8×Int:=if dO n g l then(lB 3 (hB n g l),0) else([],1)
def lC(docs:List B8)(l:List aT):B8×Int:=
 if gC docs l then(lB 3 (hB docs.length (root (leaves docs)) (cL docs l)),0) else([],7)
def Od(d:List cb)(ts:List B8):List Pf:=ts.map (jO d)
def qj(d:List cb)(ts:List B8)(k:Nat):List Pf:=(ts.take k).map (jO d)
def Mf(d:List cb)(ts:List B8):Prop :=bh d/\aY d=true/\ts.length<=1000/\∀t∈ts,isTerm t=true
def VM(l:List aT)(ts:List B8):List (List Pf):=l.map fun s=>Od s.2.2 ts
def lD(l:List aT)(ts:List B8)(k:Nat):List (List Pf):=VM (l.take k) ts
def gx(docs:List B8)(l:List aT)(q:List cv):B8×Int:=
 if gC docs l=false then([],7) else if bL q=false then([],1)
 else nG docs.length (root (leaves docs)) (cL docs l) (VM l (aA q))
end Go.S

end
section
namespace Go.S
theorem VN(l:List B8):(leaves l).length=l.length:=by simp [leaves]
theorem ahI {v:Int}(h:v<16384):(num v).length<=2:=by
 grind[num,pH]
theorem ahJ {l:List Int}(h:bF l=true):(zN l).length<=2*l.length+2:=by
 have hl:=mT h
 have q:∀k,k<=l.length->((List.range k).flatMap (fun i=>num (l.getD i 0-fo l i-1))).length<=2*k:=by
  intro k;induction k with
  |zero=>simp
  |succ k ih=>
   intro hk;have h1:=PC (õ h (k:=k) w!);have h2:=(iI l k).1 ((jA l).1 h k w!);have h3:=ahI (v:=l.getD k 0-fo l k-1) w!;rw [List.range_succ,List.flatMap_append,K!];simp only [List.flatMap_cons,List.flatMap_nil,F?];omega
 have :=q l.length (S! _);have h3:=ahI (v:=(l.length:Int)) w!;simp only [zN,gY,K!];omega
theorem adr {d:List cb}(h:aY d=true)(t:B8):bF (pc d t)=true :=by
 unfold pc;split
 . rename_i h1;have hb:=Jy h1;simp_all[wi,bp]
 . rfl
theorem avG {d:List cb}(h:aY d=true) {i:Nat}(hi:i<=d.length):fX (bf (kR d i)).1.1 (bf (kR d i)).1.2.1 (bf (kR d i)).1.2.2=true :=by
 rcases Fa h (k:=i) with q|q
 . have e:kR d i=ra (if i=0 then [] else fh d (i-1)) (if i<d.length then fh d i else []) (A8 (if i=0 then [] else iZ d (i-1))):=rfl;grind[agK]
 omega
theorem Yh {d:List cb}(h:aY d=true)(hp:d.length<=1048576)(t:B8):VH (jO d t)=true :=by
 obtain⟨f1,f2,f3⟩:=VD (t:=t) h;have hlen:(leaves (gh d)).length=d.length+1:=by rw [VN,f3]
 refine PW.2 ⟨L3 f1 (by grind[jO]),avG h w!,?_,Yc _ _ _ rfl (rU _),?_⟩
 . have :=ahg (l:=leaves (gh d)) (i:=bp d t+1) (t:=21) f1 w! w!;grind[jO]
 grind[jO,adr,ahJ,mT]
theorem ahK {d:List cb}(h:aY d=true)(hp:d.length<=1048576)(ts:List B8):∀p∈Od d ts,VH p=true :=by
 intro p zA;obtain⟨t,_,rfl⟩:=List.mem_map.1 zA;grind[Yh]
theorem PY {docs:List B8} {l:List aT}(h:gC docs l=true):∀s∈l,aY s.2.2=true/\s.2.2.length<=1048576/\bh s.2.2:=by
 intro s hs;have R:=RI.of (tg.1 h).1;obtain⟨h1,h2,_⟩:=R.seg s hs;refine⟨?_,h2.1,h2⟩;have :ec s.1 s.2.1 s.2.2=true :=h1;simp [ec,Bool.and_eq_true] at this;grind
theorem ahL {docs:List B8} {l:List aT}(h:gC docs l=true) {ts:List B8}(ht:ts.length<=16):∀x∈VM l ts,(x.length:Int)<=16/\∀p∈x,VH p=true :=by
 intro x hx;obtain⟨s,hs,rfl⟩:=List.mem_map.1 hx;grind[PY,Od,ahK]
end Go.S

end
section
namespace Go.S
def hx(l:List rA):Vi:=(bV (eG l).1 (eG l).2).1
theorem avH {n:Int} {g:B8} {l:List Sg}(h:¬(hW n g l).2=0):ik n g l=([],1)/\(hW n g l).2=1:=by
 grind[dO,JC,X7,ik]
theorem amO {n:Int} {g:B8} {l:List Sg}(h:(hW n g l).2=0):ik n g l=(lB 3 (hW n g l).1,0)/\bQ (hW n g l).1:=by
 simp_all[ahb,ik,R!,amN]
theorem ahM {docs:List B8} {l:List aT}(h:¬(iK docs l).2=0):gC docs l=false :=by
 grind[Bg]
theorem Fq {docs:List B8} {l:List aT}(h:(iK docs l).2=0):gC docs l=true/\(iK docs l).1.1=(docs.length:Int)/\(iK docs l).1.2.1=root (leaves docs)/\(iK docs l).1.2.2=cL docs l:=by
 grind[gC,Bg,aha]
theorem avI {docs:List B8} {l:List aT}(h:¬(iK docs l).2=0):lC docs l=([],7):=by grind[lC,ahM]
theorem amP {docs:List B8} {l:List aT}(h:(iK docs l).2=0):ik (iK docs l).1.1 (iK docs l).1.2.1 (iK docs l).1.2.2=lC docs l:=by
 simp_all[Fq,lC,ik,R!,Ya]
theorem ID {t:B8}(h:isTerm t=true):small t:=by grind[zT,small]
theorem amQ(d:List cb)(ts:List B8)(k:Nat):(qj d ts k).length<=ts.length:=by grind[qj,List.length_take]
theorem ahN {d:List cb} {ts:List B8} {k:Nat}(h:(k:Int)<ts.length):qj d ts k++ [jO d (ts.getD (Int.toNat (k:Int)) [])]=qj d ts (k+1):=by
 grind[Int.toNat_natCast,qj,ax]
theorem amR {d:List cb} {ts:List B8} {k:Nat}(h:gP ts k)(hk:¬(k:Int)<ts.length):qj d ts k=Od d ts:=by
 grind[gP,qj,Od,List.take_length]
theorem avJ {d:List cb} {ts:List B8}(h:Mf d ts) {k:Nat}(hk:(k:Int)<ts.length):isTerm (ts.getD (Int.toNat (k:Int)) [])=true :=by
 exact h.2.2.2 _ (bA ts k [] w!)
theorem aFX(l:List aT)(ts:List B8): []=lD l ts 0:=rfl
theorem amS(l:List aT)(ts:List B8)(k:Nat):(lD l ts k).length<=l.length:=by grind[lD,VM,List.length_take]
theorem ahO {l:List aT} {ts:List B8} {k:Nat}(h:(k:Int)<l.length):lD l ts k++ [Od (l.getD (Int.toNat (k:Int)) (0,0,[])).2.2 ts]=lD l ts (k+1):=by
 grind[Int.toNat_natCast,lD,VM,ax]
theorem amT {l:List aT} {ts:List B8} {k:Nat}(h:gP l k)(hk:¬(k:Int)<l.length):lD l ts k=VM l ts:=by
 grind[gP,lD,List.take_length]
theorem PZ {docs:List B8} {l:List aT}(h:gC docs l=true):l.length<=64:=by simpa [eY] using(RI.of (tg.1 h).1).le
theorem amU {docs:List B8} {l:List aT} {q:List cv}(h:gC docs l=true)(hq:bL q=true) {k:Nat}(hk:(k:Int)<l.length):Mf (l.getD (Int.toNat (k:Int)) (0,0,[])).2.2 (aA q):=by
 obtain⟨f1,f2,f3⟩:=PY h _ (bA l k (0,0,[]) w!);exact⟨f3,f1,by grind[ow],VG hq⟩
theorem avK {docs:List B8} {l:List aT} {q:List cv}(h:¬(iK docs l).2=0):gx docs l q=([],7):=by simp_all[gx,R!,ahM]
theorem amV {docs:List B8} {l:List aT} {q:List cv}(h:(iK docs l).2=0)(hq:bL q=false):gx docs l q=([],1):=by
 simp_all[gx,Q!,Fq,R!]
theorem amW {docs:List B8} {l:List aT} {q:List cv}(h:gC docs l=true)(hq:bL q=true) {k:Nat}(h1:gP l k)(hk:¬(k:Int)<l.length):
  nG ((len docs:Nat):Int) (root (leaves docs)) (cL docs l) (lD l (aA q) k)=gx docs l q/\ti (lD l (aA q) k):=by
 rw [amT h1 hk];refine⟨by unfold gx;rw [if_neg x!,if_neg x!];rfl,?_,?_⟩
 . grind[PZ,VM]
 . intro x hx p hp;have :=(PW.1 ((ahL h (ow hq) x hx).2 p hp)).2.2.2.2;omega
end Go.S

end
section
namespace Go.S
def kx:Vi:=([xK],[(0,1,[(xK,[0])])])
def kP:List (List Pf):=VM kx.2 (aA eO)
theorem ahP:eR eO:=⟨by unfold small;decide,by unfold small;decide⟩
end Go.S

end
section
namespace Go.S
end Go.S

end
section
namespace Go.S
def tj(n:Int)(g:B8)(l:List Sg)(root:B8):Bool:=decide ((ik n g l).2=0)&&decide ((ik n g l).1=root)
def pn(a:List (List Pf))(i:Int)(t:List B8):Bool:=decide ((a.getD i.toNat []).length=t.length)
def afc(l:List Int)(a b:Int)(k:Nat):Prop :=∀j,j<k->a<=l.getD j 0/\l.getD j 0<b
def IE(l:List Int)(a b:Int):Bool:=l.all fun x=>decide (a<=x)&&decide (x<b)
theorem amX {n:Int} {g:B8} {l:List Sg} {root:B8}:(bif decide ((ik n g l).2=0) then decide ((ik n g l).1=root) else false)=tj n g l root:=by
 cases h:decide ((ik n g l).2=0)<;>simp [tj,h]
theorem ajc {l:List Int} {a b:Int} {k:Nat}(h:afc l a b k)(h1:a<=l.getD k 0)(h2:l.getD k 0<b):afc l a b (k+1):=fun j hj=>by
 by_cases CA:j=k
 . subst CA;exact⟨h1,h2⟩
 . exact h j w!
theorem akY {l:List Int} {a b:Int} {k:Nat}(h:afc l a b k)(hk:l.length<=k):IE l a b=true :=by
 simp only [IE,X!,B!,J!];intro x hx;obtain⟨j,hj,rfl⟩:=k? hx;have :=h j w!;rw [F!,D! hj] at this;exact this
theorem ak2 {l:List Int} {a b:Int} {k:Nat}(hk:k<l.length)(h:l.getD k 0<a\/b<=l.getD k 0):IE l a b=false :=by
 rw [Bool.eq_false_iff];intro hx;simp only [IE,X!,B!,J!] at hx;have :=hx l[k] (List.getElem_mem hk);rw [F!,D! hk] at h;simp only [Option.getD_some] at h;omega
theorem aBw {i n:Int}(h:mW i n):jf i n (i,n,[]):=⟨h.1,h.2.1,P? _,z!,z!⟩
theorem Mg {i n:Int} {x:Int×Int×List Bool}(hp:mW i n)(h:jf i n x)(h1:1<x.2.1):
  split x.2.1=((sp x.2.1.toNat:Nat):Int)/\1<=split x.2.1/\split x.2.1<x.2.1/\x.2.1<=1099511627776/\x.2.2.length<=1099511627776/\0<=x.1/\x.1<x.2.1:=by
 obtain⟨_,_,p3⟩:=hp;obtain⟨q1,q2,q3,_,q5⟩:=h;have e:=C0 (n:=x.2.1) w! w!;have :=ka (n:=x.2.1.toNat) w!;refine⟨e,?_,?_,?_,?_,q1,q2⟩<;>omega
theorem aBx {i n:Int} {x:Int×Int×List Bool}(hp:mW i n)(h:jf i n x)(h1:1<x.2.1)(h2:x.1<split x.2.1):jf i n (x.1,split x.2.1,x.2.2++ [false]):=by
 obtain⟨b1,b2,b3,b4,b5,_⟩:=Mg hp h h1;obtain⟨q1,q2,q3,q4,q5⟩:=h;refine⟨q1,h2,by simp only;omega,?_,by simp only [K!,W!];omega⟩;rw [q4,nF w! (by rw [<-b1];exact h2),<-b1];simp
theorem aBy {i n:Int} {x:Int×Int×List Bool}(hp:mW i n)(h:jf i n x)(h1:1<x.2.1)(h2:¬x.1<split x.2.1):jf i n (x.1-split x.2.1,x.2.1-split x.2.1,x.2.2++ [true]):=by
 obtain⟨b1,b2,b3,b4,b5,_⟩:=Mg hp h h1;obtain⟨q1,q2,q3,q4,q5⟩:=h;refine⟨by simp only;omega,by simp only;omega,by simp only;omega,?_,by simp only [K!,W!];omega⟩;rw [q4,pe w! (by rw [<-b1];exact h2),<-b1];simp
theorem sd_end {i n:Int} {x:Int×Int×List Bool}(h:jf i n x)(h1:¬1<x.2.1):x.2.2=bl i n:=by
 rw [h.2.2.2.1,kl w!];simp
theorem Mh {i n:Int}(hp:mW i n):((bl i n).length:Int)<=1099511627776:=by
 have :∀m:Nat,∀i n:Int,n.toNat=m->0<=i->i<n->((bl i n).length:Int)+1<=n:=by
  intro m;induction m using Db with
  |h0 m hm=>intro i n e h0 h1;rw [kl w!];simp;omega
  |h1 m hm ihl ihr=>
   intro i n e h0 h1;have hb:=ka hm;by_cases hi:i<((sp n.toNat:Nat):Int)
   . rw [nF w! hi];have :=ihl i ((sp n.toNat:Nat):Int) (by rw [e];simp) h0 hi;simp only [G?];rw [e] at this |-;omega
   . rw [pe w! hi];have :=ihr (i-((sp n.toNat:Nat):Int)) (n-((sp n.toNat:Nat):Int)) (by rw [e];omega) w! w!;simp only [G?];rw [e] at this |-;omega
 have :=this n.toNat i n rfl hp.1 hp.2.1;have :=hp.2.2;omega
theorem ahQ {d:B8} {i n:Int} {p:List B8}(h:¬((d.length:Int)=32/\1<=n/\n<=1099511627776/\0<=i/\i<n)): []=mV d i n p/\1=fc d i n p:=by
 have :fc d i n p=1:=by rw [fc,Q! h]
 simp [mV,this]
theorem Sm {d:B8} {i n:Int}(h:(d.length:Int)=32/\1<=n/\n<=1099511627776/\0<=i/\i<n):mW i n:=⟨h.2.2.2.1,h.2.2.2.2,h.2.2.1⟩
theorem Ě {d:B8} {i n:Int} {p:List B8}(h:(d.length:Int)=32/\1<=n/\n<=1099511627776/\0<=i/\i<n)(h2:¬((p.length:Int)=((bl i n).length:Int)/\cY p=true)): []=mV d i n p/\6=fc d i n p:=by
 have :fc d i n p=6:=by rw [fc,R! h];exact Q! h2
 simp [mV,this]
theorem avL {d:B8} {i n:Int} {p:List B8}(h:(d.length:Int)=32/\1<=n/\n<=1099511627776/\0<=i/\i<n)(h2:(p.length:Int)=((bl i n).length:Int)/\cY p=true):fc d i n p=0:=by
 rw [fc,R! h];exact R! h2
theorem Bj {d:B8} {i n:Int} {p:List B8}(h:fc d i n p=0):((d.length:Int)=32/\1<=n/\n<=1099511627776/\0<=i/\i<n)/\(p.length:Int)=((bl i n).length:Int)/\cY p=true :=by
 unfold fc at h;split at h
 . rename_i h1;split at h
   . rename_i h2;exact⟨h1,h2⟩
   . omega
 . omega
theorem aBz(d:B8)(i n:Int)(p:List B8):d=gQ d i n p 0:=by simp [gQ]
theorem ahR {d:B8} {i n:Int} {p:List B8} {k:Nat}(h:fc d i n p=0)(hk:k<p.length):
  (bif (bl i n).getD (((bl i n).length:Int)-1-(k:Int)).toNat false then bc (p.getD k []) (gQ d i n p k) else bc (gQ d i n p k) (p.getD k []))=gQ d i n p (k+1):=by
 obtain⟨_,h2,_⟩:=Bj h;have hl:p.length=(bl i n).length:=by omega
 have hz:k<(List.zip (bl i n).reverse p).length:=by rw [List.length_zip,List.length_reverse];omega
 have e:gQ d i n p (k+1)=Ri (gQ d i n p k) ((List.zip (bl i n).reverse p)[k]):=by
  unfold gQ;rw [List.take_add_one,List.getElem?_eq_getElem hz,List.foldl_append];rfl
 rw [e,List.getElem_zip,List.getElem_reverse];have e1:(((bl i n).length:Int)-1-(k:Int)).toNat=(bl i n).length-1-k:=by omega
 rw [e1,F!,D! w!,F!,D! hk];simp only [Option.getD_some,Ri];cases (bl i n)[(bl i n).length-1-k]<;>rfl
theorem amY {d:B8} {i n:Int} {p:List B8} {k:Nat}(h:fc d i n p=0)(hk:p.length<=k):gQ d i n p k=mV d i n p:=by
 obtain⟨_,h2,_⟩:=Bj h;rw [mV,R! h,ahe,Ą,gQ,l?];rw [List.length_zip,List.length_reverse];omega
def Df(n:Int)(g doc:B8)(p:List B8)(i:Int):Bool:=decide (fc (leaf doc) i n p=0)&&decide (mV (leaf doc) i n p=g)
abbrev Pg:=Int×B8×List Sg×Int×B8×List B8
def IF(root:B8)(i:Int)(p:Pg):Bool:=tj p.1 p.2.1 p.2.2.1 root&&(decide (p.2.2.2.1=i)&&Df p.1 p.2.1 p.2.2.2.2.1 p.2.2.2.2.2 i)
def gm(root:B8)(i:Int)(b:B8):B8×Int:=
 if ¬root.length=32 then([],1) else if ¬(aM b).2=0 then([],(aM b).2) else if IF root i (aM b).1 then((aM b).1.2.2.2.2.1,0) else([],6)
theorem ahS(b:B8):dz (aM b).1.2.2.2.2.2:=by
 unfold aM;split
 . exact T! _
 . split
   . exact T! _
   . show(Dd b).2.length<=_
     have h1:(Dd b).2.length<=64:=by
      simp only [Dd,jD];rw [JH];exact Md _ _ _
     omega
theorem amZ(b:B8):(aM b).1.2.2.2.2.1.length<=b.length:=by
 unfold aM;split
 . exact T! _
 . split
   . exact T! _
   . exact JG _ _ _ _
theorem VO {b:B8}(h:b.length<1099511627776):dz (aM b).1.2.2.2.2.2/\bQ (aM b).1.2.2.2.2.1:=⟨ahS b,Nat.lt_of_le_of_lt (amZ b) h⟩
theorem ahT {root:B8} {i:Int} {b:B8}(h:¬(root.length:Int)=32):gm root i b=([],1):=by rw [gm,R! w!]
theorem ahU {root:B8} {i:Int} {b:B8}(h:(root.length:Int)=32)(h2:¬(aM b).2=0):gm root i b=([],(aM b).2):=by rw [gm,Q! w!,R! h2]
theorem Sn {root:B8} {i:Int} {b:B8}(h:(root.length:Int)=32)(h2:(aM b).2=0):gm root i b=if IF root i (aM b).1 then((aM b).1.2.2.2.2.1,0) else([],6):=by rw [gm,Q! w!,Q! w!]
end Go.S

end
section
namespace Go.S
def GY:List Int:=(List.range 1000).map Int.ofNat
abbrev Kp:=Bool->Bool->Bool
def Cd:Kp:=fun x y=>x&&y
def Oe:Kp:=fun x y=>x || y
def Ce:Kp:=fun x y=>x&& !y
def xL(k:Kp)(a b:List Int):List Int:=GY.filter fun n=>k (pJ a n) (pJ b n)
def GZ(k:Kp)(a b:List Int):List Int:=xL k (tH a) (tH b)
def Dg(a b:List Int):List Int:=GZ Cd a b
def tm(a b:List Int):List Int:=GZ Oe a b
def Mi(a b:List Int):List Int:=GZ Ce a b
abbrev Pk:=List Int×List Int×List Int
def kp(k:Kp)(a b:List Int)(x:Pk):Prop :=x.2.2++xL k x.1 x.2.1=GZ k a b/\bF x.1=true/\bF x.2.1=true
def gZ(x:Pk):Nat:=x.1.length+x.2.1.length
def opL(o:Int)(a b:List Int):List Int:=if o=1 then Dg a b else if o=2 then tm a b else Mi a b
def Bk(f:B8->List Int)(s:List (List Int))(o:cv):List (List Int):=
 if o.1=0 then s++ [f o.2] else s.take (s.length-2)++ [opL o.1 (s.getD (s.length-2) []) (s.getD (s.length-1) [])]
def fy(f:B8->List Int)(l:List cv)(k:Nat):List (List Int):=(l.take k).foldl (Bk f) []
def ni(x:List B8)(t:B8):Nat:=(x.filter fun a=>Op.bytesLess a t).length
def Ag(x:List B8)(t:B8):Bool:=decide (t∈x)
def lE(t:List B8)(f:List (List Int))(s:B8):List Int:=if Ag t s then f.getD (ni t s) [] else []
def Mj(l:List cv)(t:List B8)(f:List (List Int)):List Int:=(fy (lE t f) l l.length).getD 0 []
def lN(l:List cv)(f:List (List Int)):Bool:=bL l&&(decide (f.length=(aA l).length)&&f.all bF)
def kZ(l:List cv)(f:List (List Int)):List Int×Int:=if lN l f then(Mj l (aA l) f,0) else([],1)
def vj(x:List B8):Prop :=sT x/\small x
def qk(x:List B8)(t:B8)(i j:Int):Prop :=0<=i/\i<=j/\j<=x.length/\(∀k:Nat,(k:Int)<i->Op.bytesLess (x.getD k []) t=true)/\∀k:Nat,j<=(k:Int)->k<x.length->Op.bytesLess (x.getD k []) t=false
def Fu(b:B8):Nat->Int->Int->Int->List Int->List Int×Int
 |0,a,e,_,l=>if done b a e=0 then(l,0) else([],done b a e)
 |n+1,a,e,p,l=>
  if(af b a e).1.2.2≠0 then([],(af b a e).1.2.2)
  else if 998-p<(af b a e).2 then([],2)
  else Fu b n (af b a e).1.2.1 (af b a e).1.2.2 (p+((af b a e).2+1)) (l++ [p+((af b a e).2+1)])
def Sq(b:B8):Rd×Int:=af b 0 0
def JI(b:B8):List Int×Int:=
 if(Sq b).1.2.2≠0 then([],(Sq b).1.2.2) else if 1000<(Sq b).2 then([],2) else Fu b (Sq b).2.toNat (Sq b).1.2.1 (Sq b).1.2.2 (-1) []
abbrev Pr:=Int×Int×Int×List Int
def afq(b:B8)(k:Nat)(x:Pr):Prop :=(k:Int)<=(Sq b).2/\(Sq b).1.2.2=0/\(Sq b).2<=1000/\Fu b ((Sq b).2.toNat-k) x.1 x.2.1 x.2.2.1 x.2.2.2=JI b/\ -1<=x.2.2.1/\x.2.2.1<=999/\x.2.2.2.length=k
def aBB(t:B8)(e:Int)(p2 p4 p6:B8):Bool:=decide (p2=t)&&(decide (e=0)&&decide (lB 2 p6=p4))
def aBC(t p2 p3 p6:B8):Bool:=Op.bytesLess p2 t&&((Op.bytesLess t p3 || decide (p3= []))&&decide (p6.length=0))
def ahV(p2 p3 p4:B8):B8:=leaf (ra p2 p3 p4)
def aBD(root:B8)(n:Int)(t:B8):Bool:=decide ((root.length:Int)=32)&&(decide (1<=n)&&(decide (n<=1099511627776)&&isTerm t))
def tUp(root:B8)(n:Int)(p:Pf):Bool:=fX p.2.1 p.2.2.1 p.2.2.2.1&&(decide (fc (ahV p.2.1 p.2.2.1 p.2.2.2.1) p.1 n p.2.2.2.2.1=0)&&decide (mV (ahV p.2.1 p.2.2.1 p.2.2.2.1) p.1 n p.2.2.2.2.1=root))
def as6(t:B8)(p:Pf):List Int×Int:=
 if aBB t (JI p.2.2.2.2.2).2 p.2.1 p.2.2.2.1 p.2.2.2.2.2 then((JI p.2.2.2.2.2).1,0) else if aBC t p.2.1 p.2.2.1 p.2.2.2.2.2 then([],0) else([],6)
def IG(root:B8)(n:Int)(t:B8)(p:Pf):List Int×Int:=if aBD root n t then(if tUp root n p then as6 t p else([],6)) else([],1)
def Fv(l:List (List Int))(x:List Int):List (List Int):=l++ [x]
def Ah(t:List B8)(f:List (List Int)):Prop :=vj t/\f.length=t.length/\∀x∈f,bF x=true
def qD(l:List (List Int)):Prop :=2<=l.length/\small l
def vk(o:Int)(l:List (List Int)):List (List Int):=l.take (l.length-2)++ [opL o (l.getD (l.length-2) []) (l.getD (l.length-1) [])]
def Dh(l:List cv)(t:List B8)(f:List (List Int)):Prop :=bL l=true/\small l/\Ah t f
def ob(l:List cv)(s:List (List Int))(k:Nat):Prop :=k<=l.length/\(s.length:Int)=iv l k
def Di(f:List (List Int))(k:Nat):Prop :=k<=f.length/\∀x∈f.take k,bF x=true
def Mk(t:B8)(p5:List B8)(p6:B8):Prop :=small t/\dz p5/\bQ p6/\small p6
def acr(root:B8)(n:Int)(t:B8)(p:Pf)(k:Nat):Prop :=k<=2/\aBD root n t=true/\tUp root n p=true/\(1<=k->aBB t (JI p.2.2.2.2.2).2 p.2.1 p.2.2.2.1 p.2.2.2.2.2=false)/\(2<=k->aBC t p.2.1 p.2.2.1 p.2.2.2.2.2=false)
theorem VP:∀ {l m:List Int},l.Pairwise (· < ·)->m.Pairwise (· < ·)->(∀x,x∈l↔x∈m)->l=m
 | [],[],_,_,_=>rfl
 | [],y::m,_,_,h=>by have :=(h y).2 (H! ..);cases this
 |x::l,[],_,_,h=>by have :=(h x).1 (H! ..);cases this
 |x::l,y::m,hl,hm,h=>by
  rw [g?] at hl hm
  have hxy:x=y:=by
   rcases N!.1 ((h x).1 (H! ..)) with e|e
   . exact e
   . rcases N!.1 ((h y).2 (H! ..)) with e'|e'
     . exact e'.symm
     . have :=hl.1 y e';have :=hm.1 x e;omega
  subst hxy;refine congrArg (x:: ·) (VP hl.2 hm.2 fun z=>⟨fun hz=> ?_,fun hz=> ?_⟩)
  . rcases N!.1 ((h z).1 (E! _ hz)) with e|e
    . exact absurd (hl.1 z hz) w!
    . exact e
  . rcases N!.1 ((h z).2 (E! _ hz)) with e|e
    . exact absurd (hm.1 z hz) w!
    . exact e
theorem Yi {n:Int}:n∈GY↔0<=n/\n<1000:=by
 simp only [GY,b?,s?];constructor
 . rintro⟨a,h,rfl⟩;exact⟨z!,by simpa using(show(a:Int)<1000 by omega)⟩
 . rintro⟨h1,h2⟩;exact⟨n.toNat,w!,by simp;omega⟩
theorem Yj:GY.Pairwise (· < ·):=by
 rw [GY,List.pairwise_map];exact List.pairwise_lt_range.imp fun h=>by simpa using h
theorem xM {k:Kp} {a b:List Int} {x:Int}:x∈xL k a b↔(0<=x/\x<1000)/\k (pJ a x) (pJ b x)=true :=by
 rw [xL,List.mem_filter,Yi]
theorem Dj(k:Kp)(a b:List Int):(xL k a b).Pairwise (· < ·):=Yj.filter _
theorem Yk(k:Kp)(a b:List Int):(xL k a b).length<=1000:=by
 refine h? (List.length_filter_le _ _) ?_;simp [GY]
theorem Ai {x:Int} {l:List Int}(h:bF (x::l)=true):(0<=x/\x<1000)/\bF l=true/\∀y∈l,x<y:=by
 rw [jA] at h;have h0:=(iI _ _).1 (h 0 z!)
 have hs:∀i,i<l.length->(x::l).getD i 0<l.getD i 0/\l.getD i 0<1000:=fun i hi=>by
  have :=(iI _ _).1 (h (i+1) (by simpa using hi));rw [kA] at this;simpa using this
 have hx:∀i,i<l.length->x<l.getD i 0:=by
  intro i;induction i with
  |zero=>intro hi;have :=(hs 0 hi).1;simpa using this
  |succ i ih=>
   intro hi;have h1:=(hs (i+1) hi).1;have h2:=ih w!;simp only [List.getD_cons_succ] at h1;omega
 rw [wh] at h0;simp only [List.getD_cons_zero] at h0;refine⟨⟨w!,h0.2⟩,(jA l).2 fun i hi=>(iI _ _).2 ⟨?_,(hs i hi).2⟩,fun y hy=> ?_⟩
 . cases i with
   |zero=>rw [wh];have :=hx 0 hi;omega
   |succ i=>rw [kA];have :=(hs (i+1) hi).1;simpa using this
 . obtain⟨i,hi,rfl⟩:=k? hy;have :=hx i hi;rwa [F!,D! hi] at this
def iw(r s:List Int):Bool:=bif decide ((0:Int)<(r.length:Int)) then bif decide ((s.length:Int)=(0:Int)) then true else decide (r.getD (Int.toNat (0:Int)) 0<=s.getD (Int.toNat (0:Int)) 0) else false
def Fw(r s:List Int):Int:=bif iw s r then s.getD (Int.toNat (0:Int)) 0 else bif iw r s then r.getD (Int.toNat (0:Int)) 0 else 0
def oc(c:Bool)(r:List Int):List Int:=bif c then r.drop (Int.toNat (1:Int)) else r
def Ml(r r':List Int)(c:Bool)(n:Int):Prop :=(∀x,x∈r↔x∈r'\/(c=true/\x=n))/\(∀x∈r',n<x)/\bF r'=true
theorem P0 {r s:List Int}(hr:bF r=true)(hs:bF s=true)(dU:0<r.length\/0<s.length):
  (0<=Fw r s/\Fw r s<1000)/\Ml r (oc (iw r s) r) (iw r s) (Fw r s)/\Ml s (oc (iw s r) s) (iw s r) (Fw r s)/\(oc (iw r s) r).length+(oc (iw s r) s).length<r.length+s.length:=by
 cases r with
 |nil=>
  cases s with
  |nil=>simp at dU
  |cons y s=>
   obtain⟨h1,h2,h3⟩:=Ai hs;simp only [iw,Fw,oc,Ml,List.length_nil,G?];simp;exact⟨h1,⟨by simp [bF],fun x=>or_comm,h3,h2⟩⟩
 |cons x r=>
  obtain⟨g1,g2,g3⟩:=Ai hr;cases s with
  |nil=>
   simp only [iw,Fw,oc,Ml,List.length_nil,G?];simp;exact⟨g1,⟨fun x=>or_comm,g3,g2⟩,by simp [bF]⟩
  |cons y s=>
   obtain⟨h1,h2,h3⟩:=Ai hs
   have e1:iw (x::r) (y::s)=decide (x<=y):=by
    simp only [iw,G?];rw [H? w!,L? w!];rfl
   have e2:iw (y::s) (x::r)=decide (y<=x):=by
    simp only [iw,G?];rw [H? w!,L? w!];rfl
   simp only [Fw,e1,e2,oc,Ml];have iU:∀z∈s,y<z:=h3;have glt:∀z∈r,x<z:=g3;rcases Int.lt_trichotomy x y with h|h|h
   . rw [H? (show x<=y by omega),L? (show ¬y<=x by omega)];simp;refine⟨g1,⟨fun z=>or_comm,g3,g2⟩,⟨h,fun z hz=> ?_⟩,hs⟩;have :=h3 z hz;omega
   . subst h;rw [H? (show x<=x by omega)];simp;exact⟨g1,⟨fun z=>or_comm,g3,g2⟩,⟨fun z=>or_comm,h3,h2⟩,w!⟩
   . rw [L? (show ¬x<=y by omega),H? (show y<=x by omega)];simp;refine⟨h1,⟨⟨h,fun z hz=> ?_⟩,hr⟩,⟨fun z=>or_comm,h3,h2⟩⟩;have :=g3 z hz;omega
theorem am0 {k:Kp}(hk:k false false=false) {r s:List Int}(hr:bF r=true)(hs:bF s=true)(dU:0<r.length\/0<s.length):
  xL k r s=(if k (iw r s) (iw s r)=true then [Fw r s] else [])++xL k (oc (iw r s) r) (oc (iw s r) s):=by
 obtain⟨h0,⟨a1,a2,_⟩,⟨b1,b2,_⟩,_⟩:=P0 hr hs dU;generalize Fw r s=n at *;generalize oc (iw r s) r=r' at *;generalize oc (iw s r) s=s' at *;generalize iw r s=A at *;generalize iw s r=B at *
 have hn:pJ r' n=false/\pJ s' n=false :=by
  simp only [pJ,j?];exact⟨fun h=>by have :=a2 n h;omega,fun h=>by have :=b2 n h;omega⟩
 have hrn:∀x,pJ r x=(pJ r' x || (A&&decide (x=n))):=fun x=>by
  rw [Bool.eq_iff_iff];simp only [pJ,J!,a1 x,e?,B!]
 have hsn:∀x,pJ s x=(pJ s' x || (B&&decide (x=n))):=fun x=>by
  rw [Bool.eq_iff_iff];simp only [pJ,J!,b1 x,e?,B!]
 refine VP (Dj k r s) ?_ fun x=> ?_
 . split
   . rw [List.singleton_append];refine g?.2 ⟨fun y hy=> ?_,Dj k r' s'⟩;rw [xM] at hy;cases h1:pJ r' y with
     |true=>exact a2 y (by simpa [pJ] using h1)
     |false=>
      cases h2:pJ s' y with
      |true=>exact b2 y (by simpa [pJ] using h2)
      |false=>rw [h1,h2,hk] at hy;cases hy.2
   . rw [d?];exact Dj k r' s'
 . rw [xM,hrn,hsn,G!,xM];by_cases hx:x=n
   . subst hx;rw [hn.1,hn.2,hk];cases Tu:k A B<;>simp [Tu,h0]
   . have e:decide (x=n)=false :=L? hx;rw [e,Bool.and_false,Bool.and_false,Bool.or_false,Bool.or_false];split<;>simp [hx]
theorem P1(l:List Int):bF (tH l)=true :=by
 unfold tH;split
 . assumption
 . rfl
theorem Bl(l:List Int):(bif !bF l then [] else l)=tH l:=by
 simp only [tH];cases bF l<;>rfl
theorem ahW(k:Kp)(a b:List Int):kp k a b (tH a,tH b,[]):=⟨d? _,P1 a,P1 b⟩
theorem Sr {k:Kp}(hk:k false false=false) {a b:List Int} {x:Pk}(h:kp k a b x)(hc:(bif decide ((0:Int)<(x.1.length:Int)) then true else decide ((0:Int)<(x.2.1.length:Int)))=false):x.2.2=GZ k a b:=by
 obtain⟨h1,_,_⟩:=h
 have e1:x.1= []:=by
  cases h:x.1 with
  |nil=>rfl
  |cons y l=>rw [h] at hc;simp at hc
 have e2:x.2.1= []:=by
  cases h:x.2.1 with
  |nil=>rfl
  |cons y l=>rw [e1,h] at hc;simp at hc
 rw [<-h1,e1,e2]
 have :xL k [] []= []:=List.eq_nil_iff_forall_not_mem.2 fun y hy=>by
  rw [xM] at hy;have :pJ [] y=false :=rfl;rw [this,hk] at hy;cases hy.2
 rw [this,F?]
theorem lq {r s:List Int}(h:iw r s=true):(0:Int)<(r.length:Int)/\(1:Int)<=(r.length:Int):=by
 unfold iw at h;cases hr:decide ((0:Int)<(r.length:Int)) with
 |true=>have :=V? hr;exact⟨this,w!⟩
 |false=>rw [hr] at h;cases h
theorem Yl {k:Kp}(hk:k false false=false) {a b:List Int} {x:Pk}(h:kp k a b x)(hc:(bif decide ((0:Int)<(x.1.length:Int)) then true else decide ((0:Int)<(x.2.1.length:Int)))=true):
  x.2.2.length<=1000/\(k (iw x.1 x.2.1) (iw x.2.1 x.1)=true->kp k a b (oc (iw x.1 x.2.1) x.1,oc (iw x.2.1 x.1) x.2.1,x.2.2++ [Fw x.1 x.2.1]))/\(k (iw x.1 x.2.1) (iw x.2.1 x.1)=false->kp k a b (oc (iw x.1 x.2.1) x.1,oc (iw x.2.1 x.1) x.2.1,x.2.2))/\
  gZ (oc (iw x.1 x.2.1) x.1,oc (iw x.2.1 x.1) x.2.1,x.2.2++ [Fw x.1 x.2.1])<gZ x/\gZ (oc (iw x.1 x.2.1) x.1,oc (iw x.2.1 x.1) x.2.1,x.2.2)<gZ x:=by
 obtain⟨h1,h2,h3⟩:=h
 have dU:0<x.1.length\/0<x.2.1.length:=by
  cases hr:decide ((0:Int)<(x.1.length:Int)) with
  |true=>have :=V? hr;omega
  |false=>rw [hr] at hc;have :=V? hc;omega
 obtain⟨_,⟨_,_,f1⟩,⟨_,_,f2⟩,f3⟩:=P0 h2 h3 dU;have hl:=am0 hk h2 h3 dU;rw [hl] at h1;have hlen:=congrArg List.length h1;rw [K!] at hlen;have :=Yk k (tH a) (tH b);refine⟨?_,fun hq=>⟨?_,f1,f2⟩,fun hq=>⟨?_,f1,f2⟩,f3,f3⟩
 . unfold GZ at hlen;omega
 . rw [R! hq] at h1;simpa using h1
 . rw [hq] at h1;simpa using h1
end Go.S

end
section
namespace Go.S
theorem Bm {x:List B8} {t:B8} {i j:Int}(hp:vj x)(h:qk x t i j)(rL:i<j):
  (i+j)%18446744073709551616/2^Int.toNat 1=(i+j)/2/\0<=i/\i<=(i+j)/2/\(i+j)/2<j/\j<=x.length/\(x.length:Int)<=1099511627776:=by
 have h2:=hp.2;unfold small at h2;obtain⟨h3,h4,h5,_⟩:=h;have e:(i+j)%18446744073709551616=i+j:=Int.emod_eq_of_lt w! w!;have e2:(2:Int)^Int.toNat 1=2:=by decide
 rw [e,e2];refine⟨rfl,h3,?_,?_,h5,w!⟩<;>omega
theorem Ym {x:List B8}(h:sT x) {a b:Nat}(ku:a<b)(hb:b<x.length):Op.bytesLess (x.getD a []) (x.getD b [])=true :=by
 rw [F!,D! w!,F!,D! hb];exact List.pairwise_iff_getElem.1 h a b w! hb ku
theorem avM {x:List B8} {t:B8} {i j m:Int}(hp:vj x)(h:qk x t i j)(h1:i<=m)(h2:m<j)(hl:Op.bytesLess (x.getD m.toNat []) t=true):qk x t (m+1) j:=by
 obtain⟨h3,h4,h5,h6,h7⟩:=h;refine⟨w!,w!,h5,fun k hk=> ?_,h7⟩;by_cases Up:k=m.toNat
 . rw [Up];exact hl
 . exact lx _ _ _ (Ym hp.1 (show k<m.toNat by omega) w!) hl
theorem avN {x:List B8} {t:B8} {i j m:Int}(hp:vj x)(h:qk x t i j)(h1:i<=m)(h2:m<j)(hl:Op.bytesLess (x.getD m.toNat []) t=false):qk x t i m:=by
 obtain⟨h3,h4,h5,h6,h7⟩:=h;refine⟨h3,h1,w!,h6,fun k hk hk2=> ?_⟩;by_cases Up:k=m.toNat
 . rw [Up];exact hl
 . rw [Bool.eq_false_iff];intro hb;have :=lx _ _ _ (Ym hp.1 (show m.toNat<k by omega) hk2) hb;rw [hl] at this;cases this
theorem ahX {x:List B8} {t:B8} {i j m:Int}(hp:vj x)(h:qk x t i j)(h1:i<=m)(h2:m<j):
  qk x t (bif Op.bytesLess (x.getD m.toNat []) t then m+1 else i) (bif Op.bytesLess (x.getD m.toNat []) t then j else m)/\
  ((bif Op.bytesLess (x.getD m.toNat []) t then j else m)-(bif Op.bytesLess (x.getD m.toNat []) t then m+1 else i)).toNat<(j-i).toNat:=by
 cases hl:Op.bytesLess (x.getD m.toNat []) t with
 |true=>exact⟨avM hp h h1 h2 hl,by simp only [I!];omega⟩
 |false=>exact⟨avN hp h h1 h2 hl,by simp only [L!];omega⟩
theorem am1 {x:List B8} {t:B8} {i j:Int}(h:qk x t i j)(rL:¬i<j):i=(ni x t:Int):=by
 obtain⟨h3,h4,h5,h6,h7⟩:=h;have hj:j=i:=by omega
 subst hj
 have e:x.filter (fun a=>Op.bytesLess a t)=x.take j.toNat:=by
  conv=>lhs;rw [<-Z? j.toNat x]
  rw [List.filter_append]
  have e1:(x.take j.toNat).filter (fun a=>Op.bytesLess a t)=x.take j.toNat:=List.filter_eq_self.2 fun a ha=>by
   obtain⟨k,hk,rfl⟩:=k? ha;rw [T?] at hk;have :=h6 k w!;rw [F!,D! w!] at this;rw [List.getElem_take];exact this
  have e2:(x.drop j.toNat).filter (fun a=>Op.bytesLess a t)= []:=List.filter_eq_nil_iff.2 fun a ha=>by
   obtain⟨k,hk,rfl⟩:=k? ha;rw [D?] at hk;have :=h7 (j.toNat+k) w! w!;rw [F!,D! w!] at this;rw [List.getElem_drop,Bool.not_eq_true];exact this
  rw [e1,e2,F?]
 rw [ni,e,T?];omega
theorem am2 {x:List B8} {t:B8} {i j:Int}(hp:vj x)(h:qk x t i j)(rL:¬i<j):
  (bif decide (i<(x.length:Int)) then bif decide (x.getD i.toNat []=t) then true else bif false then false else false else false)=Ag x t:=by
 obtain⟨h3,h4,h5,h6,h7⟩:=h;have hj:j=i:=by omega
 subst hj;rw [Ag,Bool.eq_iff_iff];have e:∀a b:Bool,(bif a then bif b then true else bif false then false else false else false)=true↔a=true/\b=true :=by decide
 rw [e,J!,J!,J!];constructor
 . rintro⟨g1,g2⟩;rw [<-g2];exact bA x j.toNat _ w!
 . intro hm;obtain⟨k,hk,rfl⟩:=k? hm;have hg:x.getD k []=x[k]:=by rw [F!,D! hk];rfl
   have hkj:j<=k:=by
    apply Q?;intro hn;have :=h6 k w!;rw [hg,cJ] at this;cases this
   refine⟨w!,?_⟩;by_cases aBE:k=j.toNat
   . rw [<-aBE];exact hg
   . have h1:=Ym hp.1 (show j.toNat<k by omega) hk;have h2:=h7 j.toNat w! w!;rw [hg] at h1;rw [h1] at h2;cases h2
theorem am4 {x:List B8} {t:B8}(h:Ag x t=true):ni x t<x.length:=by
 have hm:t∈x:=V? h;rw [ni,<-Nat.not_le];intro hle;have :=List.filter_eq_self.1 (List.Sublist.eq_of_length_le List.filter_sublist hle) t hm;rw [cJ] at this;cases this
theorem Yn {t:List B8} {f:List (List Int)} {s:B8}(hp:Ah t f)(h:(!Ag t s)=false):(0<=(ni t s:Int)/\(ni t s:Int)<(f.length:Int))/\small (f.getD (Int.toNat (ni t s:Int)) [])/\f.getD (Int.toNat (ni t s:Int)) []=lE t f s:=by
 have hs:Ag t s=true :=by simpa using h
 have hc:=am4 hs;obtain⟨_,h2,h3⟩:=hp;rw [Int.toNat_natCast];refine⟨⟨w!,w!⟩,?_,by rw [lE,if_pos hs]⟩;have :=mT (h3 _ (bA f (ni t s) [] w!));unfold small;omega
theorem am5 {t:List B8} {f:List (List Int)} {s:B8}(h:(!Ag t s)=true): []=lE t f s:=by
 have hs:¬Ag t s=true :=by simpa using h
 rw [lE,Q! hs]
theorem ě(f:B8->List Int)(l:List cv): []=fy f l 0:=by simp [fy]
theorem Mm {f:B8->List Int} {l:List cv} {k:Nat}(hk:k<l.length):fy f l (k+1)=Bk f (fy f l k) (l.getD k (0,[])):=by
 rw [fy,ax l k (0,[]) hk,List.foldl_append];rfl
theorem ahY {o:Int} {s:List (List Int)}(h:2<=s.length):(vk o s).length=s.length-1:=by
 rw [vk,K!,T?];simp;omega
theorem VQ {f:B8->List Int} {l:List cv} {k:Nat}(hk:(k:Int)<l.length)(h:(iM l k).1=0):Fv (fy f l k) (f (iM l k).2)=fy f l (k+1):=by
 rw [Mm w!];show _=Bk f _ (iM l k);rw [Bk,R! h];rfl
theorem JJ {f:B8->List Int} {l:List cv} {k:Nat} {o:Int}(hk:(k:Int)<l.length)(h:(iM l k).1=o)(ho:o≠0):vk o (fy f l k)=fy f l (k+1):=by
 rw [Mm w!];show _=Bk f _ (iM l k);rw [Bk,Q! (by rw [<-h] at ho;exact ho),<-h];rfl
theorem aBF {l:List cv}(h:bL l=true) {k:Nat}(hk:(k:Int)<l.length):th l k=true :=by
 simp only [bL,B!,X!,s?] at h;exact h.1 k w!
theorem Ss {l:List cv}(h:bL l=true) {k:Nat}(hk:(k:Int)<l.length):0<=(iM l k).1/\(iM l k).1<=3/\((iM l k).1≠0->2<=iv l k):=by
 have :=aBF h hk;unfold th at this;split at this
 . exact⟨w!,w!,fun h=>absurd (by assumption) h⟩
 . simp only [B!,J!] at this;exact⟨w!,w!,fun _=>this.2.2⟩
theorem Ĝ(l:List cv)(k:Nat):iv l k<=k:=by
 have :=vg l k;unfold iv;omega
theorem aBG(l:List cv):ob l [] 0:=⟨T! _,by simp [iv,nW]⟩
theorem JK {l:List cv} {t:List B8} {f s:List (List Int)} {k:Nat}(hp:Dh l t f)(h:ob l s k)(hk:(k:Int)<l.length)(ho:(iM l k).1≠0):qD s:=by
 have :=(Ss hp.1 hk).2.2 ho;have h1:=h.2;have h2:=Ĝ l k;have h3:=hp.2.1;unfold small at h3;refine⟨w!,by unfold small;omega⟩
theorem ads {l:List cv} {t:List B8} {f s:List (List Int)} {k:Nat}(hp:Dh l t f)(h:ob l s k):small s:=by
 have h1:=h.2;have h2:=Ĝ l k;have h3:=hp.2.1;have h4:=h.1;unfold small at *;omega
theorem ahZ {l:List cv} {g:B8->List Int} {k:Nat}(h:ob l (fy g l k) k)(hk:(k:Int)<l.length)(ho:(iM l k).1=0):ob l (fy g l (k+1)) (k+1):=by
 refine⟨w!,?_⟩;rw [<-VQ hk ho,Fv,K!,VE ho,<-h.2];simp
theorem Mn {l:List cv} {t:List B8} {f:List (List Int)} {g:B8->List Int} {k:Nat}(hp:Dh l t f)(h:ob l (fy g l k) k)(hk:(k:Int)<l.length) {o:Int}(ho:(iM l k).1=o)(h0:o≠0):ob l (fy g l (k+1)) (k+1):=by
 have h2:=(JK hp h hk (by rw [ho];exact h0)).1;refine⟨w!,?_⟩;rw [<-JJ hk ho h0,ahY h2,JF (by rw [ho];exact h0),<-h.2];omega
theorem ĝ {l:List cv} {t:List B8} {f s:List (List Int)} {k:Nat}(hp:Dh l t f)(h:ob l s k)(hk:¬(k:Int)<l.length):0<s.length/\k=l.length:=by
 have e:k=l.length:=by have :=h.1;omega
 have h1:=hp.1;simp only [bL,B!,J!] at h1;have h2:=h.2;rw [e,h1.2.1] at h2;exact⟨w!,e⟩
theorem P2 {l:List cv}(h:small l):vj (aA l):=by
 refine⟨kO _,?_⟩;have h1:=qd (nP l)
 have h2:(nP l).length<=l.length:=by
  rw [nP,bO,List.length_map];exact h? (List.length_filter_le _ _) z!
 unfold small at *;unfold aA;omega
theorem G1 {l:List cv} {f:List (List Int)}(h:lN l f=false): []=(kZ l f).1/\1=(kZ l f).2:=by
 rw [kZ,h];exact⟨rfl,rfl⟩
theorem Ğ {l:List cv} {f:List (List Int)}(h:lN l f=true):Mj l (aA l) f=(kZ l f).1/\0=(kZ l f).2:=by
 rw [kZ,h];exact⟨rfl,rfl⟩
theorem ah0 {f:List (List Int)} {k:Nat}(h:Di f k)(hk:(k:Int)<f.length)(h1:bF (f.getD k [])=true):Di f (k+1):=by
 refine⟨w!,fun x hx=> ?_⟩;rw [ax f k [] w!,G!,p?] at hx;rcases hx with hx|rfl
 . exact h.2 x hx
 . exact h1
theorem Su {f:List (List Int)} {k:Nat}(h:Di f k)(hk:¬(k:Int)<f.length):f.all bF=true :=by
 have e:k=f.length:=by have :=h.1;omega
 have :=h.2;rw [e,List.take_length] at this;exact X!.2 this
theorem ğ {f:List (List Int)} {k:Nat}(hk:(k:Int)<f.length)(h1:bF (f.getD k [])=false):f.all bF=false :=by
 rw [Bool.eq_false_iff];intro h;rw [X!.1 h _ (bA f k [] w!)] at h1;cases h1
theorem adB(b:B8)(a e:Int):0<=(af b a e).2/\(af b a e).2<=4611686018427387904:=by
 unfold af;split
 . exact⟨P? _,z!⟩
 . split
   . exact⟨P? _,z!⟩
   . rename_i h1 _
     have hp:dy b a:=by
      unfold bU at h1;unfold dy;by_cases he:e=0/\inside b a=false
      . rw [R! he] at h1;simp at h1
      . rw [Q! he] at h1;have h2:e=0:=by simpa using h1
        have h3:inside b a=true :=by simpa [h2] using he
        simp only [inside,B!,J!] at h3;exact h3
     have :=Xk hp;exact⟨this.1,this.2.1⟩
theorem aFZ {b:B8}(h1:(Sq b).1.2.2=0)(h2:¬1000<(Sq b).2):afq b 0 ((Sq b).1.2.1,(Sq b).1.2.2,-1,[]):=by
 have :=(adB b 0 0).1;refine⟨this,h1,w!,?_,z!,z!,rfl⟩;rw [JI,Q! (by simpa using h1),Q! h2];rfl
theorem auN {b:B8}(h1:¬(Sq b).1.2.2=0): []=(JI b).1/\(Sq b).1.2.2=(JI b).2:=by
 rw [JI,R! h1];exact⟨rfl,rfl⟩
theorem aul {b:B8}(h1:(Sq b).1.2.2=0)(h2:1000<(Sq b).2): []=(JI b).1/\2=(JI b).2:=by
 rw [JI,Q! (by simpa using h1),R! h2];exact⟨rfl,rfl⟩
theorem auc {b:B8} {k:Nat} {x:Pr}(h:afq b k x)(hk:(k:Int)<(Sq b).2):JI b=
  if(af b x.1 x.2.1).1.2.2≠0 then([],(af b x.1 x.2.1).1.2.2) else if 998-x.2.2.1<(af b x.1 x.2.1).2 then([],2)
  else Fu b ((Sq b).2.toNat-(k+1)) (af b x.1 x.2.1).1.2.1 (af b x.1 x.2.1).1.2.2 (x.2.2.1+((af b x.1 x.2.1).2+1)) (x.2.2.2++ [x.2.2.1+((af b x.1 x.2.1).2+1)]):=by
 have h4:=h.2.2.2.1;have e:(Sq b).2.toNat-k=((Sq b).2.toNat-(k+1))+1:=by omega
 rw [e,Fu] at h4;exact h4.symm
theorem auO {b:B8} {k:Nat} {x:Pr}(h:afq b k x)(hk:(k:Int)<(Sq b).2)(h1:¬(af b x.1 x.2.1).1.2.2=0): []=(JI b).1/\(af b x.1 x.2.1).1.2.2=(JI b).2:=by
 rw [auc h hk,R! h1];exact⟨rfl,rfl⟩
theorem auP {b:B8} {k:Nat} {x:Pr}(h:afq b k x)(hk:(k:Int)<(Sq b).2)(h1:(af b x.1 x.2.1).1.2.2=0)(h2:998-x.2.2.1<(af b x.1 x.2.1).2): []=(JI b).1/\2=(JI b).2:=by
 rw [auc h hk,Q! (by simpa using h1),R! h2];exact⟨rfl,rfl⟩
theorem aBR {b:B8} {k:Nat} {x:Pr}(h:afq b k x)(hk:(k:Int)<(Sq b).2)(h1:(af b x.1 x.2.1).1.2.2=0)(h2:¬998-x.2.2.1<(af b x.1 x.2.1).2):
  afq b (k+1) ((af b x.1 x.2.1).1.2.1,(af b x.1 x.2.1).1.2.2,x.2.2.1+((af b x.1 x.2.1).2+1),x.2.2.2++ [x.2.2.1+((af b x.1 x.2.1).2+1)]):=by
 have hg:=auc h hk;rw [Q! (by simpa using h1),Q! h2] at hg;have hn:=(adB b x.1 x.2.1).1;obtain⟨_,g2,g3,_,g5,g6,g7⟩:=h;refine⟨w!,g2,g3,hg.symm,by simp only;omega,by simp only;omega,by simp [g7]⟩
theorem ak3 {b:B8} {k:Nat} {x:Pr}(h:afq b k x)(hk:¬(k:Int)<(Sq b).2):JI b=if done b x.1 x.2.1=0 then(x.2.2.2,0) else([],done b x.1 x.2.1):=by
 have h4:=h.2.2.2.1;have e:(Sq b).2.toNat-k=0:=by have :=h.1;omega
 rw [e,Fu] at h4;exact h4.symm
theorem auR {root:B8} {n:Int} {t:B8}(p:Pf)(h:aBD root n t=false): []=(IG root n t p).1/\1=(IG root n t p).2:=by
 rw [IG,h];exact⟨rfl,rfl⟩
theorem aue {root:B8} {n:Int} {t:B8} {p:Pf}(h:aBD root n t=true)(h2:tUp root n p=false): []=(IG root n t p).1/\6=(IG root n t p).2:=by
 rw [IG,h,h2];exact⟨rfl,rfl⟩
theorem auf {root:B8} {n:Int} {t:B8} {p:Pf}(h:aBD root n t=true)(h2:tUp root n p=true):IG root n t p=as6 t p:=by
 rw [IG,h,h2];rfl
theorem aEF(a b:B8):(!(Op.bytesLess a b || decide (a=b)))=Op.bytesLess b a:=by
 rcases jM a b with h|h|h
 . rw [h,ou h];rfl
 . subst h;rw [cJ];simp
 . have :a≠b:=fun e=>by rw [e,cJ] at h;cases h
   rw [h,ou h,L? this];rfl
theorem ak4 {root:B8} {n:Int} {t:B8}(h:(root.length:Int)=32/\¬n<1/\¬1099511627776<n/\isTerm t=true):aBD root n t=true :=by
 simp only [aBD,B!,J!];exact⟨h.1,w!,w!,h.2.2.2⟩
theorem auS {root:B8} {n:Int} {t:B8}(h:¬(root.length:Int)=32\/n<1\/1099511627776<n\/isTerm t=false):aBD root n t=false :=by
 rw [Bool.eq_false_iff];simp only [aBD,Ne,B!,J!];rintro⟨h1,h2,h3,h4⟩;rw [h4] at h;simp at h;omega
theorem anh {a b c:B8}(h:rb a b c=0):fX a b c=true/\ke a b c=ra a b c:=by
 unfold rb at h;split at h
 . rename_i q;exact⟨q,by rw [ke,R! q]⟩
 . cases h
theorem aBS {a b c:B8}(h:¬rb a b c=0):fX a b c=false :=by
 unfold rb at h;split at h
 . exact absurd rfl h
 . rename_i q;simpa using q
theorem aup {a b c:B8}(h:rb a b c=0):bQ (ke a b c):=by
 obtain⟨h1,h2⟩:=anh h;rw [h2];simp only [fX,Bool.and_eq_true,decide_eq_true_eq] at h1;have q1:=eN a.length;have q2:=eN b.length;unfold bQ ra text;simp only [List.length_append];omega
theorem aEG {root:B8} {n:Int} {p:Pf}(h:rb p.2.1 p.2.2.1 p.2.2.2.1=0)(h1:fc (leaf (ke p.2.1 p.2.2.1 p.2.2.2.1)) p.1 n p.2.2.2.2.1=0/\mV (leaf (ke p.2.1 p.2.2.1 p.2.2.2.1)) p.1 n p.2.2.2.2.1=root):tUp root n p=true :=by
 obtain⟨g1,g2⟩:=anh h;rw [g2] at h1;simp only [tUp,ahV,g1,h1,decide_true,Bool.and_self]
theorem auU {root:B8} {n:Int} {p:Pf}(h:¬rb p.2.1 p.2.2.1 p.2.2.2.1=0):tUp root n p=false :=by
 simp only [tUp,aBS h,Bool.false_and]
theorem auW {root:B8} {n:Int} {p:Pf}(h:rb p.2.1 p.2.2.1 p.2.2.2.1=0)(h1:¬fc (leaf (ke p.2.1 p.2.2.1 p.2.2.2.1)) p.1 n p.2.2.2.2.1=0\/¬mV (leaf (ke p.2.1 p.2.2.1 p.2.2.2.1)) p.1 n p.2.2.2.2.1=root):tUp root n p=false :=by
 obtain⟨g1,g2⟩:=anh h;rw [g2] at h1;simp only [tUp,ahV,g1,Bool.true_and];rcases h1 with h1|h1<;>simp [h1]
theorem aEH {root:B8} {n:Int} {t:B8} {p:Pf}(h1:aBD root n t=true)(h2:tUp root n p=true):acr root n t p 0:=⟨w!,h1,h2,w!,w!⟩
theorem aEI {root:B8} {n:Int} {t:B8} {p:Pf} {k:Nat}(h:acr root n t p k)(hk:(k:Int)=0)(h1:aBB t (JI p.2.2.2.2.2).2 p.2.1 p.2.2.2.1 p.2.2.2.2.2=false):acr root n t p (k+1):=
 ⟨w!,h.2.1,h.2.2.1,fun _=>h1,w!⟩
theorem aEJ {root:B8} {n:Int} {t:B8} {p:Pf} {k:Nat}(h:acr root n t p k)(hk:(k:Int)=1)(h1:aBC t p.2.1 p.2.2.1 p.2.2.2.2.2=false):acr root n t p (k+1):=
 ⟨w!,h.2.1,h.2.2.1,fun _=>h.2.2.2.1 w!,fun _=>h1⟩
theorem auX {root:B8} {n:Int} {t:B8} {p:Pf} {k:Nat}(h:acr root n t p k)(h1:aBB t (JI p.2.2.2.2.2).2 p.2.1 p.2.2.2.1 p.2.2.2.2.2=true):(JI p.2.2.2.2.2).1=(IG root n t p).1/\0=(IG root n t p).2:=by
 rw [auf h.2.1 h.2.2.1,as6,h1];exact⟨rfl,rfl⟩
theorem auZ {root:B8} {n:Int} {t:B8} {p:Pf} {k:Nat}(h:acr root n t p k)(hk:(k:Int)=1)(h1:aBC t p.2.1 p.2.2.1 p.2.2.2.2.2=true): []=(IG root n t p).1/\0=(IG root n t p).2:=by
 rw [auf h.2.1 h.2.2.1,as6,h.2.2.2.1 w!,h1];exact⟨rfl,rfl⟩
theorem au0 {root:B8} {n:Int} {t:B8} {p:Pf} {k:Nat}(h:acr root n t p k)(hk:¬(k:Int)<((2:Nat):Int)): []=(IG root n t p).1/\6=(IG root n t p).2:=by
 rw [auf h.2.1 h.2.2.1,as6,h.2.2.2.1 w!,h.2.2.2.2 w!];exact⟨rfl,rfl⟩
end Go.S

end
section
namespace Go.S
open Go.Vg (CF Z bN)
def P3(a:List (List Pf))(i j:Int):Pf:=pfD (iO a i.toNat) j.toNat
def wA(g:Sg)(w:B8)(a:List (List Pf))(i j:Int):List Int×Int:=IG g.2.2.2 g.2.2.1 w (P3 a i j)
def rC(g:Sg)(w:B8)(a:List (List Pf))(i j:Int):Bool:=decide ((wA g w a i j).2=0)&&IE (wA g w a i j).1 g.1 g.2.1
def Mo(w:B8)(a:List (List Pf))(i j:Int):Prop :=(0<=i/\i<a.length)/\(0<=j/\j<(iO a i.toNat).length)/\Mk w (P3 a i j).2.2.2.2.1 (P3 a i j).2.2.2.2.2
def P4(j:Int)(q n:Nat)(l:List Int):Prop :=q=j.toNat/\q<n/\small l
def P5(l m:List Int):List Int:=l++m
def Mp(g:Sg)(w:B8)(a:List (List Pf))(i j:Int)(l:List Int):List Int:=if rC g w a i j then P5 l (wA g w a i j).1 else l
def ah1(root:B8)(n:Int)(g:B8)(l:List Sg):CF:=fun z=>(True, .bool (tj n g l root),z)
def Ġ(a:List (List Pf))(i:Int)(t:List B8):CF:=fun z=>(0<=i/\i<(a.length:Int), .bool (pn a i t),z)
def Aj(e0 ei0:Nat)(g:Sg)(w:B8)(a:List (List Pf))(i j:Int):CF:=fun z=>match z with
 | .g e ei l=>(e=e0/\ei=ei0/\Mo w a i j/\P4 j j.toNat l.length (l.getD j.toNat []), .bool (rC g w a i j), .g e ei (l.set j.toNat (Mp g w a i j (l.getD j.toNat []))))
 |z=>(False, .bool false,z)
def G2(l:List Sg)(i:Nat):Sg:=l.getD i (0,0,0,[])
def Mq(e0 ei0:Nat)(s:List Sg)(a:List (List Pf))(t:List B8)(i k:Nat):List CF:=
 Ġ a i t::(List.range k).map fun(j:Nat)=>Aj e0 ei0 (G2 s i) (t.getD j []) a i j
def conds(e0 ei0:Nat)(root:B8)(n:Int)(g:B8)(s:List Sg)(a:List (List Pf))(t:List B8):Nat->List CF
 |0=> [ah1 root n g s]
 |i+1=>conds e0 ei0 root n g s a t i++Mq e0 ei0 s a t i t.length
def mq(e0 ei0:Nat)(root:B8)(n:Int)(g:B8)(s:List Sg)(a:List (List Pf))(t:List B8)(i k:Nat):List CF:=
 conds e0 ei0 root n g s a t i++Mq e0 ei0 s a t i k
def xN(s:List Sg)(a:List (List Pf))(t:List B8)(i k:Nat):Bool:=(List.range k).all fun(j:Nat)=>rC (G2 s i) (t.getD j []) a i j
def Dk(s:List Sg)(a:List (List Pf))(t:List B8)(i:Nat):Bool:=(List.range i).all fun(i:Nat)=>pn a i t&&xN s a t i t.length
def vn(s:List Sg)(a:List (List Pf))(t:List B8)(j:Nat):Nat->List Int
 |0=> []
 |i+1=>P5 (vn s a t j i) (wA (G2 s i) (t.getD j []) a i j).1
def pL(s:List Sg)(a:List (List Pf))(t:List B8)(i k:Nat):List (List Int):=(List.range t.length).map fun(j:Nat)=>vn s a t j (if j<k then i+1 else i)
def ux(s:List Sg)(a:List (List Pf))(t:List B8)(i:Nat):List (List Int):=(List.range t.length).map fun(j:Nat)=>vn s a t j i
def IH(root:B8)(a:Int×B8×List Sg×List (List Pf))(t:List B8):Bool:=tj a.1 a.2.1 a.2.2.1 root&&Dk a.2.2.1 a.2.2.2 t a.2.2.1.length
def ep(root:B8)(l:List cv)(b:B8):List Int×Int:=
 if(bif !decide ((root.length:Int)=32) then true else !bL l) then([],1) else if(ba b).2≠0 then([],(ba b).2)
 else if IH root (ba b).1 (aA l) then kZ l (ux (ba b).1.2.2.1 (ba b).1.2.2.2 (aA l) (ba b).1.2.2.1.length) else([],6)
def ġ(b:B8)(k:Nat):Prop :=k<=(ba b).1.2.2.1.length/\(ba b).2=0
def Sv(b:B8)(t:List B8)(k j:Nat):Prop :=k<(ba b).1.2.2.1.length/\j<=t.length/\(ba b).2=0
theorem Cf:∀(l m:List CF) (z:Z),((bN (l++m) z).1↔(bN l z).1/\((bN l z).2.1=true->(bN m (bN l z).2.2).1))/\(bN (l++m) z).2.1=((bN l z).2.1&&(bN m (bN l z).2.2).2.1)/\((bN l z).2.1=true->(bN (l++m) z).2.2=(bN m (bN l z).2.2).2.2)
 | [],m,z=>by simp [bN]
 |F::l,m,z=>by
  obtain⟨h1,h2,h3⟩:=Cf l m (F z).2.2;simp only [o?,bN];cases hb:Vg.bv (F z).2.1 with
  |true=>simp only [I!,h1,h2,true_imp_iff];exact⟨by simp only [and_assoc],trivial,h3⟩
  |false=>simp
structure po (l:List CF) (z z':Z) (o:Bool):Prop where
 pre:(bN l z).1
 ok:(bN l z).2.1=o
 to:o=true->(bN l z).2.2=z'
theorem po.snoc {l m:List CF} {z z1 z2:Z} {o1 o2:Bool}(h:po l z z1 o1)(g:o1=true->po m z1 z2 o2):po (l++m) z z2 (o1&&o2):=by
 obtain⟨h1,h2,h3⟩:=Cf l m z;cases o1 with
 |false=>exact⟨h1.2 ⟨h.pre,fun q=>by rw [h.ok] at q;cases q⟩,by rw [h2,h.ok];rfl,nofun⟩
 |true=>
  have e:=h.to rfl;obtain⟨g1,g2,g3⟩:=g rfl;rw [e] at h1 h2 h3;exact⟨h1.2 ⟨h.pre,fun _=>g1⟩,by rw [h2,h.ok,g2],fun q=>by rw [h3 h.ok];exact g3 (by simpa using q)⟩
theorem po.one {F:CF} {z:Z} {b:Bool}(h:(F z).1)(h1:(F z).2.1= .bool b):po [F] z (F z).2.2 b:=by
 refine⟨⟨h,by rw [h1];rfl,fun _=>trivial⟩,?_,fun q=> ?_⟩
 . simp only [bN,h1];cases b<;>rfl
 . subst q;simp only [bN,h1];rfl
theorem am6(s:List Sg)(a:List (List Pf))(t:List B8)(i:Nat):pL s a t i 0=ux s a t i:=by
 unfold pL ux;exact List.map_congr_left fun j _=>by simp
theorem adt(s:List Sg)(a:List (List Pf))(t:List B8)(i:Nat):pL s a t i t.length=ux s a t (i+1):=by
 unfold pL ux;exact List.map_congr_left fun j hj=>by rw [if_pos (List.mem_range.1 hj)]
theorem Bn(s:List Sg)(a:List (List Pf))(t:List B8)(i k:Nat):(pL s a t i k).length=t.length:=by simp [pL]
theorem VR {s:List Sg} {a:List (List Pf)} {t:List B8} {i k:Nat}(hk:k<t.length):(pL s a t i k).getD k []=vn s a t k i:=by
 rw [F!,pL,E?,List.getElem?_range hk];simp
theorem adu {s:List Sg} {a:List (List Pf)} {t:List B8} {i k:Nat}(hk:k<t.length):(pL s a t i k).set k (vn s a t k (i+1))=pL s a t i (k+1):=by
 apply List.ext_getElem?;intro j;rw [List.getElem?_set,Bn];by_cases hj:j<t.length
 . by_cases hkj:k=j
   . subst hkj;rw [R! rfl,R! hk,pL,E?,List.getElem?_range hk];simp
   . rw [Q! hkj,pL,pL,E?,E?,List.getElem?_range hj]
     have e:(if j<k then i+1 else i)=if j<k+1 then i+1 else i:=by
      by_cases h:j<k
      . rw [R! h,R! w!]
      . rw [Q! h,Q! w!]
     simp only [Option.map_some,e]
 . have :(pL s a t i (k+1))[j]? =none:=List.getElem?_eq_none (by rw [Bn];omega);have h2:(pL s a t i k)[j]? =none:=List.getElem?_eq_none (by rw [Bn];omega);rw [this];split
   . rename_i hkj;omega
   . exact h2
theorem II(b:B8):∀(n:Nat) (a e p:Int) (l:List Int),(Fu b n a e p l).1.length<=l.length+n
 |0,a,e,p,l=>by
  unfold Fu;split
  . simp
  . simp
 |n+1,a,e,p,l=>by
  unfold Fu;split
  . simp
  . split
    . simp
    . have :=II b n (af b a e).1.2.1 (af b a e).1.2.2 (p+((af b a e).2+1)) (l++ [p+((af b a e).2+1)]);rw [K!,W!] at this;omega
theorem VS(b:B8):(JI b).1.length<=1000:=by
 unfold JI;split
 . simp
 . split
   . simp
   . have :=II b (Sq b).2.toNat (Sq b).1.2.1 (Sq b).1.2.2 (-1) [];simp only [List.length_nil] at this;omega
theorem P6(root:B8)(n:Int)(t:B8)(p:Pf):(IG root n t p).1.length<=1000:=by
 unfold IG;split
 . split
   . unfold as6;split
     . exact VS _
     . split<;>simp
   . simp
 . simp
theorem Mr(s:List Sg)(a:List (List Pf))(t:List B8)(j:Nat):∀i,(vn s a t j i).length<=1000*i
 |0=>by simp [vn]
 |i+1=>by
  have h1:=Mr s a t j i;have h2:=P6 (G2 s i).2.2.2 (G2 s i).2.2.1 (t.getD j []) (P3 a i j);rw [vn,P5,K!,wA];omega
def Sw(s:List Sg)(a:List (List Pf))(t:List B8):Prop :=s.length=a.length/\s.length<=64/\t.length<=1099511627776/\(∀w∈t,small w)/\∀x∈a,∀p∈x,dz p.2.2.2.2.1/\bQ p.2.2.2.2.2/\small p.2.2.2.2.2
theorem ah2 {s:List Sg} {a:List (List Pf)} {t:List B8}(hp:Sw s a t) {i k:Nat}(hi:i<s.length)(hm:pn a i t=true)(hk:k<t.length):Mo (t.getD k []) a i k:=by
 obtain⟨h1,h2,h3,h4,h5⟩:=hp;have hm:(a.getD i []).length=t.length:=by simpa [pn] using hm
 have hia:i<a.length:=by omega
 have e1:((i:Int)).toNat=i:=by simp
 have e2:((k:Int)).toNat=k:=by simp
 have hx:=bA a i [] hia
 have hpf:P3 a i k∈a.getD i []:=by
  unfold P3 pfD iO;rw [e1,e2];exact bA _ k VC w!
 obtain⟨q1,q2,q3⟩:=h5 _ hx _ hpf;refine⟨⟨w!,w!⟩,⟨w!,?_⟩,h4 _ (bA t k [] hk),q1,q2,q3⟩;unfold iO;rw [e1];omega
theorem adv {s:List Sg} {a:List (List Pf)} {t:List B8} {i k:Nat}(h:rC (G2 s i) (t.getD k []) a i k=true):Mp (G2 s i) (t.getD k []) a i k (vn s a t k i)=vn s a t k (i+1):=by
 rw [Mp,R! h];rfl
theorem yg {α:Type}(f:Nat->α)(k:Nat):(List.range (k+1)).map f=(List.range k).map f++ [f k]:=by
 rw [List.range_succ,u?];rfl
theorem as7 {e0 ei0:Nat} {s:List Sg} {a:List (List Pf)} {t:List B8}(hp:Sw s a t) {i:Nat}(hi:i<s.length)(hm:pn a i t=true):∀k,k<=t.length->
  po ((List.range k).map fun(j:Nat)=>Aj e0 ei0 (G2 s i) (t.getD j []) a i j) (.g e0 ei0 (pL s a t i 0)) (.g e0 ei0 (pL s a t i k)) (xN s a t i k)
 |0,_=>⟨trivial,rfl,fun _=>rfl⟩
 |k+1,hk=>by
  rw [yg]
  have e:xN s a t i (k+1)=(xN s a t i k&&rC (G2 s i) (t.getD k []) a i k):=by
   unfold xN;rw [List.range_succ,List.all_append];simp
  rw [e];refine(as7 hp hi hm k w!).snoc fun _=> ?_;have tB:k<t.length:=by omega
  have e2:((k:Int)).toNat=k:=by simp
  have hlen:=Mr s a t k i
  have h:=po.one (F:=Aj e0 ei0 (G2 s i) (t.getD k []) a i k) (z:= .g e0 ei0 (pL s a t i k)) (b:=rC (G2 s i) (t.getD k []) a i k)
   ⟨rfl,rfl,ah2 hp hi hm tB,by rw [e2,VR tB,Bn];exact⟨e2.symm,tB,by have :=hp.2.1;unfold small;omega⟩⟩ rfl
  refine⟨h.pre,h.ok,fun q=> ?_⟩;rw [h.to q];simp only [Aj,e2];rw [VR tB,adv q,adu tB]
theorem as8 {e0 ei0:Nat} {root:B8} {n:Int} {g:B8} {s:List Sg} {a:List (List Pf)} {t:List B8}(hp:Sw s a t):∀i,i<=s.length->
  po (conds e0 ei0 root n g s a t i) (.g e0 ei0 (ux s a t 0)) (.g e0 ei0 (ux s a t i)) (tj n g s root&&Dk s a t i)
 |0,_=>by
  have :=po.one (F:=ah1 root n g s) (z:= .g e0 ei0 (ux s a t 0)) (b:=tj n g s root) trivial rfl;have e:(tj n g s root&&Dk s a t 0)=tj n g s root:=by simp [Dk]
  rw [e];exact this
 |i+1,hi=>by
  have e:Dk s a t (i+1)=(Dk s a t i&&(pn a i t&&xN s a t i t.length)):=by
   unfold Dk;rw [List.range_succ,List.all_append];simp
  rw [e,<-Bool.and_assoc];refine(as8 hp i w!).snoc fun _=> ?_;have h1:=po.one (F:=Ġ a i t) (z:= .g e0 ei0 (ux s a t i)) (b:=pn a i t) (by have :=hp.1;exact⟨w!,w!⟩) rfl
  have h2:=h1.snoc (m:=(List.range t.length).map fun(j:Nat)=>Aj e0 ei0 (G2 s i) (t.getD j []) a i j) (z2:= .g e0 ei0 (ux s a t (i+1))) (o2:=xN s a t i t.length) fun hm=>by
   have :=as7 (e0:=e0) (ei0:=ei0) hp (show i<s.length by omega) hm t.length (S! _);rw [am6,adt] at this;exact this
  exact h2
theorem am7(s:List Sg)(a:List (List Pf))(t:List B8):ux s a t 0=List.replicate t.length []:=by
 rw [List.eq_replicate_iff];refine⟨by simp [ux],fun x hx=> ?_⟩;obtain⟨j,_,rfl⟩:=b?.1 hx;rfl
theorem Ģ {b:B8} {l:List cv}(hb:b.length<1099511627776)(hl:eR l)(h:(ba b).2=0):Sw (ba b).1.2.2.1 (ba b).1.2.2.2 (aA l):=by
 have hq:∀(k:Nat) (a e:Int),(ri b a e k).2.length=k/\∀x∈(ri b a e k).2,∀p∈x,p.2.2.2.2.1.length<=64/\p.2.2.2.2.2.length<=b.length:=by
  intro k a e;induction k with
  |zero=>exact⟨rfl,nofun⟩
  |succ k ih=>
   refine⟨by simp [ri,ih.1],fun x hx=> ?_⟩;simp only [ri,G!,p?] at hx;rcases hx with hx|rfl
   . exact ih.2 x hx
   . have hpf:∀(m:Nat) (a e:Int),∀p∈(Cc b a e m).2,p.2.2.2.2.1.length<=64/\p.2.2.2.2.2.length<=b.length:=by
      intro m a e;induction m with
      |zero=>exact nofun
      |succ m ih=>
       intro p hp;simp only [Cc,G!,p?] at hp;rcases hp with hp|rfl
       . exact ih p hp
       . refine⟨?_,JG _ _ _ _⟩;simp only [gw,q3,jD];rw [JH];exact Md _ _ _
     exact hpf _ _ _
 have h1:(aA l).length<=1099511627776:=(P2 hl.1).2
 have h2:∀w∈aA l,small w:=fun w hw=>by
  have :=(ie (nP l) w).1 hw;simp only [nP,bO,b?,List.mem_filter] at this;obtain⟨o,⟨ho,_⟩,rfl⟩:=this;exact hl.2 o (List.mem_of_mem_take ho)
 have TG:ba b=(((aH b).2.1,(aH b).2.2.1,(aH b).2.2.2,(gR b (aN b)).2),0):=by
  by_cases h3:eZ b 1=0
  . by_cases h4:done b (gR b (aN b)).1.1 (gR b (aN b)).1.2=0
    . exact as5 h3 rfl h4
    . rw [ahE h3 rfl h4] at h;exact absurd h h4
  . rw [as4 h3] at h;exact absurd h h3
 rw [TG];have :=hq (aN b) (aH b).1.1 (aH b).1.2;refine⟨this.1.symm,Yf b,h1,h2,fun x hx p hp=> ?_⟩;have q:=this.2 x hx p hp;refine⟨by unfold dz;omega,by unfold bQ;omega,by unfold small;omega⟩
theorem Ms(e0 ei0:Nat)(s:List Sg)(a:List (List Pf))(t:List B8)(i k:Nat):(Mq e0 ei0 s a t i k).length=k+1:=by simp [Mq]
theorem Dl {e0 ei0:Nat} {root:B8} {n:Int} {g:B8} {s:List Sg} {a:List (List Pf)} {t:List B8}:∀i,(conds e0 ei0 root n g s a t i).length=1+i*(t.length+1)
 |0=>by simp [conds]
 |i+1=>by rw [conds,K!,Dl i,Ms,Nat.succ_mul];omega
theorem Sx {e0 ei0:Nat} {root:B8} {n:Int} {g:B8} {s:List Sg} {a:List (List Pf)} {t:List B8}(i k:Nat):(mq e0 ei0 root n g s a t i k).length=1+i*(t.length+1)+(k+1):=by
 rw [mq,K!,Dl,Ms]
theorem Of {e0 ei0:Nat} {root:B8} {n:Int} {g:B8} {s:List Sg} {a:List (List Pf)} {t:List B8}(i k:Nat):
  mq e0 ei0 root n g s a t i k++ [Aj e0 ei0 (G2 s i) (t.getD k []) a i k]=mq e0 ei0 root n g s a t i (k+1):=by
 unfold mq Mq;rw [yg,List.append_assoc];rfl
theorem ģ {b:B8} {l:List cv}(hb:b.length<1099511627776)(hl:eR l)(h:(ba b).2=0):(ba b).1.2.2.1.length<=64:=(Ģ hb hl h).2.1
theorem Ĥ {b:B8} {l:List cv}(hb:b.length<1099511627776)(hl:eR l)(h:(ba b).2=0)(hq:bL l=true) {i:Nat}(hi:i<=(ba b).1.2.2.1.length):i*((aA l).length+1)<=1088:=by
 have h1:=ģ hb hl h;have h2:=ow hq;exact h? (Nat.mul_le_mul (show i<=64 by omega) (show(aA l).length+1<=17 by omega)) (by decide)
theorem G3 {root:B8} {l:List cv}(h:(root.length:Int)=32/\bL l=true):¬(bif !decide ((root.length:Int)=32) then true else !bL l)=true :=by
 rw [H? h.1,h.2];simp
theorem ah3 {root:B8} {l:List cv}(h:¬(root.length:Int)=32\/bL l=false):(bif !decide ((root.length:Int)=32) then true else !bL l)=true :=by
 rcases h with h|h
 . rw [L? h];rfl
 . rw [h];cases decide ((root.length:Int)=32)<;>rfl
theorem ĥ {root:B8} {l:List cv} {b:B8}(h:(bif !decide ((root.length:Int)=32) then true else !bL l)=true): []=(ep root l b).1/\1=(ep root l b).2:=by
 rw [ep,R! h];exact⟨rfl,rfl⟩
theorem Ħ {root:B8} {l:List cv} {b:B8}(h:¬(bif !decide ((root.length:Int)=32) then true else !bL l)=true)(h1:¬(ba b).2=0): []=(ep root l b).1/\(ba b).2=(ep root l b).2:=by
 rw [ep,Q! h,R! h1];exact⟨rfl,rfl⟩
theorem Fx {e0 ei0:Nat} {root:B8} {l:List cv} {b:B8}(hb:b.length<1099511627776)(hl:eR l)(h:(ba b).2=0) {k:Nat}(hk:k=(ba b).1.2.2.1.length):
  po (conds e0 ei0 root (ba b).1.1 (ba b).1.2.1 (ba b).1.2.2.1 (ba b).1.2.2.2 (aA l) k) (.g e0 ei0 (Vg.aW.Ie (Int.toNat ((aA l).length:Int)))) (.g e0 ei0 (ux (ba b).1.2.2.1 (ba b).1.2.2.2 (aA l) (ba b).1.2.2.1.length)) (IH root (ba b).1 (aA l)):=by
 subst hk;have :=as8 (e0:=e0) (ei0:=ei0) (root:=root) (n:=(ba b).1.1) (g:=(ba b).1.2.1) (Ģ hb hl h) _ (S! _);rw [am7] at this;exact this
theorem ah4 {root:B8} {l:List cv} {b:B8} {c:List CF} {z z':Z}(h0:¬(bif !decide ((root.length:Int)=32) then true else !bL l)=true)(h:(ba b).2=0)(hr:po c z z' (IH root (ba b).1 (aA l)))(h1:¬(bif (Vg.aW.run c z).2.1 then(0:Int) else 6)=0):
  []=(ep root l b).1/\(bif (Vg.aW.run c z).2.1 then(0:Int) else 6)=(ep root l b).2:=by
 have e:=hr.ok;change (bN c z).2.1=_ at e;simp only [Vg.aW.run,e] at h1 |-;cases hc:IH root (ba b).1 (aA l) with
 |true=>rw [hc] at h1;exact absurd rfl h1
 |false=>rw [ep,Q! h0,Q! (by simpa using h),hc];exact⟨rfl,rfl⟩
theorem ħ {e0 ei0:Nat} {root:B8} {l:List cv} {b:B8} {c:List CF} {z:Z}(h0:¬(bif !decide ((root.length:Int)=32) then true else !bL l)=true)(h:(ba b).2=0)(hr:po c z (.g e0 ei0 (ux (ba b).1.2.2.1 (ba b).1.2.2.2 (aA l) (ba b).1.2.2.1.length)) (IH root (ba b).1 (aA l)))(h1:(bif (Vg.aW.run c z).2.1 then(0:Int) else 6)=0):
  kZ l (Vg.aW.rows (Vg.aW.run c z).2.2)=ep root l b:=by
 have e:=hr.ok;change (bN c z).2.1=_ at e;simp only [Vg.aW.run,e] at h1 |-;cases hc:IH root (ba b).1 (aA l) with
 |false=>rw [hc] at h1;cases h1
 |true=>
  rw [hr.to hc,ep,Q! h0,Q! (by simpa using h),R! hc];rfl
end Go.S

end
section
namespace Go.S
def yx(s:List Bool)(k:Nat):List Bool:=s.drop (s.length-k)
def Fy(i j:Int):List Bool:=bl ((strip i.toNat j.toNat).1:Int) ((strip i.toNat j.toNat).2+1:Int)
def P7(s:List Bool)(i j:Int)(k:Nat):Prop :=0<=i/\i<=j/\j<=1099511627776/\k<=s.length/\s=bl i (j+1)++yx s k
def P8(s:List Bool)(p:List B8)(k:Nat):B8×B8:=Bh (yx s k) (p.getD 0 [],p.getD 0 []) ((p.drop 1).take k)
abbrev Cl0:=Int×Int
abbrev Cl2:=Nat×Int×Int×B8×B8
abbrev Cl4:=Int×Int×Nat
def uy(i j:Int)(x:Cl0):Prop :=0<=x.1/\x.1<x.2/\x.2<=1099511627776/\strip x.1.toNat x.2.toNat=strip i.toNat j.toNat
def mX(i j:Int)(p:List B8)(x:Cl2):Prop :=P7 (Fy i j) x.2.1 x.2.2.1 x.1/\(x.2.2.2.1,x.2.2.2.2)=P8 (Fy i j) p x.1/\x.1+1<=p.length
def uz(i j:Int)(x:Cl4):Prop :=P7 (Fy i j) x.1 x.2.1 x.2.2/\(x.1%2=1\/x.1=x.2.1/\x.1≠0)
def Ak(m n:Int)(p:List B8):Prop :=0<=m/\m<=n/\n<=1099511627776/\dz p
abbrev Stp:=Int×B8×List Sg×Int×B8×List Sg×List B8
def Al(root:B8)(s:Stp):Bool:=tj s.1 s.2.1 s.2.2.1 root&&(decide (jc s.1 s.2.2.2.1 s.2.1 s.2.2.2.2.1 s.2.2.2.2.2.2=0)&&decide ((ik s.2.2.2.1 s.2.2.2.2.1 s.2.2.2.2.2.1).2=0))
def il(root b:B8):B8×Int×Int:=
 if ¬root.length=32 then([],0,1) else if ¬(aC b).2=0 then([],0,(aC b).2)
 else if Al root (aC b).1 then((ik (aC b).1.2.2.2.1 (aC b).1.2.2.2.2.1 (aC b).1.2.2.2.2.2.1).1,(aC b).1.2.2.2.1,0) else([],0,6)
theorem ah5(s:List Bool):yx s 0= []:=by simp [yx]
theorem ah6(s:List Bool):yx s s.length=s:=by simp [yx]
theorem Fz {s:List Bool} {k:Nat}(h:k<=s.length):(yx s k).length=k:=by simp [yx];omega
theorem qE(i:Int):i/2^Int.toNat 1=i/2:=by
 have e:(2:Int)^Int.toNat 1=2:=by decide
 rw [e]
theorem Mt {i j:Int}(h0:0<=i)(h1:i<=j)(h2:1<=j):bl i (j+1)=bl (i/2) (j/2+1)++(if i%2=1 then [true] else if i<j then [false] else []):=by
 have :=VA (j+1).toNat i h0 w! w!;have e:(((j+1).toNat:Nat):Int)=j+1:=by omega
 rw [e] at this;have e2:(j+1+1)/2=j/2+1:=by omega
 rw [e2] at this;rw [this,GU];have e3:(i<j+1-1)↔(i<j):=by omega
 simp only [e3]
theorem VT {s:List Bool} {i j:Int} {k:Nat} {x:Bool} {i' j':Int}(h:P7 s i j k)(hs:bl i (j+1)=bl i' (j'+1)++ [x])(h1:0<=i')(h2:i'<=j')(h3:j'<=1099511627776):P7 s i' j' (k+1)/\yx s (k+1)=x::yx s k:=by
 obtain⟨_,_,_,g4,g5⟩:=h;rw [hs,Y!] at g5;have hl:=congrArg List.length g5;simp only [K!,W!,Fz g4] at hl
 have e:yx s (k+1)= [x]++yx s k:=by
  have :yx s (k+1)=(bl i' (j'+1)++([x]++yx s k)).drop (bl i' (j'+1)).length:=by
   rw [<-g5];unfold yx;congr 1
   omega
  rw [this,List.drop_left]
 exact⟨⟨h1,h2,h3,w!,by rw [e];exact g5⟩,e⟩
theorem ah7 {s:List Bool} {i j:Int} {k:Nat} {i' j':Int}(h:P7 s i j k)(hs:bl i (j+1)=bl i' (j'+1))(h1:0<=i')(h2:i'<=j')(h3:j'<=1099511627776):P7 s i' j' k:=
 ⟨h1,h2,h3,h.2.2.2.1,by rw [<-hs];exact h.2.2.2.2⟩
theorem VU {s:List Bool} {p:List B8} {k:Nat} {x:Bool}(he:yx s (k+1)=x::yx s k)(hk:k<=s.length)(hp:k+1<p.length):P8 s p (k+1)=as1 (P8 s p k) (x,p.getD (k+1) []):=by
 unfold P8 Bh
 have e:(p.drop 1).take (k+1)=(p.drop 1).take k++ [p.getD (k+1) []]:=by
  rw [ax (p.drop 1) k [] (by rw [D?];omega)];congr 2
  rw [F!,List.getElem?_drop,F!,Nat.add_comm]
 rw [he,List.reverse_cons,e,List.zip_append (by rw [List.length_reverse,Fz hk,T?,D?];omega),List.foldl_append];rfl
theorem avQ {i j:Int} {p:List B8}(h:mn i j p):uy i j (i,j):=⟨h.1,h.2.1,by have :=h.2.2.2;simp only;omega,rfl⟩
theorem Dm {i:Int}(h:0<=i):Vg.aK i 1=i%2:=by
 have :=and_1 (j:=i.toNat);have e:((i.toNat:Nat):Int)=i:=by omega
 rw [e] at this;rw [this];omega
theorem adx {i j:Int} {x:Cl0}(h:uy i j x)(h1:x.1%2=1):uy i j (x.1/2,x.2/2):=by
 obtain⟨g1,g2,g3,g4⟩:=h;refine⟨by simp only;omega,by simp only;omega,by simp only;omega,?_⟩;rw [<-g4,L5 (i:=x.1.toNat) w!];simp only;congr 1<;>omega
theorem ah8 {i j:Int} {p:List B8} {x:Cl0}(hp:mn i j p)(h:uy i j x)(h1:¬x.1%2=1):mX i j p (0,x.1,x.2,p.getD 0 [],p.getD 0 []):=by
 obtain⟨g1,g2,g3,g4⟩:=h;rw [IB (i:=x.1.toNat) w!] at g4
 have e:Fy i j=bl x.1 (x.2+1):=by
  unfold Fy;rw [<-g4];have e1:((x.1.toNat:Nat):Int)=x.1:=by omega
  have e2:((x.2.toNat:Nat):Int)=x.2:=by omega
  simp only [e1,e2]
 refine⟨⟨g1,by simp only;omega,g3,T! _,by rw [ah5,F?,e]⟩,?_,by have :=hp.2.2.1;simp only;omega⟩;simp only [P8,ah5,Bh];rfl
theorem Yo {i j:Int}(h:1<=j):bl i (j+1)≠ []:=by
 intro e;by_cases hi:i<((sp (j+1).toNat:Nat):Int)
 . rw [nF w! hi] at e;cases e
 . rw [pe w! hi] at e;cases e
theorem am8 {i j:Int} {one two:B8} {p:List B8} {x:Cl2}(hp:mn i j p)(h:mX i j p x)(hk:p.length<=x.1+1):
  (bif (bif decide (x.2.2.1=0) then decide (x.2.2.2.1=one) else false) then decide (x.2.2.2.2=two) else false)=lR i j one two p:=by
 obtain⟨⟨g1,g2,g3,g4,g5⟩,g6,g7⟩:=h;have hl:=congrArg List.length g5;rw [K!,Fz g4] at hl;have e0:lR i j one two p=(decide (1<=p.length)&&(decide ((p.drop 1).length=(Fy i j).length)&&decide (Bh (Fy i j) (p.getD 0 [],p.getD 0 []) (p.drop 1)=(one,two)))):=rfl;rw [e0,H? hp.2.2.1];by_cases hj:x.2.2.1=0
 . have :bl x.2.1 (x.2.2.1+1)= []:=kl w!;rw [this] at hl g5;have e1:(Fy i j).length=x.1:=by simpa using hl
   have e2:yx (Fy i j) x.1=Fy i j:=by rw [<-e1];exact ah6 _
   have e3:(p.drop 1).take x.1=p.drop 1:=l? (by rw [D?];omega);rw [P8,e2,e3] at g6;rw [<-g6,e1,H? hj,H? (show(p.drop 1).length=x.1 by rw [D?];omega)];simp only [Prod.mk.injEq,I!,Bool.true_and];by_cases h1:x.2.2.2.1=one<;>by_cases h2:x.2.2.2.2=two<;>simp [h1,h2]
 . have h3:(bl x.2.1 (x.2.2.1+1)).length≠0:=fun e=>Yo w! (V! e);rw [L? hj,L? (show ¬(p.drop 1).length=(Fy i j).length by rw [D?];omega)];rfl
theorem ady {i j:Int} {one two:B8} {p:List B8} {x:Cl2}(h:mX i j p x)(hk:x.1+1<p.length)(hj:x.2.2.1=0):false=lR i j one two p:=by
 obtain⟨⟨g1,g2,g3,g4,g5⟩,g6,g7⟩:=h;have hl:=congrArg List.length g5;rw [K!,Fz g4,kl w!] at hl;have e0:lR i j one two p=(decide (1<=p.length)&&(decide ((p.drop 1).length=(Fy i j).length)&&decide (Bh (Fy i j) (p.getD 0 [],p.getD 0 []) (p.drop 1)=(one,two)))):=rfl;rw [e0,L? (show ¬(p.drop 1).length=(Fy i j).length by rw [D?];simp at hl;omega)];simp
theorem adz {i j:Int} {p:List B8} {x:Cl2}(h:mX i j p x)(hk:x.1+1<p.length)(h1:¬x.2.1%2=1)(h2:¬x.2.1=x.2.2.1):
  mX i j p (x.1+1,x.2.1/2,x.2.2.1/2,x.2.2.2.1,bc x.2.2.2.2 (p.getD (x.1+1) [])):=by
 obtain⟨g,g6,g7⟩:=h;have g1:=g.1;have g2:=g.2.1;have g3:=g.2.2.1;have hs:=Mt g1 g2 w!;rw [Q! h1,R! w!] at hs;obtain⟨q1,q2⟩:=VT g hs w! w! w!;refine⟨q1,?_,by simp only;omega⟩;rw [VU q2 g.2.2.2.1 hk,<-g6];rfl
theorem avR {i j:Int} {p:List B8} {x:Cl2}(h:mX i j p x)(hj:¬x.2.2.1=0)(h1:x.2.1%2=1\/x.2.1=x.2.2.1):uz i j (x.2.1,x.2.2.1,x.1):=
 ⟨h.1,h1.imp id fun e=>⟨e,by simp only;omega⟩⟩
theorem adA {i j:Int} {x:Cl4}(h:uz i j x)(h1:x.1%2=0)(h2:¬x.1=0):uz i j (x.1/2,x.2.1/2,x.2.2):=by
 obtain⟨g,g4⟩:=h;have g1:=g.1;have g2:=g.2.1;have g3:=g.2.2.1;have e:x.1=x.2.1:=by omega
 have hs:=Mt g1 g2 w!;rw [Q! w!,Q! w!,F?] at hs;exact⟨ah7 g hs (by simp only;omega) (by simp only;omega) (by simp only;omega),by simp only;omega⟩
theorem ah9 {i j:Int} {p:List B8} {x:Cl2} {y:Cl4}(h:mX i j p x)(hk:x.1+1<p.length)(h4:uz i j y)(hy:y.2.2=x.1)(h1:¬(y.1%2=0/\¬y.1=0)):
  mX i j p (x.1+1,y.1/2,y.2.1/2,bc (p.getD (x.1+1) []) x.2.2.2.1,bc (p.getD (x.1+1) []) x.2.2.2.2):=by
 obtain⟨g,g6,g7⟩:=h;obtain⟨f,f4⟩:=h4;rw [hy] at f;have f1:=f.1;have f2:=f.2.1;have f3:=f.2.2.1;have hs:=Mt f1 f2 w!;rw [R! w!] at hs;obtain⟨q1,q2⟩:=VT f hs w! w! w!;refine⟨q1,?_,by simp only;omega⟩;rw [VU q2 g.2.2.2.1 hk,<-g6];rfl
theorem aBH {m n:Int} {u v:B8} {p:List B8}(h:m=0):(bif decide ((p.length:Int)=0) then decide (u=sum []) else false)=accepted m n u v p:=by
 rw [accepted,R! h];have e:decide ((p.length:Int)=0)=decide (p.length=0):=by rw [Bool.eq_iff_iff];simp
 rw [e];cases decide (p.length=0)<;>rfl
theorem avS {m n:Int} {u v:B8} {p:List B8}(h:¬m=0)(h1:m=n):(bif decide ((p.length:Int)=0) then decide (u=v) else false)=accepted m n u v p:=by
 rw [accepted,Q! h,R! h1];have e:decide ((p.length:Int)=0)=decide (p.length=0):=by rw [Bool.eq_iff_iff];simp
 rw [e];cases decide (p.length=0)<;>rfl
theorem aia {m n:Int} {u v:B8} {p:List B8}(hp:Ak m n p)(h:¬m=0)(h1:¬m=n):accepted m n u v p=lR (m-1) (n-1) u v (if JE m then u::p else p):=by
 obtain⟨q1,q2,q3,_⟩:=hp;rw [accepted,Q! h,Q! h1];have e:=Oc (m-1).toNat (n-1).toNat w!;have e1:(((m-1).toNat:Nat):Int)+1=m:=by omega
 have e2:(((n-1).toNat:Nat):Int)+1=n:=by omega
 rw [e1,e2] at e;rw [lR,<-e]
theorem aBI {m n:Int} {u v:B8} {p:List B8}(hp:Ak m n p)(h:¬m=0)(h1:¬m=n)(hw:Vg.aK m (m-1)=0):lR (m-1) (n-1) u v ([u]++p)=accepted m n u v p:=by
 rw [aia hp h h1,R! (by simp only [JE,J!];exact hw)];rfl
theorem as9 {m n:Int} {u v:B8} {p:List B8}(hp:Ak m n p)(h:¬m=0)(h1:¬m=n)(hw:¬Vg.aK m (m-1)=0):lR (m-1) (n-1) u v p=accepted m n u v p:=by
 rw [aia hp h h1,Q! (by simp only [JE,J!];exact hw)]
theorem am9 {m n:Int} {u v:B8} {p:List B8}(hp:Ak m n p)(h:¬m=0)(h1:¬m=n)(hw:¬Vg.aK m (m-1)=0)(hl:(p.length:Int)=0):false=accepted m n u v p:=by
 rw [<-as9 hp h h1 hw,lR,ahf,L? (show ¬1<=p.length by omega)];rfl
theorem Ĩ {m n:Int} {p q:List B8}(hp:Ak m n p)(h:¬m=0)(h1:¬m=n)(hq:¬(q.length:Int)=0):mn (m-1) (n-1) q:=by
 obtain⟨q1,q2,q3,_⟩:=hp;refine⟨?_,?_,?_,?_⟩<;>omega
theorem ana {m n:Int} {u v:B8} {p:List B8}(h:m<0\/n<m\/1099511627776<n\/¬(u.length:Int)=32\/¬(v.length:Int)=32):1=jc m n u v p:=by
 rw [jc,R! h]
theorem Yp {m n:Int} {u v:B8} {p:List B8}(h:¬m<0/\¬n<m/\¬1099511627776<n/\(u.length:Int)=32/\(v.length:Int)=32):jc m n u v p=if cY p=true/\accepted m n u v p=true then 0 else 6:=by
 rw [jc,Q!];rintro(q|q|q|q|q)
 . exact h.1 q
 . exact h.2.1 q
 . exact h.2.2.1 q
 . exact q h.2.2.2.1
 . exact q h.2.2.2.2
theorem anb {p:List B8} {k:Nat}(hk:(k:Int)<p.length)(h:¬((p.getD k []).length:Int)=32):cY p=false :=by
 rw [Bool.eq_false_iff];intro q;have :=X!.1 q _ (bA p k [] w!);exact h (V? this)
theorem aib {p:List B8} {k:Nat}(h:iH p k)(hk:(k:Int)<p.length)(h1:((p.getD k []).length:Int)=32):iH p (k+1):=by
 refine⟨fun d hd=> ?_,w!⟩;rw [ax p k [] w!,G!,p?] at hd;rcases hd with hd|rfl
 . exact h.1 d hd
 . exact h1
theorem anc {p:List B8} {k:Nat}(h:iH p k)(hk:¬(k:Int)<p.length):cY p=true :=by
 have e:k=p.length:=by have :=h.2;omega
 have :=h.1;rw [e,List.take_length] at this;exact X!.2 fun d hd=>H? (this d hd)
theorem aic {root b:B8}(h:¬(root.length:Int)=32):il root b=([],0,1):=by rw [il,R! w!]
theorem aid {root b:B8}(h:(root.length:Int)=32)(h2:¬(aC b).2=0):il root b=([],0,(aC b).2):=by rw [il,Q! w!,R! h2]
theorem Mu {root b:B8}(h:(root.length:Int)=32)(h2:(aC b).2=0):il root b=if Al root (aC b).1 then((ik (aC b).1.2.2.2.1 (aC b).1.2.2.2.2.1 (aC b).1.2.2.2.2.2.1).1,(aC b).1.2.2.2.1,0) else([],0,6):=by
 rw [il,Q! w!,Q! w!]
theorem aie(b:B8):dz (aC b).1.2.2.2.2.2.2:=by
 unfold aC;split
 . exact T! _
 . split
   . exact T! _
   . show(De b).2.length<=_
     have h1:(De b).2.length<=64:=by
      simp only [De,jD];rw [JH];exact Md _ _ _
     omega
theorem ĩ(a b c:Bool):(bif (bif a then(bif b then(bif c then true else false) else false) else false) then(0:Int) else 6)=if a&&(b&&c) then 0 else 6:=by
 cases a<;>cases b<;>cases c<;>rfl
theorem Sy {a b c:Bool}(h:(bif (bif a then(bif b then(bif c then true else false) else false) else false) then(0:Int) else 6)=0):(a&&(b&&c))=true :=by
 rw [ĩ] at h;cases q:(a&&(b&&c)) with
 |true=>rfl
 |false=>rw [q] at h;cases h
theorem dl {p:List B8} {k:Nat}(h:(k:Int)<((p.drop (Int.toNat 1)).length:Int)):k+1<p.length:=by
 rw [D?] at h;have :Int.toNat 1=1:=rfl;omega
theorem dl' {p:List B8} {k:Nat}(h:¬(k:Int)<((p.drop (Int.toNat 1)).length:Int)):p.length<=k+1:=by
 rw [D?] at h;have :Int.toNat 1=1:=rfl;omega
theorem dgD(p:List B8)(k:Nat):(p.drop (Int.toNat 1)).getD (Int.toNat (k:Int)) []=p.getD (k+1) []:=by
 rw [Z!];show(p.drop 1).getD k []=_;rw [F!,List.getElem?_drop,F!,Nat.add_comm]
def G4(root b:B8):Bool:=decide (200<(root.length:Int)) || decide (20000<(b.length:Int))
end Go.S

end
section
namespace Go.S
def aBK:B8:= [119,97,105,110,32,104,97,121]
def ky:Vi:=([xK,aBK],[(0,2,[(xK,[0,1]),([119,97,105,110],[1])])])
abbrev ky0:(List B8×List aT)×Int:=cA (Vg.me B8) (Vg.me (Int×Int×List (B8×List Int))) [104,97,121]
theorem Mv:(bV (cA ky0.1.1 ky0.1.2 [119,97,105,110,32,104,97,121]).1.1 (cA ky0.1.1 ky0.1.2 [119,97,105,110,32,104,97,121]).1.2).1=ky:=by rfl
theorem JL:(gx ky.1 ky.2 eO).1.length<1099511627776/\0<(gx ky.1 ky.2 eO).1.length:=by decide+kernel
theorem aBL:ep (lC ky.1 ky.2).1 eO (gx ky.1 ky.2 eO).1=([0,1],0):=by decide+kernel
theorem aBM:(ep (lC ky.1 ky.2).1 eO ((gx ky.1 ky.2 eO).1.set ((gx ky.1 ky.2 eO).1.length-1) ((gx ky.1 ky.2 eO).1.getD ((gx ky.1 ky.2 eO).1.length-1) 0+1))).2≠0:=by decide+kernel
end Go.S

end
section
namespace Go.S
theorem anf(a:UInt8):UInt8.ofNat (Int.toNat (((a.toNat:Int)+1)%256))=a+1:=by
 apply UInt8.toNat.inj;rw [UInt8.toNat_add];simp only [UInt8.toNat_ofNat'];have :=a.toNat_lt;have e:(1:UInt8).toNat=1:=rfl;rw [e];omega
theorem ata {x:B8}(h:x=List.set (gx ky.1 ky.2 eO).1 (Int.toNat (((gx ky.1 ky.2 eO).1.length:Int)-1)) (UInt8.ofNat (Int.toNat (((((gx ky.1 ky.2 eO).1.getD (Int.toNat (((gx ky.1 ky.2 eO).1.length:Int)-1)) 0).toNat:Int)+1)%256)))):
  x.length<1099511627776/\(ep (lC ky.1 ky.2).1 eO x).2≠0:=by
 have e:Int.toNat (((gx ky.1 ky.2 eO).1.length:Int)-1)=(gx ky.1 ky.2 eO).1.length-1:=by omega
 rw [anf,e] at h;refine⟨by rw [h,n?];exact JL.1,?_⟩;rw [h];exact aBM
theorem ang {x:B8}(h:(ep (lC ky.1 ky.2).1 eO x).2≠0):
  (bif q9 (ep (lC ky.1 ky.2).1 eO (gx ky.1 ky.2 eO).1).1 [0,1] then bif decide ((ep (lC ky.1 ky.2).1 eO (gx ky.1 ky.2 eO).1).2=0) then !decide ((ep (lC ky.1 ky.2).1 eO x).2=0) else false else false)=true :=by
 rw [aBL];simp only [L? h];rfl
end Go.S

end
section
namespace Go.S
theorem G5 {n:Int} {g:B8} {s:List Sg} {r r':B8}(h:tj n g s r=true)(h':tj n g s r'=true):r=r':=by
 grind [tj]
theorem aif {r:B8} {l:List cv} {b:B8}(h:(ep r l b).2=0):IH r (ba b).1 (aA l)=true :=by
 unfold ep at h;split at h
 . cases h
 . split at h
   . exact absurd h (by assumption)
   . split at h
     . assumption
     . cases h
theorem aih {r r':B8} {l:List cv} {b:B8}(h:(ep r l b).2=0)(h':(ep r' l b).2=0):r=r':=by
 have c1:=aif h;have c2:=aif h';simp only [IH,B!] at c1 c2;exact G5 c1.1 c2.1
theorem aii {r:B8} {i:Int} {b:B8}(h:(gm r i b).2=0):IF r i (aM b).1=true :=by
 unfold gm at h;split at h
 . cases h
 . split at h
   . exact absurd h (by assumption)
   . split at h
     . assumption
     . cases h
theorem aij {r r':B8} {i:Int} {b:B8}(h:(gm r i b).2=0)(h':(gm r' i b).2=0):r=r':=by
 have c1:=aii h;have c2:=aii h';simp only [IF,B!] at c1 c2;exact G5 c1.1 c2.1
theorem aik {r b:B8}(h:(il r b).2.2=0):Al r (aC b).1=true :=by
 unfold il at h;split at h
 . cases h
 . split at h
   . exact absurd h (by assumption)
   . split at h
     . assumption
     . cases h
theorem ail {r r' b:B8}(h:(il r b).2.2=0)(h':(il r' b).2.2=0):r=r':=by
 have c1:=aik h;have c2:=aik h';simp only [Al,B!] at c1 c2;exact G5 c1.1 c2.1
theorem avT {r:B8} {l:List cv} {b:B8}(h:¬(ba b).2=0):¬(ep r l b).2=0:=by
 unfold ep;split
 . decide
 . exact h
theorem avU {r:B8} {i:Int} {b:B8}(h:¬(aM b).2=0):¬(gm r i b).2=0:=by
 unfold gm;split
 . decide
 . exact h
theorem avV {r b:B8}(h:¬(aC b).2=0):¬(il r b).2.2=0:=by
 unfold il;split
 . decide
 . exact h
theorem pM {root b:B8}(h:G4 root b=false):b.length<=20000:=by
 simp only [G4,c?,j?] at h;omega
end Go.S

end
section
namespace Go.S
end Go.S

end
section
namespace Go.S
end Go.S

end
section
namespace Go.S
end Go.S

end
section
namespace Go.S
end Go.S

end
section
namespace Go.S
end Go.S

end
section
namespace Go.S
end Go.S

end
section
namespace Go.S
end Go.S

end
section
namespace Go.Vg
open Go
variable [HP]
theorem Mw {P:Program} {W:World}:∀ {laid:List (String×DataW Unit)} {ps:List MemPlace} {name:String} {d:DataW Unit},DataW.LaidVars P W laid ps->(name,d)∈laid->
  ∃(g:Nat) (t:TypeId) (cs:Array Value) (fuel:Nat) (p:List MemPlace),P.globalNamed name=some g/\(P.globals[g]?).map (·.type)=some t/\W.var? P name=some cs/\DataW.trod (fun _=>()) P W 0 (fun _=>true) false fuel t cs.toList=some (d,p)
 | [],_,_,_,_,hm=>by grind
 |x::rest,ps,name,d,h,hm=>by
  obtain⟨g',t',cs,fuel,p,q,vU,ht',aBN,hd,hr,hps⟩:=h;rcases N!.1 hm with rfl|hm
  . exact⟨g',t',cs,fuel,p,vU,ht',aBN,hd⟩
  . exact Mw hr hm
theorem Mx {H:Type} {enc:TypeId×Value->H} {P:Program} {w:World} {base:Nat} {sp:Nat->Bool} {held:Bool} {fuel:Nat} {t e:TypeId} {n m:Nat} {k:IntKind} {cs:List Value} {zss:List (List Int)} {p:List MemPlace} {fs:Array Field}
  (ht:P.underlying t=some (.array n e)) (he:P.underlying e=some (.struct fs)) (RA:P.cellsOf e=m) (hct:P.cellsOf t=n*m) (hfs:fs.size=m) (hf:∀(i:Nat) (f:Field),fs[i]? =some f->f.offset=i/\P.underlying f.type=some (.int k)/\P.cellsOf f.type=1)
  (hz:∀r∈zss,r.length=m) (h:DataW.trod enc P w base sp held fuel t cs=some (.agg (zss.map fun r=> .agg (r.map fun z=> .lit (.int k z))),p)):cs.length=n*m/\zss.length=n/\
    ∀i j,i<n->j<m->cs[i*m+j]? =some (.int k ((zss.getD i []).getD j 0)):=by
 cases fuel with
 |zero=>simp [DataW.trod] at h
 |succ fuel=>
  simp only [DataW.trod,ht,RA,hct] at h;split at h
  . rename_i hl;obtain⟨xs,hm,hx⟩:=Option.map_eq_some_iff.1 h
    have hxs:xs.map (·.1)=zss.map fun r=>(DataW.agg (r.map fun z=> .lit (.int k z)):DataW H):=by
     have :=congrArg Prod.fst hx;simpa using this
    have Ja:xs.length=n:=by simpa using Lib.mapM_length hm
    have hzl:zss.length=n:=by
     have :=congrArg List.length hxs;simp at this;omega
    refine⟨hl,hzl,fun i j hi hj=> ?_⟩;obtain⟨b,hb,hfb⟩:=Lib.mapM_at hm i i (by simp [hi])
    have eu:b.1=DataW.agg ((zss.getD i []).map fun z=> .lit (.int k z)):=by
     have h2:(xs.map (·.1))[i]? =some b.1:=by simp [hb]
     rw [hxs] at h2;rw [E?,D! w!] at h2;simp at h2;rw [<-h2,F!,D! w!];rfl
    obtain⟨ys,n',_,hy,_,hyl,hyf⟩:=DataW.trod_struct he hfb
    have hyr:ys.map (·.1)=(zss.getD i []).map fun z=>(DataW.lit (.int k z):DataW H):=by
     rw [hy] at eu;simpa using eu
    have hrl:(zss.getD i []).length=m:=hz _ (by rw [F!,D! w!];exact List.getElem_mem _);have hjf:j<fs.size:=by omega
    have hfj:=hyf j fs[j] (Array.getElem?_eq_getElem hjf);obtain⟨f1,f2,f3⟩:=hf j fs[j] (Array.getElem?_eq_getElem hjf);rw [f1,f3] at hfj;have hyj:j<ys.length:=by omega
    rw [D! hyj] at hfj;obtain⟨z,hc,hzv,_⟩:=DataW.trod_int f2 hfj
    have h1:cs[i*m+j]? =some (.int k z):=by
     have :=congrArg (·[0]?) hc;simpa [hj,Nat.add_comm] using this
    have h3:(ys.map (·.1))[j]? =some (DataW.lit (.int k z)):=by rw [E?,D! hyj,hzv];rfl
    rw [hyr,E?,D! w!] at h3;simp only [Option.map_some,A!,DataW.lit.injEq,Lit.int.injEq,true_and] at h3;rw [h1,F!,D! w!];simp only [Option.getD_some,h3]
  grind
theorem Ī {P:Program} {W:World} {name:String} {g:Nat} {cs:Array Value}(hg:P.globalNamed name=some g)(h:W.var? P name=some cs)(hn:0<cs.size):g<W.heap.size:=by
 have h1:=World.var?_cell hg h 0;grind[Array.getElem?_eq_getElem,World.cell?,Array.getElem?_eq_some_iff]
def nQ(k:IntKind):(ts:List Ty)->List Int->Row ts->Prop
 | [],[],_=>True
 | .int k'::ts,z::zs,x=>k'=k/\DI.toInt k' (Row.hd (t:= .int k') (ts:=ts) x)=z/\lo k<=z/\z<=hi k/\nQ k ts zs (Row.tl x)
 |_,_,_=>False
theorem My {w:World} {A:Nat->Prop} {k:IntKind}:∀(ts:List Ty) (zs:List Int) (x:Row ts),nQ k ts zs x->br w A ts (zs.map (Value.int k)) x
 | [],[],x,_=>by rfl
 | .int k'::ts,z::zs,x,h=>by
   obtain⟨rfl,h2,h3,h4,h5⟩:=h;refine⟨_,_,rfl,?_,My ts zs _ h5⟩;simp [Rd];rw [h2];exact⟨rfl,h3,h4⟩
 | .bool::_,_,_,h=>by grind[nQ]
 | .str::_,_,_,h=>by grind[nQ]
 | .slice _::_,_,_,h=>by grind[nQ]
 | [],_::_,_,h=>by grind[nQ]
 | .int _::_,[],_,h=>by grind[nQ]
def vo(k:IntKind)(ts:List Ty):List (List Int)->List (Row ts)->Prop
 | [],[]=>True
 |zs::r,x::l=>nQ k ts zs x/\vo k ts r l
 |_,_=>False
theorem G6 {w:World} {A:Nat->Prop} {k:IntKind} {ts:List Ty}:∀(zss:List (List Int)) (l:List (Row ts)),vo k ts zss l->dc (br w A ts) (zss.flatten.map (Value.int k)) l
 | [],[],_=>by rfl
 |zs::r,x::l,h=>by
  exact⟨zs.map (Value.int k),r.flatten.map (Value.int k),z!,My ts zs x h.1,G6 r l h.2⟩
 | [],_::_,h=>by grind[vo]
 |_::_,[],h=>by grind[vo]
theorem IJ {m:Nat}:∀(zss:List (List Int)),(∀r∈zss,r.length=m)->∀q (z:Int),zss.flatten[q]? =some z->∃i j,i<zss.length/\j<m/\q=i*m+j/\(zss.getD i []).getD j 0=z
 | [],_,q,z,h=>by grind
 |r::rs,hz,q,z,h=>by
  have hr:r.length=m:=hz r z!;by_cases hq:q<m
  . refine⟨0,q,z!,hq,z!,?_⟩;grind
  . rw [List.flatten_cons,List.getElem?_append_right w!,hr] at h;obtain⟨i,j,h1,h2,h3,h4⟩:=IJ rs (fun r oH=>hz r x!) (q-m) z h;refine⟨i+1,j,x!,h2,?_,x!⟩;grind
theorem Mz {P:Program} {W:World} {name:String} {g:Nat} {t e:TypeId} {n m:Nat} {k:IntKind} {fs:Array Field} {zss:List (List Int)} {row:List Ty} {l:List (Row row)} {laid:List (String×DataW Unit)}
  (hm:laidMet P laid W) (au:(name,DataW.agg (zss.map fun r=> .agg (r.map fun z=> .lit (.int k z))))∈laid) (hg:P.globalNamed name=some g) (iv:(P.globals[g]?).map (·.type)=some t)
  (ht:P.underlying t=some (.array n e)) (he:P.underlying e=some (.struct fs)) (RA:P.cellsOf e=m) (hct:P.cellsOf t=n*m) (hfs:fs.size=m) (hf:∀(i:Nat) (f:Field),fs[i]? =some f->f.offset=i/\P.underlying f.type=some (.int k)/\P.cellsOf f.type=1)
  (hz:∀r∈zss,r.length=m) (lL:0<n*m) (hl:vo k row zss l):na W (fun b=>b<W.heap.size) g ⟨row,l⟩:=by
 obtain⟨ps,NQ,_⟩:=hm;obtain⟨g',t',cs,fuel,p,h1,h2,h3,h4⟩:=Mw NQ au;obtain rfl :=X? (hg.symm.trans h1);obtain rfl :=X? (iv.symm.trans h2);obtain⟨q1,q2,q3⟩:=Mx ht he RA hct hfs hf hz h4;have aEV:cs.size=n*m:=by omega
 refine⟨Ī hg h3 w!,zss.flatten.map (Value.int k),fun q v hq=> ?_,G6 zss l hl⟩;rw [E?] at hq;obtain⟨z,hz1,rfl⟩:=Option.map_eq_some_iff.1 hq;obtain⟨i,j,hi,hj,rfl,hv⟩:=IJ zss hz q z hz1;rw [q?,World.var?_cell hg h3,<-U?,q3 i j w! hj,hv]
theorem FA:∀zs:List Int,(zs.map fun z=> [z]).flatten=zs
 | []=>rfl
 |z::zs=>by simp only [M?,List.flatten_cons,FA zs];rfl
theorem MA {P:Program} {W:World} {name:String} {g:Nat} {t e:TypeId} {n:Nat} {k:IntKind} {zs:List Int} {row:List Ty} {l:List (Row row)} {laid:List (String×DataW Unit)}
  (hm:laidMet P laid W) (au:(name,DataW.agg (zs.map fun z=> .lit (.int k z)))∈laid) (hg:P.globalNamed name=some g) (iv:(P.globals[g]?).map (·.type)=some t)
  (ht:P.underlying t=some (.array n e)) (he:P.underlying e=some (.int k)) (RA:P.cellsOf e=1) (hct:P.cellsOf t=n) (lL:0<zs.length) (hl:vo k row (zs.map fun z=> [z]) l):na W (fun b=>b<W.heap.size) g ⟨row,l⟩:=by
 obtain⟨ps,NQ,_⟩:=hm;obtain⟨g',t',cs,fuel,p,h1,h2,h3,h4⟩:=Mw NQ au;obtain rfl :=X? (hg.symm.trans h1);obtain rfl :=X? (iv.symm.trans h2);have hc:=Lib.cells_of_tab ht he RA hct h4
 have cZ:0<cs.size:=by
  grind
 refine⟨Ī hg h3 cZ,zs.map (Value.int k),fun q v hq=> ?_,?_⟩
 . rw [q?,World.var?_cell hg h3,<-U?,hc];omega
 grind[G6,FA]
end Go.Vg

end
section
namespace Go.Proofs
open Go Go.RowKit Go.ChangeShapes Go.Vg
set_option maxHeartbeats 1000000 in
theorem Tryz.avX:Û Tryz.prog 193 194:=by
 refine⟨fun args w=>by kernel_rfl,fun w y p=> ?_⟩;go_enter Tryz.func193,Tryz.ntmps193
 go_wp2
 go_ret
 exact⟨_,rfl,rfl⟩
set_option maxHeartbeats 1000000 in
theorem Tryz.avY:Û Tryz.prog 230 231:=by
 refine⟨fun args w=>by kernel_rfl,fun w y p=> ?_⟩;go_enter Tryz.func230,Tryz.ntmps230
 go_wp2
 go_ret
 exact⟨_,rfl,rfl⟩
def Tryz.mkf(f:Nat):Option Nat:=bif Nat.beq f 193 then some 194 else bif Nat.beq f 230 then some 231 else none
theorem Tryz.QB(P:Program)(hP:P=Tryz.prog)(f g:Nat)(h:Tryz.mkf f=some g):Û P f g:=by
 subst hP;unfold Tryz.mkf at h;cases h1:Nat.beq f 193 with
 |true=>
  rw [h1] at h;cases C! h1;cases h;exact Tryz.avX
 |false=>
  cases h2:Nat.beq f 230 with
  |true=>
   rw [h1,h2] at h;cases C! h2;cases h;exact Tryz.avY
  |false=>rw [h1,h2] at h;cases h
end Go.Proofs

end
section
namespace Go.Vg
open Go.Proofs
open Go
instance :HP:=⟨fun P=>P=Tryz.prog,Tryz.mkf,Tryz.QB⟩
def eA:Vg.bY:=(.node (.node (.node (.node (.node (.node (.node .leaf 3 ⟨.int .i64,1,8, .int .i64 (0)⟩ .leaf) 4 ⟨.bool,1,1, .bool false⟩ .leaf) 5 ⟨.int .u8,1,1, .int .u8 (0)⟩ (.node (.node .leaf 9 ⟨.string,1,16, .string ⟨#[]⟩⟩ .leaf) 22 ⟨.slice 90,1,24, .slice none 0 0⟩ .leaf)) 23 ⟨.slice 5,1,24, .slice none 0 0⟩ (.node (.node (.node .leaf 26 ⟨.func #[] #[4] false,1,8, .nilFunc⟩ .leaf) 27 ⟨.slice 3,1,24, .slice none 0 0⟩ .leaf) 28 ⟨.int .i64,1,8, .int .i64 (0)⟩ (.node (.node .leaf 33 ⟨.slice 122,1,24, .slice none 0 0⟩ .leaf) 37 ⟨.slice 48,1,24, .slice none 0 0⟩ .leaf))) 39 ⟨.slice 23,1,24, .slice none 0 0⟩ (.node (.node (.node (.node .leaf 40 ⟨.slice 128,1,24, .slice none 0 0⟩ .leaf) 42 ⟨.struct #[⟨ "Docs",39,0,false,"","",0⟩,⟨ "Segs",40,1,false,"","",24⟩],2,48, .agg #[.slice none 0 0, .slice none 0 0]⟩ .leaf) 48 ⟨.struct #[⟨ "Kind",3,0,false,"","",0⟩,⟨ "I",3,1,false,"","",8⟩,⟨ "Many",3,2,false,"","",16⟩,⟨ "Doc",23,3,false,"","",24⟩],4,48, .agg #[.int .i64 (0), .int .i64 (0), .int .i64 (0), .slice none 0 0]⟩ (.node (.node .leaf 56 ⟨.slice 9,1,24, .slice none 0 0⟩ .leaf) 69 ⟨.slice 100,1,24, .slice none 0 0⟩ .leaf)) 71 ⟨.struct #[⟨ "Size",3,0,false,"","",0⟩,⟨ "Log",9,1,false,"","",8⟩,⟨ "Segs",69,2,false,"","",24⟩],3,48, .agg #[.int .i64 (0), .string ⟨#[]⟩, .slice none 0 0]⟩ (.node (.node (.node .leaf 72 ⟨.slice 101,1,24, .slice none 0 0⟩ .leaf) 74 ⟨.struct #[⟨ "Head",71,0,false,"","",0⟩,⟨ "Proofs",72,3,false,"","",48⟩],4,72, .agg #[.int .i64 (0), .string ⟨#[]⟩, .slice none 0 0, .slice none 0 0]⟩ .leaf) 78 ⟨.struct #[⟨ "Head",71,0,false,"","",0⟩,⟨ "At",3,3,false,"","",48⟩,⟨ "Doc",23,4,false,"","",56⟩,⟨ "Path",56,5,false,"","",80⟩],6,104, .agg #[.int .i64 (0), .string ⟨#[]⟩, .slice none 0 0, .int .i64 (0), .slice none 0 0, .slice none 0 0]⟩ (.node .leaf 82 ⟨.struct #[⟨ "Old",71,0,false,"","",0⟩,⟨ "New",71,3,false,"","",48⟩,⟨ "Proof",56,6,false,"","",96⟩],7,120, .agg #[.int .i64 (0), .string ⟨#[]⟩, .slice none 0 0, .int .i64 (0), .string ⟨#[]⟩, .slice none 0 0, .slice none 0 0]⟩ .leaf)))) 90 ⟨.struct #[⟨ "Kind",3,0,false,"","",0⟩,⟨ "Term",9,1,false,"","",8⟩],2,24, .agg #[.int .i64 (0), .string ⟨#[]⟩]⟩ (.node (.node (.node (.node (.node .leaf 94 ⟨.slice 27,1,24, .slice none 0 0⟩ .leaf) 96 ⟨.slice 26,1,24, .slice none 0 0⟩ .leaf) 98 ⟨.struct #[⟨ "From",3,0,false,"","",0⟩,⟨ "To",3,1,false,"","",8⟩],2,16, .agg #[.int .i64 (0), .int .i64 (0)]⟩ (.node (.node .leaf 100 ⟨.struct #[⟨ "Span",98,0,false,"","",0⟩,⟨ "Links",3,2,false,"","",16⟩,⟨ "Root",9,3,false,"","",24⟩],4,40, .agg #[.int .i64 (0), .int .i64 (0), .int .i64 (0), .string ⟨#[]⟩]⟩ .leaf) 101 ⟨.slice 106,1,24, .slice none 0 0⟩ .leaf)) 104 ⟨.struct #[⟨ "Term",9,0,false,"","",0⟩,⟨ "Next",9,1,false,"","",16⟩,⟨ "Posts",9,2,false,"","",32⟩],3,48, .agg #[.string ⟨#[]⟩, .string ⟨#[]⟩, .string ⟨#[]⟩]⟩ (.node (.node (.node .leaf 106 ⟨.struct #[⟨ "At",3,0,false,"","",0⟩,⟨ "Link",104,1,false,"","",8⟩,⟨ "Path",56,4,false,"","",56⟩,⟨ "Docs",23,5,false,"","",80⟩],6,104, .agg #[.int .i64 (0), .string ⟨#[]⟩, .string ⟨#[]⟩, .string ⟨#[]⟩, .slice none 0 0, .slice none 0 0]⟩ .leaf) 110 ⟨.slice 219,1,24, .slice none 0 0⟩ .leaf) 112 ⟨.struct #[⟨ "Size",3,0,false,"","",0⟩,⟨ "Log",9,1,false,"","",8⟩,⟨ "Segs",110,2,false,"","",24⟩],3,48, .agg #[.int .i64 (0), .string ⟨#[]⟩, .slice none 0 0]⟩ (.node .leaf 113 ⟨.slice 208,1,24, .slice none 0 0⟩ .leaf))) 115 ⟨.struct #[⟨ "Head",112,0,false,"","",0⟩,⟨ "Proofs",113,3,false,"","",48⟩],4,72, .agg #[.int .i64 (0), .string ⟨#[]⟩, .slice none 0 0, .slice none 0 0]⟩ (.node (.node (.node (.node .leaf 122 ⟨.struct #[⟨ "Kind",3,0,false,"","",0⟩,⟨ "Term",9,1,false,"","",8⟩],2,24, .agg #[.int .i64 (0), .string ⟨#[]⟩]⟩ .leaf) 123 ⟨.func #[9] #[4] false,1,8, .nilFunc⟩ .leaf) 126 ⟨.slice 228,1,24, .slice none 0 0⟩ (.node (.node .leaf 128 ⟨.struct #[⟨ "Span",98,0,false,"","",0⟩,⟨ "Dict",126,2,false,"","",16⟩],3,40, .agg #[.int .i64 (0), .int .i64 (0), .slice none 0 0]⟩ .leaf) 138 ⟨.func #[9] #[] false,1,8, .nilFunc⟩ .leaf)) 146 ⟨.struct #[⟨ "Head",112,0,false,"","",0⟩,⟨ "At",3,3,false,"","",48⟩,⟨ "Doc",23,4,false,"","",56⟩,⟨ "Path",56,5,false,"","",80⟩],6,104, .agg #[.int .i64 (0), .string ⟨#[]⟩, .slice none 0 0, .int .i64 (0), .slice none 0 0, .slice none 0 0]⟩ (.node (.node (.node .leaf 153 ⟨.struct #[⟨ "Old",112,0,false,"","",0⟩,⟨ "New",112,3,false,"","",48⟩,⟨ "Proof",56,6,false,"","",96⟩],7,120, .agg #[.int .i64 (0), .string ⟨#[]⟩, .slice none 0 0, .int .i64 (0), .string ⟨#[]⟩, .slice none 0 0, .slice none 0 0]⟩ .leaf) 157 ⟨.pointer 167,1,8, .pointer none⟩ .leaf) 165 ⟨.struct #[⟨ "B",23,0,false,"","",0⟩,⟨ "At",3,1,false,"","",24⟩,⟨ "E",28,2,false,"","",32⟩],3,40, .agg #[.slice none 0 0, .int .i64 (0), .int .i64 (0)]⟩ (.node .leaf 167 ⟨.struct #[⟨ "Reader",165,0,true,"","",0⟩],3,40, .agg #[.slice none 0 0, .int .i64 (0), .int .i64 (0)]⟩ .leaf))))) 168 ⟨.func #[] #[3] false,1,8, .nilFunc⟩ (.node (.node (.node (.node (.node (.node .leaf 177 ⟨.slice 183,1,24, .slice none 0 0⟩ .leaf) 180 ⟨.struct #[⟨ "elems",177,0,false,"","rubrick/query",0⟩,⟨ "next",3,1,false,"","rubrick/query",24⟩,⟨ "words",3,2,false,"","rubrick/query",32⟩,⟨ "ops",22,3,false,"","rubrick/query",40⟩],4,64, .agg #[.slice none 0 0, .int .i64 (0), .int .i64 (0), .slice none 0 0]⟩ .leaf) 183 ⟨.struct #[⟨ "kind",3,0,false,"","rubrick/query",0⟩,⟨ "at",3,1,false,"","rubrick/query",8⟩,⟨ "term",9,2,false,"","rubrick/query",16⟩],3,32, .agg #[.int .i64 (0), .int .i64 (0), .string ⟨#[]⟩]⟩ (.node (.node .leaf 187 ⟨.slice 191,1,24, .slice none 0 0⟩ .leaf) 189 ⟨.func #[106] #[4] false,1,8, .nilFunc⟩ .leaf)) 191 ⟨.struct #[⟨ "holds",189,0,false,"","rubrick/term",0⟩,⟨ "docs",27,1,false,"","rubrick/term",8⟩],2,32, .agg #[.nilFunc, .slice none 0 0]⟩ (.node (.node (.node .leaf 196 ⟨.func #[9] #[27] false,1,8, .nilFunc⟩ .leaf) 198 ⟨.func #[27,27] #[27] false,1,8, .nilFunc⟩ .leaf) 200 ⟨.struct #[⟨ "find",196,0,false,"","rubrick/eval",0⟩,⟨ "both",198,1,false,"","rubrick/eval",8⟩,⟨ "either",198,2,false,"","rubrick/eval",16⟩,⟨ "but",198,3,false,"","rubrick/eval",24⟩],4,32, .agg #[.nilFunc, .nilFunc, .nilFunc, .nilFunc]⟩ (.node (.node .leaf 202 ⟨.struct #[⟨ "B",23,0,false,"","",0⟩,⟨ "E",3,1,false,"","",24⟩],2,32, .agg #[.slice none 0 0, .int .i64 (0)]⟩ .leaf) 208 ⟨.slice 211,1,24, .slice none 0 0⟩ .leaf))) 209 ⟨.struct #[⟨ "Term",9,0,false,"","",0⟩,⟨ "Next",9,1,false,"","",16⟩,⟨ "Posts",9,2,false,"","",32⟩],3,48, .agg #[.string ⟨#[]⟩, .string ⟨#[]⟩, .string ⟨#[]⟩]⟩ (.node (.node (.node (.node .leaf 211 ⟨.struct #[⟨ "At",3,0,false,"","",0⟩,⟨ "Link",209,1,false,"","",8⟩,⟨ "Path",56,4,false,"","",56⟩,⟨ "Docs",23,5,false,"","",80⟩],6,104, .agg #[.int .i64 (0), .string ⟨#[]⟩, .string ⟨#[]⟩, .string ⟨#[]⟩, .slice none 0 0, .slice none 0 0]⟩ .leaf) 219 ⟨.struct #[⟨ "Span",98,0,false,"","",0⟩,⟨ "Links",3,2,false,"","",16⟩,⟨ "Root",9,3,false,"","",24⟩],4,40, .agg #[.int .i64 (0), .int .i64 (0), .int .i64 (0), .string ⟨#[]⟩]⟩ .leaf) 228 ⟨.struct #[⟨ "Term",9,0,false,"","",0⟩,⟨ "Docs",27,1,false,"","",16⟩],2,40, .agg #[.string ⟨#[]⟩, .slice none 0 0]⟩ (.node (.node .leaf 232 ⟨.slice 98,1,24, .slice none 0 0⟩ .leaf) 245 ⟨.struct #[⟨ "b",23,0,false,"","rubrick/reply",0⟩,⟨ "bad",4,1,false,"","rubrick/reply",24⟩],2,32, .agg #[.slice none 0 0, .bool false]⟩ .leaf)) 253 ⟨.func #[4,4] #[4] false,1,8, .nilFunc⟩ (.node (.node (.node .leaf 255 ⟨.struct #[⟨ "find",123,0,false,"","rubrick/eval",0⟩,⟨ "both",253,1,false,"","rubrick/eval",8⟩,⟨ "either",253,2,false,"","rubrick/eval",16⟩,⟨ "but",253,3,false,"","rubrick/eval",24⟩],4,32, .agg #[.nilFunc, .nilFunc, .nilFunc, .nilFunc]⟩ .leaf) 256 ⟨.slice 4,1,24, .slice none 0 0⟩ .leaf) 279 ⟨.pointer 180,1,8, .pointer none⟩ (.node .leaf 283 ⟨.int .u64,1,8, .int .u64 (0)⟩ .leaf)))) 286 ⟨.func #[9,9] #[4] false,1,8, .nilFunc⟩ (.node (.node (.node (.node (.node .leaf 288 ⟨.map 3 138,1,8, .map none⟩ .leaf) 290 ⟨.func #[3,4,4] #[4] false,1,8, .nilFunc⟩ .leaf) 305 ⟨.map 9 27,1,8, .map none⟩ (.node (.node .leaf 308 ⟨.func #[123] #[] false,1,8, .nilFunc⟩ .leaf) 319 ⟨.pointer 245,1,8, .pointer none⟩ .leaf)) 323 ⟨.int .u32,1,4, .int .u32 (0)⟩ (.node (.node (.node .leaf 324 ⟨.array 8 323,8,32, .agg #[.int .u32 (0), .int .u32 (0), .int .u32 (0), .int .u32 (0), .int .u32 (0), .int .u32 (0), .int .u32 (0), .int .u32 (0)]⟩ .leaf) 326 ⟨.struct #[⟨ "H",324,0,false,"","",0⟩,⟨ "Rest",23,8,false,"","",32⟩,⟨ "N",3,9,false,"","",56⟩],10,64, .agg #[.int .u32 (0), .int .u32 (0), .int .u32 (0), .int .u32 (0), .int .u32 (0), .int .u32 (0), .int .u32 (0), .int .u32 (0), .slice none 0 0, .int .i64 (0)]⟩ .leaf) 333 ⟨.slice 323,1,24, .slice none 0 0⟩ (.node .leaf 335 ⟨.func #[] #[9] false,1,8, .nilFunc⟩ .leaf))) 344 ⟨.struct #[⟨ "from",3,0,false,"","rubrick/utf",0⟩,⟨ "to",3,1,false,"","rubrick/utf",8⟩],2,16, .agg #[.int .i64 (0), .int .i64 (0)]⟩ (.node (.node (.node (.node .leaf 345 ⟨.array 9 344,18,144, .agg #[.int .i64 (0), .int .i64 (0), .int .i64 (0), .int .i64 (0), .int .i64 (0), .int .i64 (0), .int .i64 (0), .int .i64 (0), .int .i64 (0), .int .i64 (0), .int .i64 (0), .int .i64 (0), .int .i64 (0), .int .i64 (0), .int .i64 (0), .int .i64 (0), .int .i64 (0), .int .i64 (0)]⟩ .leaf) 349 ⟨.int .i64,1,8, .int .i64 (0)⟩ .leaf) 357 ⟨.int .u64,1,8, .int .u64 (0)⟩ (.node (.node .leaf 366 ⟨.func #[228,228] #[4] false,1,8, .nilFunc⟩ .leaf) 368 ⟨.func #[9,9] #[3] false,1,8, .nilFunc⟩ .leaf)) 380 ⟨.int .u64,1,8, .int .u64 (0)⟩ (.node (.node (.node .leaf 384 ⟨.pointer 3,1,8, .pointer none⟩ .leaf) 394 ⟨.struct #[⟨ "from",3,0,false,"","rubrick/utf",0⟩,⟨ "to",3,1,false,"","rubrick/utf",8⟩,⟨ "add",3,2,false,"","rubrick/utf",16⟩],3,24, .agg #[.int .i64 (0), .int .i64 (0), .int .i64 (0)]⟩ .leaf) 395 ⟨.array 7 394,21,168, .agg #[.int .i64 (0), .int .i64 (0), .int .i64 (0), .int .i64 (0), .int .i64 (0), .int .i64 (0), .int .i64 (0), .int .i64 (0), .int .i64 (0), .int .i64 (0), .int .i64 (0), .int .i64 (0), .int .i64 (0), .int .i64 (0), .int .i64 (0), .int .i64 (0), .int .i64 (0), .int .i64 (0), .int .i64 (0), .int .i64 (0), .int .i64 (0)]⟩ (.node .leaf 400 ⟨.array 64 323,64,256, .agg #[.int .u32 (0), .int .u32 (0), .int .u32 (0), .int .u32 (0), .int .u32 (0), .int .u32 (0), .int .u32 (0), .int .u32 (0), .int .u32 (0), .int .u32 (0), .int .u32 (0), .int .u32 (0), .int .u32 (0), .int .u32 (0), .int .u32 (0), .int .u32 (0), .int .u32 (0), .int .u32 (0), .int .u32 (0), .int .u32 (0), .int .u32 (0), .int .u32 (0), .int .u32 (0), .int .u32 (0), .int .u32 (0), .int .u32 (0), .int .u32 (0), .int .u32 (0), .int .u32 (0), .int .u32 (0), .int .u32 (0), .int .u32 (0), .int .u32 (0), .int .u32 (0), .int .u32 (0), .int .u32 (0), .int .u32 (0), .int .u32 (0), .int .u32 (0), .int .u32 (0), .int .u32 (0), .int .u32 (0), .int .u32 (0), .int .u32 (0), .int .u32 (0), .int .u32 (0), .int .u32 (0), .int .u32 (0), .int .u32 (0), .int .u32 (0), .int .u32 (0), .int .u32 (0), .int .u32 (0), .int .u32 (0), .int .u32 (0), .int .u32 (0), .int .u32 (0), .int .u32 (0), .int .u32 (0), .int .u32 (0), .int .u32 (0), .int .u32 (0), .int .u32 (0), .int .u32 (0)]⟩ .leaf))))))
set_option maxRecDepth 100000 in
theorem ī:eA.Ok Tryz.prog:=⟨⟨⟨⟨⟨⟨⟨trivial,trivial,Tryz.underlying3,trivial,Tryz.t3,rfl,rfl,rfl,rfl⟩,trivial,Tryz.underlying4,trivial,Tryz.t4,rfl,rfl,rfl,rfl⟩,⟨⟨trivial,trivial,Tryz.underlying9,trivial,Tryz.t9,rfl,rfl,rfl,rfl⟩,trivial,Tryz.underlying22,trivial,Tryz.t22,rfl,rfl,rfl,rfl⟩,Tryz.underlying5,trivial,Tryz.t5,rfl,rfl,rfl,rfl⟩,⟨⟨⟨trivial,trivial,Tryz.underlying26,trivial,Tryz.t26,rfl,rfl,rfl,rfl⟩,trivial,Tryz.underlying27,trivial,Tryz.t27,rfl,rfl,rfl,rfl⟩,⟨⟨trivial,trivial,Tryz.underlying33,trivial,Tryz.t33,rfl,rfl,rfl,rfl⟩,trivial,Tryz.underlying37,trivial,Tryz.t37,rfl,rfl,rfl,rfl⟩,Tryz.underlying28,trivial,Tryz.t28,rfl,rfl,rfl,rfl⟩,Tryz.underlying23,trivial,Tryz.t23,rfl,rfl,rfl,rfl⟩,⟨⟨⟨⟨trivial,trivial,Tryz.underlying40,trivial,Tryz.t40,rfl,rfl,rfl,rfl⟩,trivial,Tryz.underlying42,⟨y!,y!,y!⟩,Tryz.t42,rfl,rfl,rfl,rfl⟩,⟨⟨trivial,trivial,Tryz.underlying56,trivial,Tryz.t56,rfl,rfl,rfl,rfl⟩,trivial,Tryz.underlying69,trivial,Tryz.t69,rfl,rfl,rfl,rfl⟩,Tryz.underlying48,⟨y!,y!,y!⟩,Tryz.t48,rfl,rfl,rfl,rfl⟩,⟨⟨⟨trivial,trivial,Tryz.underlying72,trivial,Tryz.t72,rfl,rfl,rfl,rfl⟩,trivial,Tryz.underlying74,⟨y!,y!,y!⟩,Tryz.t74,rfl,rfl,rfl,rfl⟩,⟨trivial,trivial,Tryz.underlying82,⟨y!,y!,y!⟩,Tryz.t82,rfl,rfl,rfl,rfl⟩,Tryz.underlying78,⟨y!,y!,y!⟩,Tryz.t78,rfl,rfl,rfl,rfl⟩,Tryz.underlying71,⟨y!,y!,y!⟩,Tryz.t71,rfl,rfl,rfl,rfl⟩,Tryz.underlying39,trivial,Tryz.t39,rfl,rfl,rfl,rfl⟩,⟨⟨⟨⟨⟨trivial,trivial,Tryz.underlying94,trivial,Tryz.t94,rfl,rfl,rfl,rfl⟩,trivial,Tryz.underlying96,trivial,Tryz.t96,rfl,rfl,rfl,rfl⟩,⟨⟨trivial,trivial,Tryz.underlying100,⟨y!,y!,y!⟩,Tryz.t100,rfl,rfl,rfl,rfl⟩,trivial,Tryz.underlying101,trivial,Tryz.t101,rfl,rfl,rfl,rfl⟩,Tryz.underlying98,⟨y!,y!,y!⟩,Tryz.t98,rfl,rfl,rfl,rfl⟩,⟨⟨⟨trivial,trivial,Tryz.underlying106,⟨y!,y!,y!⟩,Tryz.t106,rfl,rfl,rfl,rfl⟩,trivial,Tryz.underlying110,trivial,Tryz.t110,rfl,rfl,rfl,rfl⟩,⟨trivial,trivial,Tryz.underlying113,trivial,Tryz.t113,rfl,rfl,rfl,rfl⟩,Tryz.underlying112,⟨y!,y!,y!⟩,Tryz.t112,rfl,rfl,rfl,rfl⟩,Tryz.underlying104,⟨y!,y!,y!⟩,Tryz.t104,rfl,rfl,rfl,rfl⟩,⟨⟨⟨⟨trivial,trivial,Tryz.underlying122,⟨y!,y!,y!⟩,Tryz.t122,rfl,rfl,rfl,rfl⟩,trivial,Tryz.underlying123,trivial,Tryz.t123,rfl,rfl,rfl,rfl⟩,⟨⟨trivial,trivial,Tryz.underlying128,⟨y!,y!,y!⟩,Tryz.t128,rfl,rfl,rfl,rfl⟩,trivial,Tryz.underlying138,trivial,Tryz.t138,rfl,rfl,rfl,rfl⟩,Tryz.underlying126,trivial,Tryz.t126,rfl,rfl,rfl,rfl⟩,⟨⟨⟨trivial,trivial,Tryz.underlying153,⟨y!,y!,y!⟩,Tryz.t153,rfl,rfl,rfl,rfl⟩,trivial,Tryz.underlying157,trivial,Tryz.t157,rfl,rfl,rfl,rfl⟩,⟨trivial,trivial,Tryz.underlying167,⟨y!,y!,y!⟩,Tryz.t167,rfl,rfl,rfl,rfl⟩,Tryz.underlying165,⟨y!,y!,y!⟩,Tryz.t165,rfl,rfl,rfl,rfl⟩,Tryz.underlying146,⟨y!,y!,y!⟩,Tryz.t146,rfl,rfl,rfl,rfl⟩,Tryz.underlying115,⟨y!,y!,y!⟩,Tryz.t115,rfl,rfl,rfl,rfl⟩,Tryz.underlying90,⟨y!,y!,y!⟩,Tryz.t90,rfl,rfl,rfl,rfl⟩,⟨⟨⟨⟨⟨⟨trivial,trivial,Tryz.underlying177,trivial,Tryz.t177,rfl,rfl,rfl,rfl⟩,trivial,Tryz.underlying180,⟨y!,y!,y!⟩,Tryz.t180,rfl,rfl,rfl,rfl⟩,⟨⟨trivial,trivial,Tryz.underlying187,trivial,Tryz.t187,rfl,rfl,rfl,rfl⟩,trivial,Tryz.underlying189,trivial,Tryz.t189,rfl,rfl,rfl,rfl⟩,Tryz.underlying183,⟨y!,y!,y!⟩,Tryz.t183,rfl,rfl,rfl,rfl⟩,⟨⟨⟨trivial,trivial,Tryz.underlying196,trivial,Tryz.t196,rfl,rfl,rfl,rfl⟩,trivial,Tryz.underlying198,trivial,Tryz.t198,rfl,rfl,rfl,rfl⟩,⟨⟨trivial,trivial,Tryz.underlying202,⟨y!,y!,y!⟩,Tryz.t202,rfl,rfl,rfl,rfl⟩,trivial,Tryz.underlying208,trivial,Tryz.t208,rfl,rfl,rfl,rfl⟩,Tryz.underlying200,⟨y!,y!,y!⟩,Tryz.t200,rfl,rfl,rfl,rfl⟩,Tryz.underlying191,⟨y!,y!,y!⟩,Tryz.t191,rfl,rfl,rfl,rfl⟩,⟨⟨⟨⟨trivial,trivial,Tryz.underlying211,⟨y!,y!,y!⟩,Tryz.t211,rfl,rfl,rfl,rfl⟩,trivial,Tryz.underlying219,⟨y!,y!,y!⟩,Tryz.t219,rfl,rfl,rfl,rfl⟩,⟨⟨trivial,trivial,Tryz.underlying232,trivial,Tryz.t232,rfl,rfl,rfl,rfl⟩,trivial,Tryz.underlying245,⟨y!,y!,y!⟩,Tryz.t245,rfl,rfl,rfl,rfl⟩,Tryz.underlying228,⟨y!,y!,y!⟩,Tryz.t228,rfl,rfl,rfl,rfl⟩,⟨⟨⟨trivial,trivial,Tryz.underlying255,⟨y!,y!,y!⟩,Tryz.t255,rfl,rfl,rfl,rfl⟩,trivial,Tryz.underlying256,trivial,Tryz.t256,rfl,rfl,rfl,rfl⟩,⟨trivial,trivial,Tryz.underlying283,trivial,Tryz.t283,rfl,rfl,rfl,rfl⟩,Tryz.underlying279,trivial,Tryz.t279,rfl,rfl,rfl,rfl⟩,Tryz.underlying253,trivial,Tryz.t253,rfl,rfl,rfl,rfl⟩,Tryz.underlying209,⟨y!,y!,y!⟩,Tryz.t209,rfl,rfl,rfl,rfl⟩,⟨⟨⟨⟨⟨trivial,trivial,Tryz.underlying288,trivial,Tryz.t288,rfl,rfl,rfl,rfl⟩,trivial,Tryz.underlying290,trivial,Tryz.t290,rfl,rfl,rfl,rfl⟩,⟨⟨trivial,trivial,Tryz.underlying308,trivial,Tryz.t308,rfl,rfl,rfl,rfl⟩,trivial,Tryz.underlying319,trivial,Tryz.t319,rfl,rfl,rfl,rfl⟩,Tryz.underlying305,trivial,Tryz.t305,rfl,rfl,rfl,rfl⟩,⟨⟨⟨trivial,trivial,Tryz.underlying324,trivial,Tryz.t324,rfl,rfl,rfl,rfl⟩,trivial,Tryz.underlying326,⟨y!,y!,y!⟩,Tryz.t326,rfl,rfl,rfl,rfl⟩,⟨trivial,trivial,Tryz.underlying335,trivial,Tryz.t335,rfl,rfl,rfl,rfl⟩,Tryz.underlying333,trivial,Tryz.t333,rfl,rfl,rfl,rfl⟩,Tryz.underlying323,trivial,Tryz.t323,rfl,rfl,rfl,rfl⟩,⟨⟨⟨⟨trivial,trivial,Tryz.underlying345,trivial,Tryz.t345,rfl,rfl,rfl,rfl⟩,trivial,Tryz.underlying349,trivial,Tryz.t349,rfl,rfl,rfl,rfl⟩,⟨⟨trivial,trivial,Tryz.underlying366,trivial,Tryz.t366,rfl,rfl,rfl,rfl⟩,trivial,Tryz.underlying368,trivial,Tryz.t368,rfl,rfl,rfl,rfl⟩,Tryz.underlying357,trivial,Tryz.t357,rfl,rfl,rfl,rfl⟩,⟨⟨⟨trivial,trivial,Tryz.underlying384,trivial,Tryz.t384,rfl,rfl,rfl,rfl⟩,trivial,Tryz.underlying394,⟨y!,y!,y!⟩,Tryz.t394,rfl,rfl,rfl,rfl⟩,⟨trivial,trivial,Tryz.underlying400,trivial,Tryz.t400,rfl,rfl,rfl,rfl⟩,Tryz.underlying395,trivial,Tryz.t395,rfl,rfl,rfl,rfl⟩,Tryz.underlying380,trivial,Tryz.t380,rfl,rfl,rfl,rfl⟩,Tryz.underlying344,⟨y!,y!,y!⟩,Tryz.t344,rfl,rfl,rfl,rfl⟩,Tryz.underlying286,trivial,Tryz.t286,rfl,rfl,rfl,rfl⟩,Tryz.underlying168,trivial,Tryz.t168,rfl,rfl,rfl,rfl⟩
end Go.Vg
namespace Go.J
open Go.Proofs
def G0:Nat->Option Go.Vg.GD:=fun i=>match i with
 |0=>some ⟨[.int .i64, .int .i64],[(65,90),(97,122),(192,214),(216,246),(248,255),(913,929),(931,937),(945,969),(1024,1119)]⟩
 |1=>some ⟨[.int .u32],[1779033703,3144134277,1013904242,2773480762,1359893119,2600822924,528734635,1541459225]⟩
 |2=>some ⟨[.int .i64, .int .i64, .int .i64],[(65,90,32),(192,214,32),(216,222,32),(913,929,32),(931,937,32),(1024,1039,80),(1040,1071,32)]⟩
 |3=>some ⟨[.int .u32],Go.S.Ih⟩
 |_=>none
end Go.J

end
section
namespace Go.J
open Go Vg
abbrev q0p:List PS:= [.one (.int .u32), .one (.int .i64)]
abbrev aBT:Type :=Int×Int
abbrev q1p:List PS:= []
abbrev atb:Type :=Unit
abbrev q2p:List PS:= [.agg [.int .u32, .int .u32, .int .u32, .int .u32, .int .u32, .int .u32, .int .u32, .int .u32, .slice [.int .u8], .int .i64]]
abbrev ain:Type :=Int×Int×Int×Int×Int×Int×Int×Int×B8×Int
abbrev q3p:List PS:= [.agg [.int .u32, .int .u32, .int .u32, .int .u32, .int .u32, .int .u32, .int .u32, .int .u32], .one (.slice [.int .u8])]
abbrev Ĭ:Type :=Int×Int×Int×Int×Int×Int×Int×Int×B8
abbrev q4p:List PS:= [.agg [.int .u32, .int .u32, .int .u32, .int .u32, .int .u32, .int .u32, .int .u32, .int .u32, .slice [.int .u8], .int .i64], .one (.slice [.int .u8])]
abbrev aBV:Type :=Int×Int×Int×Int×Int×Int×Int×Int×B8×Int×B8
abbrev fv:List PS:= [.one (.slice [.int .u8])]
abbrev gS:Type :=B8
abbrev q6p:List TA:= [.own 50000, .c9 (.int .i64)]
abbrev atc:Type :=Int
abbrev q0q:List TB:= [.row 5 [.int .u8]]
abbrev aio:Type :=B8×Unit
abbrev q7p:List TA:= [.own 50000, .c9 (.str)]
abbrev aBY:Type :=B8
abbrev q8p:List PS:= [.one (.slice [.int .u8]), .one (.int .i64)]
abbrev aip:Type :=B8×Int
abbrev q9p:List PS:= [.one (.slice [.int .u8]), .one (.str)]
abbrev aB0:Type :=B8×B8
abbrev Cg:List PS:= [.agg [.slice [.int .u8], .int .i64, .int .i64]]
abbrev MB:Type :=B8×Int×Int
abbrev atd:List PS:= [.one (.slice [.int .u8]), .one (.int .i64), .one (.int .i64)]
abbrev avZ:Type :=B8×Int×Int
abbrev ate:List PS:= [.agg [.slice [.int .u8], .int .i64, .int .i64], .one (.int .i64)]
abbrev av0:Type :=B8×Int×Int×Int
abbrev atf:List PS:= [.one (.int .u8), .one (.slice [.slice [.int .u8]])]
abbrev aiq:Type :=UInt8×List B8
abbrev yh:List PS:= [.one (.str), .one (.str)]
abbrev G7:Type :=B8×B8
abbrev rD:List PS:= [.one (.int .i64)]
abbrev tp:Type :=Int
abbrev FB:List PS:= [.one (.slice [.int .i64])]
abbrev Am:Type :=List Int
abbrev P9:List PS:= [.one (.str)]
abbrev Yq:Type :=B8
abbrev atg:List TA:= [.c9 (.str), .c9 (.str), .ref 50000 0]
abbrev av1:Type :=B8×B8
abbrev q1q:List TB:= [.cells [.fn (.func 282) [] []]]
abbrev aB2:Type :=Unit×Unit
abbrev ath:List TA:= [.own 50000, .fn (.func 309) [] [.ref 50001 0]]
abbrev air:Type :=Unit
abbrev q2q:List TB:= [.row 9 [.str], .cells [.fn (.func 282) [] []]]
abbrev ati:Type :=(List B8)×Unit×Unit
abbrev MC:List PS:= [.one (.slice [.str])]
abbrev G8:Type :=List B8
abbrev aB4:List TA:= [.own 50000, .fn (.func 282) [] []]
abbrev av3:Type :=Unit
abbrev Yr:List TB:= [.row 9 [.str]]
abbrev Qa:Type :=(List B8)×Unit
abbrev atj:List TA:= [.c9 (.slice [.str]), .fn (.func 282) [] []]
abbrev av4:Type :=List B8
abbrev ql:List TB:= []
abbrev wB:Type :=Unit
abbrev Qb:List TA:= [.own 50000]
abbrev MD:Type :=Unit
abbrev atk:List PS:= [.one (.slice [.slice [.int .u8]])]
abbrev ais:Type :=List B8
abbrev atl:List PS:= [.one (.slice [.str]), .one (.int .i64)]
abbrev ait:Type :=List B8×Int
abbrev atm:List TA:= [.c9 (.int .i64), .c9 (.bool), .c9 (.bool), .ref 50000 0]
abbrev av5:Type :=Int×Bool×Bool
abbrev q5q:List TB:= [.cells [.c9 (.int .i64), .c9 (.int .i64)]]
abbrev aiv:Type :=(Int×Int)×Unit
abbrev aiw:List TA:= [.c9 (.slice [.int .i64]), .c9 (.slice [.int .i64]), .fn (.func 311) [] [.ref 50000 0]]
abbrev aix:Type :=List Int×List Int
abbrev atn:List PS:= [.one (.slice [.int .i64]), .agg [.int .i64, .int .i64]]
abbrev av6:Type :=List Int×Int×Int
abbrev Ch:List PS:= [.one (.slice [.int .i64]), .one (.slice [.int .i64])]
abbrev Dn:Type :=List Int×List Int
abbrev IK:List PS:= [.one (.slice [.str, .slice [.int .i64]])]
abbrev G9:Type :=List (B8×List Int)
abbrev ato:List PS:= [.agg [.str, .str, .str]]
abbrev av7:Type :=B8×B8×B8
abbrev Qc:List PS:= [.one (.slice [.str, .slice [.int .i64]]), .one (.str)]
abbrev Sz:Type :=List (B8×List Int)×B8
abbrev aiy:List PS:= [.one (.slice [.slice [.int .u8]]), .agg [.int .i64, .int .i64]]
abbrev aiz:Type :=List B8×Int×Int
abbrev atp:List PS:= [.agg [.int .i64, .int .i64]]
abbrev av8:Type :=Int×Int
abbrev ĭ:List PS:= [.agg [.int .i64, .int .i64, .slice [.str, .slice [.int .i64]]]]
abbrev Ys:Type :=Int×Int×List (B8×List Int)
abbrev atq:List PS:= [.agg [.int .i64, .int .i64, .int .i64, .str]]
abbrev av9:Type :=Int×Int×Int×B8
abbrev atr:List PS:= [.one (.slice [.int .i64, .int .i64, .int .i64, .str]), .one (.int .i64)]
abbrev aiA:Type :=List (Int×Int×Int×B8)×Int
abbrev ats:List PS:= [.agg [.str, .slice [.int .i64]], .agg [.str, .slice [.int .i64]]]
abbrev awa:Type :=B8×List Int×B8×List Int
abbrev aB5:List TA:= [.c9 (.slice [.str, .slice [.int .i64]]), .c9 (.slice [.str, .slice [.int .i64]]), .fn (.func 279) [] []]
abbrev aiB:Type :=List (B8×List Int)×List (B8×List Int)
abbrev att:List PS:= [.one (.slice [.str, .slice [.int .i64]]), .one (.slice [.str, .slice [.int .i64]])]
abbrev awb:Type :=List (B8×List Int)×List (B8×List Int)
abbrev pO:List PS:= [.agg [.slice [.slice [.int .u8]], .slice [.int .i64, .int .i64, .slice [.str, .slice [.int .i64]]]]]
abbrev rj:Type :=List B8×List (Int×Int×List (B8×List Int))
abbrev atu:List PS:= [.agg [.slice [.slice [.int .u8]], .slice [.int .i64, .int .i64, .slice [.str, .slice [.int .i64]]]], .one (.slice [.int .u8])]
abbrev awc:Type :=List B8×List (Int×Int×List (B8×List Int))×B8
abbrev Qd:List PS:= [.agg [.int .i64, .str, .slice [.int .i64, .int .i64, .int .i64, .str]]]
abbrev SA:Type :=Int×B8×List (Int×Int×Int×B8)
abbrev Qe:List TA:= [.c9 (.int .i64), .ref 50000 0, .ref 50001 0]
abbrev aiC:Type :=Int
abbrev q6q:List TB:= [.cells [.c9 (.int .i64)], .cells [.nil]]
abbrev aB6:Type :=Int×Unit×Unit
abbrev q7q:List TB:= [.cells [.c9 (.int .i64)], .cells [.own 50002], .row 5 [.int .u8]]
abbrev aB7:Type :=Int×Unit×B8×Unit
abbrev atv:List TA:= [.c9 (.str), .ref 50000 0]
abbrev awf:Type :=B8
abbrev q8q:List TB:= [.cells [.own 50001], .row 5 [.int .u8]]
abbrev aB9:Type :=Unit×B8×Unit
abbrev lr:List TA:= [.ref 50000 0]
abbrev rk:Type :=Unit
abbrev yy:List TB:= [.cells [.c9 (.slice [.int .u8]), .c9 (.int .i64), .c9 (.int .i64)]]
abbrev Ci:Type :=(B8×Int×Int)×Unit
abbrev atw:List TA:= [.ref 50000 0, .ref 50001 0, .ref 50002 0]
abbrev awg:Type :=Unit
abbrev aCa:List TB:= [.cells [.c9 (.int .i64)], .cells [.fn (.func 243) [] [.ref 50003 0]], .cells [.fn (.func 244) [] [.ref 50003 0]], .cells [.c9 (.slice [.int .u8]), .c9 (.int .i64), .c9 (.int .i64)]]
abbrev awh:Type :=Int×Unit×Unit×(B8×Int×Int)×Unit
abbrev Qf:List PS:= [.one (.slice [.int .i64, .str])]
abbrev Ha:Type :=List (Int×B8)
abbrev atx:List TA:= [.ref 50000 0, .ref 50001 0, .ref 50002 0, .ref 50003 0]
abbrev awi:Type :=Unit
abbrev aty:List TB:= [.cells [.c9 (.int .i64)], .cells [.nil], .cells [.c9 (.slice [.int .u8])], .cells [.c9 (.int .i64)]]
abbrev awj:Type :=Int×Unit×B8×Int×Unit
abbrev FC:List TB:= [.cells [.c9 (.slice [.int .i64, .int .i64, .str]), .c9 (.int .i64), .c9 (.int .i64), .nil]]
abbrev Hb:Type :=(List (Int×Int×B8)×Int×Int)×Unit
abbrev atz:List TB:= [.cells [.c9 (.slice [.int .i64, .int .i64, .str]), .c9 (.int .i64), .c9 (.int .i64), .own 50001], .row 90 [.int .i64, .str]]
abbrev awk:Type :=(List (Int×Int×B8)×Int×Int)×(List (Int×B8))×Unit
abbrev yi:List TA:= [.ref 50000 0, .c9 (.int .i64)]
abbrev Ao:Type :=Int
abbrev tq:List TB:= [.cells [.own 50001, .c9 (.bool)], .row 5 [.int .u8]]
abbrev Ap:Type :=Bool×B8×Unit
abbrev atA:List TA:= [.ref 50000 0, .c9 (.slice [.int .u8]), .c9 (.int .i64)]
abbrev awl:Type :=B8×Int
abbrev atB:List TA:= [.ref 50000 0, .agg [.c9 (.int .i64), .c9 (.str), .c9 (.slice [.int .i64, .int .i64, .int .i64, .str])]]
abbrev awm:Type :=Int×B8×List (Int×Int×Int×B8)
abbrev atC:List TA:= [.ref 50000 0, .c9 (.slice [.str])]
abbrev aiD:Type :=List B8
abbrev atD:List TA:= [.ref 50000 0, .agg [.c9 (.int .i64), .c9 (.str), .c9 (.str), .c9 (.str), .c9 (.slice [.str]), .c9 (.slice [.int .u8])]]
abbrev awn:Type :=Int×B8×B8×B8×List B8×B8
abbrev aiE:List PS:= [.agg [.int .i64, .str, .slice [.int .i64, .int .i64, .int .i64, .str], .slice [.slice [.int .i64, .str, .str, .str, .slice [.str], .slice [.int .u8]]]]]
abbrev SB:Type :=Int×B8×List (Int×Int×Int×B8)×List (List (Int×B8×B8×B8×List B8×B8))
abbrev yj:List TA:= [.c9 (.slice [.int .u8]), .c9 (.int .u8)]
abbrev aiF:Type :=B8×UInt8
abbrev Qg:List TA:= [.c9 (.str), .ref 50000 0, .ref 50001 0, .ref 50002 0]
abbrev aiG:Type :=B8
abbrev aiH:List TB:= [.cells [.c9 (.slice [.str, .slice [.int .i64]])], .cells [.c9 (.int .i64)], .cells [.nil]]
abbrev awo:Type :=(List (B8×List Int))×Int×Unit×Unit
abbrev atE:List TB:= [.cells [.c9 (.slice [.str, .slice [.int .i64]])], .cells [.c9 (.int .i64)], .cells [.own 50003], .row 106 [.int .i64, .str, .str, .str, .slice [.str], .slice [.int .u8]]]
abbrev awp:Type :=(List (B8×List Int))×Int×Unit×(List (Int×B8×B8×B8×List B8×B8))×Unit
abbrev atF:List TA:= [.c9 (.slice [.str, .slice [.int .i64]]), .ref 50000 0, .ref 50001 0]
abbrev aiI:Type :=List (B8×List Int)
abbrev atG:List TB:= [.cells [.c9 (.int .i64)], .cells [.c9 (.slice [.str])]]
abbrev aiJ:Type :=Int×(List B8)×Unit
abbrev aiK:List PS:= [.agg [.slice [.slice [.int .u8]], .slice [.int .i64, .int .i64, .slice [.str, .slice [.int .i64]]]], .one (.slice [.int .i64, .str])]
abbrev SC:Type :=List B8×List (Int×Int×List (B8×List Int))×List (Int×B8)
abbrev atH:List PS:= [.one (.int .i64), .one (.int .i64)]
abbrev aiL:Type :=Int×Int
abbrev atI:List PS:= [.one (.str), .one (.int .i64), .one (.int .i64), .one (.slice [.str])]
abbrev aiM:Type :=B8×Int×Int×List B8
abbrev Qh:List PS:= [.one (.int .i64), .one (.bool), .one (.bool)]
abbrev Yt:Type :=Int×Bool×Bool
abbrev aiN:List TA:= [.c9 (.slice [.int .i64]), .c9 (.slice [.int .i64]), .fn (.func 197) [] []]
abbrev aiO:Type :=List Int×List Int
abbrev aiP:List TA:= [.c9 (.slice [.int .i64]), .c9 (.slice [.int .i64]), .fn (.func 198) [] []]
abbrev aiQ:Type :=List Int×List Int
abbrev aiR:List TA:= [.c9 (.slice [.int .i64]), .c9 (.slice [.int .i64]), .fn (.func 199) [] []]
abbrev aiS:Type :=List Int×List Int
abbrev atJ:List PS:= [.one (.slice [.str]), .one (.str)]
abbrev aiT:Type :=List B8×B8
abbrev atK:List PS:= [.one (.str), .var [.slice [.str]], .var [.slice [.slice [.int .i64]]]]
abbrev awq:Type :=B8×List B8×List (List Int)
abbrev Aq:List TA:= [.c9 (.str), .ref 50000 0, .ref 50001 0]
abbrev SD:Type :=B8
abbrev aiU:List TB:= [.cells [.own 50002], .cells [.fn (.func 107) [] []], .row 27 [.slice [.int .i64]]]
abbrev awr:Type :=Unit×Unit×(List (List Int))×Unit
abbrev aiV:List TB:= [.cells [.own 50002], .cells [.fn (.func 108) [] []], .row 27 [.slice [.int .i64]]]
abbrev aws:Type :=Unit×Unit×(List (List Int))×Unit
abbrev aiW:List TB:= [.cells [.own 50002], .cells [.fn (.func 109) [] []], .row 27 [.slice [.int .i64]]]
abbrev awt:Type :=Unit×Unit×(List (List Int))×Unit
abbrev atL:List TB:= [.cells [.own 50002], .cells [.fn (.func 103) [] [.var [.slice [.str]], .var [.slice [.slice [.int .i64]]]], .fn (.func 107) [] [], .fn (.func 108) [] [], .fn (.func 109) [] []], .row 27 [.slice [.int .i64]]]
abbrev awu:Type :=Unit×(List B8×List (List Int))×(List (List Int))×Unit
abbrev atM:List TA:= [.c9 (.slice [.int .i64, .str]), .agg [.fn (.func 103) [] [.var [.slice [.str]], .var [.slice [.slice [.int .i64]]]], .fn (.func 107) [] [], .fn (.func 108) [] [], .fn (.func 109) [] []]]
abbrev aiX:Type :=List (Int×B8)×List B8×List (List Int)
abbrev atN:List PS:= [.one (.slice [.int .i64, .str]), .one (.slice [.slice [.int .i64]])]
abbrev aiY:Type :=List (Int×B8)×List (List Int)
abbrev Qi:List PS:= [.agg [.int .i64, .str, .str, .str, .slice [.str], .slice [.int .u8]], .var [.str], .var [.int .i64]]
abbrev ME:Type :=Int×B8×B8×B8×List B8×B8×B8×Int
abbrev atO:List PS:= [.agg [.int .i64, .str, .str, .str, .slice [.str], .slice [.int .u8]], .var [.str]]
abbrev awv:Type :=Int×B8×B8×B8×List B8×B8×B8
abbrev atP:List TA:= [.c9 (.str), .agg [.c9 (.int .i64), .c9 (.str), .c9 (.str), .c9 (.str), .c9 (.slice [.str]), .c9 (.slice [.int .u8])]]
abbrev aww:Type :=B8×Int×B8×B8×B8×List B8×B8
abbrev atQ:List PS:= [.one (.str), .one (.int .i64), .one (.str), .agg [.int .i64, .str, .str, .str, .slice [.str], .slice [.int .u8]]]
abbrev awx:Type :=B8×Int×B8×Int×B8×B8×B8×List B8×B8
abbrev Į:List PS:= [.one (.int .i64), .one (.int .i64), .one (.str), .one (.str), .one (.slice [.str])]
abbrev aiZ:Type :=Int×Int×B8×B8×List B8
abbrev atS:List PS:= [.var [.int .i64, .str, .slice [.int .i64, .int .i64, .int .i64, .str]], .var [.str]]
abbrev awy:Type :=Int×B8×List (Int×Int×Int×B8)×B8
abbrev MF:List PS:= [.agg [.int .i64, .str, .slice [.int .i64, .int .i64, .int .i64, .str]], .one (.str)]
abbrev Yu:Type :=Int×B8×List (Int×Int×Int×B8)×B8
abbrev atU:List PS:= [.var [.int .i64, .str, .slice [.int .i64, .int .i64, .int .i64, .str], .slice [.slice [.int .i64, .str, .str, .str, .slice [.str], .slice [.int .u8]]]], .var [.int .i64], .var [.slice [.str]]]
abbrev awz:Type :=Int×B8×List (Int×Int×Int×B8)×List (List (Int×B8×B8×B8×List B8×B8))×Int×List B8
abbrev atV:List PS:= [.var [.int .i64, .str, .slice [.int .i64, .int .i64, .int .i64, .str], .int .i64, .slice [.int .u8], .slice [.str]], .var [.int .i64]]
abbrev ai0:Type :=Int×B8×List (Int×Int×Int×B8)×Int×B8×List B8×Int
abbrev ai1:List PS:= [.one (.str), .one (.int .i64), .one (.slice [.int .u8])]
abbrev awA:Type :=B8×Int×B8
abbrev į:List TA:= [.var [.int .i64, .int .i64, .int .i64, .str], .var [.str], .var [.int .i64, .str, .slice [.int .i64, .int .i64, .int .i64, .str], .slice [.slice [.int .i64, .str, .str, .str, .slice [.str], .slice [.int .u8]]]], .var [.int .i64], .var [.int .i64], .ref 50000 0]
abbrev ai3:Type :=Int×Int×Int×B8×B8×Int×B8×List (Int×Int×Int×B8)×List (List (Int×B8×B8×B8×List B8×B8))×Int×Int
abbrev MG:List TB:= [.cells [.own 50001], .dM 27 50002, .row 3 [.int .i64]]
abbrev Yv:Type :=Unit×(List Value×Nat)×(List Int)×Unit
abbrev İ:List PS:= [.var [.int .i64, .int .i64, .int .i64, .str], .var [.str], .var [.int .i64, .str, .slice [.int .i64, .int .i64, .int .i64, .str], .slice [.slice [.int .i64, .str, .str, .str, .slice [.str], .slice [.int .u8]]]], .var [.int .i64], .var [.int .i64]]
abbrev ai4:Type :=Int×Int×Int×B8×B8×Int×B8×List (Int×Int×Int×B8)×List (List (Int×B8×B8×B8×List B8×B8))×Int×Int
abbrev ı:List PS:= [.one (.str), .one (.slice [.int .i64, .str]), .one (.slice [.int .u8])]
abbrev awC:Type :=B8×List (Int×B8)×B8
abbrev aBX:List TA:= [.var [.int .i64, .str, .slice [.int .i64, .int .i64, .int .i64, .str], .int .i64, .str, .slice [.int .i64, .int .i64, .int .i64, .str], .slice [.str]], .ref 50000 0]
abbrev aE3:Type :=Int×B8×List (Int×Int×Int×B8)×Int×B8×List (Int×Int×Int×B8)×List B8
abbrev ai2:List TB:= [.cells [.c9 (.str)]]
abbrev awB:Type :=B8×Unit
abbrev avh:List PS:= [.var [.int .i64, .str, .slice [.int .i64, .int .i64, .int .i64, .str], .int .i64, .str, .slice [.int .i64, .int .i64, .int .i64, .str], .slice [.str]]]
abbrev aBZ:Type :=Int×B8×List (Int×Int×Int×B8)×Int×B8×List (Int×Int×Int×B8)×List B8
abbrev avp:List PS:= [.one (.str), .one (.slice [.int .u8])]
abbrev aB1:Type :=B8×B8
abbrev avO:List PS:= [.one (.str), .one (.str), .one (.slice [.int .i64, .str]), .one (.int .i64), .one (.slice [.int .u8])]
abbrev aE4:Type :=B8×B8×List (Int×B8)×Int×B8
end Go.J

end
section
set_option linter.unusedVariables false
namespace Go
def wC(a:Nat):Prop:=a<=140737488355328
def fO(a:Bool)(b c:Prop):Prop:=(a->b)/\(a=false->c)
def py(a b:Int):=Bool.not (decide (a=b))
def hU(a:Bool)(b c d:Prop):Prop:=fO a (b/\c) d
def q26(a:B8):Int:=a.length
def gD(a b:Bool):=bif a then true else b
def q32(a:Int):Prop:=-9223372036854775808<=a/\a<=9223372036854775807
def dQ(a b c:Int):Prop:=a<=b/\b<c
def eP(a:Bool)(b c d e:Prop):Prop:=hU a b c (d/\e)
def q36(a:B8):Prop:=wC a.length
def q38(a b:Bool):=bif a then b else false
def q42(a:UInt8):=(S.cA (Vg.me B8) (Vg.me (Prod Int (Prod Int (List (Prod B8 (List Int)))))) [104,a,121]).1
def q46(a b c:Nat):Prop:=S.al a b<c
def q48(a:List Int):Int:=a.length
def ix(a b:Int):=a^Int.toNat b
def q53(a b c:Nat):Prop:=q46 a b (S.al a c)
def fw(a:Prop):Prop:=True/\a
def wD(a:List B8):Int:=a.length
def q63(a:B8):Prop:=a.length<=35184372088832
def q64(a:Bool)(b c d e f:Prop):Prop:=eP a b c d (e/\f)
def q68(a:List B8)(b:Nat):=List.getD a b []
def tv(a:Int):=a%4294967296
def q70:=Vg.me UInt8
def yz(a:Int)(b:List Int):=a::a::a::a::b
def q73(a:UInt8):Int:=UInt8.toNat a
def Dp(a:List B8)(b:Int):=q68 a (Int.toNat b)
def q79(a b:Int)(c:Bool):=gD (decide (a<b)) c
def rX(a:Int):=UInt8.ofNat (Int.toNat a)
def q84(a:Nat):Prop:=a<=17592186044416
def q89(a b c:Int)(d:Prop):Prop:=q32 a/\dQ b a c/\d
def q90(a:Bool)(b c d:Int)(e f:Prop):Prop:=hU a (dQ b c d) e f
def pz(a b:UInt8):=(S.cA (q42 a).1 (q42 a).2 [119,a,105,110,b,104,a,121]).1
def MH(a:Nat):Prop:=a<=5864062014805
def q97(a b:Bool)(c:Prop):Prop:=fO a (false=b) c
def q98(a:Bool)(b c d:Prop)(e:Bool)(f g h i:Prop):Prop:=eP a b c d (q64 e b f g h i)
def acd(a:Bool):Prop:=(a->True)/\(a=false->True)
def amh(a b:Int)(c:Bool):=q38 (decide (a<=b)) c
def MK(a b:UInt8):=(S.bV (pz a b).1 (pz a b).2).1
def akm(a b:Bool):=gD a (Bool.not b)
def afu(a:Bool)(b:Prop):Prop:=fO a True b
def abS(a b:Prop):Prop:=fw (a/\b)
def ak5(a:Int):=Bool.not (decide (a=a))
def ak7(a:Nat):Prop:=a<1099511627776
def ak8(a:Int):=a%18446744073709551616
def aeY(a:Bool)(b:Int)(c:List Int):=bif a then List.drop (Int.toNat b) c else c
def ala(a:Bool)(b c:B8):=q38 a (decide (b=c))
def ani(a:Int):=140737488355328/a
def pP:Prop:=true=true
def ab8(a:B8)(b:S.Wp):=a++S.bytesOf b
def aeR(a b:B8):Prop:=wC (a.length+b.length)
def uA(a b c d:Int)(e:Prop):Prop:=dQ a b c/\dQ a d c/\e
def aiu(a b:UInt8):=(S.gx (MK a b).1 (MK a b).2 S.eO).1
def anj(a b c:Nat):Prop:=S.fe a b/\q53 b a c
def Ar(a:List (List Int))(b:Nat):=List.getD a b []
def adp(a b:Int)(c:B8):=List.drop (Int.toNat a) (List.take (Int.toNat b) c)
def at6(a:B8):Prop:=a.length<=1099511627776
def VV(a:B8)(b:Int)(c:UInt8):=q73 (List.getD a (Int.toNat b) c)
def alc(a b:List Int):Prop:=(bif Bool.not (S.bF a) then([]:List Int) else a)=b
def ald:=q48 S.qC
def VW(a:Bool)(b c:Prop)(d:Int)(e:Prop):Prop:=eP a b c (q32 (d+1)) e
def aum(a b c:Int):=amh a b (decide (b<=c))
def mr(a:Int):=decide (a=0)
def dB(a b:Bool)(c d:Int)(e:Prop):Prop:=q97 a b (q32 (c+d)/\e)
def Qj(a b:Int):Prop:=Int.toNat a<Int.toNat b
def As(a:Bool)(b:Int)(c:Bool)(d e:Int):=bif a then b else bif c then d else e
def abF(a:Int):=py a 0
def akD(a:Int)(b:B8):=decide (a<q26 b)
def ank:Prop:=[]=S.eO
def FH(a:Bool)(b c d:Int):Prop:=hU a (b<=b/\b<c) (b<=d/\d<=c) True
def abK(a:Int)(b:Prop):Prop:=q32 (a+1)/\b
def ae9(a b:Nat)(c:Prop)(d:Nat):Prop:=(a:Int)+1=b/\c/\q53 d b a
def ale(a b:List Int):Prop:=q84 (a.length+b.length)
def adC(a:List (B8×List Int))(b:Int):=List.getD a (Int.toNat b) ([],[])
def avP(a b:B8):=Op.bytesLess a b||decide (a=b)
def alg(a b:Bool)(c d:Int):=q38 a (gD b (decide (c<=d)))
def abN(a b:Int)(c:Prop):Prop:=(0<=a/\a<=b)/\c
def afy(a:Int)(b:UInt8):=List.replicate (Int.toNat a) b
def anl(a:Int):Prop:=a=a/\S.eO=S.eO
def nH(a b:List B8):Prop:=a.length+b.length<=8796093022208
def anm(a b:Int)(c:Bool)(d e:S.Wp)(f:B8):Prop:=a=b/\S.qi c d=S.lS e/\ab8 f d=S.bytesOf e
def ami(a:Int):=Bool.not (S.cq a)
def ali(a b:Bool)(c d e:Int):Prop:=fO a (afu b ((c<=c/\c<d)/\c<=c/\c<e)) True
def alj(a b:Nat)(c d:Prop)(e:Nat):Prop:=((a:Int)+1=b/\c)/\d/\q53 e b a
def afB(a:B8):=py (q26 a) 32
def at7(a:Int):=List.getD S.qC (Int.toNat a) a
def aua(a b c d:Int):=Vg.fC (Vg.fC (S.rotl a (-b)) (S.rotl a (-c))) d
def alk(a b:Int):=rX (a/ix 2 b%256)
def aun(a:List B8)(b:UInt8)(c:Nat)(d:B8):Prop:=S.nC a/\S.fM b a=S.nd c d
def aeL(a:Bool)(b c d e f g h i:Int):=(bif a then 1779033703 else b,bif a then 3144134277 else c,bif a then 1013904242 else d,bif a then 2773480762 else e,bif a then 1359893119 else f,bif a then 2600822924 else g,bif a then 528734635 else h,bif a then 1541459225 else i)
def avW(a:List (Int×Int×B8)):Prop:=List.length S.kE1+a.length<=4398046511104
def awd(a b c d:Int)(e f g:Nat)(h i:List (List Int))(j:Int):Prop:=q32 a/\q32 b/\(c<=b/\b<=d)/\q89 b c d (e<f/\dQ c a d/\g<f/\abS (MH (e+h.length)) (List.take e i++h=S.vk j i))
def awe(a b c:B8):Prop:=S.bQ a/\S.small b/\S.sum b=c
def awD(a:Bool)(b c d e f g h i:Int)(j:Prop):Prop:=eP a (65533=b) (c=d) (e<=f/\f<=64) (q32 g/\e<=g/\e<=h/\abK i j)
def abO(a:Int):=decide (0<a)
def ai5:Prop:=(0:Int)=0
def aub:=q26 (aiu 97 32)-1
def amz:Int:=((64:Nat):Int)
def aB8(a b c:Int):=bif q38 (mr a) (py (S.tI S.kE b).1 (-c)) then c else a
def auq:Prop:=Int.toNat aub<List.length (aiu 97 32)
def afC:Int×Int×Int×Int×Int×Int×Int×Int:=(1779033703,3144134277,1013904242,2773480762,1359893119,2600822924,528734635,1541459225)
def aug(a b:Nat)(c d:Int)(e:B8)(f:Nat):Prop:=((a:Int)+1=b/\Vg.cm c d=S.bX e b)/\S.pI e b/\q53 f b a
def aeS(a:List Int)(b:Int):=List.getD a (Int.toNat b) 0
def aur:=S.ep (S.lC (MK 97 32).1 (MK 97 32).2).1 S.eO (aiu 97 32)
def alm:Int:=((1:Nat):Int)
def ae3:Int:=((8:Nat):Int)
def xS(a:List (Int×B8))(b:Int):=List.getD a (Int.toNat b) (0,[])
def Dv(a:B8)(b c:Int):=S.jC a (S.af a b c).1.2.1 (S.af a b c).1.2.2
def M1(a:B8):=mr (S.jc (S.aC a).1.1 (S.aC a).1.2.2.2.1 (S.aC a).1.2.1 (S.aC a).1.2.2.2.2.1 (S.aC a).1.2.2.2.2.2.2)
def Dw(a:B8):=S.ik (S.aC a).1.2.2.2.1 (S.aC a).1.2.2.2.2.1 (S.aC a).1.2.2.2.2.2.1
def M3(a:B8):=S.ba a
def Dx(a:B8)(b:Nat):=List.getD (M3 a).1.2.2.1 (Int.toNat b) (0,0,0,[])
def Hh(a:B8)(b:List (Int×B8))(c:B8)(d:Nat):=Vg.aW.run (S.conds 27 3 c (M3 a).1.1 (M3 a).1.2.1 (M3 a).1.2.2.1 (M3 a).1.2.2.2 (S.aA b) d) (Vg.Z.g 27 3 (Vg.aW.Ie (Int.toNat (wD (S.aA b)))))
def Dy(a:List (List (Int×B8×B8×B8×List B8×B8)))(b c:Int):=List.getD (List.getD a (Int.toNat b) []) (Int.toNat c) (0,[],[],[],[],[])
def ajd(a:List (List (Int×B8×B8×B8×List B8×B8)))(b c:Int):=List.getD (List.getD a (Int.toNat b) []) (Int.toNat c) (0,[],[],[],[],[])
def Dz(a:List (List (Int×B8×B8×B8×List B8×B8)))(b:Int)(c:B8)(d e:Int)(f:B8):=S.IG c b f ((ajd a d e).1,(ajd a d e).2.1,(ajd a d e).2.2.1,(ajd a d e).2.2.2.1,(ajd a d e).2.2.2.2.1,(ajd a d e).2.2.2.2.2)
def Hi(a:B8)(b:Int)(c:Nat):=Vg.aK (VV a (b+c) 0) 127*ix 2 (7*c)
def SF(a:List B8):=List.drop (Int.toNat 1) a
def mu(a:List (B8×List Int)):=a.length
def ae4(a:List (B8×List Int))(b:Nat):=[S.ke (bif decide ((b:Int)<mu a) then bif abO b then(adC a (b-1)).1 else [] else bif abO b then(adC a (b-1)).1 else []) (bif decide ((b:Int)<mu a) then(adC a b).1 else bif abO b then [] else []) (S.u9 (bif abO b then(adC a (b-1)).2 else []))]
def xV(a:B8):=S.ai (S.ai a 0 0 64).1.1 (S.ai a 0 0 64).1.2.1 (S.ai a 0 0 64).1.2.2 64
def oe(a:B8):=S.an (xV a).1.1 (xV a).1.2.1 (xV a).1.2.2
def Av(a:List (List Int)):=a.length
def Hk(a:List (List Int)):=a.length
def Hl(a:List (List Int)):=a.length
def afD(a:B8):=(S.gn a).1
def Aw(a:B8):=S.an a (S.af a 0 0).1.2.1 (S.af a 0 0).1.2.2
def awG(a:B8)(b:Nat):=S.rV a (S.iL a b).1.1 (S.iL a b).1.2 (S.iL a b).2.1
def afE(a:List (Int×Int×Int×B8))(b:Nat):=(List.getD a (Int.toNat b) (0,0,0,[])).2
def ar7(a:Int):=Vg.aK (ak8 a) 31
def M4(a:List (Int×Int×List (B8×List Int)))(b:Nat):=List.getD a (Int.toNat b) (0,0,[])
def vw(a:List B8)(b:List (Int×Int×List (B8×List Int)))(c:Nat):=List.getD (S.ak a b).2 (Int.toNat c) (0,0,[])
def DA(a:List B8)(b:List (Int×Int×List (B8×List Int)))(c:Nat):=(S.rf (vw a b c).1 (vw a b c).2.1 (vw a b c).2.2).1
def nk(a:List (Int×Int×List (B8×List Int)))(b:Nat):=List.getD a (Int.toNat b) (0,0,[])
def Yz(a:List Int×List Int×List Int):=List.getD a.2.1 (Int.toNat 0) 0
def og(a:List Int×List Int×List Int):=List.getD a.1 (Int.toNat 0) 0
def pt(a:List Int×List Int×List Int):=alg (abO (q48 a.2.1)) (mr (q48 a.1)) (Yz a) (og a)
def Ax(a:List Int×List Int×List Int):=alg (abO (q48 a.1)) (mr (q48 a.2.1)) (og a) (Yz a)
def xW(a:List Int×List Int×List Int):=List.getD a.1 (Int.toNat 0) 0
def Hm(a:List Int×List Int×List Int):=List.getD a.2.1 (Int.toNat 0) 0
def YA(a:List Int×List Int×List Int):=alg (abO (q48 a.1)) (mr (q48 a.2.1)) (xW a) (Hm a)
def ak0(a:List Int×List Int×List Int):=alg (abO (q48 a.2.1)) (mr (q48 a.1)) (Hm a) (xW a)
def Hn(a:List Int×List Int×List Int):=List.getD a.2.1 (Int.toNat 0) 0
def vz(a:List Int×List Int×List Int):=List.getD a.1 (Int.toNat 0) 0
def bI(a:List Int×List Int×List Int):=alg (abO (q48 a.2.1)) (mr (q48 a.1)) (Hn a) (vz a)
def ak1(a:List Int×List Int×List Int):=alg (abO (q48 a.1)) (mr (q48 a.2.1)) (vz a) (Hn a)
def xX(a:List Int×List Int):=List.getD a.1 (Int.toNat 0) 0
def SG(a:List Int×List Int):=alg (abO ald) (mr (q48 a.1)) (at7 0) (xX a)
def YB(a:List Int×List Int):=alg (abO (q48 a.1)) (mr ald) (xX a) (at7 0)
def rq(a:List B8):=S.root (S.leaves a)
def vA(a:List B8):=S.root (S.leaves a)
def ru(a:List (Int×B8))(b:Nat):=gD (Bool.not (decide ((xS a b).2= []))) (decide (S.iv a b<2))
def qn(a:B8)(b:Nat):=List.getD (S.decode a) (Int.toNat b) 0
def vB(a:B8):=(S.aH a).2
def SH(a:B8)(b:Nat×Nat):=S.Af a b.2 b.1
def tA(a:B8)(b:Nat×Nat):=S.gw a (SH a b).1.1 (SH a b).1.2
def alq(a:B8):=S.af a (S.cC a 1 0).1.1 (S.cC a 1 0).1.2
def M5(a:B8):=S.jD a (S.ai a (alq a).1.2.1 (alq a).1.2.2 2000).1.2.1 (S.ai a (alq a).1.2.1 (alq a).1.2.2 2000).1.2.2
def jE(a:B8):=S.cC a (S.cC a 1 0).1.1 (S.cC a 1 0).1.2
def YD(a:B8):=S.jD a (jE a).1.1 (jE a).1.2
def YE(a:List (List (Int×B8×B8×B8×List B8×B8)))(b:Nat)(c:Nat×Nat):=List.getD (List.getD a (Int.toNat b) []) (Int.toNat c.1) (0,[],[],[],[],[])
def am3(a:List (List (Int×B8×B8×B8×List B8×B8)))(b:Nat)(c:Nat×Nat):=List.getD (List.getD a (Int.toNat b) []) (Int.toNat c.1) (0,[],[],[],[],[])
def akE(a b:B8):=mr (S.il b ([]++a)).2.2
def ar8(a b:B8):=mr (S.il b ([]++a)).2.2
def afP(a b c:B8):=q38 (abF (S.aC ([]++a)).2) (gD (ar8 a c) (akE a b))
def afQ(a:B8):=List.length ([]++a)
def abU(a:List (Int×Int×Int×B8))(b:Nat):=List.getD a (Int.toNat b) (0,0,0,[])
def akX(a:B8):=a.length
def adn(a:B8)(b:Int)(c:B8):=gD (Bool.not (S.oV c b)) (decide (1099511627776-b<akX a))
def aeP(a:B8)(b:Int)(c:B8):=bif adn a b c then [] else c
def aje(a:Int)(b:B8):=Bool.not (S.oV b a)
def ado(a b c d e f g h i:Int)(j:B8)(k l:Nat):=aeS [(S.aE (aeL (aje a j) b c d e f g h i) (S.jd j a k)).1,(S.aE (aeL (aje a j) b c d e f g h i) (S.jd j a k)).2.1,(S.aE (aeL (aje a j) b c d e f g h i) (S.jd j a k)).2.2.1,(S.aE (aeL (aje a j) b c d e f g h i) (S.jd j a k)).2.2.2.1,(S.aE (aeL (aje a j) b c d e f g h i) (S.jd j a k)).2.2.2.2.1,(S.aE (aeL (aje a j) b c d e f g h i) (S.jd j a k)).2.2.2.2.2.1,(S.aE (aeL (aje a j) b c d e f g h i) (S.jd j a k)).2.2.2.2.2.2.1,(S.aE (aeL (aje a j) b c d e f g h i) (S.jd j a k)).2.2.2.2.2.2.2] l
def aus(a:B8):=((S.aE afC a).1,(S.aE afC a).2.1,(S.aE afC a).2.2.1,(S.aE afC a).2.2.2.1,(S.aE afC a).2.2.2.2.1,(S.aE afC a).2.2.2.2.2.1,(S.aE afC a).2.2.2.2.2.2.1,(S.aE afC a).2.2.2.2.2.2.2)
def alu(a:B8):=S.sched a 64
def abE(a:Nat):=0+Int.toNat (a-2)*1
def axp(a:Nat):=0+Int.toNat (a-15)*1
def agi(a:B8)(b:Nat):=List.take (Int.toNat 64) (S.gg a b)
def ajf(a:Int×Int):=ak8 (a.1+a.2)/ix 2 1
def aut(a:Nat×Nat×List B8×Nat):=List.length a.2.2.1
def ae5(a:Nat×Nat×List B8×Nat):=Int.toNat a.1
def ahr(a:Nat×Nat×List B8×Nat):=List.take (ae5 a) a.2.2.1++List.replicate (aut a-ae5 a) q70++List.drop (ae5 a+(aut a-ae5 a)) a.2.2.1
def aeT(a:Nat):=Int.toNat a
def auh(a:Nat)(b:Nat×Nat×List B8×Nat):=Bool.not (decide (q68 b.2.2.1 (aeT a+Int.toNat b.2.1)=q68 b.2.2.1 (aeT a+Int.toNat (b.2.1-1))))
def afv(a:List B8):=a.length
def auu(a:Nat):=Int.toNat a
def afw(a:Nat×Nat×List B8×Nat):=Int.toNat a.1
def aeW(a:List B8):=a.length
def aim(a:Nat×Nat×List B8×Nat):=List.length a.2.2.1
def auj(a:Nat×Nat×List B8×Nat):=List.take (afw a) a.2.2.1++List.replicate (aim a-afw a) q70++List.drop (afw a+(aim a-afw a)) a.2.2.1
def ae6(a:Nat)(b:Nat×Nat×List B8×Nat):=Bool.not (decide (q68 b.2.2.1 (auu a+Int.toNat b.2.1)=q68 b.2.2.1 (auu a+Int.toNat (b.2.1-1))))
def ar9(a:List Int)(b:Nat×B8):=S.gN (S.bJ (aeS a b.1))
def abY(a:List B8):=a.length
def auv(a:List B8):=List.set a (Int.toNat (abY a-2)) (S.bc (q68 a (Int.toNat (abY a-2))) (q68 a (Int.toNat (abY a-2+1))))
def auk(a:Int):=[rX (q73 (S.more a))]
def auw(a:Int)(b:Nat):=a+List.getD (yz 32 [32,80,32]) (Int.toNat b) 0
theorem aP {p q:Prop}(h:q)(e:p=q:=by(try delta wC fO py hU q26 gD q32 dQ eP q36 q38 q42 q46 q48 ix q53 fw wD q63 q64 q68 tv q70 yz q73 Dp q79 rX q84 q89 q90 pz MH q97 q98 acd amh MK akm afu abS ak5 ak7 ak8 aeY ala ani pP ab8 aeR uA aiu anj Ar adp at6 VV alc ald VW aum mr dB Qj As abF akD ank FH abK ae9 ale adC avP alg abN afy anl nH anm ami ali alj afB at7 aua alk aun aeL avW awd awe awD abO ai5 aub amz aB8 auq afC aug aeS aur alm ae3 xS Dv M1 Dw M3 Dx Hh Dy ajd Dz Hi SF mu ae4 xV oe Av Hk Hl afD Aw awG afE ar7 M4 vw DA nk Yz og pt Ax xW Hm YA ak0 Hn vz bI ak1 xX SG YB rq vA ru qn vB SH tA alq M5 jE YD YE am3 akE ar8 afP afQ abU akX adn aeP aje ado aus alu abE axp agi ajf aut ae5 ahr aeT auh afv auu afw aeW aim auj ae6 ar9 abY auv auk auw);exact rfl):p:=e.mpr h
end Go

end
