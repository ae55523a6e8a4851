import Derived.Test.YtimebdkngdbpkaaGreatDoorPartC
import Derived.Lib.LaidTab
import Derived.Test.YtimebdkngdbpkaaGreatDoorProg
import Derived.WalkKit
set_option linter.unusedVariables false
set_option linter.unusedSimpArgs false
set_option linter.unusedSectionVars false
set_option linter.defProp false
namespace Go.S
def rM(d:Bool)(w:Wp):Bool:=d || w.2
def bytesOf(w:Wp):B8:=w.1
def iG(w:Wp):Bool:=w.2
def qD(l:M (M Pf)):Prop:=l.length<=1000/\∀x∈l,∀p∈x,p.2.2.2.2.2.length<=1099511627776
def dN(n:Int)(g:B8)(s:M Sg)(l:M (M Pf))(k j:Nat):Wp:=cat (cY n g s l k) (ON (iE l k) j)
def kz(s:M Sg)(l:M (M Pf))(k:Nat):Prop:=k<=l.length/\l.length=s.length/\qD l/\∀i,i<k->(iE l i).length<=16
def iH(s:M Sg)(l:M (M Pf))(k j:Nat):Prop:=kz s l k/\k<l.length/\(iE l k).length<=16/\j<=(iE l k).length
def BX(b:B8)(k j:Nat):Rs×M Pf:=abH b (js b k).1.1 (js b k).1.2 j
def qE(b:B8)(k:Nat):Nat:=ò b (js b k).1.1 (js b k).1.2
theorem alK(s:B8):(text s).length<=s.length+9:=by
 grind[cX,text,List.length_append]
variable {m n p1 a e v i j:Int}{p p5 docs ts:List B8}{s:List Sg}{l:List (List Pf)}{g b p6 t:B8}{c:UInt8}{d:List cr}{q:List dC}{x:Int×Int×List Bool}{r:List Int}{f:List (List Int)}
theorem C9(b:B8)(hm:0<=m):((ik b m).1.length:Int)<=m+9:=by
 grind[ik,alK]
theorem X8(v:Int):(lO v).1.length<=9:=by
 grind[lO,cX]
theorem ahC(n:Int)(g:B8)(s:M Sg):(ajd n g s).1.length<=10009:=by
 unfold ajd;split
 . have:=C9 (hB n g s) (m:=10000) (by decide);omega
 grind
theorem abI:∀(p:O),(p.takeWhile KJ).flatten.length<=32*p.length
 |[]=>by simp
 |a::p=>by
  have:=abI p;by_cases h:KJ a=true
  . rw [List.takeWhile_cons_of_pos h,List.flatten_cons,K!,O?];have :(a.length:Int)=32:=of_decide_eq_true h;omega
  simp_all
theorem OO(p:O):(kO p).1.length<=2057:=by
 grind[kO,cX,abI,List.length_append]
theorem X9(p:Pf):(ku p).1.length<=7000:=by
 have h1:=X8 p.1;have h2:=C9 (qy p.2.1 p.2.2.1 p.2.2.2.1) (m:=200) (by decide);have h3:=OO p.2.2.2.2.1;have h4:=C9 p.2.2.2.2.2 (m:=4000) (by decide);grind[ku,cat,List.length_append]
theorem Jb(l:M Pf):∀k,(ON l k).1.length<=7000*k+9
 |0=>by grind[ON,cX]
 |k+1=>by
  have:=Jb l k;have:=X9 (pfD l k);simp [ON,cat,K!];omega
theorem Sr(n:Int)(g:B8)(s:M Sg)(l:M (M Pf)):∀k,(∀i,i<k->(iE l i).length<=16)->(cY n g s l k).1.length<=120000*k+20000
 |0,_=>by
  grind[ahC,cY,cat,List.length_append,List.length_singleton]
 |k+1,h=>by
  have:=Sr n g s l k λi hi=>h i w!;have:=Jb (iE l k) (iE l k).length;have:=h k w!;simp [cY,cat,K!];omega
theorem aG7(h:¬(64:Int)<p.length):mA p 0:=⟨w!,U! _,z!⟩
theorem aq0{k:Nat}(h:mA p k):(aL4 p k).length<=2057:=by
 obtain⟨h1,h2,h3⟩:=h
 have q:∀(l:O),(∀d∈l,(d.length:Int)=32)->l.flatten.length=32*l.length:=by
  intro l;induction l with
  |nil=>grind
  |cons a l ih=>
   grind
 grind[cX,List.length_take,aL4,List.length_append]
theorem Ya {p:O}{k:Nat}(h:mA p k)(hk:(k:Int)<p.length)(hd:((p.getD k []).length:Int)=32):mA p (k+1)/\aL4 p k++p.getD k []=aL4 p (k+1):=by
 have e:=aD p k [] w!;refine⟨⟨h.1,w!,?_⟩,?_⟩
 . rw [e];intro d hm;rcases F!.1 hm with q|q
   . exact h.2.2 d q
   grind
 grind[aL4]
theorem aq1:∀ {k:Nat},(∀d∈p.take k,(d.length:Int)=32)->k<p.length->¬((p.getD k []).length:Int)=32->p.takeWhile KJ=p.take k:=by
 induction p with
 |nil=>grind
 |cons a p ih=>
  intro k h hk hd;cases k with
  |zero=>simp_all[List.takeWhile_cons_of_neg,KJ,H!]
  |succ k=>
   have ha:=h a z!;rw [List.takeWhile_cons_of_pos (show KJ a=true from K? ha),List.take_succ_cons,ih (k:=k) (λd hd=>h d (by exact E! _ hd)) (by simpa using hk) hd]
theorem abJ {p:O}{k:Nat}(h:mA p k)(hk:(k:Int)<p.length)(hd:¬((p.getD k []).length:Int)=32):kO p=(aL4 p k,true):=by
 have hD:bQ p=false:=by
  grind[eA,bC]
 unfold kO aL4;rw [if_neg (by have:=h.1;omega),hD,aq1 h.2.2 w! hd];rfl
theorem abK{k:Nat}(h:mA p k)(hk:¬(k:Int)<p.length):kO p=(aL4 p k,false):=by
 have e:k=p.length:=by have:=h.2.1;omega
 have hD:bQ p=true:=(eA p).2 λd hd=>by have:=h.2.2 d x!;omega
 unfold kO aL4;rw [if_neg (by have:=h.1;omega),hD,aqZ hD,e,List.take_length];rfl
theorem alL(h:(64:Int)<p.length):kO p=([],true):=by simp_all[kO,M!]
theorem ayL{l:M (M Pf)}(hp:qD l)(h:(l.length:Int)=s.length):kz s l 0:=⟨U! _,w!,hp,λi hi=>by omega⟩
theorem alM{k:Nat}(h:kz s l k)(hk:(k:Int)<l.length)(h1:¬(16:Int)<(iE l k).length):iH s l k 0:=⟨h,w!,w!,U! _⟩
theorem Yb{k j:Nat}(h:iH s l k j)(hj:(j:Int)<(iE l k).length):iH s l k (j+1):=⟨h.1,h.2.1,h.2.2.1,w!⟩
theorem LU{k j:Nat}(h:iH s l k j)(hj:¬(j:Int)<(iE l k).length):kz s l (k+1)/\dN n g s l k j=cY n g s l (k+1):=by
 have e:j=(iE l k).length:=by have:=h.2.2.2;omega
 refine⟨⟨by have:=h.2.1;omega,h.1.2.1,h.1.2.2.1,λi hi=>?_⟩,by subst e;rfl⟩;by_cases q:i=k
 . subst q;exact h.2.2.1
 . exact h.1.2.2.2 i w!
theorem alN{l:M (M Pf)}(h:¬(l.length:Int)=s.length):kv n g s l=([],1):=by simp_all[kv,M!]
theorem LV{k:Nat}(hk:(k:Int)<l.length)(h:(16:Int)<(iE l k).length):kv n g s l=([],1):=by
 have :UJ l=false:=by
  rw [<-Bool.not_eq_true];intro q;have:=of_decide_eq_true (List.all_eq_true.1 q _ (bC l k [] w!));grind[iE]
 simp_all[kv,M!]
theorem LW{k:Nat}(h:kz s l k)(hk:¬(k:Int)<l.length):kv n g s l=(wy (cY n g s l k),wz (cY n g s l k)):=by
 have e:k=l.length:=by have:=h.1;omega
 subst e
 have :UJ l=true:=Z!.2 λx hx=>by
  obtain⟨i,hi,rfl⟩:=List.mem_iff_getElem.1 hx;have:=h.2.2.2 i hi;have e:iE l i=l[i]:=by simp [iE,G!,hi]
  rw [e] at this;exact K? w!
 unfold kv;rw [if_neg (by rw [this,h.2.1];simp)]
theorem Yc{k j:Nat}(h:iH s l k j)(hj:(j:Int)<(iE l k).length):(pfD (iE l k) j).2.2.2.2.2.length<=1099511627776:=
 h.1.2.2.1.2 _ (bC l k [] h.2.1) _ (bC (iE l k) j X0 w!)
theorem UK{k:Nat}(h:kz s l k):(cY n g s l k).1.length<=130000000:=by
 have:=Sr n g s l k h.2.2.2;have:=h.1;have:=h.2.2.1.1;omega
theorem Yd{k j:Nat}(h:iH s l k j):(dN n g s l k j).1.length<=140000000:=by
 have:=UK (n:=n) (g:=g) h.1;have:=Jb (iE l k) j;have:=h.2.2.1;have:=h.2.2.2
 grind[dN,cat,List.length_append]
theorem aq2(v:Int):(mn [] v).length<=9:=by
 grind[mn,cX]
theorem aG8(v:Int):mn [] v=(lO v).1:=by grind[mn,lO]
theorem aG9(v:Int)(d:Bool):(bif !decide (xV v=0) then true else d)=rM d (lO v):=by
 grind[xV,lO,rM,fT]
theorem LX {n:Nat}(h:n<=1000):lO (n:Int)=(num (n:Int),false):=by
 grind[lO,OD]
theorem abL(h:m<b.length):ik b m=([],true):=by simp_all[ik,M!]
theorem alO(h:¬m<b.length):ik b m=(text b,false):=by simp_all[ik,J!]
theorem alP(h:¬(hW n g s).2=0):ajd n g s=([],true):=by
 grind[bN,LQ,ajd]
theorem aq3(h:(hW n g s).2=0):ajd n g s=ik (hW n g s).1 10000/\(hW n g s).1.length<=100000:=by
 simp_all[aly,ajd,M!,abA]
theorem aq4(a b c:B8):(fW a b c).length<=200:=by
 grind[fW,EW]
theorem aA6 {a c:B8}(h:¬kM a b c=0):fU a b c=false:=by
 grind[fU,kM]
theorem aq5 {a c:B8}(h:kM a b c=0):fU a b c=true/\fW a b c=qy a b c:=by
 cases q:fU a b c with
 |true=>exact⟨rfl,by grind[fW]⟩
 |false=>grind[kM]
theorem abM{p2 p3 p4:B8}(h:¬kM p2 p3 p4=0):ku (p1,p2,p3,p4,p5,p6)=((lO p1).1,true):=by
 grind[ku,aA6]
theorem alQ{p2 p3 p4:B8}(h:kM p2 p3 p4=0):ku (p1,p2,p3,p4,p5,p6)=cat (cat (cat (lO p1) (ik (fW p2 p3 p4) 200)) (kO p5)) (ik p6 4000):=by
 grind[ku,aq5]
theorem abN {n:Int}{g:B8}{s:M Sg}{l:M (M Pf)}{k j:Nat}(p:Pf)(hp:p=pfD (iE l k) j)(d:Bool)(b:B8)(hd:d=iG (dN n g s l k j))(hb:b=bytesOf (dN n g s l k j)):
  rM d (ku p)=iG (dN n g s l k (j+1))/\b++bytesOf (ku p)=bytesOf (dN n g s l k (j+1)):=by
 subst hp;subst hd;subst hb;simp [rM,iG,bytesOf,dN,ON,cat,Bool.or_assoc,W!,and_self]
theorem abO(h:(1048576:Int)<b.length):dY b c=3:=by simp_all[dY,M!]
theorem abP {b:B8}(h:¬(1048576:Int)<b.length)(h1:(b.length:Int)=0):dY b c=4:=by simp_all[dY,J!,M!]
theorem alR {b:B8}(h:¬(1048576:Int)<b.length)(h1:¬(b.length:Int)=0)(h2:¬((b.getD (Int.toNat 0) 0).toNat:Int)=c.toNat):dY b c=2:=by
 grind[dY]
theorem aA7 {b:B8}(h:¬(1048576:Int)<b.length)(h1:¬(b.length:Int)=0)(h2:((b.getD (Int.toNat 0) 0).toNat:Int)=c.toNat):dY b c=0:=by
 unfold dY;grind[UInt8.toNat_inj]
theorem LY(b:B8)(a e m:Int):(an b a e m).2.length<=b.length:=by
 grind[an,di]
theorem alS(b:B8)(a e:Int)(hm:0<=m):(dh b a e m).2<=m:=by
 grind[dh]
theorem aq6(h:m<(af b a e).2):dh b a e m=(((af b a e).1.2.1,2),0):=by simp_all[dh,M!]
theorem aA8(h:¬m<(af b a e).2):dh b a e m=((af b a e).1.2,(af b a e).2):=by simp_all[dh,J!]
theorem aA9(h:¬(an b a e 10000).1.2.2=0):cC b a e=((an b a e 10000).1.2,(0,[],[])):=by simp_all[cC,M!]
theorem aq7(h:(an b a e 10000).1.2.2=0):cC b a e=(((an b a e 10000).1.2.1,(hR (an b a e 10000).2).2),(hR (an b a e 10000).2).1):=by simp_all[cC,J!]
theorem aBa(h:¬(an b a e 200).1.2.2=0):kQ b a e=((an b a e 200).1.2,([],[],[])):=by simp_all[kQ,M!]
theorem aq8(h:(an b a e 200).1.2.2=0):kQ b a e=(((an b a e 200).1.2.1,(bj (an b a e 200).2).2),(bj (an b a e 200).2).1):=by simp_all[kQ,J!]
theorem abQ(b:B8)(a e:Int):∀k,(rL b a e k).2.length=k
 |0=>rfl
 |k+1=>by simp only [rL];rw [K!,abQ b a e k];rfl
theorem LZ(b:B8)(a e:Int)(k:Nat):(dB b a e k).2.length=k:=abQ ..
theorem abR(b:B8)(a e:Int):∀k,(D9 b a e k).2.length=k
 |0=>rfl
 |k+1=>by simp only [D9];rw [K!,abR b a e k];rfl
theorem aq9(b:B8)(k j:Nat):(BX b k j).2.length=j:=abR ..
theorem abS(b:B8)(a e:Int):∀k,(sL b a e k).2.length=k
 |0=>rfl
 |k+1=>by simp only [sL];rw [K!,abS b a e k];rfl
theorem ara(b:B8)(k:Nat):(js b k).2.length=k:=abS ..
theorem OP(b:B8)(a e:Int):pg b a e<=64:=by simp_all[alS,pg]
theorem alT(b:B8)(k:Nat):qE b k<=16:=by simp_all[alS,js,qE,ò]
theorem ó {x:Nat}(h:(x:Int)<v):x+1<=v.toNat:=by omega
theorem OQ {x:Nat}(h:cc x v.toNat)(h1:¬(x:Int)<v):x=v.toNat:=by grind[cc]
theorem arb(b:B8):(hR b).1.2.2.length<=64:=by
 by_cases h:(hR b).2=0
 . grind[rJ,jm,Ox]
 simp_all[als,U!]
theorem ô(b:B8):aN b<=64:=by
 grind[aN,aH,cC,arb]
theorem UL {b:B8}{x:Nat}(h:(x:Int)<((cC b 1 0).2.2.2.length:Int)):x+1<=aN b:=by
 have :aN b=(cC b 1 0).2.2.2.length:=rfl;omega
theorem õ {b:B8}{x:Nat}(h:cc x (aN b))(h1:¬(x:Int)<((cC b 1 0).2.2.2.length:Int)):x=aN b:=by
 have :aN b=(cC b 1 0).2.2.2.length:=rfl;grind[cc]
theorem ayM(h:¬dY b 1=0):bp b=((0,[],[],[]),dY b 1):=by simp_all[bp,M!]
theorem alU{k:Nat}(h:dY b 1=0)(hk:k=aN b)(h1:¬done b (js b k).1.1 (js b k).1.2=0):bp b=((0,[],[],[]),done b (js b k).1.1 (js b k).1.2):=by simp_all[bp,J!,M!]
theorem ayN{k:Nat}(h:dY b 1=0)(hk:k=aN b)(h1:done b (js b k).1.1 (js b k).1.2=0):bp b=(((aH b).2.1,(aH b).2.2.1,(aH b).2.2.2,(js b k).2),0):=by simp_all[bp,J!]
variable {l:List Sg}{s:List Int}
theorem pT(h:bN n g l=true):0<=n/\n<=1000/\g.length=32/\l.length<=64:=by
 grind[jm,rJ]
theorem L0(h:fT v=false):0<=v/\v<=4611686018427387904:=by
 grind[fT,Bool.or_eq_false_iff,decide_eq_false_iff_not]
theorem abT(h:bN n g l=true):aC (hB n g l)/\small (hB n g l):=by
 grind[abA,aC,small]
def im(n:Int)(g:B8)(l:M Sg):B8×Int:=if bN n g l then(mF 3 (hB n g l),0) else([],1)
def uW(n:Int)(g:B8)(l:M Sg):B8:=eW 3 (hB n g l)
def mG(docs:O)(l:M aY):B8×Int:=
 if gv docs l then(mF 3 (hB docs.length (root (leaves docs)) (cB docs l)),0) else([],7)
def Lm(d:M cr)(ts:O):M Pf:=ts.map (la d)
def rN(d:M cr)(ts:O)(k:Nat):M Pf:=(ts.take k).map (la d)
def Jc(d:M cr)(ts:O):Prop:=bn d/\bg d=true/\ts.length<=1000/\∀t∈ts,isTerm t=true
def Ye(l:M aY)(ts:O):M (M Pf):=l.map λs=>Lm s.2.2 ts
def iL(l:M aY)(ts:O)(k:Nat):M (M Pf):=Ye (l.take k) ts
def fE(docs:O)(l:M aY)(q:M dC):B8×Int:=
 if gv docs l=false then([],7) else if bw q=false then([],1)
 else kv docs.length (root (leaves docs)) (cB docs l) (Ye l (ax q))
theorem Yf(l:O):(leaves l).length=l.length:=by simp [leaves]
theorem alY(h:v<16384):(num v).length<=2:=by
 grind[num,ra]
theorem alZ {l:U}(h:bK l=true):(BF l).length<=2*l.length+2:=by
 have hl:=ou h
 have q:∀k,k<=l.length->((List.range k).flatMap (λi=>num (l.getD i 0-gi l i-1))).length<=2*k:=by
  intro k;induction k with
  |zero=>simp
  |succ k ih=>
   intro hk;have h1:=R9 (abp h (k:=k) w!);have h2:=(jG l k).1 ((kL l).1 h k w!);have h3:=alY (v:=l.getD k 0-gi l k-1) w!;rw [List.range_succ,List.flatMap_append,K!];simp only [List.flatMap_cons,List.flatMap_nil,H?];omega
 have:=q l.length (S! _);have h3:=alY (v:=(l.length:Int)) w!;simp only [BF,jb,K!];omega
theorem ahD(h:bg d=true)(t:B8):bK (qz d t)=true:=by
 unfold qz;split
 . rename_i h1;have hb:=LN h1;simp_all[ye,bt]
 . rfl
theorem aBd(h:bg d=true){i:Nat}(hi:i<=d.length):fU (bj (l9 d i)).1.1 (bj (l9 d i)).1.2.1 (bj (l9 d i)).1.2.2=true:=by
 rcases Hc h (k:=i) with q|q
 . have e:l9 d i=qy (if i=0 then [] else fY d (i-1)) (if i<d.length then fY d i else []) (CW (if i=0 then [] else jS d (i-1))):=rfl;grind[ak8]
 omega
theorem ö(h:bg d=true)(hp:d.length<=1048576)(t:B8):X6 (la d t)=true:=by
 obtain⟨f1,f2,f3⟩:=X1 (t:=t) h;have hlen:(leaves (ie d)).length=d.length+1:=by rw [Yf,f3]
 refine Sq.2 ⟨OD f1 (by grind[la]),aBd h w!,?_,ñ _ _ _ rfl (tB _),?_⟩
 . have:=alB (l:=leaves (ie d)) (i:=bt d t+1) (t:=21) f1 w! w!;grind[la]
 grind[la,ahD,alZ,ou]
theorem al0(h:bg d=true)(hp:d.length<=1048576)(ts:O):∀p∈Lm d ts,X6 p=true:=by
 intro p Bn;obtain⟨t,_,rfl⟩:=List.mem_map.1 Bn;grind[ö]
variable {l:List aY}
theorem Ss(h:gv docs l=true):∀s∈l,bg s.2.2=true/\s.2.2.length<=1048576/\bn s.2.2:=by
 intro s hs;have R:=RI.of (uR.1 h).1;obtain⟨h1,h2,_⟩:=R.seg s hs;refine⟨?_,h2.1,h2⟩;have :amC s.1 s.2.1 s.2.2=true:=h1;simp [amC,Bool.and_eq_true] at this;grind
theorem al1(h:gv docs l=true)(ht:ts.length<=16):∀x∈Ye l ts,(x.length:Int)<=16/\∀p∈x,X6 p=true:=by
 intro x hx;obtain⟨s,hs,rfl⟩:=List.mem_map.1 hx;grind[Ss,Lm,al0]
def hx(l:M rf):QS:=(bY (fq l).1 (fq l).2).1
theorem aBe{l:M Sg}(h:¬(hW n g l).2=0):im n g l=([],1)/\(hW n g l).2=1:=by
 grind[bN,LQ,í,im]
theorem arc{l:M Sg}(h:(hW n g l).2=0):im n g l=(mF 3 (hW n g l).1,0)/\aC (hW n g l).1:=by
 simp_all[aly,im,M!,abT]
theorem al2(h:¬(iv docs l).2=0):gv docs l=false:=by
 grind[C7]
theorem wA(h:(iv docs l).2=0):gv docs l=true/\(iv docs l).1.1=(docs.length:Int)/\(iv docs l).1.2.1=root (leaves docs)/\(iv docs l).1.2.2=cB docs l:=by
 grind[gv,C7,alx]
theorem aBf(h:¬(iv docs l).2=0):mG docs l=([],7):=by grind[mG,al2]
theorem ard(h:(iv docs l).2=0):im (iv docs l).1.1 (iv docs l).1.2.1 (iv docs l).1.2.2=mG docs l:=by
 simp_all[wA,mG,im,M!,ï]
theorem KK(h:isTerm t=true):small t:=by grind[BL,small]
theorem are(d:M cr)(ts:O)(k:Nat):(rN d ts k).length<=ts.length:=by grind[rN,List.length_take]
theorem al3{k:Nat}(h:(k:Int)<ts.length):rN d ts k++[la d (ts.getD (Int.toNat (k:Int)) [])]=rN d ts (k+1):=by
 grind[Int.toNat_natCast,rN,aD]
theorem arf{k:Nat}(h:gX ts k)(hk:¬(k:Int)<ts.length):rN d ts k=Lm d ts:=by
 grind[gX,rN,Lm,List.take_length]
theorem aBg(h:Jc d ts){k:Nat}(hk:(k:Int)<ts.length):isTerm (ts.getD (Int.toNat (k:Int)) [])=true:=by
 exact h.2.2.2 _ (bC ts k [] w!)
theorem abU(l:M aY)(ts:O)(k:Nat):(iL l ts k).length<=l.length:=by grind[iL,Ye,List.length_take]
theorem Yg{k:Nat}(h:(k:Int)<l.length):iL l ts k++[Lm (l.getD (Int.toNat (k:Int)) (0,0,[])).2.2 ts]=iL l ts (k+1):=by
 grind[Int.toNat_natCast,iL,Ye,aD]
theorem arh{k:Nat}(h:gX l k)(hk:¬(k:Int)<l.length):iL l ts k=Ye l ts:=by
 grind[gX,iL,List.take_length]
theorem Jd(h:gv docs l=true):l.length<=64:=by simpa [fL] using(RI.of (uR.1 h).1).le
theorem abV(h:gv docs l=true)(hq:bw q=true){k:Nat}(hk:(k:Int)<l.length):Jc (l.getD (Int.toNat (k:Int)) (0,0,[])).2.2 (ax q):=by
 obtain⟨f1,f2,f3⟩:=Ss h _ (bC l k (0,0,[]) w!);exact⟨f3,f1,by grind[pS],X5 hq⟩
theorem al4(h:¬(iv docs l).2=0):fE docs l q=([],7):=by simp_all[fE,M!,al2]
theorem abW {docs:O}{l:M aY}(h:(iv docs l).2=0)(hq:bw q=false):fE docs l q=([],1):=by
 simp_all[fE,J!,wA,M!]
theorem abX(h:gv docs l=true)(hq:bw q=true){k:Nat}(h1:gX l k)(hk:¬(k:Int)<l.length):
  kv ((len docs:Nat):Int) (root (leaves docs)) (cB docs l) (iL l (ax q) k)=fE docs l q/\qD (iL l (ax q) k):=by
 rw [arh h1 hk];refine⟨by unfold fE;rw [if_neg x!,if_neg x!];rfl,?_,?_⟩
 . grind[Jd,Ye]
 . intro x hx p hp;have:=(Sq.1 ((al1 h (pS hq) x hx).2 p hp)).2.2.2.2;omega
def kx:QS:=([zA],[(0,1,[(zA,[0])])])
def kP:M (M Pf):=Ye kx.2 (ax fy)
theorem al5:fV fy:=⟨by unfold small;decide,by unfold small;decide⟩
def vz(n:Int)(g:B8)(l:M Sg)(root:B8):Bool:=decide ((im n g l).2=0)&&decide ((im n g l).1=root)
def qF(a:M (M Pf))(i:Int)(t:O):Bool:=decide ((a.getD i.toNat []).length=t.length)
def xl(l:U)(a b:Int)(k:Nat):Prop:=∀j,j<k->a<=l.getD j 0/\l.getD j 0<b
def wB(l:U)(a b:Int):Bool:=l.all λx=>decide (a<=x)&&decide (x<b)
theorem ari{l:M Sg}{root:B8}:(bif decide ((im n g l).2=0) then decide ((im n g l).1=root) else false)=vz n g l root:=by
 grind[decide,im,vz]
variable {l:List Int}{d:B8}
theorem zB{b:Int}{k:Nat}(h:xl l a b k)(h1:a<=l.getD k 0)(h2:l.getD k 0<b):xl l a b (k+1):=λj hj=>by
 by_cases Dj:j=k
 . grind
 . exact h j w!
theorem Da{b:Int}{k:Nat}(h:xl l a b k)(hk:l.length<=k):wB l a b=true:=by
 simp [wB,List.all_eq_true,Bool.and_eq_true,decide_eq_true_eq];intro x hx;obtain⟨j,hj,rfl⟩:=List.getElem_of_mem hx;have:=h j w!;grind
theorem Hr{b:Int}{k:Nat}(hk:k<l.length)(h:l.getD k 0<a\/b<=l.getD k 0):wB l a b=false:=by
 rw [Bool.eq_false_iff];intro hx;simp [wB,Z!,B!,H!] at hx;have:=hx l[k] (List.getElem_mem hk);rw [G!,D! hk] at h;simp at h;omega
theorem aHa(h:eM i n):j6 i n (i,n,[]):=⟨h.1,h.2.1,Int.le_refl _,z!,z!⟩
theorem OR(hp:eM i n)(h:j6 i n x)(h1:1<x.2.1):
  split x.2.1=((sp x.2.1.toNat:Nat):Int)/\1<=split x.2.1/\split x.2.1<x.2.1/\x.2.1<=1099511627776/\x.2.2.length<=1099511627776/\0<=x.1/\x.1<x.2.1:=by
 obtain⟨_,_,p3⟩:=hp;obtain⟨q1,q2,q3,_,q5⟩:=h;grind[nD,gN]
theorem aHb(hp:eM i n)(h:j6 i n x)(h1:1<x.2.1)(h2:x.1<split x.2.1):j6 i n (x.1,split x.2.1,x.2.2++[false]):=by
 obtain⟨b1,b2,b3,b4,b5,_⟩:=OR hp h h1;obtain⟨q1,q2,q3,q4,q5⟩:=h;refine⟨q1,h2,x!,?_,x!⟩;grind[mq]
theorem aHc(hp:eM i n)(h:j6 i n x)(h1:1<x.2.1)(h2:¬x.1<split x.2.1):j6 i n (x.1-split x.2.1,x.2.1-split x.2.1,x.2.2++[true]):=by
 obtain⟨b1,b2,b3,b4,b5,_⟩:=OR hp h h1;obtain⟨q1,q2,q3,q4,q5⟩:=h;refine⟨w!,x!,x!,?_,x!⟩;grind[nH]
theorem sd_end(h:j6 i n x)(h1:¬1<x.2.1):x.2.2=aZ i n:=by
 rw [h.2.2.2.1,jK w!];simp
theorem mg(hp:eM i n):((aZ i n).length:Int)<=1099511627776:=by
 have :∀m:Nat,∀i n:Int,n.toNat=m->0<=i->i<n->((aZ i n).length:Int)+1<=n:=by
  intro m;induction m using E6 with
  |h0 m hm=>grind[jK]
  |h1 m hm ihl ihr=>
   intro i n e h0 h1;have hb:=gN hm;by_cases hi:i<((sp n.toNat:Nat):Int)
   . rw [mq w! hi];have:=ihl i ((sp n.toNat:Nat):Int) (by rw [e];simp) h0 hi;simp;rw [e] at this |-;omega
   . rw [nH w! hi];have:=ihr (i-((sp n.toNat:Nat):Int)) (n-((sp n.toNat:Nat):Int)) (by rw [e];omega) w! w!;simp;rw [e] at this |-;omega
 have:=this n.toNat i n rfl hp.1 hp.2.1;have:=hp.2.2;omega
theorem aBh {d:B8}(h:¬((d.length:Int)=32/\1<=n/\n<=1099511627776/\0<=i/\i<n)): []=kq d i n p/\1=eQ d i n p:=by
 simp_all[eQ,J!,kq]
theorem abY {d:B8}(h:(d.length:Int)=32/\1<=n/\n<=1099511627776/\0<=i/\i<n):eM i n:=⟨h.2.2.2.1,h.2.2.2.2,h.2.2.1⟩
theorem arj {d:B8}{i n:Int}{p:O}(h:(d.length:Int)=32/\1<=n/\n<=1099511627776/\0<=i/\i<n)(h2:¬((p.length:Int)=((aZ i n).length:Int)/\bQ p=true)): []=kq d i n p/\6=eQ d i n p:=by
 have :eQ d i n p=6:=by rw [eQ,M! h];exact J! h2
 grind[kq]
theorem aBi {d:B8}{i n:Int}{p:O}(h:(d.length:Int)=32/\1<=n/\n<=1099511627776/\0<=i/\i<n)(h2:(p.length:Int)=((aZ i n).length:Int)/\bQ p=true):eQ d i n p=0:=by
 rw [eQ,M! h];exact M! h2
theorem Je(h:eQ d i n p=0):((d.length:Int)=32/\1<=n/\n<=1099511627776/\0<=i/\i<n)/\(p.length:Int)=((aZ i n).length:Int)/\bQ p=true:=by
 unfold eQ at h;split at h
 . rename_i h1;split at h
   . rename_i h2;exact⟨h1,h2⟩
   omega
 omega
theorem aHd(d:B8)(i n:Int)(p:O):d=jL d i n p 0:=by rfl
theorem al6{k:Nat}(h:eQ d i n p=0)(hk:k<p.length):
  (bif (aZ i n).getD (((aZ i n).length:Int)-1-(k:Int)).toNat false then aT (p.getD k []) (jL d i n p k) else aT (jL d i n p k) (p.getD k []))=jL d i n p (k+1):=by
 obtain⟨_,h2,_⟩:=Je h;have hz:k<(List.zip (aZ i n).reverse p).length:=by grind
 have e:jL d i n p (k+1)=Nl (jL d i n p k) ((List.zip (aZ i n).reverse p)[k]):=by
  unfold jL;rw [List.take_add_one,List.getElem?_eq_getElem hz,List.foldl_append];rfl
 rw [e,List.getElem_zip,List.getElem_reverse];have e1:(((aZ i n).length:Int)-1-(k:Int)).toNat=(aZ i n).length-1-k:=by omega
 rw [e1,G!,D! w!,G!,D! hk];cases (aZ i n)[(aZ i n).length-1-k]<;>rfl
theorem ark{k:Nat}(h:eQ d i n p=0)(hk:p.length<=k):jL d i n p k=kq d i n p:=by
 rw [kq,if_pos h,kN,wx,jL,List.take_of_length_le];grind
theorem Jf(hp:eM i n)(h:¬n<2)(h2:i<split n):1+e8 i (split n)=e8 i n/\eM i (split n)/\split n<n/\1<=split n:=by
 have e:=nD (n:=n) w! hp.2.2;have hb:=gN (n:=n.toNat) w!;refine⟨?_,⟨hp.1,h2,?_⟩,?_,?_⟩
 . grind[e8,mq]
 . have:=hp.2.2;omega
 . omega
 omega
theorem E7(hp:eM i n)(h:¬n<2)(h2:¬i<split n):1+e8 (i-split n) (n-split n)=e8 i n/\eM (i-split n) (n-split n)/\split n<n/\1<=split n:=by
 have e:=nD (n:=n) w! hp.2.2;have hb:=gN (n:=n.toNat) w!;obtain⟨p1,p2,p3⟩:=hp;refine⟨?_,⟨w!,w!,w!⟩,w!,w!⟩;grind[e8,nH]
def mB(d:B8)(i n:Int)(p:O):Prop:=eM i n/\(p.length:Int)=e8 i n/\d.length=32/\bQ p=true
theorem Ht {a:B8}(ha:a.length=32)(hb:b.length=32):aC (a++b)/\eW 1 (a++b)=aT a b:=by
 refine⟨by grind[aC,List.length_append],?_⟩;simp [aT,NZ,ha,hb,decide_true,Bool.and_self,if_true];rfl
theorem aHe(h:n<2):d=kN d i n p:=by simp [kN,wx,jK h]
theorem Yh(h:1<=p.length):p=p.take ((p.length:Int)-1).toNat++[p.getD ((p.length:Int)-1).toNat []]:=by
 have e:((p.length:Int)-1).toNat=p.length-1:=by omega
 rw [e,List.getD_eq_getElem?_getD,List.getElem?_eq_getElem w!,Option.getD_some,List.take_append_getElem];grind
theorem ayP {d:B8}{i n:Int}{p:O}{s:M Bool}(hl:(p.length:Int)=((s.length:Nat):Int)+1)(hd:bQ p=true):
  1<=p.length/\((p.take ((p.length:Int)-1).toNat).length:Int)=(s.length:Int)/\bQ (p.take ((p.length:Int)-1).toNat)=true/\(p.getD ((p.length:Int)-1).toNat []).length=32:=by
 have h1:1<=p.length:=by omega
 refine⟨h1,x!,pC hd _,?_⟩
 have:=(eA p).1 hd (p.getD ((p.length:Int)-1).toNat []) (by
  rw [List.getD_eq_getElem?_getD,List.getElem?_eq_getElem w!];grind)
 omega
theorem aHf(hp:mB d i n p)(h:¬n<2)(h2:i<split n):
  1<=p.length/\mB d i (split n) (p.take ((p.length:Int)-1).toNat)/\aC (kN d i (split n) (p.take ((p.length:Int)-1).toNat)++p.getD ((p.length:Int)-1).toNat [])/\
   eW 1 (kN d i (split n) (p.take ((p.length:Int)-1).toNat)++p.getD ((p.length:Int)-1).toNat [])=kN d i n p/\split n<n/\1<=split n/\(p.length:Int)<=1099511627776:=by
 obtain⟨p1,p2,p3,p4⟩:=hp;obtain⟨q1,q2,q3,q4⟩:=Jf p1 h h2;have e:=nD (n:=n) w! p1.2.2;have hs:=mq (i:=i) (n:=n) w! (by rw [<-e];exact h2);rw [<-e] at hs;have al7:=mg p1;obtain⟨r1,r2,r3,r4⟩:=ayP (d:=d) (i:=i) (n:=n) (s:=aZ i (split n)) (by rw [p2,e8,hs];simp) p4;have hc:=OF (i:=i) (n:=split n) p3 r3;obtain⟨s1,s2⟩:=Ht hc r4;refine⟨r1,⟨q2,r2,p3,r3⟩,s1,?_,q3,q4,by rw [p2];exact al7⟩;rw [s2];have:=KG d false (aZ i (split n)) (p.take ((p.length:Int)-1).toNat) (p.getD ((p.length:Int)-1).toNat []) w!;rw [<-Yh r1] at this;show _=wx d (aZ i n) p;rw [hs,this];rfl
theorem aHg(hp:mB d i n p)(h:¬n<2)(h2:¬i<split n):
  1<=p.length/\mB d (i-split n) (n-split n) (p.take ((p.length:Int)-1).toNat)/\aC (p.getD ((p.length:Int)-1).toNat []++kN d (i-split n) (n-split n) (p.take ((p.length:Int)-1).toNat))/\
   eW 1 (p.getD ((p.length:Int)-1).toNat []++kN d (i-split n) (n-split n) (p.take ((p.length:Int)-1).toNat))=kN d i n p/\split n<n/\1<=split n/\(p.length:Int)<=1099511627776:=by
 obtain⟨p1,p2,p3,p4⟩:=hp;obtain⟨q1,q2,q3,q4⟩:=E7 p1 h h2;have e:=nD (n:=n) w! p1.2.2;have hs:=nH (i:=i) (n:=n) w! (by rw [<-e];exact h2);rw [<-e] at hs;have al7:=mg p1;obtain⟨r1,r2,r3,r4⟩:=ayP (d:=d) (i:=i) (n:=n) (s:=aZ (i-split n) (n-split n)) (by rw [p2,e8,hs];simp) p4;have hc:=OF (i:=i-split n) (n:=n-split n) p3 r3;obtain⟨s1,s2⟩:=Ht r4 hc;refine⟨r1,⟨q2,r2,p3,r3⟩,s1,?_,q3,q4,by rw [p2];exact al7⟩;rw [s2];have:=KG d true (aZ (i-split n) (n-split n)) (p.take ((p.length:Int)-1).toNat) (p.getD ((p.length:Int)-1).toNat []) w!;rw [<-Yh r1] at this;show _=wx d (aZ i n) p;rw [hs,this];rfl
def Jg:U:=(List.range 1000).map Int.ofNat
abbrev Kp:=Bool->Bool->Bool
def Ea:Kp:=λx y=>x&&y
def UM:Kp:=λx y=>x || y
def Eb:Kp:=λx y=>x&& !y
def zC(k:Kp)(a b:U):U:=Jg.filter λn=>k (re a n) (re b n)
def Jh(k:Kp)(a b:U):U:=zC k (vv a) (vv b)
def E8(a b:U):U:=Jh Ea a b
def uX(a b:U):U:=Jh UM a b
def OS(a b:U):U:=Jh Eb a b
abbrev Pk:=U×U×U
def lF(k:Kp)(a b:U)(x:Pk):Prop:=x.2.2++zC k x.1 x.2.1=Jh k a b/\bK x.1=true/\bK x.2.1=true
def jc(x:Pk):Nat:=x.1.length+x.2.1.length
def opL(o:Int)(a b:U):U:=if o=1 then E8 a b else if o=2 then uX a b else OS a b
def Db(f:B8->U)(s:M U)(o:dC):M U:=
 if o.1=0 then s++[f o.2] else s.take (s.length-2)++[opL o.1 (s.getD (s.length-2) []) (s.getD (s.length-1) [])]
def gC(f:B8->U)(l:M dC)(k:Nat):M U:=(l.take k).foldl (Db f) []
def pE(x:O)(t:B8):Nat:=(x.filter λa=>Op.bytesLess a t).length
def BY(x:O)(t:B8):Bool:=decide (t∈x)
def mH(t:O)(f:M U)(s:B8):U:=if BY t s then f.getD (pE t s) [] else []
def OT(l:M dC)(t:O)(f:M U):U:=(gC (mH t f) l l.length).getD 0 []
def mT(l:M dC)(f:M U):Bool:=bw l&&(decide (f.length=(ax l).length)&&f.all bK)
def mh(l:M dC)(f:M U):U×Int:=if mT l f then(OT l (ax l) f,0) else([],1)
def xn(x:O):Prop:=uG x/\small x
def rO(x:O)(t:B8)(i j:Int):Prop:=0<=i/\i<=j/\j<=x.length/\(∀k:Nat,(k:Int)<i->Op.bytesLess (x.getD k []) t=true)/\∀k:Nat,j<=(k:Int)->k<x.length->Op.bytesLess (x.getD k []) t=false
def tE(b:B8):Nat->Int->Int->Int->U->U×Int
 |0,a,e,_,l=>if done b a e=0 then(l,0) else([],done b a e)
 |n+1,a,e,p,l=>
  if(af b a e).1.2.2≠0 then([],(af b a e).1.2.2)
  else if 998-p<(af b a e).2 then([],2)
  else tE b n (af b a e).1.2.1 (af b a e).1.2.2 (p+((af b a e).2+1)) (l++[p+((af b a e).2+1)])
def o0(b:B8):Rd×Int:=af b 0 0
def b8(b:B8):U×Int:=
 if(o0 b).1.2.2≠0 then([],(o0 b).1.2.2) else if 1000<(o0 b).2 then([],2) else tE b (o0 b).2.toNat (o0 b).1.2.1 (o0 b).1.2.2 (-1) []
abbrev Pr:=Int×Int×Int×U
def uY(b:B8)(k:Nat)(x:Pr):Prop:=(k:Int)<=(o0 b).2/\(o0 b).1.2.2=0/\(o0 b).2<=1000/\tE b ((o0 b).2.toNat-k) x.1 x.2.1 x.2.2.1 x.2.2.2=b8 b/\ -1<=x.2.2.1/\x.2.2.1<=999/\x.2.2.2.length=k
def KL(t:B8)(e:Int)(p2 p4 p6:B8):Bool:=decide (p2=t)&&(decide (e=0)&&decide (mF 2 p6=p4))
def KM(t p2 p3 p6:B8):Bool:=Op.bytesLess p2 t&&((Op.bytesLess t p3 || decide (p3=[]))&&decide (p6.length=0))
def UN(p2 p3 p4:B8):B8:=leaf (qy p2 p3 p4)
def Ec(root:B8)(n:Int)(t:B8):Bool:=decide ((root.length:Int)=32)&&(decide (1<=n)&&(decide (n<=1099511627776)&&isTerm t))
def OU(root:B8)(n:Int)(p:Pf):Bool:=fU p.2.1 p.2.2.1 p.2.2.2.1&&(decide (eQ (UN p.2.1 p.2.2.1 p.2.2.2.1) p.1 n p.2.2.2.2.1=0)&&decide (kq (UN p.2.1 p.2.2.1 p.2.2.2.1) p.1 n p.2.2.2.2.1=root))
def Su(t:B8)(p:Pf):U×Int:=
 if KL t (b8 p.2.2.2.2.2).2 p.2.1 p.2.2.2.1 p.2.2.2.2.2 then((b8 p.2.2.2.2.2).1,0) else if KM t p.2.1 p.2.2.1 p.2.2.2.2.2 then([],0) else([],6)
def iI(root:B8)(n:Int)(t:B8)(p:Pf):U×Int:=if Ec root n t then(if OU root n p then Su t p else([],6)) else([],1)
def Hu(l:M U)(x:U):M U:=l++[x]
def BZ(t:O)(f:M U):Prop:=xn t/\f.length=t.length/\∀x∈f,bK x=true
def sb(l:M U):Prop:=2<=l.length/\small l
def xo(o:Int)(l:M U):M U:=l.take (l.length-2)++[opL o (l.getD (l.length-2) []) (l.getD (l.length-1) [])]
def E9(l:M dC)(t:O)(f:M U):Prop:=bw l=true/\small l/\BZ t f
def pF(l:M dC)(s:M U)(k:Nat):Prop:=k<=l.length/\(s.length:Int)=gw l k
def Fa(f:M U)(k:Nat):Prop:=k<=f.length/\∀x∈f.take k,bK x=true
def B0(t:B8)(p5:O)(p6:B8):Prop:=small t/\dM p5/\aC p6/\small p6
def ov(root:B8)(n:Int)(t:B8)(p:Pf)(k:Nat):Prop:=k<=2/\Ec root n t=true/\OU root n p=true/\(1<=k->KL t (b8 p.2.2.2.2.2).2 p.2.1 p.2.2.2.1 p.2.2.2.2.2=false)/\(2<=k->KM t p.2.1 p.2.2.1 p.2.2.2.2.2=false)
theorem Yk:∀ {l m:U},l.Pairwise (· < ·)->m.Pairwise (· < ·)->(∀x,x∈l↔x∈m)->l=m
 |[],[],_,_,_=>rfl
 |[],y::m,_,_,h=>by grind[List.mem_cons_self]
 |x::l,[],_,_,h=>by grind[List.mem_cons_self]
 |x::l,y::m,hl,hm,h=>by
  rw [a?] at hl hm
  have hxy:x=y:=by
   rcases P!.1 ((h x).1 (I! ..)) with e|e
   . exact e
   . rcases P!.1 ((h y).2 (I! ..)) with e'|e'
     . exact e'.symm
     . have:=hl.1 y e';have:=hm.1 x e;omega
  subst hxy;refine congrArg (x:: ·) (Yk hl.2 hm.2 λz=>⟨λhz=>?_,λhz=>?_⟩)
  . grind
  grind
theorem ø:n∈Jg↔0<=n/\n<1000:=by
 simp [Jg,T?,f?];constructor
 . grind
 . rintro⟨h1,h2⟩;exact⟨n.toNat,w!,x!⟩
theorem ù:Jg.Pairwise (· < ·):=by
 rw [Jg,List.pairwise_map];exact List.pairwise_lt_range.imp λh=>by grind
variable {a:List Int}{p:Pf}
theorem zD {k:Kp}{b:U}{x:Int}:x∈zC k a b↔(0<=x/\x<1000)/\k (re a x) (re b x)=true:=by
 rw [zC,List.mem_filter,ø]
theorem Fb(k:Kp)(a b:U):(zC k a b).Pairwise (· < ·):=ù.filter _
theorem ú(k:Kp)(a b:U):(zC k a b).length<=1000:=by
 refine X? (List.length_filter_le _ _) ?_;simp [Jg]
theorem B1 {x:Int}(h:bK (x::l)=true):(0<=x/\x<1000)/\bK l=true/\∀y∈l,x<y:=by
 rw [kL] at h;have h0:=(jG _ _).1 (h 0 z!)
 have hs:∀i,i<l.length->(x::l).getD i 0<l.getD i 0/\l.getD i 0<1000:=λi hi=>by
  have:=(jG _ _).1 (h (i+1) x!);grind[lM]
 have hx:∀i,i<l.length->x<l.getD i 0:=by
  intro i;induction i with
  |zero=>grind
  |succ i ih=>
   grind
 rw [yd] at h0;simp at h0;refine⟨⟨w!,h0.2⟩,(kL l).2 λi hi=>(jG _ _).2 ⟨?_,(hs i hi).2⟩,λy hy=>?_⟩
 . cases i with
   |zero=>grind[yd]
   |succ i=>grind[lM]
 . obtain⟨i,hi,rfl⟩:=j? hy;have:=hx i hi;rwa [G!,D! hi] at this
theorem aQi:∀ {l:U},bK l=true->l.Pairwise (· < ·)/\∀x∈l,0<=x/\x<1000
 |[],_=>⟨List.Pairwise.nil,nofun⟩
 |x::l,h=>by
  obtain⟨h1,h2,h3⟩:=B1 h;obtain⟨g1,g2⟩:=aQi h2;refine⟨a?.2 ⟨h3,g1⟩,λy hy=>?_⟩;rcases P!.1 hy with rfl|hy
  . exact h1
  . exact g2 y hy
def jt(r s:U):Bool:=bif decide ((0:Int)<(r.length:Int)) then bif decide ((s.length:Int)=(0:Int)) then true else decide (r.getD (Int.toNat (0:Int)) 0<=s.getD (Int.toNat (0:Int)) 0) else false
def Hv(r s:U):Int:=bif jt s r then s.getD (Int.toNat (0:Int)) 0 else bif jt r s then r.getD (Int.toNat (0:Int)) 0 else 0
def pG(c:Bool)(r:U):U:=bif c then r.drop (Int.toNat (1:Int)) else r
def OV(r r':U)(c:Bool)(n:Int):Prop:=(∀x,x∈r↔x∈r'\/(c=true/\x=n))/\(∀x∈r',n<x)/\bK r'=true
theorem Sv(hr:bK r=true)(hs:bK s=true)(fh:0<r.length\/0<s.length):
  (0<=Hv r s/\Hv r s<1000)/\OV r (pG (jt r s) r) (jt r s) (Hv r s)/\OV s (pG (jt s r) s) (jt s r) (Hv r s)/\(pG (jt r s) r).length+(pG (jt s r) s).length<r.length+s.length:=by
 cases r with
 |nil=>
  cases s with
  |nil=>grind
  |cons y s=>
   obtain⟨h1,h2,h3⟩:=B1 hs;grind[jt,Hv,pG,OV,List.length_nil,List.length_cons]
 |cons x r=>
  obtain⟨g1,g2,g3⟩:=B1 hr;cases s with
  |nil=>
   grind[jt,Hv,pG,OV,List.length_nil,List.length_cons]
  |cons y s=>
   obtain⟨h1,h2,h3⟩:=B1 hs
   have e1:jt (x::r) (y::s)=decide (x<=y):=by
    grind[jt,List.length_cons,decide_eq_true,decide_eq_false]
   have e2:jt (y::s) (x::r)=decide (y<=x):=by
    grind[jt,List.length_cons,decide_eq_true,decide_eq_false]
   grind[Hv,pG,OV]
theorem arn {k:Kp}(hk:k false false=false)(hr:bK r=true)(hs:bK s=true)(fh:0<r.length\/0<s.length):
  zC k r s=(if k (jt r s) (jt s r)=true then [Hv r s] else [])++zC k (pG (jt r s) r) (pG (jt s r) s):=by
 obtain⟨h0,⟨a1,a2,_⟩,⟨b1,b2,_⟩,_⟩:=Sv hr hs fh;generalize Hv r s=n at *;generalize pG (jt r s) r=r' at *;generalize pG (jt s r) s=s' at *;generalize jt r s=A at *;generalize jt s r=B at *
 have hn:re r' n=false/\re s' n=false:=by
  grind[re,decide_eq_false_iff_not]
 have hrn:∀x,re r x=(re r' x || (A&&decide (x=n))):=λx=>by
  simp_all[re,H!,Z?,B!]
 have hsn:∀x,re s x=(re s' x || (B&&decide (x=n))):=λx=>by
  simp_all[re,H!,Z?,B!]
 refine Yk (Fb k r s) ?_ λx=>?_
 . split
   . rw [List.singleton_append];refine a?.2 ⟨λy hy=>?_,Fb k r' s'⟩;rw [zD] at hy;cases h1:re r' y with
     |true=>exact a2 y (by simpa [re] using h1)
     |false=>
      cases h2:re s' y with
      |true=>exact b2 y (by simpa [re] using h2)
      |false=>rw [h1,h2,hk] at hy;cases hy.2
   . rw [k?];exact Fb k r' s'
 . rw [zD,hrn,hsn,List.mem_append,zD];grind
theorem Sw(l:U):bK (vv l)=true:=by
 unfold vv;split
 . omega
 . rfl
theorem Dc(l:U):(bif !bK l then [] else l)=vv l:=by
 grind[vv,bK]
theorem ama(k:Kp)(a b:U):lF k a b (vv a,vv b,[]):=⟨k? _,Sw a,Sw b⟩
theorem UO {k:Kp}(hk:k false false=false){b:U}{x:Pk}(h:lF k a b x)(hc:(bif decide ((0:Int)<(x.1.length:Int)) then true else decide ((0:Int)<(x.2.1.length:Int)))=false):x.2.2=Jh k a b:=by
 obtain⟨h1,_,_⟩:=h
 have e1:x.1=[]:=by
  simp_all
 have e2:x.2.1=[]:=by
  simp_all
 have :zC k [] []=[]:=List.eq_nil_iff_forall_not_mem.2 λy hy=>by
  rw [zD] at hy;have :re [] y=false:=rfl;grind
 grind
theorem mr(h:jt r s=true):(0:Int)<(r.length:Int)/\(1:Int)<=(r.length:Int):=by
 grind[jt]
theorem û {k:Kp}(hk:k false false=false){b:U}{x:Pk}(h:lF k a b x)(hc:(bif decide ((0:Int)<(x.1.length:Int)) then true else decide ((0:Int)<(x.2.1.length:Int)))=true):
  x.2.2.length<=1000/\(k (jt x.1 x.2.1) (jt x.2.1 x.1)=true->lF k a b (pG (jt x.1 x.2.1) x.1,pG (jt x.2.1 x.1) x.2.1,x.2.2++[Hv x.1 x.2.1]))/\(k (jt x.1 x.2.1) (jt x.2.1 x.1)=false->lF k a b (pG (jt x.1 x.2.1) x.1,pG (jt x.2.1 x.1) x.2.1,x.2.2))/\
  jc (pG (jt x.1 x.2.1) x.1,pG (jt x.2.1 x.1) x.2.1,x.2.2++[Hv x.1 x.2.1])<jc x/\jc (pG (jt x.1 x.2.1) x.1,pG (jt x.2.1 x.1) x.2.1,x.2.2)<jc x:=by
 obtain⟨h1,h2,h3⟩:=h
 have fh:0<x.1.length\/0<x.2.1.length:=by
  grind
 obtain⟨_,⟨_,_,f1⟩,⟨_,_,f2⟩,f3⟩:=Sv h2 h3 fh;have hl:=arn hk h2 h3 fh;have hlen:=congrArg List.length h1;rw [K!] at hlen;have:=ú k (vv a) (vv b);refine⟨?_,λhq=>⟨?_,f1,f2⟩,λhq=>⟨?_,f1,f2⟩,f3,f3⟩
 . unfold Jh at hlen;omega
 . grind
 grind
variable {x:List B8}{s:B8}{l:List dC}
theorem Hw(hp:xn x)(h:rO x t i j)(Ah:i<j):
  (i+j)%18446744073709551616/2^Int.toNat 1=(i+j)/2/\0<=i/\i<=(i+j)/2/\(i+j)/2<j/\j<=x.length/\(x.length:Int)<=1099511627776:=by
 have h2:=hp.2;unfold small at h2;obtain⟨h3,h4,h5,_⟩:=h;grind
theorem ü(h:uG x){a b:Nat}(lQ:a<b)(hb:b<x.length):Op.bytesLess (x.getD a []) (x.getD b [])=true:=by
 rw [G!,D! w!,G!,D! hb];exact List.pairwise_iff_getElem.1 h a b w! hb lQ
theorem aBl(hp:xn x)(h:rO x t i j)(h1:i<=m)(h2:m<j)(hl:Op.bytesLess (x.getD m.toNat []) t=true):rO x t (m+1) j:=by
 obtain⟨h3,h4,h5,h6,h7⟩:=h;refine⟨w!,w!,h5,λk hk=>?_,h7⟩;by_cases hkm:k=m.toNat
 . grind
 . exact mz _ _ _ (ü hp.1 (show k<m.toNat by omega) w!) hl
theorem aBm(hp:xn x)(h:rO x t i j)(h1:i<=m)(h2:m<j)(hl:Op.bytesLess (x.getD m.toNat []) t=false):rO x t i m:=by
 obtain⟨h3,h4,h5,h6,h7⟩:=h;refine⟨h3,h1,w!,h6,λk hk hk2=>?_⟩;by_cases hkm:k=m.toNat
 . grind
 . rw [Bool.eq_false_iff];intro hb;have:=mz _ _ _ (ü hp.1 (show m.toNat<k by omega) hk2) hb;grind
theorem aBn(hp:xn x)(h:rO x t i j)(h1:i<=m)(h2:m<j):
  rO x t (bif Op.bytesLess (x.getD m.toNat []) t then m+1 else i) (bif Op.bytesLess (x.getD m.toNat []) t then j else m)/\
  ((bif Op.bytesLess (x.getD m.toNat []) t then j else m)-(bif Op.bytesLess (x.getD m.toNat []) t then m+1 else i)).toNat<(j-i).toNat:=by
 grind[aBl,aBm]
theorem aro(h:rO x t i j)(Ah:¬i<j):i=(pE x t:Int):=by
 obtain⟨h3,h4,h5,h6,h7⟩:=h
 have e:x.filter (λa=>Op.bytesLess a t)=x.take j.toNat:=by
  conv=>lhs;rw [<-V? j.toNat x]
  have e1:(x.take j.toNat).filter (λa=>Op.bytesLess a t)=x.take j.toNat:=List.filter_eq_self.2 λa ha=>by
   obtain⟨k,hk,rfl⟩:=j? ha;rw [J?] at hk;have:=h6 k w!;rw [G!,D! w!] at this;rw [List.getElem_take];exact this
  have e2:(x.drop j.toNat).filter (λa=>Op.bytesLess a t)=[]:=List.filter_eq_nil_iff.2 λa ha=>by
   obtain⟨k,hk,rfl⟩:=List.getElem_of_mem ha;grind
  grind
 grind[pE,List.length_take]
theorem arp(hp:xn x)(h:rO x t i j)(Ah:¬i<j):
  (bif decide (i<(x.length:Int)) then bif decide (x.getD i.toNat []=t) then true else bif false then false else false else false)=BY x t:=by
 obtain⟨h3,h4,h5,h6,h7⟩:=h;have hj:j=i:=by omega
 subst hj;rw [BY,Bool.eq_iff_iff];have e:∀a b:Bool,(bif a then bif b then true else bif false then false else false else false)=true↔a=true/\b=true:=by decide
 rw [e,H!,H!,H!];constructor
 . grind
 . intro hm;obtain⟨k,hk,rfl⟩:=j? hm;have hg:x.getD k []=x[k]:=by rw [G!,D! hk];rfl
   have hkj:j<=k:=by
    apply P?;intro hn;have:=h6 k w!;rw [hg,eS] at this;cases this
   refine⟨w!,?_⟩;by_cases aHi:k=j.toNat
   . rw [<-aHi];exact hg
   . have h1:=ü hp.1 (show j.toNat<k by omega) hk;have h2:=h7 j.toNat w! w!;rw [hg] at h1;rw [h1] at h2;cases h2
theorem arq(h:BY x t=true):pE x t<x.length:=by
 have hm:t∈x:=of_decide_eq_true h;grind[pE,Nat.not_le,List.filter_eq_self,List.Sublist.eq_of_length_le,List.filter_sublist,eS]
variable {t:List B8}{x:Pr}{a:B8}
theorem ý(hp:BZ t f)(h:(!BY t s)=false):(0<=(pE t s:Int)/\(pE t s:Int)<(f.length:Int))/\small (f.getD (Int.toNat (pE t s:Int)) [])/\f.getD (Int.toNat (pE t s:Int)) []=mH t f s:=by
 have hs:BY t s=true:=by grind
 have hc:=arq hs;obtain⟨_,h2,h3⟩:=hp;rw [Int.toNat_natCast];refine⟨⟨w!,w!⟩,?_,by rw [mH,if_pos hs]⟩;grind[ou,bC,pE,small]
theorem ars(h:(!BY t s)=true): []=mH t f s:=by
 simp_all[BY,mH,J!]
theorem art(f:B8->U)(l:M dC): []=gC f l 0:=by rfl
variable {f:B8->List Int}{s:List (List Int)}
theorem OW{k:Nat}(hk:k<l.length):gC f l (k+1)=Db f (gC f l k) (l.getD k (0,[])):=by
 rw [gC,aD l k (0,[]) hk,List.foldl_append];rfl
theorem amb {o:Int}(h:2<=s.length):(xo o s).length=s.length-1:=by
 grind[xo,List.length_append,List.length_take]
theorem Yl{k:Nat}(hk:(k:Int)<l.length)(h:(jY l k).1=0):Hu (gC f l k) (f (jY l k).2)=gC f l (k+1):=by
 rw [OW w!];show _=Db f _ (jY l k);rw [Db,M! h];rfl
theorem L1{l:M dC}{k:Nat}{o:Int}(hk:(k:Int)<l.length)(h:(jY l k).1=o)(ho:o≠0):xo o (gC f l k)=gC f l (k+1):=by
 rw [OW w!];show _=Db f _ (jY l k);rw [Db,J! w!,<-h];rfl
theorem aHj(h:bw l=true){k:Nat}(hk:(k:Int)<l.length):uS l k=true:=by
 simp_all[bw,B!,Z!,f?]
theorem UP(h:bw l=true){k:Nat}(hk:(k:Int)<l.length):0<=(jY l k).1/\(jY l k).1<=3/\((jY l k).1≠0->2<=gw l k):=by
 have:=aHj h hk;grind[uS]
theorem abZ(l:M dC)(k:Nat):gw l k<=k:=by
 have:=xk l k;grind[gw]
theorem aHk(l:M dC):pF l [] 0:=⟨U! _,by rfl⟩
variable {f:List (List Int)}
theorem L2{k:Nat}(hp:E9 l t f)(h:pF l s k)(hk:(k:Int)<l.length)(ho:(jY l k).1≠0):sb s:=by
 have:=(UP hp.1 hk).2.2 ho;have h1:=h.2;have h2:=abZ l k;have h3:=hp.2.1;refine⟨w!,by grind[small]⟩
theorem ahE{k:Nat}(hp:E9 l t f)(h:pF l s k):small s:=by
 have h1:=h.2;have h2:=abZ l k;have h3:=hp.2.1;have h4:=h.1;grind[small]
theorem amc {l:M dC}{g:B8->U}{k:Nat}(h:pF l (gC g l k) k)(hk:(k:Int)<l.length)(ho:(jY l k).1=0):pF l (gC g l (k+1)) (k+1):=by
 refine⟨w!,?_⟩;rw [<-Yl hk ho,Hu,K!,X3 ho,<-h.2];simp
theorem OX {l:M dC}{g:B8->U}{k:Nat}(hp:E9 l t f)(h:pF l (gC g l k) k)(hk:(k:Int)<l.length){o:Int}(ho:(jY l k).1=o)(h0:o≠0):pF l (gC g l (k+1)) (k+1):=by
 have h2:=(L2 hp h hk w!).1;refine⟨w!,?_⟩;rw [<-L1 hk ho h0,amb h2,LS w!,<-h.2];omega
theorem ab1{k:Nat}(hp:E9 l t f)(h:pF l s k)(hk:¬(k:Int)<l.length):0<s.length/\k=l.length:=by
 have e:k=l.length:=by have:=h.1;omega
 have h1:=hp.1;simp [bw,Bool.and_eq_true,decide_eq_true_eq] at h1;have h2:=h.2;grind
theorem Sx(h:small l):xn (ax l):=by
 refine⟨l7 _,?_⟩;have h1:=rG (qC l);grind[qC,bS,List.length_map,Nat.le_trans,List.length_filter_le,small,ax]
theorem Ji(h:mT l f=false): []=(mh l f).1/\1=(mh l f).2:=by
 grind[mh]
theorem ab2(h:mT l f=true):OT l (ax l) f=(mh l f).1/\0=(mh l f).2:=by
 grind[mh]
theorem amd{k:Nat}(h:Fa f k)(hk:(k:Int)<f.length)(h1:bK (f.getD k [])=true):Fa f (k+1):=by
 refine⟨w!,λx hx=>?_⟩;rw [aD f k [] w!,F!,v?] at hx;rcases hx with hx|rfl
 . exact h.2 x hx
 omega
theorem UQ{k:Nat}(h:Fa f k)(hk:¬(k:Int)<f.length):f.all bK=true:=by
 have e:k=f.length:=by have:=h.1;omega
 have:=h.2;grind
theorem ab3{k:Nat}(hk:(k:Int)<f.length)(h1:bK (f.getD k [])=false):f.all bK=false:=by
 grind
theorem qG(b:B8)(a e:Int):0<=(af b a e).2/\(af b a e).2<=4611686018427387904:=by
 unfold af;split
 . omega
 . split
   . omega
   . rename_i h1 _
     have hp:dF b a:=by
      unfold bX at h1;unfold dF;by_cases he:e=0/\inside b a=false
      . grind
      simp_all[J!,inside,B!,H!]
     simp_all[NY]
theorem aHl {b:B8}(h1:(o0 b).1.2.2=0)(h2:¬1000<(o0 b).2):uY b 0 ((o0 b).1.2.1,(o0 b).1.2.2,-1,[]):=by
 have:=(qG b 0 0).1;refine⟨this,h1,w!,?_,z!,z!,rfl⟩;simp_all[b8,J!]
theorem ab4(h1:¬(o0 b).1.2.2=0): []=(b8 b).1/\(o0 b).1.2.2=(b8 b).2:=by
 simp_all[b8,M!]
theorem Ym {b:B8}(h1:(o0 b).1.2.2=0)(h2:1000<(o0 b).2): []=(b8 b).1/\2=(b8 b).2:=by
 simp_all[b8,J!,M!]
theorem UR{k:Nat}(h:uY b k x)(hk:(k:Int)<(o0 b).2):b8 b=
  if(af b x.1 x.2.1).1.2.2≠0 then([],(af b x.1 x.2.1).1.2.2) else if 998-x.2.2.1<(af b x.1 x.2.1).2 then([],2)
  else tE b ((o0 b).2.toNat-(k+1)) (af b x.1 x.2.1).1.2.1 (af b x.1 x.2.1).1.2.2 (x.2.2.1+((af b x.1 x.2.1).2+1)) (x.2.2.2++[x.2.2.1+((af b x.1 x.2.1).2+1)]):=by
 have h4:=h.2.2.2.1;have e:(o0 b).2.toNat-k=((o0 b).2.toNat-(k+1))+1:=by omega
 grind[tE]
theorem ab5 {b:B8}{k:Nat}(h:uY b k x)(hk:(k:Int)<(o0 b).2)(h1:¬(af b x.1 x.2.1).1.2.2=0): []=(b8 b).1/\(af b x.1 x.2.1).1.2.2=(b8 b).2:=by
 rw [UR h hk,if_pos h1];grind
theorem ab6 {b:B8}{k:Nat}{x:Pr}(h:uY b k x)(hk:(k:Int)<(o0 b).2)(h1:(af b x.1 x.2.1).1.2.2=0)(h2:998-x.2.2.1<(af b x.1 x.2.1).2): []=(b8 b).1/\2=(b8 b).2:=by
 rw [UR h hk,if_neg w!,if_pos h2];grind
theorem ame {b:B8}{k:Nat}{x:Pr}(h:uY b k x)(hk:(k:Int)<(o0 b).2)(h1:(af b x.1 x.2.1).1.2.2=0)(h2:¬998-x.2.2.1<(af b x.1 x.2.1).2):
  uY b (k+1) ((af b x.1 x.2.1).1.2.1,(af b x.1 x.2.1).1.2.2,x.2.2.1+((af b x.1 x.2.1).2+1),x.2.2.2++[x.2.2.1+((af b x.1 x.2.1).2+1)]):=by
 have hg:=UR h hk;rw [if_neg w!,if_neg h2] at hg;have hn:=(qG b x.1 x.2.1).1;obtain⟨_,g2,g3,_,g5,g6,g7⟩:=h;refine⟨w!,g2,g3,hg.symm,x!,x!,x!⟩
theorem Hx{k:Nat}(h:uY b k x)(hk:¬(k:Int)<(o0 b).2):b8 b=if done b x.1 x.2.1=0 then(x.2.2.2,0) else([],done b x.1 x.2.1):=by
 have h4:=h.2.2.2.1;simp_all[o0,tE]
variable {t:B8}
theorem aru {root:B8}(p:Pf)(h:Ec root n t=false): []=(iI root n t p).1/\1=(iI root n t p).2:=by
 grind[iI]
theorem amf {root:B8}(h:Ec root n t=true)(h2:OU root n p=false): []=(iI root n t p).1/\6=(iI root n t p).2:=by
 grind[iI]
theorem US {root:B8}(h:Ec root n t=true)(h2:OU root n p=true):iI root n t p=Su t p:=by
 grind[iI]
theorem aBp(a b:B8):(!(Op.bytesLess a b || decide (a=b)))=Op.bytesLess b a:=by
 grind[pd,CV,eS,decide_eq_false]
theorem UT {root:B8}(h:(root.length:Int)=32/\¬n<1/\¬1099511627776<n/\isTerm t=true):Ec root n t=true:=by
 simp_all[Ec,B!,H!]
theorem arv {root:B8}(h:¬(root.length:Int)=32\/n<1\/1099511627776<n\/isTerm t=false):Ec root n t=false:=by
 simp [Ec,Ne,Bool.and_eq_true,decide_eq_true_eq];grind
theorem OY {c:B8}(h:kM a b c=0):fU a b c=true/\fW a b c=qy a b c:=by
 simp_all[kM,fW,M!]
theorem amg {c:B8}(h:¬kM a b c=0):fU a b c=false:=by
 grind[kM]
theorem þ {c:B8}(h:kM a b c=0):aC (fW a b c):=by
 obtain⟨h1,h2⟩:=OY h;simp [fU,Bool.and_eq_true,decide_eq_true_eq] at h1;grind[q1,cX,q2,aC,qy,text,List.length_append]
theorem aBq {root:B8}(h:kM p.2.1 p.2.2.1 p.2.2.2.1=0)(h1:eQ (leaf (fW p.2.1 p.2.2.1 p.2.2.2.1)) p.1 n p.2.2.2.2.1=0/\kq (leaf (fW p.2.1 p.2.2.1 p.2.2.2.1)) p.1 n p.2.2.2.2.1=root):OU root n p=true:=by
 grind[OY,OU,UN,decide_true,Bool.and_self]
theorem arw {root:B8}(h:¬kM p.2.1 p.2.2.1 p.2.2.2.1=0):OU root n p=false:=by
 simp_all[OU,amg,Bool.false_and]
theorem arx {root:B8}(h:kM p.2.1 p.2.2.1 p.2.2.2.1=0)(h1:¬eQ (leaf (fW p.2.1 p.2.2.1 p.2.2.2.1)) p.1 n p.2.2.2.2.1=0\/¬kq (leaf (fW p.2.1 p.2.2.1 p.2.2.2.1)) p.1 n p.2.2.2.2.1=root):OU root n p=false:=by
 obtain⟨g1,g2⟩:=OY h;simp [OU,UN,g1,Bool.true_and];grind
theorem aBr {root:B8}(h1:Ec root n t=true)(h2:OU root n p=true):ov root n t p 0:=⟨w!,h1,h2,w!,w!⟩
theorem aBs {root:B8}{k:Nat}(h:ov root n t p k)(hk:(k:Int)=0)(h1:KL t (b8 p.2.2.2.2.2).2 p.2.1 p.2.2.2.1 p.2.2.2.2.2=false):ov root n t p (k+1):=
 ⟨w!,h.2.1,h.2.2.1,λ_=>h1,w!⟩
theorem aBt {root:B8}{k:Nat}(h:ov root n t p k)(hk:(k:Int)=1)(h1:KM t p.2.1 p.2.2.1 p.2.2.2.2.2=false):ov root n t p (k+1):=
 ⟨w!,h.2.1,h.2.2.1,λ_=>h.2.2.2.1 w!,λ_=>h1⟩
theorem ab7 {root:B8}{k:Nat}(h:ov root n t p k)(h1:KL t (b8 p.2.2.2.2.2).2 p.2.1 p.2.2.2.1 p.2.2.2.2.2=true):(b8 p.2.2.2.2.2).1=(iI root n t p).1/\0=(iI root n t p).2:=by
 rw [US h.2.1 h.2.2.1,Su,h1];grind
theorem ab8 {root:B8}{k:Nat}(h:ov root n t p k)(hk:(k:Int)=1)(h1:KM t p.2.1 p.2.2.1 p.2.2.2.2.2=true): []=(iI root n t p).1/\0=(iI root n t p).2:=by
 rw [US h.2.1 h.2.2.1,Su,h.2.2.2.1 w!,h1];grind
theorem ary {root:B8}{k:Nat}(h:ov root n t p k)(hk:¬(k:Int)<((2:Nat):Int)): []=(iI root n t p).1/\6=(iI root n t p).2:=by
 rw [US h.2.1 h.2.2.1,Su,h.2.2.2.1 w!,h.2.2.2.2 w!];grind
end Go.S
namespace Go.S
open Go.Vg (CF Z bZ)
def Sy(a:M (M Pf))(i j:Int):Pf:=pfD (iE a i.toNat) j.toNat
def Ak(g:Sg)(w:B8)(a:M (M Pf))(i j:Int):U×Int:=iI g.2.2.2 g.2.2.1 w (Sy a i j)
def sZ(g:Sg)(w:B8)(a:M (M Pf))(i j:Int):Bool:=decide ((Ak g w a i j).2=0)&&wB (Ak g w a i j).1 g.1 g.2.1
def OZ(w:B8)(a:M (M Pf))(i j:Int):Prop:=(0<=i/\i<a.length)/\(0<=j/\j<(iE a i.toNat).length)/\B0 w (Sy a i j).2.2.2.2.1 (Sy a i j).2.2.2.2.2
def Sz(j:Int)(q n:Nat)(l:U):Prop:=q=j.toNat/\q<n/\small l
def SA(l m:U):U:=l++m
def O0(g:Sg)(w:B8)(a:M (M Pf))(i j:Int)(l:U):U:=if sZ g w a i j then SA l (Ak g w a i j).1 else l
def amh(root:B8)(n:Int)(g:B8)(l:M Sg):CF:=λz=>(True,.bool (vz n g l root),z)
def ab9(a:M (M Pf))(i:Int)(t:O):CF:=λz=>(0<=i/\i<(a.length:Int),.bool (qF a i t),z)
def B2(e0 ei0:Nat)(g:Sg)(w:B8)(a:M (M Pf))(i j:Int):CF:=λz=>match z with
 |.g e ei l=>(e=e0/\ei=ei0/\OZ w a i j/\Sz j j.toNat l.length (l.getD j.toNat []),.bool (sZ g w a i j),.g e ei (l.set j.toNat (O0 g w a i j (l.getD j.toNat []))))
 |z=>(False,.bool false,z)
def Jj(l:M Sg)(i:Nat):Sg:=l.getD i (0,0,0,[])
def O1(e0 ei0:Nat)(s:M Sg)(a:M (M Pf))(t:O)(i k:Nat):M CF:=
 ab9 a i t::(List.range k).map λ(j:Nat)=>B2 e0 ei0 (Jj s i) (t.getD j []) a i j
def conds(e0 ei0:Nat)(root:B8)(n:Int)(g:B8)(s:M Sg)(a:M (M Pf))(t:O):Nat->M CF
 |0=>[amh root n g s]
 |i+1=>conds e0 ei0 root n g s a t i++O1 e0 ei0 s a t i t.length
def nJ(e0 ei0:Nat)(root:B8)(n:Int)(g:B8)(s:M Sg)(a:M (M Pf))(t:O)(i k:Nat):M CF:=
 conds e0 ei0 root n g s a t i++O1 e0 ei0 s a t i k
def zE(s:M Sg)(a:M (M Pf))(t:O)(i k:Nat):Bool:=(List.range k).all λ(j:Nat)=>sZ (Jj s i) (t.getD j []) a i j
def Fc(s:M Sg)(a:M (M Pf))(t:O)(i:Nat):Bool:=(List.range i).all λ(i:Nat)=>qF a i t&&zE s a t i t.length
def xp(s:M Sg)(a:M (M Pf))(t:O)(j:Nat):Nat->U
 |0=>[]
 |i+1=>SA (xp s a t j i) (Ak (Jj s i) (t.getD j []) a i j).1
def uZ(s:M Sg)(a:M (M Pf))(t:O)(i k:Nat):M U:=(List.range t.length).map λ(j:Nat)=>xp s a t j (if j<k then i+1 else i)
def yn(s:M Sg)(a:M (M Pf))(t:O)(i:Nat):M U:=(List.range t.length).map λ(j:Nat)=>xp s a t j i
def SB(root:B8)(a:Int×B8×M Sg×M (M Pf))(t:O):Bool:=vz a.1 a.2.1 a.2.2.1 root&&Fc a.2.2.1 a.2.2.2 t a.2.2.1.length
def kA(root:B8)(l:M dC)(b:B8):U×Int:=
 if(bif !decide ((root.length:Int)=32) then true else !bw l) then([],1) else if(bp b).2≠0 then([],(bp b).2)
 else if SB root (bp b).1 (ax l) then mh l (yn (bp b).1.2.2.1 (bp b).1.2.2.2 (ax l) (bp b).1.2.2.1.length) else([],6)
def aca(b:B8)(k:Nat):Prop:=k<=(bp b).1.2.2.1.length/\(bp b).2=0
def UU(b:B8)(t:O)(k j:Nat):Prop:=k<(bp b).1.2.2.1.length/\j<=t.length/\(bp b).2=0
theorem Ed:∀(l m:M CF) (z:Z),((bZ (l++m) z).1↔(bZ l z).1/\((bZ l z).2.1=true->(bZ m (bZ l z).2.2).1))/\(bZ (l++m) z).2.1=((bZ l z).2.1&&(bZ m (bZ l z).2.2).2.1)/\((bZ l z).2.1=true->(bZ (l++m) z).2.2=(bZ m (bZ l z).2.2).2.2)
 |[],m,z=>by simp [bZ]
 |F::l,m,z=>by
  obtain⟨h1,h2,h3⟩:=Ed l m (F z).2.2;simp [List.cons_append,bZ];grind
structure qH (l:List CF) (z z':Z) (o:Bool):Prop where
 pre:(bZ l z).1
 ok:(bZ l z).2.1=o
 to:o=true->(bZ l z).2.2=z'
theorem qH.snoc {l m:M CF}{z z1 z2:Z}{o1 o2:Bool}(h:qH l z z1 o1)(g:o1=true->qH m z1 z2 o2):qH (l++m) z z2 (o1&&o2):=by
 obtain⟨h1,h2,h3⟩:=Ed l m z;cases o1 with
 |false=>exact⟨h1.2 ⟨h.pre,λq=>by rw [h.ok] at q;cases q⟩,by rw [h2,h.ok];rfl,nofun⟩
 |true=>
  have e:=h.to rfl;obtain⟨g1,g2,g3⟩:=g rfl;rw [e] at h1 h2 h3;exact⟨h1.2 ⟨h.pre,λ_=>g1⟩,by rw [h2,h.ok,g2],λq=>by rw [h3 h.ok];grind⟩
theorem qH.one {F:CF}{z:Z}{b:Bool}(h:(F z).1)(h1:(F z).2.1= .bool b):qH [F] z (F z).2.2 b:=by
 refine⟨⟨h,by rw [h1];rfl,λ_=>trivial⟩,?_,λq=>?_⟩
 . simp [bZ,h1];cases b<;>rfl
 grind[bZ]
theorem arz(s:M Sg)(a:M (M Pf))(t:O)(i:Nat):uZ s a t i 0=yn s a t i:=by
 rfl
theorem ahF(s:M Sg)(a:M (M Pf))(t:O)(i:Nat):uZ s a t i t.length=yn s a t (i+1):=by
 simp_all[uZ,yn,R?,M!,f?]
theorem Jk(s:M Sg)(a:M (M Pf))(t:O)(i k:Nat):(uZ s a t i k).length=t.length:=by simp [uZ]
variable {a:List (List Pf)}{i e0 ei0:Nat}{s:List Sg}{t:List B8}{b g:B8}{l:List dC}{n:Int}
theorem Yn{k:Nat}(hk:k<t.length):(uZ s a t i k).getD k []=xp s a t k i:=by
 rw [G!,uZ,B?,List.getElem?_range hk];simp
theorem ahG{k:Nat}(hk:k<t.length):(uZ s a t i k).set k (xp s a t k (i+1))=uZ s a t i (k+1):=by
 apply List.ext_getElem?;intro j;rw [List.getElem?_set,Jk];by_cases hj:j<t.length
 . by_cases hkj:k=j
   . subst hkj;rw [M! rfl,M! hk,uZ,B?,List.getElem?_range hk];simp
   . rw [if_neg hkj,uZ,uZ,List.getElem?_map,List.getElem?_map,List.getElem?_range hj];grind
 grind[List.getElem?_eq_none,Jk]
theorem KN(b:B8):∀(n:Nat) (a e p:Int) (l:U),(tE b n a e p l).1.length<=l.length+n
 |0,a,e,p,l=>by
  grind[tE]
 |n+1,a,e,p,l=>by
  unfold tE;split
  . simp
  . split
    . simp
    . have:=KN b n (af b a e).1.2.1 (af b a e).1.2.2 (p+((af b a e).2+1)) (l++[p+((af b a e).2+1)]);rw [K!,C?] at this;omega
theorem Yo(b:B8):(b8 b).1.length<=1000:=by
 grind[b8,KN,o0,List.length_nil]
theorem SC(root:B8)(n:Int)(t:B8)(p:Pf):(iI root n t p).1.length<=1000:=by
 grind[iI,Su,Yo]
theorem O2(s:M Sg)(a:M (M Pf))(t:O)(j:Nat):∀i,(xp s a t j i).length<=1000*i
 |0=>by simp [xp]
 |i+1=>by
  have h1:=O2 s a t j i;have h2:=SC (Jj s i).2.2.2 (Jj s i).2.2.1 (t.getD j []) (Sy a i j);rw [xp,SA,K!,Ak];omega
def UW(s:M Sg)(a:M (M Pf))(t:O):Prop:=s.length=a.length/\s.length<=64/\t.length<=1099511627776/\(∀w∈t,small w)/\∀x∈a,∀p∈x,dM p.2.2.2.2.1/\aC p.2.2.2.2.2/\small p.2.2.2.2.2
theorem ami(hp:UW s a t){k:Nat}(hi:i<s.length)(hm:qF a i t=true)(hk:k<t.length):OZ (t.getD k []) a i k:=by
 obtain⟨h1,h2,h3,h4,h5⟩:=hp;have hm:(a.getD i []).length=t.length:=by grind[qF]
 have hia:i<a.length:=by omega
 have hx:=bC a i [] hia
 have hpf:Sy a i k∈a.getD i []:=by
  grind[Sy,pfD,iE,bC,X0]
 obtain⟨q1,q2,q3⟩:=h5 _ hx _ hpf;refine⟨⟨w!,w!⟩,⟨w!,?_⟩,h4 _ (bC t k [] hk),q1,q2,q3⟩;grind[iE]
theorem ahH{k:Nat}(h:sZ (Jj s i) (t.getD k []) a i k=true):O0 (Jj s i) (t.getD k []) a i k (xp s a t k i)=xp s a t k (i+1):=by
 rw [O0,M! h];rfl
theorem zZ {α:Type}(f:Nat->α)(k:Nat):(List.range (k+1)).map f=(List.range k).map f++[f k]:=by
 rw [List.range_succ,l?];rfl
theorem ayQ {e0 ei0:Nat}{s:M Sg}{a:M (M Pf)}{t:O}(hp:UW s a t){i:Nat}(hi:i<s.length)(hm:qF a i t=true):∀k,k<=t.length->
  qH ((List.range k).map λ(j:Nat)=>B2 e0 ei0 (Jj s i) (t.getD j []) a i j) (.g e0 ei0 (uZ s a t i 0)) (.g e0 ei0 (uZ s a t i k)) (zE s a t i k)
 |0,_=>⟨trivial,rfl,λ_=>rfl⟩
 |k+1,hk=>by
  rw [zZ]
  have e:zE s a t i (k+1)=(zE s a t i k&&sZ (Jj s i) (t.getD k []) a i k):=by
   unfold zE;rw [List.range_succ,List.all_append];simp
  rw [e];refine(ayQ hp hi hm k w!).snoc λ_=>?_;have xH:k<t.length:=by omega
  have e2:((k:Int)).toNat=k:=by simp
  have hlen:=O2 s a t k i
  have h:=qH.one (F:=B2 e0 ei0 (Jj s i) (t.getD k []) a i k) (z:=.g e0 ei0 (uZ s a t i k)) (b:=sZ (Jj s i) (t.getD k []) a i k)
   ⟨rfl,rfl,ami hp hi hm xH,by rw [e2,Yn xH,Jk];exact⟨e2.symm,xH,by have:=hp.2.1;grind[small]⟩⟩ rfl
  refine⟨h.pre,h.ok,λq=>?_⟩;rw [h.to q];grind[B2,Yn,ahH,ahG]
theorem ayR {e0 ei0:Nat}{root:B8}{n:Int}{g:B8}{s:M Sg}{a:M (M Pf)}{t:O}(hp:UW s a t):∀i,i<=s.length->
  qH (conds e0 ei0 root n g s a t i) (.g e0 ei0 (yn s a t 0)) (.g e0 ei0 (yn s a t i)) (vz n g s root&&Fc s a t i)
 |0,_=>by
  have:=qH.one (F:=amh root n g s) (z:=.g e0 ei0 (yn s a t 0)) (b:=vz n g s root) trivial rfl;have e:(vz n g s root&&Fc s a t 0)=vz n g s root:=by simp [Fc]
  rw [e];exact this
 |i+1,hi=>by
  have e:Fc s a t (i+1)=(Fc s a t i&&(qF a i t&&zE s a t i t.length)):=by
   unfold Fc;rw [List.range_succ,List.all_append];simp
  rw [e,<-Bool.and_assoc];refine(ayR hp i w!).snoc λ_=>?_;have h1:=qH.one (F:=ab9 a i t) (z:=.g e0 ei0 (yn s a t i)) (b:=qF a i t) (by have:=hp.1;exact⟨w!,w!⟩) rfl
  have h2:=h1.snoc (m:=(List.range t.length).map λ(j:Nat)=>B2 e0 ei0 (Jj s i) (t.getD j []) a i j) (z2:=.g e0 ei0 (yn s a t (i+1))) (o2:=zE s a t i t.length) λhm=>by
   have:=ayQ (e0:=e0) (ei0:=ei0) hp (show i<s.length by omega) hm t.length (S! _);rw [arz,ahF] at this;exact this
  exact h2
theorem arA(s:M Sg)(a:M (M Pf))(t:O):yn s a t 0=List.replicate t.length []:=by
 rw [List.eq_replicate_iff];refine⟨by simp [yn],λx hx=>?_⟩;obtain⟨j,_,rfl⟩:=T?.1 hx;rfl
theorem acb(hb:b.length<1099511627776)(hl:fV l)(h:(bp b).2=0):UW (bp b).1.2.2.1 (bp b).1.2.2.2 (ax l):=by
 have hq:∀(k:Nat) (a e:Int),(sL b a e k).2.length=k/\∀x∈(sL b a e k).2,∀p∈x,p.2.2.2.2.1.length<=64/\p.2.2.2.2.2.length<=b.length:=by
  intro k a e;induction k with
  |zero=>exact⟨rfl,nofun⟩
  |succ k ih=>
   refine⟨by grind[sL],λx hx=>?_⟩;simp only [sL,List.mem_append,List.mem_singleton] at hx;rcases hx with hx|rfl
   . grind
   . have hpf:∀(m:Nat) (a e:Int),∀p∈(D9 b a e m).2,p.2.2.2.2.1.length<=64/\p.2.2.2.2.2.length<=b.length:=by
      intro m a e;induction m with
      |zero=>exact nofun
      |succ m ih=>
       intro p hp;simp only [D9,F!,v?] at hp;rcases hp with hp|rfl
       . grind
       . refine⟨?_,LY _ _ _ _⟩;grind[iF,q3,iK,LZ,OP]
     exact hpf _ _ _
 have h1:(ax l).length<=1099511627776:=(Sx hl.1).2
 have h2:∀w∈ax l,small w:=λw hw=>by
  have:=(jk (qC l) w).1 hw;simp only [qC,bS,T?,List.mem_filter] at this;obtain⟨o,⟨ho,_⟩,rfl⟩:=this;exact hl.2 o (List.mem_of_mem_take ho)
 have V4:bp b=(((aH b).2.1,(aH b).2.2.1,(aH b).2.2.2,(js b (aN b)).2),0):=by
  grind[ayN,alU,ayM]
 rw [V4];have:=hq (aN b) (aH b).1.1 (aH b).1.2;refine⟨this.1.symm,ô b,h1,h2,λx hx p hp=>?_⟩;have q:=this.2 x hx p hp;grind[dM,aC,small]
theorem O3(e0 ei0:Nat)(s:M Sg)(a:M (M Pf))(t:O)(i k:Nat):(O1 e0 ei0 s a t i k).length=k+1:=by simp [O1]
theorem Fe {e0 ei0:Nat}{root:B8}{n:Int}{g:B8}{s:M Sg}{a:M (M Pf)}{t:O}:∀i,(conds e0 ei0 root n g s a t i).length=1+i*(t.length+1)
 |0=>by simp [conds]
 |i+1=>by rw [conds,K!,Fe i,O3,Nat.succ_mul];omega
theorem UX{root:B8}(i k:Nat):(nJ e0 ei0 root n g s a t i k).length=1+i*(t.length+1)+(k+1):=by
 rw [nJ,K!,Fe,O3]
theorem QV{root:B8}(i k:Nat):
  nJ e0 ei0 root n g s a t i k++[B2 e0 ei0 (Jj s i) (t.getD k []) a i k]=nJ e0 ei0 root n g s a t i (k+1):=by
 grind[nJ,O1,zZ,List.append_assoc]
theorem acd(hb:b.length<1099511627776)(hl:fV l)(h:(bp b).2=0):(bp b).1.2.2.1.length<=64:=(acb hb hl h).2.1
theorem ace {b:B8}(hb:b.length<1099511627776)(hl:fV l)(h:(bp b).2=0)(hq:bw l=true)(hi:i<=(bp b).1.2.2.1.length):i*((ax l).length+1)<=1088:=by
 have h1:=acd hb hl h;have h2:=pS hq;exact X? (Nat.mul_le_mul (show i<=64 by omega) (show(ax l).length+1<=17 by omega)) (by decide)
theorem O4 {root:B8}(h:(root.length:Int)=32/\bw l=true):¬(bif !decide ((root.length:Int)=32) then true else !bw l)=true:=by
 grind
theorem aBu {root:B8}(h:¬(root.length:Int)=32\/bw l=false):(bif !decide ((root.length:Int)=32) then true else !bw l)=true:=by
 grind
theorem arB {root:B8}(h:(bif !decide ((root.length:Int)=32) then true else !bw l)=true): []=(kA root l b).1/\1=(kA root l b).2:=by
 simp_all[kA,M!]
theorem arC {root:B8}(h:¬(bif !decide ((root.length:Int)=32) then true else !bw l)=true)(h1:¬(bp b).2=0): []=(kA root l b).1/\(bp b).2=(kA root l b).2:=by
 simp_all[kA,J!,M!]
theorem Hy{root:B8}{b:B8}(hb:b.length<1099511627776)(hl:fV l)(h:(bp b).2=0){k:Nat}(hk:k=(bp b).1.2.2.1.length):
  qH (conds e0 ei0 root (bp b).1.1 (bp b).1.2.1 (bp b).1.2.2.1 (bp b).1.2.2.2 (ax l) k) (.g e0 ei0 (Vg.bk.Kj (Int.toNat ((ax l).length:Int)))) (.g e0 ei0 (yn (bp b).1.2.2.1 (bp b).1.2.2.2 (ax l) (bp b).1.2.2.1.length)) (SB root (bp b).1 (ax l)):=by
 subst hk;have:=ayR (e0:=e0) (ei0:=ei0) (root:=root) (n:=(bp b).1.1) (g:=(bp b).1.2.1) (acb hb hl h) _ (S! _);rw [arA] at this;exact this
theorem amj {root:B8}{l:M dC}{b:B8}{c:M CF}{z z':Z}(h0:¬(bif !decide ((root.length:Int)=32) then true else !bw l)=true)(h:(bp b).2=0)(hr:qH c z z' (SB root (bp b).1 (ax l)))(h1:¬(bif (Vg.bk.run c z).2.1 then(0:Int) else 6)=0):
  []=(kA root l b).1/\(bif (Vg.bk.run c z).2.1 then(0:Int) else 6)=(kA root l b).2:=by
 have e:=hr.ok;cases hc:SB root (bp b).1 (ax l) with
 |true=>grind
 |false=>simp_all[kA,J!]
theorem acf {e0 ei0:Nat}{root:B8}{l:M dC}{b:B8}{c:M CF}{z:Z}(h0:¬(bif !decide ((root.length:Int)=32) then true else !bw l)=true)(h:(bp b).2=0)(hr:qH c z (.g e0 ei0 (yn (bp b).1.2.2.1 (bp b).1.2.2.2 (ax l) (bp b).1.2.2.1.length)) (SB root (bp b).1 (ax l)))(h1:(bif (Vg.bk.run c z).2.1 then(0:Int) else 6)=0):
  mh l (Vg.bk.rows (Vg.bk.run c z).2.2)=kA root l b:=by
 have e:=hr.ok;cases hc:SB root (bp b).1 (ax l) with
 |false=>grind
 |true=>
  rw [hr.to hc,kA,J! h0,J! w!,M! hc];rfl
end Go.S
namespace Go.S
theorem Yr {p:O}{k:Nat}(h:fg p k)(hk:(k:Int)<p.length)(h1:((p.getD k []).length:Int)=32):fg p (k+1):=by
 refine⟨λd hd=>?_,w!⟩;rw [aD p k [] w!,F!,v?] at hd;rcases hd with hd|rfl
 . exact h.1 d hd
 omega
theorem dl {p:O}{k:Nat}(h:(k:Int)<((p.drop (Int.toNat 1)).length:Int)):k+1<p.length:=by
 grind
def O7(root b:B8):Bool:=decide (200<(root.length:Int)) || decide (20000<(b.length:Int))
def aHp:B8:=[119,97,105,110,32,104,97,121]
def ky:QS:=([zA,aHp],[(0,2,[(zA,[0,1]),([119,97,105,110],[1])])])
abbrev ky0:(O×M aY)×Int:=cP (Vg.ur B8) (Vg.ur (Int×Int×M (B8×U))) [104,97,121]
theorem UZ:(bY (cP ky0.1.1 ky0.1.2 [119,97,105,110,32,104,97,121]).1.1 (cP ky0.1.1 ky0.1.2 [119,97,105,110,32,104,97,121]).1.2).1=ky:=by rfl
theorem L3:(fE ky.1 ky.2 fy).1.length<1099511627776/\0<(fE ky.1 ky.2 fy).1.length:=by decide+kernel
theorem aHq:kA (mG ky.1 ky.2).1 fy (fE ky.1 ky.2 fy).1=([0,1],0):=by decide+kernel
theorem aHr:(kA (mG ky.1 ky.2).1 fy ((fE ky.1 ky.2 fy).1.set ((fE ky.1 ky.2 fy).1.length-1) ((fE ky.1 ky.2 fy).1.getD ((fE ky.1 ky.2 fy).1.length-1) 0+1))).2≠0:=by decide+kernel
theorem arJ(a:UInt8):UInt8.ofNat (Int.toNat (((a.toNat:Int)+1)%256))=a+1:=by
 apply UInt8.toNat.inj;rw [UInt8.toNat_add];simp only [UInt8.toNat_ofNat'];have:=a.toNat_lt;have e:(1:UInt8).toNat=1:=rfl;rw [e];omega
variable {x b r g p6:B8}{i:Nat}{l:List dC}{m e n a o p1:Int}{s:Rs}{f:List (List Int)}{p:Pf}{p5:List B8}
theorem ayT(h:x=List.set (fE ky.1 ky.2 fy).1 (Int.toNat (((fE ky.1 ky.2 fy).1.length:Int)-1)) (UInt8.ofNat (Int.toNat (((((fE ky.1 ky.2 fy).1.getD (Int.toNat (((fE ky.1 ky.2 fy).1.length:Int)-1)) 0).toNat:Int)+1)%256)))):
  x.length<1099511627776/\(kA (mG ky.1 ky.2).1 fy x).2≠0:=by
 have e:Int.toNat (((fE ky.1 ky.2 fy).1.length:Int)-1)=(fE ky.1 ky.2 fy).1.length-1:=by omega
 rw [arJ,e] at h;refine⟨by rw [h,m?];exact L3.1,?_⟩;rw [h];exact aHr
theorem arK(h:(kA (mG ky.1 ky.2).1 fy x).2≠0):
  (bif sH (kA (mG ky.1 ky.2).1 fy (fE ky.1 ky.2 fy).1).1 [0,1] then bif decide ((kA (mG ky.1 ky.2).1 fy (fE ky.1 ky.2 fy).1).2=0) then !decide ((kA (mG ky.1 ky.2).1 fy x).2=0) else false else false)=true:=by
 rw [aHq];simp only [Y? h];rfl
theorem aHs {root:B8}(h:O7 root b=false):b.length<=20000:=by
 grind[O7,Bool.or_eq_false_iff,decide_eq_false_iff_not]
theorem aXC {α:Type}{l:M α}(h:i<l.length)(x:α):l.getD i x=l[i]:=by
 grind
theorem aUY {x:O}(hx:uG x){t:B8}(h:t∈x):x.getD (pE x t) []=t:=by
 obtain⟨i,hi,e⟩:=List.mem_iff_getElem.1 h;have e':x.getD i []=t:=by grind
 have hb:rO x t (i:Int) (i:Int):=by
  refine⟨w!,Int.le_refl _,w!,λk hk=>?_,λk hk hl=>?_⟩
  . grind[ü]
  grind[eS,ü,CV]
 grind[aro]
theorem aTl {a:U}(h:bK a=true):vv a=a:=by grind[vv]
theorem aRE {l:U}(h:l.Pairwise (· < ·))(h2:∀x∈l,0<=x/\x<1000):bK l=true:=by
 grind[kL,jG,bC,gi,aXC,List.pairwise_iff_getElem]
theorem aUZ {q:M dC}{k:Nat}(hk:k<q.length)(h0:(jY q k).1=0):(jY q k).2∈ax q:=by
 unfold ax;rw [jk];unfold qC bS;rw [List.take_length];exact List.mem_map.2 ⟨_,List.mem_filter.2 ⟨bC q k (0,[]) hk,decide_eq_true h0⟩,rfl⟩
def aAt(l:M dC):Prop:=l.length<=5864062014805
theorem aU0(h:small l):aAt l:=by unfold small at h;unfold aAt;omega
abbrev Lf:=B8×Int
def gD(b:B8)(e:Int):Lf×Int:=if e≠0 then((b,e),0) else((b.drop (first b).2.1.toNat,(first b).2.2),(first b).1)
def iq(b:B8)(e m:Int):Lf×B8:=if e≠0 then((b,e),[]) else((b.drop (aq b m).2.1.toNat,(aq b m).2.2),(aq b m).1)
def bO(b:B8)(e m:Int):Lf×Int:=if(gD b e).1.2=0/\m<(gD b e).2 then(([],2),0) else gD b e
def nK(b:B8)(k:Nat):O:=(List.range k).map λi=>(b.drop (32*i)).take 32
def Ln(b:B8)(e:Int):Nat:=(bO b e 64).2.toNat
def fM(b:B8)(e:Int):Lf×O:=
 if(bO b e 64).1.1.length<32*Ln b e then(([],4),[]) else(((bO b e 64).1.1.drop (32*Ln b e),(bO b e 64).1.2),nK (bO b e 64).1.1 (Ln b e))
def e9(b:B8)(e:Int):Lf×Hd:=
 if(iq b e 10000).1.2≠0 then((iq b e 10000).1,(0,[],[])) else(((iq b e 10000).1.1,(hR (iq b e 10000).2).2),(hR (iq b e 10000).2).1)
def gQ(b:B8)(kind:UInt8):Lf:=if 1048576<(b.length:Int) then([],3) else if b.length=0 then([],4) else if b.getD 0 0=kind then(b.drop 1,0) else([],2)
def jT(b:B8)(e:Int):Int:=if e=0/\0<b.length then 2 else e
def Lr(b:B8)(s:Rs)(t:Lf):Prop:=s.2=t.2/\(s.2=0->0<=s.1/\s.1<=b.length/\t.1=b.drop s.1.toNat)
theorem Jl(h:(first b).2.2≠0):(first b).1=0/\(first b).2.1=0:=by grind[first]
theorem aBC(h:(aq b m).2.2≠0):(aq b m).1=[]/\(aq b m).2.1=0:=by grind[aq]
variable {t:Lf}
theorem aci(h:Lr b s t):Lr b (af b s.1 s.2).1.2 (gD t.1 t.2).1/\(af b s.1 s.2).2=(gD t.1 t.2).2:=by
 obtain⟨a,e⟩:=s;obtain⟨r,e'⟩:=t;obtain⟨h1,h2⟩:=h;subst h1;by_cases he:e=0
 . subst he;obtain⟨h3,h4,rfl⟩:=h2 rfl;have hb:=j5 (b.drop a.toNat);have hl:((b.drop a.toNat).length:Int)=b.length-a:=by grind
   unfold gD;rw [if_neg z!];by_cases hq:(first (b.drop a.toNat)).2.2=0
   . rw [E3 h3 h4 hq];refine⟨⟨hq.symm,λ_=>⟨by dsimp only;omega,by dsimp only;omega,?_⟩⟩,rfl⟩;dsimp only;rw [List.drop_drop];congr 1;omega
   . have:=Jl hq;rw [Oz h3 h4 hq];exact⟨⟨rfl,λq=>absurd q hq⟩,this.1.symm⟩
 . rw [XP he];unfold gD;rw [if_pos he];exact⟨⟨rfl,λq=>absurd q he⟩,rfl⟩
theorem Ys(h:Lr b s t)(m:Int):Lr b (an b s.1 s.2 m).1.2 (iq t.1 t.2 m).1/\(an b s.1 s.2 m).2=(iq t.1 t.2 m).2:=by
 obtain⟨a,e⟩:=s;obtain⟨r,e'⟩:=t;obtain⟨h1,h2⟩:=h;subst h1;by_cases he:e=0
 . subst he;obtain⟨h3,h4,rfl⟩:=h2 rfl;have hl:((b.drop a.toNat).length:Int)=b.length-a:=by grind
   have g:=uK (m:=m) h3 h4;unfold iq an;simp only [zr h3 h4,ne_eq,not_true_eq_false,if_false,g];by_cases hq:(aq (b.drop a.toNat) m).2.2=0
   . have hb:=xg _ _ hq;rw [if_neg w!];dsimp only;rw [if_pos hq];refine⟨⟨hq.symm,λ_=>⟨w!,w!,?_⟩⟩,rfl⟩;grind[List.drop_drop]
   . have:=aBC hq;rw [M! w!];exact⟨⟨rfl,λq=>absurd q hq⟩,this.1.symm⟩
 . unfold iq an;rw [if_pos he,Oy he,if_pos he];exact⟨⟨rfl,λq=>absurd q he⟩,rfl⟩
theorem amr(h:Lr b s t)(m:Int)(hm:0<=m):Lr b (dh b s.1 s.2 m).1 (bO t.1 t.2 m).1/\(dh b s.1 s.2 m).2=(bO t.1 t.2 m).2:=by
 obtain⟨⟨h1,h2⟩,h3⟩:=aci h;unfold dh bO;by_cases hq:m<(gD t.1 t.2).2
 . have :(gD t.1 t.2).1.2=0:=by
    unfold gD at hq |-;split at hq
    . omega
    . grind[Jl]
   rw [if_pos w!,if_pos ⟨this,hq⟩];exact⟨⟨rfl,λq=>by grind⟩,rfl⟩
 . rw [J! w!,J! (λq=>hq q.2)];exact⟨⟨h1,h2⟩,h3⟩
theorem Ă {b:B8}{a:Int}(h:0<=a):∀k:Nat,a+32*k<=b.length->rL b a 0 k=((a+32*k,0),nK (b.drop a.toNat) k)
 |0,_=>by simp [rL,nK]
 |k+1,hk=>by
  simp only [rL];rw [Ă h k w!];dsimp only;rw [ë w! w!];refine Prod.ext (Prod.ext x! rfl) ?_;simp [nK,List.range_succ,List.map_append,List.map_cons,List.map_nil,List.drop_drop];congr 4;omega
theorem Yt {b:B8}{a:Int}(h:0<=a)(h1:a<=b.length):∀k:Nat,(b.length:Int)<a+32*k->(rL b a 0 k).1.2=4
 |0,hk=>by omega
 |k+1,hk=>by
  simp [rL];by_cases hq:a+32*k<=b.length
  . rw [Ă h k hq];dsimp only;rw [ì w! w! w!]
  . have:=Yt h h1 k w!;rw [this,XQ (by decide)]
theorem aBD(h:(gD r e).1.2≠0):(gD r e).2=0:=by
 unfold gD at h |-;split
 . rfl
 simp_all[J!,Jl]
theorem ă(h:(bO r e m).1.2≠0):(bO r e m).2=0:=by
 unfold bO at h |-;split
 . rfl
 simp_all[J!,aBD]
theorem Yu(h:Lr b s t):Lr b (iK b s.1 s.2).1 (fM t.1 t.2).1/\((iK b s.1 s.2).1.2=0->(iK b s.1 s.2).2=(fM t.1 t.2).2):=by
 obtain⟨⟨h1,h2⟩,h3⟩:=amr h 64 (by decide);have hn:(bO t.1 t.2 64).1.2≠0->(bO t.1 t.2 64).2.toNat=0:=λq=>by grind[ă]
 unfold iK dB pg fM Ln;rw [<-h3] at hn |-;generalize (dh b s.1 s.2 64).2.toNat=n at *;generalize (dh b s.1 s.2 64).1=c at *;generalize (bO t.1 t.2 64).1=d at *;obtain⟨a,e⟩:=c;obtain⟨r,e'⟩:=d;dsimp only at h1 h2 hn |-;subst h1;by_cases he:e=0
 . subst he;obtain⟨h4,h5,rfl⟩:=h2 rfl;have hl:((b.drop a.toNat).length:Int)=b.length-a:=by grind
   by_cases hq:a+32*n<=b.length
   . rw [Ă h4 n hq,if_neg w!];refine⟨⟨rfl,λ_=>⟨x!,hq,?_⟩⟩,λ_=>rfl⟩;grind[List.drop_drop]
   . have:=Yt h4 h5 n w!;rw [M! w!];exact⟨⟨this,λq=>by omega⟩,λq=>by omega⟩
 . have:=hn he;subst this;exact⟨⟨rfl,λq=>absurd q he⟩,λq=>absurd q he⟩
theorem O8(h:Lr b s t):Lr b (cC b s.1 s.2).1 (e9 t.1 t.2).1/\((cC b s.1 s.2).1.2=0->(cC b s.1 s.2).2=(e9 t.1 t.2).2):=by
 obtain⟨⟨h1,h2⟩,h3⟩:=Ys h 10000;unfold cC e9;by_cases hq:(an b s.1 s.2 10000).1.2.2=0
 . rw [J! w!,J! w!,<-h3];obtain⟨q1,q2,q3⟩:=h2 hq;exact⟨⟨rfl,λ_=>⟨q1,q2,q3⟩⟩,λ_=>rfl⟩
 . rw [M! hq,M! w!];exact⟨⟨h1,h2⟩,λ_=>rfl⟩
theorem acj{k:UInt8}(h:dY b k=0):Lr b (1,0) (gQ b k):=by
 unfold dY at h;unfold gQ;split at h
 . cases h
 . rename_i h1;rw [J! h1];split at h
   . cases h
   . rename_i h2;rw [J! h2];split at h
     . rename_i h3;rw [M! h3];exact⟨rfl,λ_=>⟨by decide,w!,rfl⟩⟩
     omega
theorem Yv{k:UInt8}(h:dY b k≠0):gQ b k=([],dY b k):=by
 grind[dY,gQ]
theorem ack(h:Lr b s t):jT t.1 t.2=done b s.1 s.2:=by
 obtain⟨a,e⟩:=s;obtain⟨h1,h2⟩:=h;by_cases he:e=0
 . grind[Xv,jT]
 simp_all[tO,jT,J!]
theorem acm(h:e≠0):gD r e=((r,e),0):=by simp_all[gD,M!]
theorem acn(h:e≠0):iq r e m=((r,e),[]):=by simp_all[iq,M!]
theorem aHt(h:e≠0):bO r e m=((r,e),0):=by simp_all[bO,acm,J!]
theorem Yw(h:e≠0):e9 r e=((r,e),(0,[],[])):=by simp_all[e9,acn,M!]
theorem SF(h:e≠0):fM r e=((r,e),[]):=by
 simp_all[fM,Ln,aHt,J!,nK]
theorem ayU(h:e≠0):jT r e=e:=by simp_all[jT,J!]
def U1(b:B8):Int:=(first b).1
def U2(b:B8):B8:=(b.drop (first b).2.1.toNat).take 32
def Yy(b:B8):Int×Int×Int:=first (b.drop ((first b).2.1+32).toNat)
def ix(b:B8):Int:=(first b).2.1+32+(Yy b).2.1
def Lq(b:B8):Nat:=(Yy b).1.toNat
def ve(b:B8)(k:Nat):Prop:=((first b).2.2=0/\(first b).2.1+32<=b.length/\(Yy b).2.2=0/\(Yy b).1<=64)/\k<=Lq b/\(cw b (ix b) k).2.2.2=0
def qI(b:B8)(e:Int)(k:Nat):B8:=(bO b e 64).1.1.drop (32*k)
def xq(b:B8)(e:Int)(k:Nat):Prop:=k<=Ln b e/\32*k<=(bO b e 64).1.1.length
theorem yp(b:B8):0<=(first b).2.1/\(first b).2.1<=b.length/\0<=(first b).1/\(first b).1<=4611686018427387904:=by
 simp_all[j5]
theorem amt{x y:Int}(h:0<=x)(h1:0<=y):(b.take (x+y).toNat).drop x.toNat=(b.drop x.toNat).take y.toNat:=by
 grind[List.drop_take]
theorem aBE(b:B8)(f:Int):0<=(dw b f).2.1/\(dw b f).2.1<=b.length:=by
 grind[yp,first,dw]
theorem aBF{p:Int}(hp:0<=p)(TF:p<=b.length){k:Nat}(h:(cw b p k).2.2.2=0):0<=(cw b p k).2.2.1/\(cw b p k).2.2.1<=b.length/\(cw b p k).1.length=k:=by
 grind[C5,OA]
theorem SG {b:B8}{p:Int}{k:Nat}(h:(cw b p k).2.2.2≠0):∀j,cw b p (k+j)=cw b p k
 |0=>rfl
 |j+1=>by
  simp_all[Nat.add_assoc,cw,SG,M!]
theorem aHu {b:B8}(h2:(first b).2.2=0)(h4:¬(b.length:Int)<(first b).2.1+32):0<=ix b/\ix b<=b.length:=by
 have q1:=yp b;have q2:=yp (b.drop ((first b).2.1+32).toNat);have e:ix b=(first b).2.1+32+(first (b.drop ((first b).2.1+32).toNat)).2.1:=rfl;grind
theorem aHv {b:B8}(h2:(first b).2.2=0)(h4:¬(b.length:Int)<(first b).2.1+32)(h6:(first (b.drop ((first b).2.1+32).toNat)).2.2=0)(h8:¬64<(first (b.drop ((first b).2.1+32).toNat)).1):ve b 0:=
 ⟨⟨h2,w!,h6,by grind[Yy]⟩,Nat.zero_le _,rfl⟩
theorem U3{k:Nat}(h:ve b k):0<=(cw b (ix b) k).2.2.1/\(cw b (ix b) k).2.2.1<=b.length/\(cw b (ix b) k).1.length=k/\k<=64:=by
 obtain⟨⟨a,c,d,e⟩,f,g⟩:=h;have q:=aHu a w!;have:=aBF q.1 q.2 g;have e2:Lq b=(Yy b).1.toNat:=rfl;omega
theorem amu{k:Nat}(h:ve b k):hR b=xj b (U1 b) (U2 b) (cw b (ix b) (Lq b)):=by
 obtain⟨⟨a,c,d,e⟩,f,g⟩:=h;unfold hR;rw [if_neg (λq=>q a),if_neg w!,if_neg (λq=>q d),if_neg (by exact Int.not_lt.2 e)];rfl
theorem amv {b:B8}{k:Nat}(h:ve b k)(hk:(k:Int)<(first (b.drop ((first b).2.1+32).toNat)).1)(hs:¬(dw (b.drop (cw b (ix b) k).2.2.1.toNat) (cw b (ix b) k).2.1).2.2=0):
  hR b=((0,[],[]),(dw (b.drop (cw b (ix b) k).2.2.1.toNat) (cw b (ix b) k).2.1).2.2):=by
 have e:(cw b (ix b) (k+1)).2.2.2=(dw (b.drop (cw b (ix b) k).2.2.1.toNat) (cw b (ix b) k).2.1).2.2:=by
  rw [cw,J! (λq=>q h.2.2),M! hs]
 have hn:k+1<=Lq b:=by grind[Lq,Yy]
 rw [amu h,show Lq b=(k+1)+(Lq b-(k+1)) by omega,SG w!,xj,M! w!,e]
theorem U4 {b:B8}{k:Nat}(h:ve b k)(hk:(k:Int)<(first (b.drop ((first b).2.1+32).toNat)).1)(hs:(dw (b.drop (cw b (ix b) k).2.2.1.toNat) (cw b (ix b) k).2.1).2.2=0):
  cw b (ix b) (k+1)=((cw b (ix b) k).1++[(dw (b.drop (cw b (ix b) k).2.2.1.toNat) (cw b (ix b) k).2.1).1],(dw (b.drop (cw b (ix b) k).2.2.1.toNat) (cw b (ix b) k).2.1).1.2.1,(cw b (ix b) k).2.2.1+(dw (b.drop (cw b (ix b) k).2.2.1.toNat) (cw b (ix b) k).2.1).2.1,0)/\ve b (k+1):=by
 have e:cw b (ix b) (k+1)=((cw b (ix b) k).1++[(dw (b.drop (cw b (ix b) k).2.2.1.toNat) (cw b (ix b) k).2.1).1],(dw (b.drop (cw b (ix b) k).2.2.1.toNat) (cw b (ix b) k).2.1).1.2.1,(cw b (ix b) k).2.2.1+(dw (b.drop (cw b (ix b) k).2.2.1.toNat) (cw b (ix b) k).2.1).2.1,0):=by
  conv=>lhs;rw [cw,J! (λq=>q h.2.2),J! (λq=>q hs)]
 refine⟨e,h.1,?_,by rw [e]⟩;grind[Lq,Yy]
theorem L4{k:Nat}(h:ve b k)(hk:¬(k:Int)<(first (b.drop ((first b).2.1+32).toNat)).1):
  hR b=if(cw b (ix b) k).2.2.1<b.length\/bN (U1 b) (U2 b) (cw b (ix b) k).1=false then((0,[],[]),2) else((U1 b,U2 b,(cw b (ix b) k).1),0):=by
 have e:Lq b=k:=by
  have:=h.2.1;have e2:Lq b=(first (b.drop ((first b).2.1+32).toNat)).1.toNat:=rfl;omega
 rw [amu h,e,xj,J! (λq=>q h.2.2)]
theorem arO(b:B8)(e m:Int)(hm:0<=m):((iq b e m).2.length:Int)<=m:=by
 grind[iq,aq,yp,List.length_take]
theorem aHw(b:B8)(e:Int):0<=(bO b e 64).2/\(bO b e 64).2<=64/\((bO b e 64).1.2≠0->(bO b e 64).2=0):=by
 refine⟨?_,?_,λh=>ă h⟩
 . unfold bO gD;have:=yp b;grind
 grind[bO,ă]
theorem aco(b:B8)(e:Int):Ln b e<=64/\(bO b e 64).2=(Ln b e:Int):=by
 have:=aHw b e;have h:Ln b e=(bO b e 64).2.toNat:=rfl;omega
theorem aHx(b:B8)(e:Int):xq b e 0:=⟨U! _,z!⟩
theorem amw{k:Nat}(h:xq b e k):(nK (bO b e 64).1.1 k).length<=64/\k<=64:=by
 have:=(aco b e).1;have:=h.1
 grind[nK]
theorem amx {b:B8}{e:Int}{k:Nat}(h:xq b e k)(hk:(k:Int)<(bO b e 64).2)(hl:((qI b e k).length:Int)<32):fM b e=(([],4),[]):=by
 grind[aco,qI,List.length_drop,fM]
theorem U5 {b:B8}{e:Int}{k:Nat}(h:xq b e k)(hk:(k:Int)<(bO b e 64).2)(hl:¬((qI b e k).length:Int)<32):
  (qI b e k).drop 32=qI b e (k+1)/\nK (bO b e 64).1.1 k++[(qI b e k).take 32]=nK (bO b e 64).1.1 (k+1)/\xq b e (k+1):=by
 have q:=aco b e;unfold qI at hl |-;rw [List.length_drop] at hl;refine⟨by grind[List.drop_drop],?_,w!,w!⟩;simp [nK,List.range_succ]
theorem acp{k:Nat}(h:xq b e k)(hk:¬(k:Int)<(bO b e 64).2):fM b e=((qI b e k,(bO b e 64).1.2),nK (bO b e 64).1.1 k):=by
 have q:=aco b e;have e:Ln b e=k:=by have:=h.1;omega
 have:=h.2;simp_all[fM,qI,J!]
theorem amy {b:B8}{k:UInt8}(h1:¬1048576<(b.length:Int))(h2:¬(b.length:Int)=0)(h3:b.getD 0 0=k):gQ b k=(b.drop 1,0):=by
 simp_all[gQ,J!,M!]
theorem ayV(h:jT r e=0):e=0:=by grind[jT]
theorem ą(h:(e9 r e).1.2=0):bN (e9 r e).2.1 (e9 r e).2.2.1 (e9 r e).2.2.2=true:=by
 unfold e9 at h |-;split
 . grind
 simp_all[J!,Ox]
theorem amz{l:M Sg}{root:B8}(h:bN n g l=true):vz n g l root=decide (uW n g l=root):=by
 unfold vz im uW;rw [if_pos h];rfl
theorem acr {a b:UInt8}(h:(a.toNat:Int)=b.toNat):a=b:=UInt8.toNat_inj.1 w!
def u1(b:B8)(e:Int):Lf×Int:=gD b e
def u2(b:B8)(e:Int):Lf×B8:=iq (u1 b e).1.1 (u1 b e).1.2 200
def u3(b:B8)(e:Int):Lf×O:=fM (u2 b e).1.1 (u2 b e).1.2
def u4(b:B8)(e:Int):Lf×B8:=iq (u3 b e).1.1 (u3 b e).1.2 4000
def uPf(b:B8)(e:Int):Lf×Pf:=
 if(u2 b e).1.2≠0 then((u2 b e).1,((u1 b e).2,[],[],[],[],[]))
 else if(EV (u2 b e).2).2≠0 then(([],(EV (u2 b e).2).2),((u1 b e).2,[],[],[],[],[]))
 else((u4 b e).1,((u1 b e).2,(EV (u2 b e).2).1.1,(EV (u2 b e).2).1.2.1,(EV (u2 b e).2).1.2.2,(u3 b e).2,(u4 b e).2))
def aM1(b:B8)(e:Int):Nat->Lf×M Pf
 |0=>((b,e),[])
 |k+1=>if(aM1 b e k).1.2≠0 then aM1 b e k else((uPf (aM1 b e k).1.1 (aM1 b e k).1.2).1,(aM1 b e k).2++[(uPf (aM1 b e k).1.1 (aM1 b e k).1.2).2])
def aOB(b:B8)(e:Int):Nat:=(bO b e 16).2.toNat
def aOC(b:B8)(e:Int)(j:Nat):Lf×M Pf:=aM1 (bO b e 16).1.1 (bO b e 16).1.2 j
def aL2(b:B8)(e:Int):Nat->Lf×M (M Pf)
 |0=>((b,e),[])
 |k+1=>if(aL2 b e k).1.2≠0 then aL2 b e k else((aOC (aL2 b e k).1.1 (aL2 b e k).1.2 (aOB (aL2 b e k).1.1 (aL2 b e k).1.2)).1,(aL2 b e k).2++[(aOC (aL2 b e k).1.1 (aL2 b e k).1.2 (aOB (aL2 b e k).1.1 (aL2 b e k).1.2)).2])
def uH(b:B8):Lf×Hd:=e9 (gQ b 1).1 (gQ b 1).2
def ef(b:B8)(k:Nat):Lf×M (M Pf):=aL2 (uH b).1.1 (uH b).1.2 k
def uvN(b:B8):Nat:=(uH b).2.2.2.length
def uRw(b:B8)(i j:Nat):Lf×M Pf:=aOC (ef b i).1.1 (ef b i).1.2 j
def aP3(b:B8)(i:Nat):Nat:=aOB (ef b i).1.1 (ef b i).1.2
def aOs(b:B8)(k:Nat):Prop:=k<=uvN b/\(ef b k).2.length=k
def aNn(b:B8)(i j:Nat):Prop:=(i<uvN b/\(ef b i).1.2=0/\(ef b i).2.length=i)/\j<=aP3 b i/\(uRw b i j).2.length=j
def aNZ(b:B8)(k:Nat)(x:Int×Int×U):Prop:=uY b k (x.1,0,x.2.1-1,x.2.2)/\0<=x.1/\x.1<=b.length
def aM8(l:U)(a b:Int)(k:Nat):U:=((vv l).take k).filter λn=>xf n a b
def kB(o:Int):Kp:=λx y=>(decide (o=0)&&(x&&y)) || ((decide (o=1)&&(x || y)) || (decide (o=2)&&(x&& !y)))
def aM9(o:Int)(a b:U)(k:Nat):U:=(Jg.take k).filter λn=>kB o (re (vv a) n) (re (vv b) n)
def aRS(o:Int)(a b:U):U:=Jh (kB o) a b
def aN0(root:B8)(n:Int)(t:B8)(p5:O)(p6:B8):Prop:=Ec root n t=true/\B0 t p5 p6
def aQc(g:Sg)(w:B8)(p:Pf):Bool:=decide ((iI g.2.2.2 g.2.2.1 w p).2=0)&&wB (iI g.2.2.2 g.2.2.1 w p).1 g.1 g.2.1
def aNa(s:M Sg)(a:M (M Pf))(t:O)(k:Nat):M U:=(List.range k).map λ(j:Nat)=>xp s a t j s.length
def aU1(s:M Sg)(a:M (M Pf))(t:O)(j i:Nat):Prop:=∀h,h<i->qF a h t=true/\sZ (Jj s h) (t.getD j []) a h j=true
def aP4(s:M Sg)(a:M (M Pf))(t:O)(k:Nat):Prop:=k<=t.length/\∀j,j<k->aU1 s a t j s.length
def aNo(s:M Sg)(a:M (M Pf))(t:O)(k i:Nat):Prop:=(k<t.length/\∀j,j<k->aU1 s a t j s.length)/\i<=s.length/\aU1 s a t k i
def aQj(s:M Sg)(a:M (M Pf))(t:O):Prop:=UW s a t/\1<=t.length/\(∀g∈s,(g.2.2.2.length:Int)=32/\1<=g.2.2.1/\g.2.2.1<=1099511627776)/\∀w∈t,isTerm w=true
def fdR(s:M Sg)(a:M (M Pf))(t:O):M U:=if Fc s a t s.length then yn s a t s.length else []
def aP5(t:O)(s:B8)(k:Nat):Prop:=k<=t.length/\∀j,j<k->¬t.getD j []=s
def aNb(l:M dC):Prop:=(∀i,i<l.length->(0<=(jY l i).1/\(jY l i).1<=3)/\((jY l i).1≠0->2<=gw l i))/\gw l l.length=1
def aOd(l:M dC):Nat->Int->Nat
 |0,_=>0
 |i+1,n=>if n<=0 then i+1 else aOd l i (if(jY l i).1=0 then n-1 else n+1)
def aOm(l:M dC):Int:=(aOd l (l.length-1) 1:Int)
def aNe(l:M dC)(n:Int)(i:Nat):Prop:=i<l.length/\aOd l i n=aOd l (l.length-1) 1/\n=1+(gw l i-gw l (l.length-1))
def aM0(f:B8->U)(l:M dC):U:=(gC f l l.length).getD 0 []
def aQZ(l:M dC)(t:O)(f:M U):Prop:=aNb l/\small l/\BZ t f
theorem aUg(h:Lr b s t):(cC b s.1 s.2).2=(e9 t.1 t.2).2:=by
 obtain⟨⟨h1,h2⟩,h3⟩:=Ys h 10000;grind[cC,e9]
theorem aY2(h:e≠0):Lr b (a,e) ([],e):=⟨rfl,λq=>absurd q h⟩
theorem aXD(h:Lr b s t):Lr b (iF b s.1 s.2).1 (uPf t.1 t.2).1/\((iF b s.1 s.2).1.2=0->(iF b s.1 s.2).2=(uPf t.1 t.2).2):=by
 have r1:Lr b (q1 b s.1 s.2).1 (u1 t.1 t.2).1/\(q1 b s.1 s.2).2=(u1 t.1 t.2).2:=aci h;have r2:Lr b (an b (q1 b s.1 s.2).1.1 (q1 b s.1 s.2).1.2 200).1.2 (u2 t.1 t.2).1/\(an b (q1 b s.1 s.2).1.1 (q1 b s.1 s.2).1.2 200).2=(u2 t.1 t.2).2:=Ys r1.1 200
 have er:∀ {a e:Int},e≠0->(q2 b s.1 s.2).1=(a,e)->Lr b (iF b s.1 s.2).1 ([],e):=λ{a e} he hq=>by
  have r3:=Yu (aY2 (b:=b) (a:=a) he);have r4:=Ys r3.1 4000;grind[SF,acn,q3,iK,iF,an,q4]
 have l2:q2 b s.1 s.2=kQ b (q1 b s.1 s.2).1.1 (q1 b s.1 s.2).1.2:=rfl;by_cases e2:(u2 t.1 t.2).1.2=0
 . have e2':(an b (q1 b s.1 s.2).1.1 (q1 b s.1 s.2).1.2 200).1.2.2=0:=r2.1.1.trans e2;rw [aq8 e2',ag9,r2.2] at l2;by_cases el:(EV (u2 t.1 t.2).2).2=0
   . have k2:Lr b (q2 b s.1 s.2).1 (u2 t.1 t.2).1:=by
      rw [l2];obtain⟨g1,g2,g3⟩:=r2.1.2 e2';exact⟨el.trans e2.symm,λ_=>⟨g1,g2,g3⟩⟩
     have r3:Lr b (q3 b s.1 s.2).1 (u3 t.1 t.2).1/\((q3 b s.1 s.2).1.2=0->(q3 b s.1 s.2).2=(u3 t.1 t.2).2):=Yu k2;have r4:Lr b (q4 b s.1 s.2).1 (u4 t.1 t.2).1/\(q4 b s.1 s.2).2=(u4 t.1 t.2).2:=Ys r3.1 4000
     have eu:uPf t.1 t.2=((u4 t.1 t.2).1,((u1 t.1 t.2).2,(EV (u2 t.1 t.2).2).1.1,(EV (u2 t.1 t.2).2).1.2.1,(EV (u2 t.1 t.2).2).1.2.2,(u3 t.1 t.2).2,(u4 t.1 t.2).2)):=by
      unfold uPf;rw [if_neg (λq=>q e2),if_neg (λq=>q el)]
     rw [eu];refine⟨r4.1,λq=>?_⟩
     have q3':(q3 b s.1 s.2).1.2=0:=by
      rw [r3.1.1];refine Decidable.byContradiction λn=>?_;have :(u4 t.1 t.2).1.2≠0:=by unfold u4;rw [acn n];exact n
      exact this (r4.1.1.symm.trans q)
     show((q1 b s.1 s.2).2,(q2 b s.1 s.2).2.1,(q2 b s.1 s.2).2.2.1,(q2 b s.1 s.2).2.2.2,(q3 b s.1 s.2).2,(q4 b s.1 s.2).2)=_;rw [r1.2,r3.2 q3',r4.2,l2]
   . have eu:(uPf t.1 t.2).1=([],(EV (u2 t.1 t.2).2).2):=by unfold uPf;rw [if_neg (λq=>q e2),if_pos el]
     have k:=er el (by rw [l2]);rw [eu];exact⟨k,λq=>absurd (k.1.symm.trans q) el⟩
 . have e2':¬(an b (q1 b s.1 s.2).1.1 (q1 b s.1 s.2).1.2 200).1.2.2=0:=λq=>e2 (r2.1.1.symm.trans q);rw [aBa e2'] at l2;have k:=er (a:=(an b (q1 b s.1 s.2).1.1 (q1 b s.1 s.2).1.2 200).1.2.1) e2' (by rw [l2]);have eu:(uPf t.1 t.2).1=(u2 t.1 t.2).1:=by unfold uPf;rw [if_pos e2]
   rw [eu];exact⟨⟨k.1.trans r2.1.1,λq=>absurd (k.1.symm.trans q) e2'⟩,λq=>absurd (k.1.symm.trans q) e2'⟩
theorem aY3(h:e≠0):(uPf r e).1=(r,e):=by
 simp_all[u2,u1,acm,acn,uPf,M!]
theorem aTm {b:B8}{s:Rs}{t:Lf}(h:Lr b s t):∀k,Lr b (D9 b s.1 s.2 k).1 (aM1 t.1 t.2 k).1/\((D9 b s.1 s.2 k).1.2=0->(D9 b s.1 s.2 k).2=(aM1 t.1 t.2 k).2)
 |0=>⟨h,λ_=>rfl⟩
 |k+1=>by
  obtain⟨i1,i2⟩:=aTm h k;have r:=aXD i1;simp only [D9,aM1];by_cases e:(aM1 t.1 t.2 k).1.2=0
  . rw [J! (λq=>q e)];exact⟨r.1,λq=>by rw [i2 (i1.1.trans e),r.2 q]⟩
  . rw [M! e];have c:(iF b (D9 b s.1 s.2 k).1.1 (D9 b s.1 s.2 k).1.2).1.2=(aM1 t.1 t.2 k).1.2:=by rw [r.1.1,aY3 e]
    exact⟨⟨c,λq=>absurd (c.symm.trans q) e⟩,λq=>absurd (c.symm.trans q) e⟩
theorem aVQ(h:Lr b s t):Lr b (ayK b s.1 s.2).1 (aOC t.1 t.2 (aOB t.1 t.2)).1/\((ayK b s.1 s.2).1.2=0->(ayK b s.1 s.2).2=(aOC t.1 t.2 (aOB t.1 t.2)).2):=by
 have r:=amr h 16 (by decide);have e:aOB t.1 t.2=ò b s.1 s.2:=by grind[aOB,ò]
 rw [e];exact aTm r.1 _
theorem aY4(h:e≠0):(aOC r e (aOB r e)).1=(r,e):=by
 unfold aOC aOB;rw [aHt h];rfl
theorem aSA {b:B8}{s:Rs}{t:Lf}(h:Lr b s t):∀k,Lr b (sL b s.1 s.2 k).1 (aL2 t.1 t.2 k).1/\((sL b s.1 s.2 k).1.2=0->(sL b s.1 s.2 k).2=(aL2 t.1 t.2 k).2)
 |0=>⟨h,λ_=>rfl⟩
 |k+1=>by
  obtain⟨i1,i2⟩:=aSA h k;have r:=aVQ i1;simp only [sL,aL2];by_cases e:(aL2 t.1 t.2 k).1.2=0
  . rw [J! (λq=>q e)];exact⟨r.1,λq=>by rw [i2 (i1.1.trans e),r.2 q]⟩
  . rw [M! e];have c:(ayK b (sL b s.1 s.2 k).1.1 (sL b s.1 s.2 k).1.2).1.2=(aL2 t.1 t.2 k).1.2:=by rw [r.1.1,aY4 e]
    exact⟨⟨c,λq=>absurd (c.symm.trans q) e⟩,λq=>absurd (c.symm.trans q) e⟩
theorem aRK(b:B8):(if jT (ef b (uvN b)).1.1 (ef b (uvN b)).1.2≠0 then((0,[],[],[]),jT (ef b (uvN b)).1.1 (ef b (uvN b)).1.2) else(((uH b).2.1,(uH b).2.2.1,(uH b).2.2.2,(ef b (uvN b)).2),0))=bp b:=by
 unfold bp;by_cases h:dY b 1=0
 . have r0:=acj h;have r1:Lr b (aH b).1 (uH b).1:=(O8 r0).1;have e1:(aH b).2=(uH b).2:=aUg r0;have en:uvN b=aN b:=by grind[uvN,aN]
   have r2:Lr b (js b (aN b)).1 (ef b (aN b)).1/\((js b (aN b)).1.2=0->(js b (aN b)).2=(ef b (aN b)).2):=aSA r1 _;have e5:=ack r2.1;by_cases hd:done b (js b (aN b)).1.1 (js b (aN b)).1.2=0
   . grind[tO]
   grind
 . have e1:uH b=(([],dY b 1),(0,[],[])):=by grind[uH,Yv,Yw]
   have e2:ef b (uvN b)=(([],dY b 1),[]):=by unfold ef uvN;rw [e1];rfl
   simp_all[ayU,M!]
theorem aRT {b:B8}{e:Int}{k:Nat}(h:(aL2 b e k).1.2≠0):∀j,aL2 b e (k+j)=aL2 b e k
 |0=>rfl
 |j+1=>by simp_all[Nat.add_assoc,aL2,aRT,M!]
theorem aSB {b:B8}{e:Int}{k:Nat}(h:(aM1 b e k).1.2≠0):∀j,aM1 b e (k+j)=aM1 b e k
 |0=>rfl
 |j+1=>by simp_all[Nat.add_assoc,aM1,aSB,M!]
theorem aTn {b:B8}{k:Nat}(h:aOs b k)(h8:¬(ef b k).1.2=0\/¬(k:Int)<(uH b).2.2.2.length):ef b (uvN b)=ef b k:=by
 have hk:=h.1;rcases h8 with h8|h8
 . rw [show uvN b=k+(uvN b-k) by omega];exact aRT h8 _
 . have e:uvN b=(uH b).2.2.2.length:=rfl;grind
theorem aU2 {b:B8}{k:Nat}(h:aOs b k)(h8:¬(ef b k).1.2=0\/¬(k:Int)<(uH b).2.2.2.length)(h9:¬jT (ef b k).1.1 (ef b k).1.2=0):bp b=((0,[],[],[]),jT (ef b k).1.1 (ef b k).1.2):=by
 rw [<-aRK,aTn h h8,M! h9]
theorem aTp {b:B8}{k:Nat}(h:aOs b k)(h8:¬(ef b k).1.2=0\/¬(k:Int)<(uH b).2.2.2.length)(h9:jT (ef b k).1.1 (ef b k).1.2=0):bp b=(((uH b).2.1,(uH b).2.2.1,(uH b).2.2.2,(ef b k).2),0):=by
 rw [<-aRK,aTn h h8,J! (λq=>q h9)]
theorem aY5(b:B8):aOs b 0:=⟨U! _,rfl⟩
theorem aXE {b:B8}{k:Nat}(h:aOs b k)(h3:(ef b k).1.2=0/\(k:Int)<(uH b).2.2.2.length):aNn b k 0:=
 ⟨⟨by grind[uvN],h3.1,h.2⟩,Nat.zero_le _,rfl⟩
theorem aXF(b:B8)(e:Int):0<=(bO b e 16).2/\(bO b e 16).2<=16:=by
 by_cases hq:(bO b e 16).1.2=0
 . unfold bO at hq |-;split
   . decide
   . rename_i h;rw [if_neg h] at hq;refine⟨?_,w!⟩;unfold gD;have:=yp b;grind
 grind[ă]
theorem aU3(b:B8)(i:Nat):aP3 b i<=16/\(bO (ef b i).1.1 (ef b i).1.2 16).2=(aP3 b i:Int):=by
 have:=aXF (ef b i).1.1 (ef b i).1.2;have e:aP3 b i=(bO (ef b i).1.1 (ef b i).1.2 16).2.toNat:=rfl;omega
theorem aRL{j:Nat}(h:aNn b i j):(uRw b i j).2.length<=16/\(ef b i).2.length<=64/\j<=16/\i<64:=by
 have h1:=(aU3 b i).1
 have h2:(uH b).2.2.2.length<=64:=by
  grind[uH,e9,arb]
 have h3:uvN b=(uH b).2.2.2.length:=rfl;obtain⟨⟨a1,a2,a3⟩,a4,a5⟩:=h;omega
theorem aST {b:B8}{i j:Nat}(h:aNn b i j)(h6:(uRw b i j).1.2=0/\(j:Int)<(bO (ef b i).1.1 (ef b i).1.2 16).2):
  uRw b i (j+1)=((uPf (uRw b i j).1.1 (uRw b i j).1.2).1,(uRw b i j).2++[(uPf (uRw b i j).1.1 (uRw b i j).1.2).2])/\aNn b i (j+1):=by
 have e:uRw b i (j+1)=((uPf (uRw b i j).1.1 (uRw b i j).1.2).1,(uRw b i j).2++[(uPf (uRw b i j).1.1 (uRw b i j).1.2).2]):=by
  show aM1 _ _ (j+1)=_;rw [aM1,J! (λq=>q h6.1)];rfl
 have hn:=(aU3 b i).2;refine⟨e,h.1,w!,?_⟩;rw [e,K!,h.2.2];rfl
theorem aRM {b:B8}{i j:Nat}(h:aNn b i j)(h7:¬(uRw b i j).1.2=0\/¬(j:Int)<(bO (ef b i).1.1 (ef b i).1.2 16).2):
  ef b (i+1)=((uRw b i j).1,(ef b i).2++[(uRw b i j).2])/\aOs b (i+1):=by
 obtain⟨⟨a1,a2,a3⟩,a4,a5⟩:=h;have hn:=(aU3 b i).2
 have er:uRw b i (aP3 b i)=uRw b i j:=by
  rcases h7 with h7|h7
  . rw [show aP3 b i=j+(aP3 b i-j) by omega];exact aSB h7 _
  grind
 have e:ef b (i+1)=((uRw b i j).1,(ef b i).2++[(uRw b i j).2]):=by
  show aL2 _ _ (i+1)=_;rw [aL2,J! (λq=>q a2),<-er];rfl
 exact⟨e,a1,x!⟩
theorem aOn(b:B8):(o0 b).2=(first b).1/\(o0 b).1.2.2=(first b).2.2/\((first b).2.2=0->(o0 b).1.2.1=(first b).2.1):=by
 grind[o0,first,E3,Oz,Jl]
theorem aU4(h:¬(first b).2.2=0): []=(b8 b).1/\(first b).2.2=(b8 b).2:=by
 grind[aOn,ab4]
theorem aSC {b:B8}(h:(first b).2.2=0)(h1:1000<(first b).1): []=(b8 b).1/\2=(b8 b).2:=by
 grind[aOn,Ym]
theorem aY6 {b:B8}(h:(first b).2.2=0)(h1:¬1000<(first b).1):aNZ b 0 ((first b).2.1,0,[]):=by
 have q:=aOn b;have g:=aHl (b:=b) w! w!;rw [q.2.1,q.2.2 h,h] at g;have:=yp b;exact⟨g,w!,w!⟩
variable {x:Int×Int×List Int}{s:B8}{t:List B8}
theorem aQ0{k:Nat}(h:aNZ b k x)(hk:(k:Int)<(first b).1):0<=x.1/\x.1<=b.length/\0<=x.2.1/\x.2.1<=1000/\x.2.2.length=k/\k<1000:=by
 obtain⟨⟨a1,a2,a3,a4,a5,a6,a7⟩,h2,h3⟩:=h;grind[aOn]
theorem aTq {b:B8}{k:Nat}(h:aNZ b k x)(hk:(k:Int)<(first b).1)(h1:¬(first (b.drop x.1.toNat)).2.2=0): []=(b8 b).1/\(first (b.drop x.1.toNat)).2.2=(b8 b).2:=by
 have q:=Oz h.2.1 h.2.2 h1;have g:=ab5 h.1 (by grind[aOn]) x!;grind
theorem aTr {b:B8}{k:Nat}{x:Int×Int×U}(h:aNZ b k x)(hk:(k:Int)<(first b).1)(h1:(first (b.drop x.1.toNat)).2.2=0)(h2:999-x.2.1<(first (b.drop x.1.toNat)).1): []=(b8 b).1/\2=(b8 b).2:=by
 have q:=E3 h.2.1 h.2.2 h1;exact ab6 h.1 (by grind[aOn]) x! x!
theorem aXG {b:B8}{k:Nat}{x:Int×Int×U}(h:aNZ b k x)(hk:(k:Int)<(first b).1)(h1:(first (b.drop x.1.toNat)).2.2=0)(h2:¬999-x.2.1<(first (b.drop x.1.toNat)).1):
  aNZ b (k+1) (x.1+(first (b.drop x.1.toNat)).2.1,x.2.1+(first (b.drop x.1.toNat)).1+1,x.2.2++[x.2.1+(first (b.drop x.1.toNat)).1]):=by
 have q:=E3 h.2.1 h.2.2 h1;have g:=ame h.1 (by grind[aOn]) x! x!;have hb:=yp (b.drop x.1.toNat);rw [List.length_drop] at hb;have:=h.2;refine⟨?_,w!,w!⟩;grind
theorem aRN{k:Nat}(h:aNZ b k x)(hk:¬(k:Int)<(first b).1):b8 b=if x.1<b.length then([],2) else(x.2.2,0):=by
 rw [Hx h.1 (by grind[aOn])];rw [Xv h.2.1 h.2.2];grind
theorem aRO(l:U):(vv l).length<=1000:=by
 have h:=aQi (Sw l)
 have e:vv l=zC Ea (vv l) (vv l):=Yk h.1 (Fb ..) λx=>by
  grind[zD,Ea,re]
 grind[ú]
theorem aVR {l:U}{b:Int}{k:Nat}:(aM8 l a b k).length<=1000:=by
 grind[aRO,aM8,vv,List.length_filter_le,List.length_take]
theorem aVS {l:U}{b:Int}{k:Nat}(hk:(k:Int)<(vv l).length)(h:a<=(vv l).getD k 0/\(vv l).getD k 0<b):aM8 l a b k++[(vv l).getD k 0]=aM8 l a b (k+1):=by
 unfold aM8;have :xf ((vv l).getD k 0) a b=true:=by grind[xf,decide_eq_true]
 rw [aD (vv l) k 0 w!,List.filter_append,List.filter_cons,M! this];rfl
theorem aXH {l:U}{b:Int}{k:Nat}(hk:(k:Int)<(vv l).length)(h:¬a<=(vv l).getD k 0\/¬(vv l).getD k 0<b):aM8 l a b k=aM8 l a b (k+1):=by
 unfold aM8
 have :xf ((vv l).getD k 0) a b=false:=by
  grind[xf]
 rw [aD (vv l) k 0 w!,List.filter_append,List.filter_cons,if_neg x!];grind
theorem aVT {l:U}{b:Int}{k:Nat}(h:gX (vv l) k)(hk:¬(k:Int)<(vv l).length):aM8 l a b k=Oc l a b:=by
 grind[aM8,Oc,List.take_of_length_le]
theorem aSu:Jg.length=1000:=by grind[Jg,List.length_map,List.length_range]
theorem aVU {n k:Nat}(h:k<n):((List.range n).map Int.ofNat).getD k 0=(k:Int):=by
 grind
theorem aTs {k:Nat}(h:k<1000):Jg.take (k+1)=Jg.take k++[(k:Int)]:=by
 have hl:=aSu;rw [aD Jg k 0 w!,show Jg.getD k 0=(k:Int) from aVU h]
theorem aVV{a b:U}{k:Nat}:(aM9 o a b k).length<=1000:=by
 grind[aM9,List.length_filter_le,aSu,List.length_take]
theorem aVW{a b:U}{k:Nat}(hk:k<1000)(h:kB o (re (vv a) (k:Int)) (re (vv b) (k:Int))=true):aM9 o a b k++[(k:Int)]=aM9 o a b (k+1):=by
 unfold aM9;rw [aTs hk,List.filter_append];simp [h]
theorem aVX{a b:U}{k:Nat}(hk:k<1000)(h:kB o (re (vv a) (k:Int)) (re (vv b) (k:Int))=false):aM9 o a b k=aM9 o a b (k+1):=by
 unfold aM9;rw [aTs hk,List.filter_append];simp [h]
theorem aVY{a b:U}{k:Nat}(h:cc k 1000)(hk:¬(k:Int)<1000):aM9 o a b k=aRS o a b:=by
 grind[aSu,aM9,aRS,Jh,zC,List.take_of_length_le]
theorem aY7(t:O)(s:B8):aP5 t s 0:=⟨U! _,λj hj=>by omega⟩
theorem aXI{k:Nat}(h:aP5 t s k)(hk:(k:Int)<t.length)(h1:¬t.getD k []=s):aP5 t s (k+1):=
 ⟨w!,λj hj=>by
   by_cases e:j=k
   . grind
   . exact h.2 j w!⟩
theorem aVZ{k:Nat}(hp:BZ t f)(hk:(k:Int)<t.length)(h1:t.getD k []=s):f.getD k []=mH t f s:=by
 have hm:s∈t:=h1▸bC t k [] w!;have hc:=aUY hp.1.1 hm;have jU:=arq (t:=s) (x:=t) (by grind[BY,decide_eq_true])
 have e:pE t s=k:=by
  rcases Nat.lt_trichotomy (pE t s) k with q|q|q
  . have:=ü hp.1.1 q w!;grind[eS]
  . exact q
  . have:=ü hp.1.1 q jU;grind[eS]
 grind[mH,BY]
theorem aU5{k:Nat}(h:aP5 t s k)(hk:¬(k:Int)<t.length): []=mH t f s:=by
 refine ars ?_;unfold BY;rw [decide_eq_false,Bool.not_false];intro hm;obtain⟨i,hi,e⟩:=List.mem_iff_getElem.1 hm;refine h.2 i w! ?_;grind
theorem aR7(h:aNb l):1<=l.length:=by
 have:=h.2;grind[gw,xk]
theorem aRU(h:aNb l)(h0:¬(jY l (l.length-1)).1=0):gw l (l.length-1)=2/\3<=l.length:=by
 have hb:=aR7 h;have e:=LS h0;rw [show l.length-1+1=l.length by omega,h.2] at e;have:=abZ l (l.length-1);omega
theorem aWO(h:aNb l):aNe l 1 (l.length-1):=by
 have:=aR7 h;exact⟨w!,rfl,w!⟩
theorem aPR {l:M dC}(h:aNb l)(h0:¬(jY l (l.length-1)).1=0)(hi:aNe l n i):n=gw l i-1/\ -1<=n+i/\n<=i/\(0<n->2<=i):=by
 have q:=aRU h h0;have e:=hi.2.2;have h2:=xk l i;have h3:gw l i=2*nW l i-i:=rfl;omega
theorem aSD {l:M dC}(h:aNb l)(h0:¬(jY l (l.length-1)).1=0)(hi:aNe l n i)(hn:0<n):aNe l (bif decide ((jY l (i-1)).1=0) then n-1 else n+1) (i-1):=by
 have hb:=aPR h h0 hi;obtain⟨a1,a2,a3⟩:=hi;have e:i=(i-1)+1:=by omega
 have hf:aOd l i n=aOd l (i-1) (if(jY l (i-1)).1=0 then n-1 else n+1):=by
  conv=>lhs;rw [e]
  rw [aOd,J! w!]
 refine⟨w!,?_,?_⟩
 . grind
 . grind[X3,LS]
theorem aV0(hi:aNe l n i)(hn:¬0<n):(i:Int)=aOm l:=by
 unfold aOm;rw [<-hi.2.1];cases i with
 |zero=>rfl
 |succ i=>simp_all[aOd,M!]
theorem aR8 {l:M dC}(h:aNb l)(h0:¬(jY l (l.length-1)).1=0):∀(i:Nat) (n:Int),aNe l n i->(∀j,i<j->j<l.length->2<=gw l j)->(0<n\/n=0)->
  1<=aOd l i n/\aOd l i n<=i/\gw l (aOd l i n)=1/\∀j,aOd l i n<j->j<l.length->2<=gw l j
 |0,n,hi,hj,hn=>by
  have hb:=aPR h h0 hi;have :gw l 0=0:=rfl;omega
 |i+1,n,hi,hj,hn=>by
  have hb:=aPR h h0 hi;by_cases q:n<=0
  . rw [aOd,if_pos q];grind
  . have s:=aSD h h0 hi w!;rw [Bool.cond_decide,show i+1-1=i from rfl] at s;rw [aOd,J! q]
    have:=aR8 h h0 i _ s (λj h1 h2=>by
     by_cases e:j=i+1
     . rw [e];omega
     . exact hj j w! h2) (by split<;>omega)
    exact⟨this.1,w!,this.2.2⟩
theorem aOe(h:aNb l)(h0:¬(jY l (l.length-1)).1=0):∃i:Nat,aOm l=(i:Int)/\1<=i/\i+1<l.length/\gw l i=1/\∀j,i<j->j<l.length->2<=gw l j:=by
 have q:=aRU h h0;have:=aR8 h h0 (l.length-1) 1 (aWO h) (λj h1 h2=>by omega) (.inl (by decide));refine⟨_,rfl,this.1,?_,this.2.2⟩;grind
theorem aSF {l:M dC}{i:Nat}:∀k,k<=i->nW (l.take i) k=nW l k
 |0,_=>rfl
 |k+1,h=>by
  have e:jY (l.take i) k=jY l k:=by unfold jY;grind
  simp [nW];rw [aSF k w!,e]
theorem aSG {l:M dC}{i:Nat}:∀k,nW (l.drop i) k=nW l (i+k)-nW l i
 |0=>by simp [nW]
 |k+1=>by
  have e:jY (l.drop i) k=jY l (i+k):=by unfold jY;grind
  simp [nW];rw [aSG k,e];omega
theorem aNF{k:Nat}(h:k<=i):gw (l.take i) k=gw l k:=by grind[gw,aSF]
theorem aR9{k:Nat}:gw (l.drop i) k=gw l (i+k)-gw l i:=by grind[gw,aSG]
theorem aQk {l:M dC}(h:aNb l)(h0:¬(jY l (l.length-1)).1=0)(h1:1<=i)(h2:i+1<l.length)(h3:gw l i=1)(h4:∀j,i<j->j<l.length->2<=gw l j):
  aNb (l.take i)/\aNb ((l.take (l.length-1)).drop i):=by
 have q:=aRU h h0;refine⟨⟨λk hk=>?_,?_⟩,λk hk=>?_,?_⟩
 . rw [List.length_take] at hk;have e:jY (l.take i) k=jY l k:=by grind[jY]
   rw [e,aNF w!];exact h.1 k w!
 . rw [J?,Nat.min_eq_left w!,aNF (S! _),h3]
 . rw [List.length_drop,List.length_take] at hk;have e:jY ((l.take (l.length-1)).drop i) k=jY l (i+k):=by unfold jY;grind
   rw [e,aR9,aNF w!,aNF w!,h3];refine⟨(h.1 (i+k) w!).1,λhn=>?_⟩;have g:=LS hn;have:=h4 (i+k+1) w! w!;omega
 . rw [N?,J?,aR9,aNF w!,aNF w!,h3,show i+(min (l.length-1) l.length-i)=l.length-1 by omega,q.1];rfl
theorem aRP {f:B8->U}{m:M dC}(hm:∀i,i<m.length->(jY m i).1≠0->2<=gw m i)(s:M U):∀k,k<=m.length->(m.take k).foldl (Db f) s=s++gC f m k/\((gC f m k).length:Int)=gw m k
 |0,_=>by simp [gC,gw,nW]
 |k+1,hk=>by
  obtain⟨i1,i2⟩:=aRP hm s k w!;have es:=OW (f:=f) (l:=m) (k:=k) w!
  have et:(m.take (k+1)).foldl (Db f) s=Db f (s++gC f m k) (m.getD k (0,[])):=by
   rw [aD m k (0,[]) w!,List.foldl_append,i1];rfl
  rw [et,es];by_cases q:(jY m k).1=0
  . have e:Db f (s++gC f m k) (m.getD k (0,[]))=s++gC f m k++[f (jY m k).2]:=if_pos q;have e2:Db f (gC f m k) (m.getD k (0,[]))=gC f m k++[f (jY m k).2]:=if_pos q;grind[List.append_assoc,X3,List.length_append,List.length_cons,List.length_nil]
  . have h2:=hm k w! q;have e:∀z:M U,Db f z (m.getD k (0,[]))=z.take (z.length-2)++[opL (jY m k).1 (z.getD (z.length-2) []) (z.getD (z.length-1) [])]:=λz=>J! q;rw [e,e,LS q];generalize gC f m k=z at *;refine⟨?_,by simp;omega⟩;rw [K!,show s.length+z.length-2=s.length+(z.length-2) by omega,show s.length+z.length-1=s.length+(z.length-1) by omega,List.take_append,t? w!,<-W!]
    have g:∀j,(s++z).getD (s.length+j) []=z.getD j []:=λj=>by
     rw [G!,List.getElem?_append_right w!,G!,w?]
    rw [g,g,show s.length+(z.length-2)-s.length=z.length-2 by omega]
theorem aXJ(h:1<=o)(h3:o<=3)(a b:U):opL o a b=aRS (o-1) a b:=by
 have e:o=1\/o=2\/o=3:=by omega
 have k:∀p q:Kp,(∀x y,p x y=q x y)->Jh p a b=Jh q a b:=λp q h=>by rw [show p=q from funext λx=>funext λy=>h x y]
 rcases e with e|e|e<;>subst e
 . exact k Ea (kB 0) (by decide)
 . exact k UM (kB 1) (by decide)
 rfl
theorem aUh {f:B8->U}(h:aNb l)(h0:(jY l (l.length-1)).1=0):f (jY l (l.length-1)).2=aM0 f l:=by
 have hb:=aR7 h;have e:=aRP (f:=f) (m:=l) (λi hi q=>(h.1 i hi).2 q) [] (l.length-1) w!;have g:=X3 h0;rw [show l.length-1+1=l.length by omega,h.2] at g;have es:=OW (f:=f) (l:=l) (k:=l.length-1) w!;have e0:gC f l (l.length-1)=[]:=V! w!;simp_all[Db,jY,M!,aM0]
theorem aUi {f:B8->U}{l:M dC}(h:aNb l)(h0:¬(jY l (l.length-1)).1=0)(h1:1<=i)(h2:i+1<l.length)(h3:gw l i=1)(h4:∀j,i<j->j<l.length->2<=gw l j):
  aRS ((jY l (l.length-1)).1-1) (aM0 f (l.take i)) (aM0 f ((l.take (l.length-1)).drop i))=aM0 f l:=by
 obtain⟨p1,p2⟩:=aQk h h0 h1 h2 h3 h4;have es:=OW (f:=f) (l:=l) (k:=l.length-1) w!;have a:=aRP (f:=f) (m:=l.take i) (λj hj q=>(p1.1 j hj).2 q) [] (l.take i).length (S! _);have b:=aRP (f:=f) (m:=(l.take (l.length-1)).drop i) (λj hj q=>(p2.1 j hj).2 q) (gC f l i) ((l.take (l.length-1)).drop i).length (S! _)
 have c:gC f l (l.length-1)=gC f l i++gC f ((l.take (l.length-1)).drop i) ((l.take (l.length-1)).drop i).length:=by
  rw [<-b.1,List.take_length];unfold gC;have q:=(List.take_append_drop i (l.take (l.length-1))).symm;grind
 have ea:gC f l i=gC f (l.take i) (l.take i).length:=by
  grind[gC,List.take_length]
 have one:∀m:M dC,aNb m->((gC f m m.length).length:Int)=gw m m.length->gC f m m.length=[aM0 f m]:=λm hm hl=>by
  rw [hm.2] at hl;unfold aM0;obtain⟨x,hx⟩:=List.length_eq_one_iff.1 (show(gC f m m.length).length=1 by omega);rw [hx];rfl
 have k:0<=(jY l (l.length-1)).1/\(jY l (l.length-1)).1<=3:=(h.1 (l.length-1) w!).1;have e3:Db f ([aM0 f (l.take i)]++[aM0 f ((l.take (l.length-1)).drop i)]) (l.getD (l.length-1) (0,[]))=[opL (jY l (l.length-1)).1 (aM0 f (l.take i)) (aM0 f ((l.take (l.length-1)).drop i))]:=if_neg h0;grind[aM0,opL,jY,gC,aXJ,Int.lt_iff_le_and_ne]
theorem aQE(b:B8):∀(n:Nat) (a e p:Int) (l:U),l.Pairwise (· < ·)->(∀x∈l,0<=x/\x<=p)-> -1<=p->p<=999->(tE b n a e p l).1.Pairwise (· < ·)/\∀x∈(tE b n a e p l).1,0<=x/\x<1000
 |0,a,e,p,l,h1,h2,h3,h4=>by
  unfold tE;split
  . grind
  simp_all
 |n+1,a,e,p,l,h1,h2,h3,h4=>by
  have hv:=qG b a e;unfold tE;split
  . exact⟨List.Pairwise.nil,λx hx=>by cases hx⟩
  . split
    . exact⟨List.Pairwise.nil,λx hx=>by cases hx⟩
    . refine aQE b n _ _ _ _ (List.pairwise_append.2 ⟨h1,List.pairwise_singleton ..,λx hx y hy=>?_⟩) (λx hx=>?_) w! w!
      . have:=h2 x hx;rw [v?] at hy;omega
      . rcases F!.1 hx with hx|hx
        . have:=h2 x hx;omega
        . rw [v?] at hx;omega
theorem aSv(b:B8):bK (b8 b).1=true:=by
 unfold b8;split
 . rfl
 . split
   . rfl
   . have q:=aQE b (o0 b).2.toNat (o0 b).1.2.1 (o0 b).1.2.2 (-1) [] List.Pairwise.nil (λx hx=>by grind) (by decide) (by decide);grind[aRE]
theorem aSU(t:B8)(p:Pf):bK (Su t p).1=true:=by
 unfold Su;split
 . exact aSv _
 . split<;>rfl
theorem aRV(root:B8)(n:Int)(t:B8)(p:Pf):bK (iI root n t p).1=true:=by
 unfold iI;split
 . split
   . grind[aSU]
   . rfl
 . rfl
variable {t:B8}{s:List Sg}
theorem aV1 {root:B8}(h:¬(iI root n t p).2=0):(iI root n t p).1=[]:=by
 unfold iI at h |-;split
 . split
   . grind[Su]
   . rfl
 . rfl
theorem aTt {root:B8}(h:aN0 root n t p5 p6):(root.length:Int)=32/\1<=n/\n<=1099511627776/\aC p6:=by
 have q:=h.1;unfold Ec at q;simp at q;exact⟨q.1,q.2.1,q.2.2.1,h.2.2.2.1⟩
theorem aSH {root:B8}(h:aN0 root n t p5 p6)(h1:¬p1<0)(h2:¬n<=p1):eM p1 n:=by
 have:=aTt h;exact⟨w!,w!,this.2.2.1⟩
theorem aUj {a c:B8}(h:fU a b c=true):aC (qy a b c):=by
 grind[þ,OY,amg]
theorem aPY {root:B8}{p2 p3 p4:B8}{p5:O}(h:aN0 root n t p5 p6)
  (h1:fU p2 p3 p4=true/\¬p1<0/\¬n<=p1/\bQ p5=true/\(p5.length:Int)=e8 p1 n):
  aC (qy p2 p3 p4)/\mB (eW 0 (qy p2 p3 p4)) p1 n p5/\
  iI root n t (p1,p2,p3,p4,p5,p6)=if kN (eW 0 (qy p2 p3 p4)) p1 n p5=root then Su t (p1,p2,p3,p4,p5,p6) else([],6):=by
 have hb:=aTt h;have hs:=aSH h h1.2.1 h1.2.2.1;refine⟨aUj h1.1,⟨hs,h1.2.2.2.2,qp _,h1.2.2.2.1⟩,?_⟩
 have e:eQ (UN p2 p3 p4) p1 n p5=0:=by
  simp_all[eQ,M!,UN,leaf,IP]
 unfold iI OU kq;rw [if_pos h.1];rw [h1.1,decide_eq_true e,if_pos e];simp;rfl
theorem aU6 {root:B8}{p2 p3 p4:B8}{p5:O}(h:aN0 root n t p5 p6)
  (h1:fU p2 p3 p4=false\/p1<0\/n<=p1\/bQ p5=false\/¬(p5.length:Int)=e8 p1 n):iI root n t (p1,p2,p3,p4,p5,p6)=([],6):=by
 unfold iI;rw [if_pos h.1,if_neg];intro q;unfold OU at q;simp at q;obtain⟨q1,q2,q3⟩:=q;obtain⟨g,g1,g2⟩:=Je q2;rcases h1 with h1|h1|h1|h1|h1
 . grind
 . omega
 . omega
 . grind
 . exact h1 g1
theorem aU7(h:(Op.bytesLess p.2.1 t || decide (p.2.1=t))=false):Su t p=([],6):=by
 grind[Bool.or_eq_false_iff,Su,KL,KM]
theorem aU8(h:Op.bytesLess p.2.1 t=true):Su t p=([],if((Op.bytesLess t p.2.2.1 || decide (p.2.2.1=[]))&&decide (p.2.2.2.2.2.length=0))=true then 0 else 6):=by
 grind[eS,Su,KL,KM]
theorem aSw {t:B8}{p:Pf}(h:(Op.bytesLess p.2.1 t || decide (p.2.1=t))=true)(h1:Op.bytesLess p.2.1 t=false):Su t p=if(b8 p.2.2.2.2.2).2=0/\eW 2 p.2.2.2.2.2=p.2.2.2.1 then((b8 p.2.2.2.2.2).1,0) else([],6):=by
 rw [h1,Bool.false_or] at h;unfold Su KL KM;rw [h,h1,Bool.true_and,Bool.false_and];by_cases q:(b8 p.2.2.2.2.2).2=0/\eW 2 p.2.2.2.2.2=p.2.2.2.1
 . rw [M! q,M! (by rw [K? q.1,Bool.true_and];exact K? q.2)]
 . rw [J! q,J!,J! (by decide)];intro g;rw [B!,H!,H!] at g;exact q g
theorem aV2(t p3 p6:B8):(bif decide ((p6.length:Int)=0) then bif decide (p3=[]) then true else !(Op.bytesLess p3 t || decide (p3=t)) else false)=((Op.bytesLess t p3 || decide (p3=[]))&&decide (p6.length=0)):=by
 rw [aBp,show decide ((p6.length:Int)=0)=decide (p6.length=0) from decide_eq_decide.2 w!];grind
theorem aU9 {l:U}(h:bK l=true)(a b:Int):sH (Oc l a b) l=wB l a b:=by
 unfold sH Oc;rw [aTl h];cases hi:wB l a b with
 |true=>
  refine K? (List.filter_eq_self.2 λx hx=>?_);exact Z!.1 hi x hx
 |false=>
  refine decide_eq_false λe=>?_;have :wB l a b=true:=List.all_eq_true.2 λx hx=>List.filter_eq_self.1 e x hx;grind
theorem aY8(s:M Sg)(a:M (M Pf))(t:O):aP4 s a t 0:=⟨U! _,λj hj=>by omega⟩
variable {a:List (List Pf)}{t:List B8}
theorem aXK{k:Nat}(h:aP4 s a t k)(hk:(k:Int)<t.length):aNo s a t k 0:=⟨⟨w!,h.2⟩,U! _,λj hj=>by omega⟩
theorem aXL{a:M (M Pf)}{k i:Nat}(h:aNo s a t k i)(hi:(i:Int)<s.length)(h1:((a.getD i []).length:Int)=t.length)(h2:sZ (Jj s i) (t.getD k []) a i k=true):aNo s a t k (i+1):=
 ⟨h.1,w!,λj hj=>by
   by_cases e:j=i
   . subst e;exact⟨decide_eq_true (show(a.getD (Int.toNat (j:Int)) []).length=t.length by grind),h2⟩
   . exact h.2.2 j w!⟩
theorem aTu{k i:Nat}(h:aNo s a t k i)(hi:¬(i:Int)<s.length):aNa s a t k++[xp s a t k i]=aNa s a t (k+1)/\aP4 s a t (k+1):=by
 have e:i=s.length:=by have:=h.2.1;omega
 subst e;refine⟨?_,by have:=h.1.1;omega,λj hj=>?_⟩
 . grind[aNa,zZ]
 . by_cases e:j=k
   . rw [e];exact h.2.2
   . exact h.1.2 j w!
theorem aSx{i:Nat}(hi:(i:Int)<s.length)(h:qF a i t=false\/∃k,k<t.length/\sZ (Jj s i) (t.getD k []) a i k=false):Fc s a t s.length=false:=by
 unfold Fc;rcases h with h|⟨k,hk,h⟩
 . grind
 . have :zE s a t i t.length=false:=by
    unfold zE;rw [List.all_eq_false];exact⟨k,List.mem_range.2 hk,by rw [h];decide⟩
   grind
theorem aVa(h:Fc s a t s.length=false):fdR s a t=[]:=by simp_all[fdR,J!]
theorem aVb{a:M (M Pf)}{i:Nat}(hi:(i:Int)<s.length)(h:¬((a.getD i []).length:Int)=t.length):Fc s a t s.length=false:=
 aSx hi (.inl (decide_eq_false λq=>h x!))
theorem aTv{k:Nat}(hp:aQj s a t)(h:aP4 s a t k)(hk:¬(k:Int)<t.length):aNa s a t k=fdR s a t/\Fc s a t s.length=true:=by
 have e:k=t.length:=by have:=h.1;omega
 subst e
 have ok:Fc s a t s.length=true:=by
  unfold Fc;rw [List.all_eq_true];intro i hi;rw [List.mem_range] at hi;have h0:=(h.2 0 (by have:=hp.2.1;omega) i hi).1;rw [h0,Bool.true_and];unfold zE;rw [List.all_eq_true];intro j hj;rw [List.mem_range] at hj;exact(h.2 j hj i hi).2
 exact⟨by unfold fdR;rw [if_pos ok];rfl,ok⟩
theorem aXM{a:M (M Pf)}{k i:Nat}(hp:aQj s a t)(hi:(i:Int)<s.length)(hk:(k:Int)<t.length)(h1:((a.getD i []).length:Int)=t.length):
  aN0 (s.getD i (0,0,0,[])).2.2.2 (s.getD i (0,0,0,[])).2.2.1 (t.getD k []) ((a.getD i []).getD k X0).2.2.2.2.1 ((a.getD i []).getD k X0).2.2.2.2.2:=by
 obtain⟨p1,p2,p3,p4⟩:=hp;refine⟨?_,?_⟩
 . grind[Ec,decide_eq_true]
 . have hia:i<a.length:=by grind
   have:=p1.2.2.2.2 _ (bC a i [] hia) _ (bC (a.getD i []) k X0 w!);exact⟨p1.2.2.2.1 _ (bC t k [] w!),this⟩
theorem aRQ{k:Nat}(hp:aQj s a t)(h:aNo s a t k i)(root:B8)(n:Int)(w:B8)(p:Pf):(xp s a t k i).length+(iI root n w p).1.length<=65000/\(aNa s a t k).length<=1099511627776/\i<=64/\k<=1099511627776:=by
 have h1:=O2 s a t k i
 have h2:(iI root n w p).1.length<=1000:=by
  have:=aRO (iI root n w p).1;grind[aTl,aRV]
 have h3:=hp.1.2.1;have h4:=hp.1.2.2.1;have h5:=h.2.1;have h6:=h.1.1;grind[aNa]
theorem aOA(h:(bp b).2=0):bN (bp b).1.1 (bp b).1.2.1 (bp b).1.2.2.1=true:=by
 by_cases q:jT (ef b (uvN b)).1.1 (ef b (uvN b)).1.2=0
 . have h4:=ayV q
   have h1:(uH b).1.2=0:=Decidable.byContradiction λn=>by
    have:=aRT (b:=(uH b).1.1) (e:=(uH b).1.2) (k:=0) n (uvN b);unfold ef at h4;rw [Nat.zero_add] at this;rw [this] at h4;exact n h4
   rw [<-aRK,J! (λx=>x q)];exact ą h1
 . rw [<-aRK,M! q] at h;omega
theorem aSa {s:M Sg}{a:M (M Pf)}{t:O}{n:Int}(hr:kW s n=true)(Lh:Fc s a t s.length=true){j:Nat}(hj:j<t.length):∀i,i<=s.length->
  (xp s a t j i).Pairwise (· < ·)/\∀x∈xp s a t j i,0<=x/\x<(if i=0 then 0 else(sg s (i-1)).2.1)
 |0,_=>⟨List.Pairwise.nil,λx hx=>by cases hx⟩
 |i+1,hi=>by
  obtain⟨i1,i2⟩:=aSa hr Lh hj i w!;obtain⟨r1,r2,r3,r4⟩:=rJ hr;have g:=I5 (r2 i w!)
  have ok:sZ (Jj s i) (t.getD j []) a i j=true:=by
   have:=Z!.1 Lh i (f?.2 w!);simp_all[B!,zE,Z!,f?]
  unfold sZ at ok;rw [Bool.and_eq_true] at ok;have ins:=List.all_eq_true.1 ok.2;have inc:=aQi (aRV (Jj s i).2.2.2 (Jj s i).2.2.1 (t.getD j []) (Sy a i j))
  have bd:∀x∈(Ak (Jj s i) (t.getD j []) a i j).1,(sg s i).1<=x/\x<(sg s i).2.1:=λx hx=>by
   have:=ins x hx;rw [B!,H!,H!] at this;exact this
  show(xp s a t j i++(Ak (Jj s i) (t.getD j []) a i j).1).Pairwise (· < ·)/\∀x∈xp s a t j i++(Ak (Jj s i) (t.getD j []) a i j).1,0<=x/\x<(sg s i).2.1;refine⟨List.pairwise_append.2 ⟨i1,inc.1,λx hx y hy=>?_⟩,λx hx=>?_⟩
  . grind
  grind
theorem aTw(hr:bN n g s=true)(hq:bw l=true)(Lh:Fc s a (ax l) s.length=true):mT l (yn s a (ax l) s.length)=true:=by
 have hR:=(jm.1 hr);unfold mT;rw [hq,Bool.true_and,Bool.and_eq_true];refine⟨decide_eq_true (by simp [yn]),List.all_eq_true.2 λx hx=>?_⟩;obtain⟨j,hj,rfl⟩:=List.mem_map.1 hx;obtain⟨p1,p2⟩:=aSa hR.2.2.2 Lh (List.mem_range.1 hj) s.length (Nat.le_refl _);refine aRE p1 λx hx=>?_;have:=p2 x hx;split at this
 . omega
 . have:=I5 ((rJ hR.2.2.2).2.1 (s.length-1) w!);omega
theorem aQ1 {root:B8}(h:(root.length:Int)=32/\bw l=true)(h1:(bp b).2=0):
  kA root l b=if uW (bp b).1.1 (bp b).1.2.1 (bp b).1.2.2.1=root/\Fc (bp b).1.2.2.1 (bp b).1.2.2.2 (ax l) (bp b).1.2.2.1.length=true then(OT l (ax l) (fdR (bp b).1.2.2.1 (bp b).1.2.2.2 (ax l)),0) else([],6):=by
 unfold kA SB;rw [if_neg x!,if_neg (λq=>q h1),amz (aOA h1)];by_cases q:uW (bp b).1.1 (bp b).1.2.1 (bp b).1.2.2.1=root
 . cases ok:Fc (bp b).1.2.2.1 (bp b).1.2.2.2 (ax l) (bp b).1.2.2.1.length with
   |true=>
    rw [decide_eq_true q,if_pos (by rfl),if_pos ⟨q,rfl⟩];unfold mh fdR;rw [if_pos (aTw (aOA h1) h.2 ok),if_pos ok]
   |false=>grind
 grind
theorem aVc {root:B8}(h:¬(root.length:Int)=32\/bw l=false):kA root l b=([],1):=by
 grind[kA]
theorem aTx {root:B8}(h:(root.length:Int)=32/\bw l=true)(h1:¬(bp b).2=0):kA root l b=([],(bp b).2):=by
 simp_all[kA,J!,K?,M!]
theorem aV3(hb:b.length<1099511627776/\fV l)(hq:bw l=true)(h1:(bp b).2=0):aQj (bp b).1.2.2.1 (bp b).1.2.2.2 (ax l):=by
 have hR:=(jm.1 (aOA h1)).2.2.2;refine⟨acb hb.1 hb.2 h1,?_,λg hg=>?_,X5 hq⟩
 . obtain⟨q1,q2,q3⟩:=abG.1 hq;by_cases e:(ax l).length=0
   . have hl:1<=l.length:=by grind[gw,q2,xk]
     by_cases z:(jY l 0).1=0
     . grind[aUZ,List.eq_nil_of_length_eq_zero]
     . have:=(UP hq (k:=0) w!).2.2 z;grind[gw,nW]
   omega
 . obtain⟨i,hi,rfl⟩:=List.mem_iff_getElem.1 hg;have:=I5 ((rJ hR).2.1 i hi);have e:sg (bp b).1.2.2.1 i=(bp b).1.2.2.1[i]:=by unfold sg;rw [List.getD_eq_getElem?_getD,List.getElem?_eq_getElem hi];rfl
   rw [e] at this;exact⟨w!,w!,w!⟩
theorem aXN(h:bw l=true):aNb l:=by
 refine⟨λi hi=>?_,(abG.1 h).2.1⟩;simp_all[UP]
theorem aVd(h:mT l f=true)(hs:small l):aQZ l (ax l) f:=by
 unfold mT at h;rw [Bool.and_eq_true,Bool.and_eq_true,decide_eq_true_eq] at h;exact⟨aXN h.1,hs,Sx hs,h.2.1,λx hx=>List.all_eq_true.1 h.2.2 x hx⟩
end Go.S
namespace Go.Vg
open Go
variable [HP]
def Pb {P:Program}{W:World}:∀ {laid:M (String×DataW Unit)} {ps:M MemPlace} {name:String} {d:DataW Unit},DataW.LaidVars P W laid ps->(name,d)∈laid->
  ∃(g:Nat) (t:TypeId) (cs:Array Value) (fuel:Nat) (p:M MemPlace),P.globalNamed name=some g/\(P.globals[g]?).map (·.type)=some t/\W.var? P name=some cs/\DataW.trod (λ_=>()) P W 0 (λ_=>true) false fuel t cs.toList=some (d,p)
 |[],_,_,_,_,hm=>by grind
 |x::rest,ps,name,d,h,hm=>by
  obtain⟨g',t',cs,fuel,p,q,xR,ht',aHC,hd,hr,hps⟩:=h;rcases P!.1 hm with rfl|hm
  . exact⟨g',t',cs,fuel,p,xR,ht',aHC,hd⟩
  . exact Pb hr hm
def Pc {H:Type}{enc:TypeId×Value->H}{P:Program}{w:World}{base:Nat}{sp:Nat->Bool}{held:Bool}{fuel:Nat}{t e:TypeId}{n m:Nat}{k:IntKind}{cs:M Value}{zss:M U}{p:M MemPlace}{fs:Array Field}
  (ht:P.underlying t=some (.array n e)) (he:P.underlying e=some (.struct fs)) (T4:P.cellsOf e=m) (hct:P.cellsOf t=n*m) (hfs:fs.size=m) (hf:∀(i:Nat) (f:Field),fs[i]? =some f->f.offset=i/\P.underlying f.type=some (.int k)/\P.cellsOf f.type=1)
  (hz:∀r∈zss,r.length=m) (h:DataW.trod enc P w base sp held fuel t cs=some (.agg (zss.map λr=>.agg (r.map λz=>.lit (.int k z))),p)):cs.length=n*m/\zss.length=n/\
    ∀i j,i<n->j<m->cs[i*m+j]? =some (.int k ((zss.getD i []).getD j 0)):=by
 cases fuel with
 |zero=>simp [DataW.trod] at h
 |succ fuel=>
  simp only [DataW.trod,ht,T4,hct] at h;split at h
  . rename_i hl;obtain⟨xs,hm,hx⟩:=Option.map_eq_some_iff.1 h
    have hxs:xs.map (·.1)=zss.map λr=>(DataW.agg (r.map λz=>.lit (.int k z)):DataW H):=by
     have:=congrArg Prod.fst hx;simpa using this
    have Lg:xs.length=n:=by simpa using Lib.mapM_length hm
    have hzl:zss.length=n:=by
     have:=congrArg List.length hxs;simp at this;omega
    refine⟨hl,hzl,λi j hi hj=>?_⟩;obtain⟨b,hb,hfb⟩:=Lib.mapM_at hm i i (by simp [hi])
    have fi:b.1=DataW.agg ((zss.getD i []).map λz=>.lit (.int k z)):=by
     have h2:(xs.map (·.1))[i]? =some b.1:=by simp [hb]
     rw [hxs] at h2;rw [B?,D! w!] at h2;simp at h2;rw [<-h2,G!,D! w!];rfl
    obtain⟨ys,n',_,hy,_,hyl,hyf⟩:=DataW.trod_struct he hfb
    have hyr:ys.map (·.1)=(zss.getD i []).map λz=>(DataW.lit (.int k z):DataW H):=by
     rw [hy] at fi;simpa using fi
    have hrl:(zss.getD i []).length=m:=hz _ (by rw [G!,D! w!];exact List.getElem_mem _);have hjf:j<fs.size:=by omega
    have hfj:=hyf j fs[j] (Array.getElem?_eq_getElem hjf);obtain⟨f1,f2,f3⟩:=hf j fs[j] (Array.getElem?_eq_getElem hjf);rw [f1,f3] at hfj;have hyj:j<ys.length:=by omega
    rw [D! hyj] at hfj;obtain⟨z,hc,hzv,_⟩:=DataW.trod_int f2 hfj
    have h1:cs[i*m+j]? =some (.int k z):=by
     have:=congrArg (·[0]?) hc;simpa [hj,Nat.add_comm] using this
    have h3:(ys.map (·.1))[j]? =some (DataW.lit (.int k z)):=by rw [B?,D! hyj,hzv];rfl
    rw [hyr,B?,D! w!] at h3;simp only [Option.map_some,A!,DataW.lit.injEq,Lit.int.injEq,true_and] at h3;rw [h1,G!,D! w!];simp only [Option.getD_some,h3]
  grind
variable {W:World}
def acu {P:Program}{name:String}{g:Nat}{cs:Array Value}(hg:P.globalNamed name=some g)(h:W.var? P name=some cs)(hn:0<cs.size):g<W.heap.size:=by
 have h1:=World.var?_cell hg h 0;grind[Array.getElem?_eq_getElem,World.cell?,Array.getElem?_eq_some_iff]
def ph(k:IntKind):(ts:M Ty)->U->Row ts->Prop
 |[],[],_=>True
 |.int k'::ts,z::zs,x=>k'=k/\DI.toInt k' (Row.hd (t:=.int k') (ts:=ts) x)=z/\lo k<=z/\z<=hi k/\ph k ts zs (Row.tl x)
 |_,_,_=>False
def Pd {w:World}{A:Nat->Prop}{k:IntKind}:∀(ts:M Ty) (zs:U) (x:Row ts),ph k ts zs x->bx w A ts (zs.map (Value.int k)) x
 |[],[],x,_=>by rfl
 |.int k'::ts,z::zs,x,h=>by
   obtain⟨rfl,h2,h3,h4,h5⟩:=h;refine⟨_,_,rfl,?_,Pd ts zs _ h5⟩;simp [Rd];rw [h2];exact⟨rfl,h3,h4⟩
 |.bool::_,_,_,h|.str::_,_,_,h|.slice _::_,_,_,h|[],_::_,_,h|.int _::_,[],_,h=>by grind[ph]
def xr(k:IntKind)(ts:M Ty):M U->M (Row ts)->Prop
 |[],[]=>True
 |zs::r,x::l=>ph k ts zs x/\xr k ts r l
 |_,_=>False
theorem Jn {w:World}{A:Nat->Prop}{k:IntKind}{ts:M Ty}:∀(zss:M U) (l:M (Row ts)),xr k ts zss l->dJ (bx w A ts) (zss.flatten.map (Value.int k)) l
 |[],[],_=>by rfl
 |zs::r,x::l,h=>by
  exact⟨zs.map (Value.int k),r.flatten.map (Value.int k),z!,Pd ts zs x h.1,Jn r l h.2⟩
 |[],_::_,h|_::_,[],h=>by grind[xr]
def KP {m:Nat}:∀(zss:M U),(∀r∈zss,r.length=m)->∀q (z:Int),zss.flatten[q]? =some z->∃i j,i<zss.length/\j<m/\q=i*m+j/\(zss.getD i []).getD j 0=z
 |[],_,q,z,h=>by grind
 |r::rs,hz,q,z,h=>by
  have hr:r.length=m:=hz r z!;by_cases hq:q<m
  . refine⟨0,q,z!,hq,z!,?_⟩;grind
  . rw [List.flatten_cons,List.getElem?_append_right w!,hr] at h;obtain⟨i,j,h1,h2,h3,h4⟩:=KP rs (λr p9=>hz r x!) (q-m) z h;refine⟨i+1,j,x!,h2,?_,x!⟩;grind
def Pe {P:Program}{name:String}{g:Nat}{t e:TypeId}{n m:Nat}{k:IntKind}{fs:Array Field}{zss:M U}{row:M Ty}{l:M (Row row)}{laid:M (String×DataW Unit)}
  (hm:laidMet P laid W) (ay:(name,DataW.agg (zss.map λr=>.agg (r.map λz=>.lit (.int k z))))∈laid) (hg:P.globalNamed name=some g) (gw:(P.globals[g]?).map (·.type)=some t)
  (ht:P.underlying t=some (.array n e)) (he:P.underlying e=some (.struct fs)) (T4:P.cellsOf e=m) (hct:P.cellsOf t=n*m) (hfs:fs.size=m) (hf:∀(i:Nat) (f:Field),fs[i]? =some f->f.offset=i/\P.underlying f.type=some (.int k)/\P.cellsOf f.type=1)
  (hz:∀r∈zss,r.length=m) (mQ:0<n*m) (hl:xr k row zss l):oB W (λb=>b<W.heap.size) g ⟨row,l⟩:=by
 obtain⟨ps,Qx,_⟩:=hm;obtain⟨g',t',cs,fuel,p,h1,h2,h3,h4⟩:=Pb Qx ay;obtain rfl:=W? (hg.symm.trans h1);obtain rfl:=W? (gw.symm.trans h2);obtain⟨q1,q2,q3⟩:=Pc ht he T4 hct hfs hf hz h4;have aLD:cs.size=n*m:=by omega
 refine⟨acu hg h3 w!,zss.flatten.map (Value.int k),λq v hq=>?_,Jn zss l hl⟩;rw [B?] at hq;obtain⟨z,hz1,rfl⟩:=Option.map_eq_some_iff.1 hq;obtain⟨i,j,hi,hj,rfl,hv⟩:=KP zss hz q z hz1;rw [r?,World.var?_cell hg h3,<-U?,q3 i j w! hj,hv]
theorem HE:∀zs:U,(zs.map λz=>[z]).flatten=zs
 |[]=>rfl
 |z::zs=>by simp only [G?,List.flatten_cons,HE zs];rfl
def Ph {P:Program}{name:String}{g:Nat}{t e:TypeId}{n:Nat}{k:IntKind}{zs:U}{row:M Ty}{l:M (Row row)}{laid:M (String×DataW Unit)}
  (hm:laidMet P laid W) (ay:(name,DataW.agg (zs.map λz=>.lit (.int k z)))∈laid) (hg:P.globalNamed name=some g) (gw:(P.globals[g]?).map (·.type)=some t)
  (ht:P.underlying t=some (.array n e)) (he:P.underlying e=some (.int k)) (T4:P.cellsOf e=1) (hct:P.cellsOf t=n) (mQ:0<zs.length) (hl:xr k row (zs.map λz=>[z]) l):oB W (λb=>b<W.heap.size) g ⟨row,l⟩:=by
 obtain⟨ps,Qx,_⟩:=hm;obtain⟨g',t',cs,fuel,p,h1,h2,h3,h4⟩:=Pb Qx ay;obtain rfl:=W? (hg.symm.trans h1);obtain rfl:=W? (gw.symm.trans h2);have hc:=Lib.cells_of_tab ht he T4 hct h4
 have dQ:0<cs.size:=by
  grind
 refine⟨acu hg h3 dQ,zs.map (Value.int k),λq v hq=>?_,?_⟩
 . rw [r?,World.var?_cell hg h3,<-U?,hc];omega
 grind[Jn,HE]
end Go.Vg
namespace Go.Vg
open Go Go.ChangeShapes Go.WideShapes Go.ChangeAt Go.RowKit
variable [HP]
end Go.Vg
namespace Go.Proofs
open Go Go.RowKit Go.ChangeShapes Go.Vg
set_option maxHeartbeats 1000000 in
def Tryz.aBH:aaY Tryz.prog 193 194:=by
 refine⟨λargs w=>by kernel_rfl,λw y p=>?_⟩;go_enter Tryz.func193,Tryz.ntmps193
 go_wp2
 go_ret
 exact⟨_,rfl,rfl⟩
set_option maxHeartbeats 1000000 in
def Tryz.aBI:aaY Tryz.prog 230 231:=by
 refine⟨λargs w=>by kernel_rfl,λw y p=>?_⟩;go_enter Tryz.func230,Tryz.ntmps230
 go_wp2
 go_ret
 exact⟨_,rfl,rfl⟩
def Tryz.nx(f:Nat):Option Nat:=bif Nat.beq f 193 then some 194 else bif Nat.beq f 230 then some 231 else none
theorem Tryz.S8(P:Program)(hP:P=Tryz.prog)(f g:Nat)(h:Tryz.nx f=some g):aaY P f g:=by
 subst hP;unfold Tryz.nx at h;cases h1:Nat.beq f 193 with
 |true=>
  rw [h1] at h;cases C! h1;cases h;exact Tryz.aBH
 |false=>
  cases h2:Nat.beq f 230 with
  |true=>
   rw [h1,h2] at h;cases C! h2;cases h;exact Tryz.aBI
  |false=>rw [h1,h2] at h;cases h
end Go.Proofs
namespace Go.Vg
open Go.Proofs
open Go
instance :HP:=⟨λP=>P=Tryz.prog,Tryz.nx,Tryz.S8⟩
def fc:Vg.b9:=(.node (.node (.node (.node (.node (.node (.node .leaf 3 ⟨.int .i64,1,8, .int .i64 (0)⟩ .leaf) 4 ⟨.bool,1,1, .bool false⟩ .leaf) 5 ⟨.int .u8,1,1, .int .u8 (0)⟩ (.node (.node .leaf 9 ⟨.string,1,16, .string ⟨#[]⟩⟩ .leaf) 22 ⟨.slice 90,1,24, .slice none 0 0⟩ .leaf)) 23 ⟨.slice 5,1,24, .slice none 0 0⟩ (.node (.node (.node .leaf 26 ⟨.func #[] #[4] false,1,8, .nilFunc⟩ .leaf) 27 ⟨.slice 3,1,24, .slice none 0 0⟩ .leaf) 28 ⟨.int .i64,1,8, .int .i64 (0)⟩ (.node (.node .leaf 33 ⟨.slice 122,1,24, .slice none 0 0⟩ .leaf) 37 ⟨.slice 48,1,24, .slice none 0 0⟩ .leaf))) 39 ⟨.slice 23,1,24, .slice none 0 0⟩ (.node (.node (.node (.node .leaf 40 ⟨.slice 128,1,24, .slice none 0 0⟩ .leaf) 42 ⟨.struct #[⟨ "Docs",39,0,false,"","",0⟩,⟨ "Segs",40,1,false,"","",24⟩],2,48, .agg #[.slice none 0 0, .slice none 0 0]⟩ .leaf) 48 ⟨.struct #[⟨ "Kind",3,0,false,"","",0⟩,⟨ "I",3,1,false,"","",8⟩,⟨ "Many",3,2,false,"","",16⟩,⟨ "Doc",23,3,false,"","",24⟩],4,48, .agg #[.int .i64 (0), .int .i64 (0), .int .i64 (0), .slice none 0 0]⟩ (.node (.node .leaf 56 ⟨.slice 9,1,24, .slice none 0 0⟩ .leaf) 69 ⟨.slice 100,1,24, .slice none 0 0⟩ .leaf)) 71 ⟨.struct #[⟨ "Size",3,0,false,"","",0⟩,⟨ "Log",9,1,false,"","",8⟩,⟨ "Segs",69,2,false,"","",24⟩],3,48, .agg #[.int .i64 (0), .string ⟨#[]⟩, .slice none 0 0]⟩ (.node (.node (.node .leaf 72 ⟨.slice 101,1,24, .slice none 0 0⟩ .leaf) 74 ⟨.struct #[⟨ "Head",71,0,false,"","",0⟩,⟨ "Proofs",72,3,false,"","",48⟩],4,72, .agg #[.int .i64 (0), .string ⟨#[]⟩, .slice none 0 0, .slice none 0 0]⟩ .leaf) 78 ⟨.struct #[⟨ "Head",71,0,false,"","",0⟩,⟨ "At",3,3,false,"","",48⟩,⟨ "Doc",23,4,false,"","",56⟩,⟨ "Path",56,5,false,"","",80⟩],6,104, .agg #[.int .i64 (0), .string ⟨#[]⟩, .slice none 0 0, .int .i64 (0), .slice none 0 0, .slice none 0 0]⟩ (.node .leaf 82 ⟨.struct #[⟨ "Old",71,0,false,"","",0⟩,⟨ "New",71,3,false,"","",48⟩,⟨ "Proof",56,6,false,"","",96⟩],7,120, .agg #[.int .i64 (0), .string ⟨#[]⟩, .slice none 0 0, .int .i64 (0), .string ⟨#[]⟩, .slice none 0 0, .slice none 0 0]⟩ .leaf)))) 90 ⟨.struct #[⟨ "Kind",3,0,false,"","",0⟩,⟨ "Term",9,1,false,"","",8⟩],2,24, .agg #[.int .i64 (0), .string ⟨#[]⟩]⟩ (.node (.node (.node (.node (.node .leaf 94 ⟨.slice 27,1,24, .slice none 0 0⟩ .leaf) 96 ⟨.slice 26,1,24, .slice none 0 0⟩ .leaf) 98 ⟨.struct #[⟨ "From",3,0,false,"","",0⟩,⟨ "To",3,1,false,"","",8⟩],2,16, .agg #[.int .i64 (0), .int .i64 (0)]⟩ (.node (.node .leaf 100 ⟨.struct #[⟨ "Span",98,0,false,"","",0⟩,⟨ "Links",3,2,false,"","",16⟩,⟨ "Root",9,3,false,"","",24⟩],4,40, .agg #[.int .i64 (0), .int .i64 (0), .int .i64 (0), .string ⟨#[]⟩]⟩ .leaf) 101 ⟨.slice 106,1,24, .slice none 0 0⟩ .leaf)) 104 ⟨.struct #[⟨ "Term",9,0,false,"","",0⟩,⟨ "Next",9,1,false,"","",16⟩,⟨ "Posts",9,2,false,"","",32⟩],3,48, .agg #[.string ⟨#[]⟩, .string ⟨#[]⟩, .string ⟨#[]⟩]⟩ (.node (.node (.node .leaf 106 ⟨.struct #[⟨ "At",3,0,false,"","",0⟩,⟨ "Link",104,1,false,"","",8⟩,⟨ "Path",56,4,false,"","",56⟩,⟨ "Docs",23,5,false,"","",80⟩],6,104, .agg #[.int .i64 (0), .string ⟨#[]⟩, .string ⟨#[]⟩, .string ⟨#[]⟩, .slice none 0 0, .slice none 0 0]⟩ .leaf) 110 ⟨.slice 219,1,24, .slice none 0 0⟩ .leaf) 112 ⟨.struct #[⟨ "Size",3,0,false,"","",0⟩,⟨ "Log",9,1,false,"","",8⟩,⟨ "Segs",110,2,false,"","",24⟩],3,48, .agg #[.int .i64 (0), .string ⟨#[]⟩, .slice none 0 0]⟩ (.node .leaf 113 ⟨.slice 208,1,24, .slice none 0 0⟩ .leaf))) 115 ⟨.struct #[⟨ "Head",112,0,false,"","",0⟩,⟨ "Proofs",113,3,false,"","",48⟩],4,72, .agg #[.int .i64 (0), .string ⟨#[]⟩, .slice none 0 0, .slice none 0 0]⟩ (.node (.node (.node (.node .leaf 122 ⟨.struct #[⟨ "Kind",3,0,false,"","",0⟩,⟨ "Term",9,1,false,"","",8⟩],2,24, .agg #[.int .i64 (0), .string ⟨#[]⟩]⟩ .leaf) 123 ⟨.func #[9] #[4] false,1,8, .nilFunc⟩ .leaf) 126 ⟨.slice 228,1,24, .slice none 0 0⟩ (.node (.node .leaf 128 ⟨.struct #[⟨ "Span",98,0,false,"","",0⟩,⟨ "Dict",126,2,false,"","",16⟩],3,40, .agg #[.int .i64 (0), .int .i64 (0), .slice none 0 0]⟩ .leaf) 138 ⟨.func #[9] #[] false,1,8, .nilFunc⟩ .leaf)) 146 ⟨.struct #[⟨ "Head",112,0,false,"","",0⟩,⟨ "At",3,3,false,"","",48⟩,⟨ "Doc",23,4,false,"","",56⟩,⟨ "Path",56,5,false,"","",80⟩],6,104, .agg #[.int .i64 (0), .string ⟨#[]⟩, .slice none 0 0, .int .i64 (0), .slice none 0 0, .slice none 0 0]⟩ (.node (.node (.node .leaf 153 ⟨.struct #[⟨ "Old",112,0,false,"","",0⟩,⟨ "New",112,3,false,"","",48⟩,⟨ "Proof",56,6,false,"","",96⟩],7,120, .agg #[.int .i64 (0), .string ⟨#[]⟩, .slice none 0 0, .int .i64 (0), .string ⟨#[]⟩, .slice none 0 0, .slice none 0 0]⟩ .leaf) 157 ⟨.pointer 167,1,8, .pointer none⟩ .leaf) 165 ⟨.struct #[⟨ "B",23,0,false,"","",0⟩,⟨ "At",3,1,false,"","",24⟩,⟨ "E",28,2,false,"","",32⟩],3,40, .agg #[.slice none 0 0, .int .i64 (0), .int .i64 (0)]⟩ (.node .leaf 167 ⟨.struct #[⟨ "Reader",165,0,true,"","",0⟩],3,40, .agg #[.slice none 0 0, .int .i64 (0), .int .i64 (0)]⟩ .leaf))))) 168 ⟨.func #[] #[3] false,1,8, .nilFunc⟩ (.node (.node (.node (.node (.node (.node .leaf 177 ⟨.slice 183,1,24, .slice none 0 0⟩ .leaf) 180 ⟨.struct #[⟨ "elems",177,0,false,"","rubrick/query",0⟩,⟨ "next",3,1,false,"","rubrick/query",24⟩,⟨ "words",3,2,false,"","rubrick/query",32⟩,⟨ "ops",22,3,false,"","rubrick/query",40⟩],4,64, .agg #[.slice none 0 0, .int .i64 (0), .int .i64 (0), .slice none 0 0]⟩ .leaf) 183 ⟨.struct #[⟨ "kind",3,0,false,"","rubrick/query",0⟩,⟨ "at",3,1,false,"","rubrick/query",8⟩,⟨ "term",9,2,false,"","rubrick/query",16⟩],3,32, .agg #[.int .i64 (0), .int .i64 (0), .string ⟨#[]⟩]⟩ (.node (.node .leaf 187 ⟨.slice 191,1,24, .slice none 0 0⟩ .leaf) 189 ⟨.func #[106] #[4] false,1,8, .nilFunc⟩ .leaf)) 191 ⟨.struct #[⟨ "holds",189,0,false,"","rubrick/term",0⟩,⟨ "docs",27,1,false,"","rubrick/term",8⟩],2,32, .agg #[.nilFunc, .slice none 0 0]⟩ (.node (.node (.node .leaf 196 ⟨.func #[9] #[27] false,1,8, .nilFunc⟩ .leaf) 198 ⟨.func #[27,27] #[27] false,1,8, .nilFunc⟩ .leaf) 200 ⟨.struct #[⟨ "find",196,0,false,"","rubrick/eval",0⟩,⟨ "both",198,1,false,"","rubrick/eval",8⟩,⟨ "either",198,2,false,"","rubrick/eval",16⟩,⟨ "but",198,3,false,"","rubrick/eval",24⟩],4,32, .agg #[.nilFunc, .nilFunc, .nilFunc, .nilFunc]⟩ (.node (.node .leaf 202 ⟨.struct #[⟨ "B",23,0,false,"","",0⟩,⟨ "E",3,1,false,"","",24⟩],2,32, .agg #[.slice none 0 0, .int .i64 (0)]⟩ .leaf) 208 ⟨.slice 211,1,24, .slice none 0 0⟩ .leaf))) 209 ⟨.struct #[⟨ "Term",9,0,false,"","",0⟩,⟨ "Next",9,1,false,"","",16⟩,⟨ "Posts",9,2,false,"","",32⟩],3,48, .agg #[.string ⟨#[]⟩, .string ⟨#[]⟩, .string ⟨#[]⟩]⟩ (.node (.node (.node (.node .leaf 211 ⟨.struct #[⟨ "At",3,0,false,"","",0⟩,⟨ "Link",209,1,false,"","",8⟩,⟨ "Path",56,4,false,"","",56⟩,⟨ "Docs",23,5,false,"","",80⟩],6,104, .agg #[.int .i64 (0), .string ⟨#[]⟩, .string ⟨#[]⟩, .string ⟨#[]⟩, .slice none 0 0, .slice none 0 0]⟩ .leaf) 219 ⟨.struct #[⟨ "Span",98,0,false,"","",0⟩,⟨ "Links",3,2,false,"","",16⟩,⟨ "Root",9,3,false,"","",24⟩],4,40, .agg #[.int .i64 (0), .int .i64 (0), .int .i64 (0), .string ⟨#[]⟩]⟩ .leaf) 228 ⟨.struct #[⟨ "Term",9,0,false,"","",0⟩,⟨ "Docs",27,1,false,"","",16⟩],2,40, .agg #[.string ⟨#[]⟩, .slice none 0 0]⟩ (.node (.node .leaf 232 ⟨.slice 98,1,24, .slice none 0 0⟩ .leaf) 245 ⟨.struct #[⟨ "b",23,0,false,"","rubrick/reply",0⟩,⟨ "bad",4,1,false,"","rubrick/reply",24⟩],2,32, .agg #[.slice none 0 0, .bool false]⟩ .leaf)) 253 ⟨.func #[4,4] #[4] false,1,8, .nilFunc⟩ (.node (.node (.node .leaf 255 ⟨.struct #[⟨ "find",123,0,false,"","rubrick/eval",0⟩,⟨ "both",253,1,false,"","rubrick/eval",8⟩,⟨ "either",253,2,false,"","rubrick/eval",16⟩,⟨ "but",253,3,false,"","rubrick/eval",24⟩],4,32, .agg #[.nilFunc, .nilFunc, .nilFunc, .nilFunc]⟩ .leaf) 256 ⟨.slice 4,1,24, .slice none 0 0⟩ .leaf) 279 ⟨.pointer 180,1,8, .pointer none⟩ (.node .leaf 283 ⟨.int .u64,1,8, .int .u64 (0)⟩ .leaf)))) 286 ⟨.func #[9,9] #[4] false,1,8, .nilFunc⟩ (.node (.node (.node (.node (.node .leaf 288 ⟨.map 3 138,1,8, .map none⟩ .leaf) 290 ⟨.func #[3,4,4] #[4] false,1,8, .nilFunc⟩ .leaf) 305 ⟨.map 9 27,1,8, .map none⟩ (.node (.node .leaf 308 ⟨.func #[123] #[] false,1,8, .nilFunc⟩ .leaf) 319 ⟨.pointer 245,1,8, .pointer none⟩ .leaf)) 323 ⟨.int .u32,1,4, .int .u32 (0)⟩ (.node (.node (.node .leaf 324 ⟨.array 8 323,8,32, .agg #[.int .u32 (0), .int .u32 (0), .int .u32 (0), .int .u32 (0), .int .u32 (0), .int .u32 (0), .int .u32 (0), .int .u32 (0)]⟩ .leaf) 326 ⟨.struct #[⟨ "H",324,0,false,"","",0⟩,⟨ "Rest",23,8,false,"","",32⟩,⟨ "N",3,9,false,"","",56⟩],10,64, .agg #[.int .u32 (0), .int .u32 (0), .int .u32 (0), .int .u32 (0), .int .u32 (0), .int .u32 (0), .int .u32 (0), .int .u32 (0), .slice none 0 0, .int .i64 (0)]⟩ .leaf) 333 ⟨.slice 323,1,24, .slice none 0 0⟩ (.node .leaf 335 ⟨.func #[] #[9] false,1,8, .nilFunc⟩ .leaf))) 344 ⟨.struct #[⟨ "from",3,0,false,"","rubrick/utf",0⟩,⟨ "to",3,1,false,"","rubrick/utf",8⟩],2,16, .agg #[.int .i64 (0), .int .i64 (0)]⟩ (.node (.node (.node (.node .leaf 345 ⟨.array 9 344,18,144, .agg #[.int .i64 (0), .int .i64 (0), .int .i64 (0), .int .i64 (0), .int .i64 (0), .int .i64 (0), .int .i64 (0), .int .i64 (0), .int .i64 (0), .int .i64 (0), .int .i64 (0), .int .i64 (0), .int .i64 (0), .int .i64 (0), .int .i64 (0), .int .i64 (0), .int .i64 (0), .int .i64 (0)]⟩ .leaf) 349 ⟨.int .i64,1,8, .int .i64 (0)⟩ .leaf) 357 ⟨.int .u64,1,8, .int .u64 (0)⟩ (.node (.node .leaf 366 ⟨.func #[228,228] #[4] false,1,8, .nilFunc⟩ .leaf) 368 ⟨.func #[9,9] #[3] false,1,8, .nilFunc⟩ .leaf)) 380 ⟨.int .u64,1,8, .int .u64 (0)⟩ (.node (.node (.node .leaf 384 ⟨.pointer 3,1,8, .pointer none⟩ .leaf) 394 ⟨.struct #[⟨ "from",3,0,false,"","rubrick/utf",0⟩,⟨ "to",3,1,false,"","rubrick/utf",8⟩,⟨ "add",3,2,false,"","rubrick/utf",16⟩],3,24, .agg #[.int .i64 (0), .int .i64 (0), .int .i64 (0)]⟩ .leaf) 395 ⟨.array 7 394,21,168, .agg #[.int .i64 (0), .int .i64 (0), .int .i64 (0), .int .i64 (0), .int .i64 (0), .int .i64 (0), .int .i64 (0), .int .i64 (0), .int .i64 (0), .int .i64 (0), .int .i64 (0), .int .i64 (0), .int .i64 (0), .int .i64 (0), .int .i64 (0), .int .i64 (0), .int .i64 (0), .int .i64 (0), .int .i64 (0), .int .i64 (0), .int .i64 (0)]⟩ (.node .leaf 400 ⟨.array 64 323,64,256, .agg #[.int .u32 (0), .int .u32 (0), .int .u32 (0), .int .u32 (0), .int .u32 (0), .int .u32 (0), .int .u32 (0), .int .u32 (0), .int .u32 (0), .int .u32 (0), .int .u32 (0), .int .u32 (0), .int .u32 (0), .int .u32 (0), .int .u32 (0), .int .u32 (0), .int .u32 (0), .int .u32 (0), .int .u32 (0), .int .u32 (0), .int .u32 (0), .int .u32 (0), .int .u32 (0), .int .u32 (0), .int .u32 (0), .int .u32 (0), .int .u32 (0), .int .u32 (0), .int .u32 (0), .int .u32 (0), .int .u32 (0), .int .u32 (0), .int .u32 (0), .int .u32 (0), .int .u32 (0), .int .u32 (0), .int .u32 (0), .int .u32 (0), .int .u32 (0), .int .u32 (0), .int .u32 (0), .int .u32 (0), .int .u32 (0), .int .u32 (0), .int .u32 (0), .int .u32 (0), .int .u32 (0), .int .u32 (0), .int .u32 (0), .int .u32 (0), .int .u32 (0), .int .u32 (0), .int .u32 (0), .int .u32 (0), .int .u32 (0), .int .u32 (0), .int .u32 (0), .int .u32 (0), .int .u32 (0), .int .u32 (0), .int .u32 (0), .int .u32 (0), .int .u32 (0), .int .u32 (0)]⟩ .leaf))))))
set_option maxRecDepth 100000 in
def acv:fc.Ok Tryz.prog:=⟨⟨⟨⟨⟨⟨⟨trivial,trivial,Tryz.underlying3,trivial,Tryz.t3,rfl,rfl,rfl,rfl⟩,trivial,Tryz.underlying4,trivial,Tryz.t4,rfl,rfl,rfl,rfl⟩,⟨⟨trivial,trivial,Tryz.underlying9,trivial,Tryz.t9,rfl,rfl,rfl,rfl⟩,trivial,Tryz.underlying22,trivial,Tryz.t22,rfl,rfl,rfl,rfl⟩,Tryz.underlying5,trivial,Tryz.t5,rfl,rfl,rfl,rfl⟩,⟨⟨⟨trivial,trivial,Tryz.underlying26,trivial,Tryz.t26,rfl,rfl,rfl,rfl⟩,trivial,Tryz.underlying27,trivial,Tryz.t27,rfl,rfl,rfl,rfl⟩,⟨⟨trivial,trivial,Tryz.underlying33,trivial,Tryz.t33,rfl,rfl,rfl,rfl⟩,trivial,Tryz.underlying37,trivial,Tryz.t37,rfl,rfl,rfl,rfl⟩,Tryz.underlying28,trivial,Tryz.t28,rfl,rfl,rfl,rfl⟩,Tryz.underlying23,trivial,Tryz.t23,rfl,rfl,rfl,rfl⟩,⟨⟨⟨⟨trivial,trivial,Tryz.underlying40,trivial,Tryz.t40,rfl,rfl,rfl,rfl⟩,trivial,Tryz.underlying42,⟨y!,y!,y!⟩,Tryz.t42,rfl,rfl,rfl,rfl⟩,⟨⟨trivial,trivial,Tryz.underlying56,trivial,Tryz.t56,rfl,rfl,rfl,rfl⟩,trivial,Tryz.underlying69,trivial,Tryz.t69,rfl,rfl,rfl,rfl⟩,Tryz.underlying48,⟨y!,y!,y!⟩,Tryz.t48,rfl,rfl,rfl,rfl⟩,⟨⟨⟨trivial,trivial,Tryz.underlying72,trivial,Tryz.t72,rfl,rfl,rfl,rfl⟩,trivial,Tryz.underlying74,⟨y!,y!,y!⟩,Tryz.t74,rfl,rfl,rfl,rfl⟩,⟨trivial,trivial,Tryz.underlying82,⟨y!,y!,y!⟩,Tryz.t82,rfl,rfl,rfl,rfl⟩,Tryz.underlying78,⟨y!,y!,y!⟩,Tryz.t78,rfl,rfl,rfl,rfl⟩,Tryz.underlying71,⟨y!,y!,y!⟩,Tryz.t71,rfl,rfl,rfl,rfl⟩,Tryz.underlying39,trivial,Tryz.t39,rfl,rfl,rfl,rfl⟩,⟨⟨⟨⟨⟨trivial,trivial,Tryz.underlying94,trivial,Tryz.t94,rfl,rfl,rfl,rfl⟩,trivial,Tryz.underlying96,trivial,Tryz.t96,rfl,rfl,rfl,rfl⟩,⟨⟨trivial,trivial,Tryz.underlying100,⟨y!,y!,y!⟩,Tryz.t100,rfl,rfl,rfl,rfl⟩,trivial,Tryz.underlying101,trivial,Tryz.t101,rfl,rfl,rfl,rfl⟩,Tryz.underlying98,⟨y!,y!,y!⟩,Tryz.t98,rfl,rfl,rfl,rfl⟩,⟨⟨⟨trivial,trivial,Tryz.underlying106,⟨y!,y!,y!⟩,Tryz.t106,rfl,rfl,rfl,rfl⟩,trivial,Tryz.underlying110,trivial,Tryz.t110,rfl,rfl,rfl,rfl⟩,⟨trivial,trivial,Tryz.underlying113,trivial,Tryz.t113,rfl,rfl,rfl,rfl⟩,Tryz.underlying112,⟨y!,y!,y!⟩,Tryz.t112,rfl,rfl,rfl,rfl⟩,Tryz.underlying104,⟨y!,y!,y!⟩,Tryz.t104,rfl,rfl,rfl,rfl⟩,⟨⟨⟨⟨trivial,trivial,Tryz.underlying122,⟨y!,y!,y!⟩,Tryz.t122,rfl,rfl,rfl,rfl⟩,trivial,Tryz.underlying123,trivial,Tryz.t123,rfl,rfl,rfl,rfl⟩,⟨⟨trivial,trivial,Tryz.underlying128,⟨y!,y!,y!⟩,Tryz.t128,rfl,rfl,rfl,rfl⟩,trivial,Tryz.underlying138,trivial,Tryz.t138,rfl,rfl,rfl,rfl⟩,Tryz.underlying126,trivial,Tryz.t126,rfl,rfl,rfl,rfl⟩,⟨⟨⟨trivial,trivial,Tryz.underlying153,⟨y!,y!,y!⟩,Tryz.t153,rfl,rfl,rfl,rfl⟩,trivial,Tryz.underlying157,trivial,Tryz.t157,rfl,rfl,rfl,rfl⟩,⟨trivial,trivial,Tryz.underlying167,⟨y!,y!,y!⟩,Tryz.t167,rfl,rfl,rfl,rfl⟩,Tryz.underlying165,⟨y!,y!,y!⟩,Tryz.t165,rfl,rfl,rfl,rfl⟩,Tryz.underlying146,⟨y!,y!,y!⟩,Tryz.t146,rfl,rfl,rfl,rfl⟩,Tryz.underlying115,⟨y!,y!,y!⟩,Tryz.t115,rfl,rfl,rfl,rfl⟩,Tryz.underlying90,⟨y!,y!,y!⟩,Tryz.t90,rfl,rfl,rfl,rfl⟩,⟨⟨⟨⟨⟨⟨trivial,trivial,Tryz.underlying177,trivial,Tryz.t177,rfl,rfl,rfl,rfl⟩,trivial,Tryz.underlying180,⟨y!,y!,y!⟩,Tryz.t180,rfl,rfl,rfl,rfl⟩,⟨⟨trivial,trivial,Tryz.underlying187,trivial,Tryz.t187,rfl,rfl,rfl,rfl⟩,trivial,Tryz.underlying189,trivial,Tryz.t189,rfl,rfl,rfl,rfl⟩,Tryz.underlying183,⟨y!,y!,y!⟩,Tryz.t183,rfl,rfl,rfl,rfl⟩,⟨⟨⟨trivial,trivial,Tryz.underlying196,trivial,Tryz.t196,rfl,rfl,rfl,rfl⟩,trivial,Tryz.underlying198,trivial,Tryz.t198,rfl,rfl,rfl,rfl⟩,⟨⟨trivial,trivial,Tryz.underlying202,⟨y!,y!,y!⟩,Tryz.t202,rfl,rfl,rfl,rfl⟩,trivial,Tryz.underlying208,trivial,Tryz.t208,rfl,rfl,rfl,rfl⟩,Tryz.underlying200,⟨y!,y!,y!⟩,Tryz.t200,rfl,rfl,rfl,rfl⟩,Tryz.underlying191,⟨y!,y!,y!⟩,Tryz.t191,rfl,rfl,rfl,rfl⟩,⟨⟨⟨⟨trivial,trivial,Tryz.underlying211,⟨y!,y!,y!⟩,Tryz.t211,rfl,rfl,rfl,rfl⟩,trivial,Tryz.underlying219,⟨y!,y!,y!⟩,Tryz.t219,rfl,rfl,rfl,rfl⟩,⟨⟨trivial,trivial,Tryz.underlying232,trivial,Tryz.t232,rfl,rfl,rfl,rfl⟩,trivial,Tryz.underlying245,⟨y!,y!,y!⟩,Tryz.t245,rfl,rfl,rfl,rfl⟩,Tryz.underlying228,⟨y!,y!,y!⟩,Tryz.t228,rfl,rfl,rfl,rfl⟩,⟨⟨⟨trivial,trivial,Tryz.underlying255,⟨y!,y!,y!⟩,Tryz.t255,rfl,rfl,rfl,rfl⟩,trivial,Tryz.underlying256,trivial,Tryz.t256,rfl,rfl,rfl,rfl⟩,⟨trivial,trivial,Tryz.underlying283,trivial,Tryz.t283,rfl,rfl,rfl,rfl⟩,Tryz.underlying279,trivial,Tryz.t279,rfl,rfl,rfl,rfl⟩,Tryz.underlying253,trivial,Tryz.t253,rfl,rfl,rfl,rfl⟩,Tryz.underlying209,⟨y!,y!,y!⟩,Tryz.t209,rfl,rfl,rfl,rfl⟩,⟨⟨⟨⟨⟨trivial,trivial,Tryz.underlying288,trivial,Tryz.t288,rfl,rfl,rfl,rfl⟩,trivial,Tryz.underlying290,trivial,Tryz.t290,rfl,rfl,rfl,rfl⟩,⟨⟨trivial,trivial,Tryz.underlying308,trivial,Tryz.t308,rfl,rfl,rfl,rfl⟩,trivial,Tryz.underlying319,trivial,Tryz.t319,rfl,rfl,rfl,rfl⟩,Tryz.underlying305,trivial,Tryz.t305,rfl,rfl,rfl,rfl⟩,⟨⟨⟨trivial,trivial,Tryz.underlying324,trivial,Tryz.t324,rfl,rfl,rfl,rfl⟩,trivial,Tryz.underlying326,⟨y!,y!,y!⟩,Tryz.t326,rfl,rfl,rfl,rfl⟩,⟨trivial,trivial,Tryz.underlying335,trivial,Tryz.t335,rfl,rfl,rfl,rfl⟩,Tryz.underlying333,trivial,Tryz.t333,rfl,rfl,rfl,rfl⟩,Tryz.underlying323,trivial,Tryz.t323,rfl,rfl,rfl,rfl⟩,⟨⟨⟨⟨trivial,trivial,Tryz.underlying345,trivial,Tryz.t345,rfl,rfl,rfl,rfl⟩,trivial,Tryz.underlying349,trivial,Tryz.t349,rfl,rfl,rfl,rfl⟩,⟨⟨trivial,trivial,Tryz.underlying366,trivial,Tryz.t366,rfl,rfl,rfl,rfl⟩,trivial,Tryz.underlying368,trivial,Tryz.t368,rfl,rfl,rfl,rfl⟩,Tryz.underlying357,trivial,Tryz.t357,rfl,rfl,rfl,rfl⟩,⟨⟨⟨trivial,trivial,Tryz.underlying384,trivial,Tryz.t384,rfl,rfl,rfl,rfl⟩,trivial,Tryz.underlying394,⟨y!,y!,y!⟩,Tryz.t394,rfl,rfl,rfl,rfl⟩,⟨trivial,trivial,Tryz.underlying400,trivial,Tryz.t400,rfl,rfl,rfl,rfl⟩,Tryz.underlying395,trivial,Tryz.t395,rfl,rfl,rfl,rfl⟩,Tryz.underlying380,trivial,Tryz.t380,rfl,rfl,rfl,rfl⟩,Tryz.underlying344,⟨y!,y!,y!⟩,Tryz.t344,rfl,rfl,rfl,rfl⟩,Tryz.underlying286,trivial,Tryz.t286,rfl,rfl,rfl,rfl⟩,Tryz.underlying168,trivial,Tryz.t168,rfl,rfl,rfl,rfl⟩
end Go.Vg
namespace Go.J
open Go.Proofs
def G0:Nat->Option Go.Vg.GD:=λi=>match i with
 |0=>some ⟨[.int .i64,.int .i64],[(65,90),(97,122),(192,214),(216,246),(248,255),(913,929),(931,937),(945,969),(1024,1119)]⟩
 |1=>some ⟨[.int .u32],[1779033703,3144134277,1013904242,2773480762,1359893119,2600822924,528734635,1541459225]⟩
 |2=>some ⟨[.int .i64,.int .i64,.int .i64],[(65,90,32),(192,214,32),(216,222,32),(913,929,32),(931,937,32),(1024,1039,80),(1040,1071,32)]⟩
 |3=>some ⟨[.int .u32],Go.S.xU⟩
 |_=>none
end Go.J
namespace Go.J
open Go Vg
abbrev q0p:M PS:=[]
abbrev amD:Type:=Unit
abbrev q1p:M PS:=[.one (.int .u32),.one (.int .i64)]
abbrev ayZ:Type:=Int×Int
abbrev jd:M PS:=[.one (.slice [.int .u8])]
abbrev eN:Type:=B8
abbrev q3p:M PS:=[.one (.slice [.int .u32]),.one (.slice [.int .u8])]
abbrev ay0:Type:=U×B8
abbrev q4p:M PS:=[.agg [.int .u32,.int .u32,.int .u32,.int .u32,.int .u32,.int .u32,.int .u32,.int .u32,.slice [.int .u8],.int .i64]]
abbrev amE:Type:=Int×Int×Int×Int×Int×Int×Int×Int×B8×Int
abbrev q5p:M PS:=[.agg [.int .u32,.int .u32,.int .u32,.int .u32,.int .u32,.int .u32,.int .u32,.int .u32],.one (.slice [.int .u8])]
abbrev acw:Type:=Int×Int×Int×Int×Int×Int×Int×Int×B8
abbrev q6p:M PS:=[.agg [.int .u32,.int .u32,.int .u32,.int .u32,.int .u32,.int .u32,.int .u32,.int .u32,.slice [.int .u8],.int .i64],.one (.slice [.int .u8])]
abbrev aHI:Type:=Int×Int×Int×Int×Int×Int×Int×Int×B8×Int×B8
abbrev Pj:M PS:=[.one (.int .i64)]
abbrev vf:Type:=Int
abbrev ć:M PS:=[.one (.str)]
abbrev YB:Type:=B8
abbrev q9p:M PS:=[.one (.slice [.int .u8]),.one (.int .i64)]
abbrev ay1:Type:=B8×Int
abbrev aHL:M TA:=[.own 50000,.dR (.int .i64)]
abbrev aBM:Type:=Int
abbrev q0q:M TB:=[.row 5 [.int .u8]]
abbrev amF:Type:=B8×Unit
abbrev aHM:M TA:=[.own 50000,.dR (.str)]
abbrev aBN:Type:=B8
abbrev SJ:M PS:=[.one (.slice [.int .u8]),.one (.str)]
abbrev Pl:Type:=B8×B8
abbrev ay2:M PS:=[.agg [.slice [.int .u8],.int .i64,.int .i64]]
abbrev aBO:Type:=B8×Int×Int
abbrev aHN:M PS:=[.one (.slice [.int .u8]),.one (.int .i64),.one (.int .i64)]
abbrev aBP:Type:=B8×Int×Int
abbrev amG:M PS:=[.agg [.slice [.int .u8],.int .i64,.int .i64],.one (.int .i64)]
abbrev Ĉ:Type:=B8×Int×Int×Int
abbrev Pm:M PS:=[.one (.int .i64),.one (.slice [.int .u8])]
abbrev Fg:Type:=Int×B8
abbrev ay3:M PS:=[.one (.str),.one (.str)]
abbrev amH:Type:=B8×B8
abbrev Pn:M PS:=[.one (.int .u8),.one (.slice [.slice [.int .u8]])]
abbrev B7:Type:=UInt8×O
abbrev amI:M PS:=[.one (.int .i64),.one (.int .i64),.one (.int .i64)]
abbrev ĉ:Type:=Int×Int×Int
abbrev aHO:M PS:=[.one (.int .i64),.one (.int .i64)]
abbrev aBQ:Type:=Int×Int
abbrev aHQ:M PS:=[.one (.slice [.int .i64])]
abbrev amJ:Type:=U
abbrev Po:M PS:=[.one (.slice [.str])]
abbrev B9:Type:=O
abbrev aHR:M TA:=[.own 50000]
abbrev aBR:Type:=Unit
abbrev q1q:M TB:=[.row 9 [.str]]
abbrev aHP:Type:=O×Unit
abbrev aHS:M TA:=[.dR (.str),.dR (.str),.ref 50000 0]
abbrev aBS:Type:=B8×B8
abbrev q2q:M TB:=[.cells [.fn (.func 282) [] []]]
abbrev ay4:Type:=Unit×Unit
abbrev acx:M TA:=[.own 50000,.fn (.func 309) [] [.ref 50001 0]]
abbrev Pq:Type:=Unit
abbrev q3q:M TB:=[.row 9 [.str],.cells [.fn (.func 282) [] []]]
abbrev SK:Type:=O×Unit×Unit
abbrev ay5:M TA:=[.own 50000,.fn (.func 282) [] []]
abbrev amL:Type:=Unit
abbrev aHT:M TA:=[.dR (.slice [.str]),.fn (.func 282) [] []]
abbrev amM:Type:=O
abbrev yr:M TB:=[]
abbrev wF:Type:=Unit
abbrev aHU:M PS:=[.one (.slice [.slice [.int .u8]])]
abbrev aBT:Type:=O
abbrev ay6:M PS:=[.one (.slice [.str]),.one (.int .i64)]
abbrev amO:Type:=O×Int
abbrev amP:M TA:=[.dR (.int .i64),.dR (.bool),.dR (.bool),.ref 50000 0]
abbrev Ċ:Type:=Int×Bool×Bool
abbrev q5q:M TB:=[.cells [.dR (.int .i64),.dR (.int .i64)]]
abbrev amN:Type:=(Int×Int)×Unit
abbrev Pt:M TA:=[.dR (.slice [.int .i64]),.dR (.slice [.int .i64]),.fn (.func 311) [] [.ref 50000 0]]
abbrev Fh:Type:=U×U
abbrev acy:M PS:=[.one (.slice [.int .i64]),.agg [.int .i64,.int .i64]]
abbrev Jo:Type:=U×Int×Int
abbrev aHV:M PS:=[.one (.slice [.int .i64]),.one (.slice [.int .i64])]
abbrev aBV:Type:=U×U
abbrev amQ:M PS:=[.one (.slice [.int .i64]),.one (.int .i64)]
abbrev U8:Type:=U×Int
abbrev ay7:M PS:=[.one (.slice [.str,.slice [.int .i64]])]
abbrev amR:Type:=M (B8×U)
abbrev amS:M PS:=[.agg [.str,.str,.str]]
abbrev amT:Type:=B8×B8×B8
abbrev amU:M PS:=[.one (.slice [.str,.slice [.int .i64]]),.one (.str)]
abbrev ċ:Type:=M (B8×U)×B8
abbrev amV:M PS:=[.one (.slice [.slice [.int .u8]]),.agg [.int .i64,.int .i64]]
abbrev amW:Type:=O×Int×Int
abbrev amX:M PS:=[.agg [.int .i64,.int .i64]]
abbrev U9:Type:=Int×Int
abbrev aHW:M PS:=[.agg [.int .i64,.int .i64,.slice [.str,.slice [.int .i64]]]]
abbrev aBW:Type:=Int×Int×M (B8×U)
abbrev aHX:M PS:=[.agg [.int .i64,.int .i64,.int .i64,.str]]
abbrev amY:Type:=Int×Int×Int×B8
abbrev aHY:M PS:=[.one (.slice [.int .i64,.int .i64,.int .i64,.str]),.one (.int .i64)]
abbrev aBX:Type:=M (Int×Int×Int×B8)×Int
abbrev z6:M PS:=[.agg [.str,.slice [.int .i64]],.agg [.str,.slice [.int .i64]]]
abbrev sM:Type:=B8×U×B8×U
abbrev aHZ:M TA:=[.dR (.slice [.str,.slice [.int .i64]]),.dR (.slice [.str,.slice [.int .i64]]),.fn (.func 279) [] []]
abbrev aBY:Type:=M (B8×U)×M (B8×U)
abbrev HF:M PS:=[.one (.slice [.str,.slice [.int .i64]]),.one (.slice [.str,.slice [.int .i64]])]
abbrev Ca:Type:=M (B8×U)×M (B8×U)
abbrev acz:M PS:=[.agg [.slice [.slice [.int .u8]],.slice [.int .i64,.int .i64,.slice [.str,.slice [.int .i64]]]]]
abbrev amZ:Type:=O×M (Int×Int×M (B8×U))
abbrev aH4:M PS:=[.agg [.slice [.slice [.int .u8]],.slice [.int .i64,.int .i64,.slice [.str,.slice [.int .i64]]]],.one (.slice [.int .u8])]
abbrev aBZ:Type:=O×M (Int×Int×M (B8×U))×B8
abbrev vg:M PS:=[.agg [.int .i64,.str,.slice [.int .i64,.int .i64,.int .i64,.str]]]
abbrev sN:Type:=Int×B8×M (Int×Int×Int×B8)
abbrev aH6:M TA:=[.dR (.int .i64),.ref 50000 0,.ref 50001 0]
abbrev aB0:Type:=Int
abbrev q6q:M TB:=[.cells [.dR (.int .i64)],.cells [.nil]]
abbrev aH1:Type:=Int×Unit×Unit
abbrev q7q:M TB:=[.cells [.dR (.int .i64)],.cells [.own 50002],.row 5 [.int .u8]]
abbrev aH3:Type:=Int×Unit×B8×Unit
abbrev ay8:M TA:=[.dR (.str),.ref 50000 0]
abbrev Vb:Type:=B8
abbrev q8q:M TB:=[.cells [.own 50001],.row 5 [.int .u8]]
abbrev aH5:Type:=Unit×B8×Unit
abbrev aH8:M TA:=[.ref 50000 0]
abbrev aB2:Type:=Unit
abbrev Va:M TB:=[.cells [.dR (.slice [.int .u8]),.dR (.int .i64),.dR (.int .i64)]]
abbrev Ee:Type:=(B8×Int×Int)×Unit
abbrev SL:M TA:=[.ref 50000 0,.ref 50001 0,.ref 50002 0]
abbrev Cb:Type:=Unit
abbrev aH7:M TB:=[.cells [.dR (.int .i64)],.cells [.fn (.func 243) [] [.ref 50003 0]],.cells [.fn (.func 244) [] [.ref 50003 0]],.cells [.dR (.slice [.int .u8]),.dR (.int .i64),.dR (.int .i64)]]
abbrev aB1:Type:=Int×Unit×Unit×(B8×Int×Int)×Unit
abbrev aIa:M PS:=[.one (.slice [.int .i64,.str])]
abbrev aB5:Type:=M (Int×B8)
abbrev aIb:M TA:=[.ref 50000 0,.ref 50001 0,.ref 50002 0,.ref 50003 0]
abbrev aB6:Type:=Unit
abbrev aH9:M TB:=[.cells [.dR (.int .i64)],.cells [.nil],.cells [.dR (.slice [.int .u8])],.cells [.dR (.int .i64)]]
abbrev aB3:Type:=Int×Unit×B8×Int×Unit
abbrev YC:M TB:=[.cells [.dR (.slice [.int .i64,.int .i64,.str]),.dR (.int .i64),.dR (.int .i64),.nil]]
abbrev Jp:Type:=(M (Int×Int×B8)×Int×Int)×Unit
abbrev ay9:M TB:=[.cells [.dR (.slice [.int .i64,.int .i64,.str]),.dR (.int .i64),.dR (.int .i64),.own 50001],.row 90 [.int .i64,.str]]
abbrev aB4:Type:=(M (Int×Int×B8)×Int×Int)×(M (Int×B8))×Unit
abbrev aIc:M TA:=[.ref 50000 0,.dR (.int .i64)]
abbrev am0:Type:=Int
abbrev HG:M TB:=[.cells [.own 50001,.dR (.bool)],.row 5 [.int .u8]]
abbrev Cc:Type:=Bool×B8×Unit
abbrev aId:M TA:=[.ref 50000 0,.dR (.slice [.int .u8]),.dR (.int .i64)]
abbrev aB7:Type:=B8×Int
abbrev acA:M TA:=[.ref 50000 0,.agg [.dR (.int .i64),.dR (.str),.dR (.slice [.int .i64,.int .i64,.int .i64,.str])]]
abbrev Vc:Type:=Int×B8×M (Int×Int×Int×B8)
abbrev Ef:M TA:=[.ref 50000 0,.dR (.slice [.str])]
abbrev am1:Type:=O
abbrev acB:M TA:=[.ref 50000 0,.agg [.dR (.int .i64),.dR (.str),.dR (.str),.dR (.str),.dR (.slice [.str]),.dR (.slice [.int .u8])]]
abbrev am2:Type:=Int×B8×B8×B8×O×B8
abbrev azc:M PS:=[.agg [.int .i64,.str,.slice [.int .i64,.int .i64,.int .i64,.str],.slice [.slice [.int .i64,.str,.str,.str,.slice [.str],.slice [.int .u8]]]]]
abbrev am3:Type:=Int×B8×M (Int×Int×Int×B8)×M (M (Int×B8×B8×B8×O×B8))
abbrev acC:M TA:=[.dR (.slice [.int .u8]),.dR (.int .u8)]
abbrev Vd:Type:=B8×UInt8
abbrev am5:M TA:=[.dR (.str),.ref 50000 0,.ref 50001 0,.ref 50002 0]
abbrev Ve:Type:=B8
abbrev aza:M TB:=[.cells [.dR (.slice [.str,.slice [.int .i64]])],.cells [.dR (.int .i64)],.cells [.nil]]
abbrev aB8:Type:=(M (B8×U))×Int×Unit×Unit
abbrev azb:M TB:=[.cells [.dR (.slice [.str,.slice [.int .i64]])],.cells [.dR (.int .i64)],.cells [.own 50003],.row 106 [.int .i64,.str,.str,.str,.slice [.str],.slice [.int .u8]]]
abbrev aB9:Type:=(M (B8×U))×Int×Unit×(M (Int×B8×B8×B8×O×B8))×Unit
abbrev acD:M TA:=[.dR (.slice [.str,.slice [.int .i64]]),.ref 50000 0,.ref 50001 0]
abbrev Vf:Type:=M (B8×U)
abbrev azd:M TB:=[.cells [.dR (.int .i64)],.cells [.dR (.slice [.str])]]
abbrev am4:Type:=Int×O×Unit
abbrev am6:M PS:=[.agg [.slice [.slice [.int .u8]],.slice [.int .i64,.int .i64,.slice [.str,.slice [.int .i64]]]],.one (.slice [.int .i64,.str])]
abbrev Č:Type:=O×M (Int×Int×M (B8×U))×M (Int×B8)
abbrev aze:M PS:=[.one (.str),.one (.int .i64),.one (.int .i64),.one (.slice [.str])]
abbrev am7:Type:=B8×Int×Int×O
abbrev azf:M PS:=[.one (.int .i64),.one (.bool),.one (.bool)]
abbrev am8:Type:=Int×Bool×Bool
abbrev azg:M TA:=[.dR (.slice [.int .i64]),.dR (.slice [.int .i64]),.fn (.func 197) [] []]
abbrev am9:Type:=U×U
abbrev aIe:M TA:=[.dR (.slice [.int .i64]),.dR (.slice [.int .i64]),.fn (.func 198) [] []]
abbrev ana:Type:=U×U
abbrev aIf:M TA:=[.dR (.slice [.int .i64]),.dR (.slice [.int .i64]),.fn (.func 199) [] []]
abbrev aCa:Type:=U×U
abbrev Pu:M PS:=[.one (.slice [.str]),.one (.str)]
abbrev Vh:Type:=O×B8
abbrev azk:M PS:=[.one (.str),.var [.slice [.str]],.var [.slice [.slice [.int .i64]]]]
abbrev anb:Type:=B8×O×M U
abbrev azl:M TA:=[.dR (.str),.ref 50000 0,.ref 50001 0]
abbrev anc:Type:=B8
abbrev azh:M TB:=[.cells [.own 50002],.cells [.fn (.func 107) [] []],.row 27 [.slice [.int .i64]]]
abbrev aCb:Type:=Unit×Unit×(M U)×Unit
abbrev azi:M TB:=[.cells [.own 50002],.cells [.fn (.func 108) [] []],.row 27 [.slice [.int .i64]]]
abbrev aCc:Type:=Unit×Unit×(M U)×Unit
abbrev azj:M TB:=[.cells [.own 50002],.cells [.fn (.func 109) [] []],.row 27 [.slice [.int .i64]]]
abbrev aCd:Type:=Unit×Unit×(M U)×Unit
abbrev aIg:M TB:=[.cells [.own 50002],.cells [.fn (.func 103) [] [.var [.slice [.str]],.var [.slice [.slice [.int .i64]]]],.fn (.func 107) [] [],.fn (.func 108) [] [],.fn (.func 109) [] []],.row 27 [.slice [.int .i64]]]
abbrev aCe:Type:=Unit×(O×M U)×(M U)×Unit
abbrev aIh:M TA:=[.dR (.slice [.int .i64,.str]),.agg [.fn (.func 103) [] [.var [.slice [.str]],.var [.slice [.slice [.int .i64]]]],.fn (.func 107) [] [],.fn (.func 108) [] [],.fn (.func 109) [] []]]
abbrev aCf:Type:=M (Int×B8)×O×M U
abbrev aIi:M PS:=[.one (.slice [.int .i64,.str]),.one (.slice [.slice [.int .i64]])]
abbrev aCg:Type:=M (Int×B8)×M U
abbrev aIj:M PS:=[.agg [.int .i64,.str,.str,.str,.slice [.str],.slice [.int .u8]],.var [.str],.var [.int .i64]]
abbrev aCh:Type:=Int×B8×B8×B8×O×B8×B8×Int
abbrev aIk:M PS:=[.agg [.int .i64,.str,.str,.str,.slice [.str],.slice [.int .u8]],.var [.str]]
abbrev ane:Type:=Int×B8×B8×B8×O×B8×B8
abbrev KQ:M TA:=[.dR (.str),.agg [.dR (.int .i64),.dR (.str),.dR (.str),.dR (.str),.dR (.slice [.str]),.dR (.slice [.int .u8])]]
abbrev Jq:Type:=B8×Int×B8×B8×B8×O×B8
abbrev aIl:M PS:=[.one (.str),.one (.int .i64),.one (.str),.agg [.int .i64,.str,.str,.str,.slice [.str],.slice [.int .u8]]]
abbrev aCi:Type:=B8×Int×B8×Int×B8×B8×B8×O×B8
abbrev aIm:M PS:=[.var [.int .i64,.str,.slice [.int .i64,.int .i64,.int .i64,.str]],.var [.str]]
abbrev aCj:Type:=Int×B8×M (Int×Int×Int×B8)×B8
abbrev aIn:M PS:=[.agg [.int .i64,.str,.slice [.int .i64,.int .i64,.int .i64,.str]],.one (.str)]
abbrev aCk:Type:=Int×B8×M (Int×Int×Int×B8)×B8
abbrev azm:M PS:=[.var [.int .i64,.str,.slice [.int .i64,.int .i64,.int .i64,.str],.slice [.slice [.int .i64,.str,.str,.str,.slice [.str],.slice [.int .u8]]]],.var [.int .i64],.var [.slice [.str]]]
abbrev anf:Type:=Int×B8×M (Int×Int×Int×B8)×M (M (Int×B8×B8×B8×O×B8))×Int×O
abbrev Pv:M TA:=[.var [.int .i64,.int .i64,.int .i64,.str],.var [.str],.var [.int .i64,.str,.slice [.int .i64,.int .i64,.int .i64,.str],.slice [.slice [.int .i64,.str,.str,.str,.slice [.str],.slice [.int .u8]]]],.var [.int .i64],.var [.int .i64],.ref 50000 0]
abbrev č:Type:=Int×Int×Int×B8×B8×Int×B8×M (Int×Int×Int×B8)×M (M (Int×B8×B8×B8×O×B8))×Int×Int
abbrev YE:M TB:=[.cells [.own 50001],.eF 27 50002,.row 3 [.int .i64]]
abbrev ď:Type:=Unit×(M Value×Nat)×U×Unit
abbrev YD:M PS:=[.var [.int .i64,.int .i64,.int .i64,.str],.var [.str],.var [.int .i64,.str,.slice [.int .i64,.int .i64,.int .i64,.str],.slice [.slice [.int .i64,.str,.str,.str,.slice [.str],.slice [.int .u8]]]],.var [.int .i64],.var [.int .i64]]
abbrev Ď:Type:=Int×Int×Int×B8×B8×Int×B8×M (Int×Int×Int×B8)×M (M (Int×B8×B8×B8×O×B8))×Int×Int
abbrev azn:M PS:=[.one (.str),.one (.slice [.int .i64,.str]),.one (.slice [.int .u8])]
abbrev aCl:Type:=B8×M (Int×B8)×B8
abbrev aIo:M PS:=[.agg [.slice [.int .u8],.int .i64]]
abbrev ang:Type:=B8×Int
abbrev azo:M PS:=[.agg [.slice [.int .u8],.int .i64],.one (.int .i64)]
abbrev aCm:Type:=B8×Int×Int
abbrev anh:M PS:=[.one (.slice [.int .u8]),.one (.int .u8)]
abbrev ani:Type:=B8×UInt8
abbrev acE:M PS:=[.one (.slice [.int .i64]),.one (.slice [.int .i64]),.one (.int .i64)]
abbrev Đ:Type:=U×U×Int
abbrev KR:M PS:=[.one (.str),.one (.slice [.str]),.one (.slice [.slice [.int .i64]])]
abbrev Pw:Type:=B8×O×M U
abbrev acF:M PS:=[.one (.slice [.int .i64,.str]),.one (.slice [.str]),.one (.slice [.slice [.int .i64]])]
abbrev anj:Type:=M (Int×B8)×O×M U
abbrev azq:M PS:=[.agg [.int .i64,.int .i64,.int .i64,.str],.one (.str),.agg [.int .i64,.str,.str,.str,.slice [.str],.slice [.int .u8]]]
abbrev aCo:Type:=Int×Int×Int×B8×B8×Int×B8×B8×B8×O×B8
abbrev azr:M PS:=[.agg [.int .i64,.str,.slice [.int .i64,.int .i64,.int .i64,.str],.slice [.slice [.int .i64,.str,.str,.str,.slice [.str],.slice [.int .u8]]]],.one (.slice [.str])]
abbrev ank:Type:=Int×B8×M (Int×Int×Int×B8)×M (M (Int×B8×B8×B8×O×B8))×O
abbrev aZh:M PS:=[.one (.str),.one (.slice [.int .u8])]
abbrev aXT:Type:=B8×B8
end Go.J
namespace Go
open List (length getD take drop replicate)
open Int (toNat)
def q1(a:Int):Prop:=a<=9223372036854775807
def q2:Int:=-9223372036854775808
def q14(a:Bool)(b c:Prop):Prop:=(a->b)/\(a=false->c)
def pf(a:Bool)(b c d:Prop):Prop:=q14 a (b/\c) d
def q19(a:Nat):Prop:=a<=140737488355328
def fX(a b:Int):=Bool.not (decide (a=b))
def e6(a:B8):Int:=a.length
def cE(a b:Bool):=bif a then true else b
def yb(a:Bool)(b c d e:Prop):Prop:=pf a b c (d/\e)
def ir(a b:Bool):=bif a then b else false
def q34:=Prod B8 U
def q39(a:B8):Prop:=q19 a.length
def na(a:Int):Prop:=q2<=a/\q1 a
def q43(a b c:Nat):Prop:=S.ag a b<S.ag a c
def iy(a:Int):=a%4294967296
def uT(a b c:Int):Prop:=a<=b/\b<c
def bu(a:U):Int:=a.length
def ec(a:Prop):Prop:=True/\a
def q57(a:UInt8):=(S.cP (Vg.ur B8) (Vg.ur (Prod Int (Prod Int (M q34)))) [104,a,121]).1
def o8(a:UInt8):Int:=UInt8.toNat a
def q60(a:Int):=UInt8.ofNat (toNat a)
def ml(a:O):Int:=a.length
def lG(a b:Int):=a^toNat b
def q75(a:B8):Prop:=a.length<=35184372088832
def q76(a:O)(b:Nat):=getD a b []
def q77(a b c:Int)(d:Prop):Prop:=na a/\uT b a c/\d
def q79(a:Bool)(b:Prop):Prop:=q14 a True b
def q82(a:Nat):Prop:=a<=17592186044416
def HJ(a:Int)(b:Prop):Prop:=na (a+1)/\b
def qJ(a:Bool)(b c d e f:Prop):Prop:=yb a b c d (e/\f)
def q92(a:Int)(b:B8):=drop (toNat a) b
def Fi(a:Bool)(b c d:Int)(e f:Prop):Prop:=pf a (uT b c d) e f
def q97(a b:Int)(c:Bool):=ir (decide (a<=b)) c
def đ(a:Nat):Prop:=a<=8796093022208
def mY(a:O)(b:Int):=q76 a (toNat b)
def gl(a:Bool)(b c:Prop)(d:Int)(e:Prop):Prop:=yb a b c (na d) e
def aAu(a:Nat):Prop:=a<=5864062014805
def aPZ(a b:Int)(c:Bool):=cE (decide (a<b)) c
def sy:=Vg.ur UInt8
def aVf(a b:UInt8):=(S.cP (q57 a).1 (q57 a).2 [119,a,105,110,b,104,a,121]).1
def wH(a b:Bool):=cE a (Bool.not b)
def aL5(a b:Prop):Prop:=ec (a/\b)
def aQg(a b:Bool)(c:Prop):Prop:=q14 a (false=b) c
def aMc(a:Bool):Prop:=(a->True)/\(a=false->True)
def aHF(a:Int)(b:Nat):Prop:=toNat a<b
def aP6(a:Int):=a%18446744073709551616
def azH(a b:Int)(c:Bool):=ir (decide (a=b)) c
def wI(a:Int)(b:B8):=take (toNat a) b
def Cf(a b:UInt8):=(S.bY (aVf a b).1 (aVf a b).2).1
def aP7(a b c:Int):=Vg.eP (Vg.eP a b) c
def sB(a b:Nat)(c d:Prop)(e:Nat):Prop:=((a:Int)+1=b/\c)/\d/\q43 e b a
def PB(a b c:Bool):=cE a (cE b c)
def aNg(a:Bool)(b:Int)(c:U):=bif a then drop (toNat b) c else c
def wJ(a b:B8):Prop:=q19 (a.length+b.length)
def HN(a:Int):=q60 (a%256)
def aRX(a:Int):=140737488355328/a
def mv(a b c:Int):=q97 a b (decide (b<=c))
def Ch(a b:Int):=S.rotl a (-b)
def aL3(a:B8)(b:S.Wp):=a++S.bytesOf b
def aP8(a b:Int):Prop:=S.tu a (-b)
def az6(a b:Int)(c d:Prop)(e f g:Nat):Prop:=(a+1=b/\c)/\d/\S.ag e f<g
def aP9(a b:B8):=Bool.not (decide (a=b))
def aRF(a:Bool)(b c:Prop)(d:Bool)(e f g:Prop):Prop:=pf a b c (yb d b e f g)
def aJz(a b:Bool)(c:Int)(d:Prop):Prop:=aQg a b (HJ c d)
def yu(a:M U)(b:Nat):=getD a b []
def z7(a b:UInt8):=(S.fE (Cf a b).1 (Cf a b).2 S.fy).1
def aRY(a b:Nat)(c:Prop)(d:Nat):Prop:=sB a b c (S.cc b d) d
def aji(a b:Int)(c:Prop):Prop:=na a/\na b/\c
def aRZ(a:Int):=Bool.not (decide (a=a))
def aOo(a b:U):Prop:=q82 (a.length+b.length)
def HQ:=bu S.sa
def aSb(a:B8):Prop:=a.length<=1099511627776
def aSc(a:Nat):Prop:=a<=3518437208883
def YG(a b:U):Prop:=(bif Bool.not (S.bK a) then([]:U) else a)=b
def aSJ(a b c:Int):=aPZ a b (decide (c<a))
def ahP(a:Int):=fX a 0
def aSK(a b:B8):=Op.bytesLess a b||decide (a=b)
def Eg(a b:Int):Prop:=aHF a (toNat b)
def aQh(a:Bool)(b:Int)(c:Bool)(d e:Int):=bif a then b else bif c then d else e
def HR(a b:O):Prop:=đ (a.length+b.length)
def Eh(a:Int)(b:B8):=decide (a<e6 b)
def aQG(a:Bool)(b c d:Int):Prop:=pf a (b<=b/\b<c) (b<=d/\d<=c) True
def aJ8(a b:Nat)(c:Prop)(d:Nat):Prop:=(a:Int)+1=b/\c/\q43 d b a
def aFG:Prop:=[]=S.fy
def aLm(a:B8)(b:Nat):Prop:=q19 (a.length+b)
def ake(a:Int):=decide (a=0)
def aSd(a b:Bool)(c:Prop):Prop:=q79 a (ec (q79 b (ec c)))
def aSL(a:Int)(b:U):=a::a::a::a::a::a::a::a::a::a::a::a::a::a::a::a::b
def aGr(a:M (B8×U))(b:Int):=getD a (toNat b) ([],[])
def aQH(a b:Prop):Prop:=ec (aL5 a b)
def aR0(a:Bool)(b c:S.Wp):Prop:=S.rM a b=S.iG c
def aTy(a:B8):Prop:=a.length<1099511627776
def aKT(a b:Int):Prop:=0<=a/\a<=b
def aRG(a b:Bool)(c d:Int):=ir a (cE b (decide (c<=d)))
def aSM(a b c d e f g h:Int)(i:Prop):Prop:=uT a b c/\uT a d c/\uT a e c/\uT a f c/\uT a g c/\uT a h c/\i
def rj(a b:Int)(c:Prop):Prop:=a=a/\b=b/\c
def aOp(a:Int)(b:UInt8):=replicate (toNat a) b
def amK(a:M (Int×Int×Int×B8))(b c:Int):=getD a (toNat b) (c,c,c,[])
def aL7(a b:Int)(c:Prop):Prop:=uT 0 a b/\c
def sC(a b:Int)(c:Prop):Prop:=(0<=a/\a<=b)/\c
def aRH(a:Int):=Bool.not (S.cA a)
def aQR(a b:Bool)(c d e:Int):Prop:=q14 a (q79 b ((c<=c/\c<d)/\c<=c/\c<e)) True
def aSe(a:Nat)(b:B8):Prop:=q19 (a+b.length)
def aSN(a:Int):Prop:=a=a/\a=a/\S.fy=S.fy
def aJm(a:B8)(b:Int):=o8 (getD a (toNat b) 0)
def fF(a b c d:Int):=iy (a+aP7 (Vg.aM b c) (Vg.aM b d) (Vg.aM c d))
def aSp(a:Int):=getD S.sa (toNat a) a
def aSO(a b:M (M S.Pf)):Prop:=aAu (a.length+b.length)
def aSP(a b c:B8):Prop:=S.aC a/\S.small b/\S.sum b=c
def aSQ(a:O)(b:UInt8)(c:Nat)(d:B8):Prop:=S.oW a/\S.gM b a=S.oE c d
def aJ7(a:Int):=decide (0<a)
def aP0(a:B8):=fX (e6 a) 32
def aKd(a:U)(b:Int):=getD a (toNat b) 0
def aM3(a:Bool)(b c d e f g h i:Int):=(bif a then 1779033703 else b,bif a then 3144134277 else c,bif a then 1013904242 else d,bif a then 2773480762 else e,bif a then 1359893119 else f,bif a then 2600822924 else g,bif a then 528734635 else h,bif a then 1541459225 else i)
def aTz(a:M (Int×Int×B8)):Prop:=length S.kE1+a.length<=4398046511104
def aTA(a b c d:Int)(e f g:Nat)(h i:M U)(j:Int):Prop:=aji a b ((c<=b/\b<=d)/\q77 b c d (e<f/\uT c a d/\g<f/\aL5 (aAu (e+h.length)) (take e i++h=S.xo j i)))
def aSq(a:Int):=decide (a<128)
def aR1:=e6 (z7 97 32)-1
def aRI:Int:=((64:Nat):Int)
def aQl(a:Int):=decide (64<a)
def aSV(a b c:Int):=bif ir (ake a) (fX (S.vw S.kE b).1 (-c)) then c else a
def apn:Prop:=aHF aR1 (length (z7 97 32))
def aOt:Int×Int×Int×Int×Int×Int×Int×Int:=(1779033703,3144134277,1013904242,2773480762,1359893119,2600822924,528734635,1541459225)
def ahA(a:U)(b:Nat):=getD a b 0
def aOD(a:Nat)(b:Prop)(c:Nat):Prop:=((0:Int)=a/\b)/\S.cc a c
def aSW(a b c:Int):Prop:=q97 a b (ir (decide (b<c)) (decide (c<=1000)))=S.jO b c
def aKt(a:M (Int×B8))(b:Int):=getD a (toNat b) (0,[])
def aJn(a:U):=getD a (toNat 0) 0
def aNc(a:Int):=decide (0<=a)
def aKG:Int:=((8:Nat):Int)
def azV:=S.kA (S.mG (Cf 97 32).1 (Cf 97 32).2).1 S.fy (z7 97 32)
def Fq:Int:=((1:Nat):Int)
def aMd(a:B8)(b c:Int):=S.kQ a (S.af a b c).1.2.1 (S.af a b c).1.2.2
def Ĝ(a:B8):=S.bp a
def zO(a:B8)(b:M (Int×B8))(c:B8)(d:Nat):=Vg.bk.run (S.conds 27 3 c (Ĝ a).1.1 (Ĝ a).1.2.1 (Ĝ a).1.2.2.1 (Ĝ a).1.2.2.2 (S.ax b) d) (Vg.Z.g 27 3 (Vg.bk.Kj (toNat (ml (S.ax b)))))
def xy(a:B8)(b:Nat):=getD (Ĝ a).1.2.2.1 (toNat b) (0,0,0,[])
def vk(a:M (M (Int×B8×B8×B8×O×B8)))(b c:Int):=getD (getD a (toNat b) []) (toNat c) (0,[],[],[],[],[])
def nP(a:M (M (Int×B8×B8×B8×O×B8)))(b c:Int):=getD (getD a (toNat b) []) (toNat c) (0,[],[],[],[],[])
def sT(a:M (M (Int×B8×B8×B8×O×B8)))(b:Int)(c:B8)(d e:Int)(f:B8):=S.iI c b f ((nP a d e).1,(nP a d e).2.1,(nP a d e).2.2.1,(nP a d e).2.2.2.1,(nP a d e).2.2.2.2.1,(nP a d e).2.2.2.2.2)
def ĝ(a:B8)(b:Int)(c:Nat):=Vg.aM (aJm a (b+c)) 127*lG 2 (7*c)
def nQ(a:M (B8×U)):=a.length
def xz(a:M (B8×U))(b:Nat):=[S.fW (bif decide ((b:Int)<nQ a) then bif aJ7 b then(aGr a (b-1)).1 else [] else bif aJ7 b then(aGr a (b-1)).1 else []) (bif decide ((b:Int)<nQ a) then(aGr a b).1 else bif aJ7 b then [] else []) (S.aNO (bif aJ7 b then(aGr a (b-1)).2 else []))]
def vn(a:B8):=S.an (S.an a 0 0 64).1.1 (S.an a 0 0 64).1.2.1 (S.an a 0 0 64).1.2.2 64
def aQa(a:B8):=S.ar (vn a).1.1 (vn a).1.2.1 (vn a).1.2.2
def Ğ(a:M U):=a.length
def mL(a:M U):=a.length
def Vj(a:M U):=a.length
def aOu(a:B8):=S.ar a (S.af a 0 0).1.2.1 (S.af a 0 0).1.2.2
def aOw(a:B8)(b:Nat):=S.tC a (S.jJ a b).1.1 (S.jJ a b).1.2 (S.jJ a b).2.1
def aM4(a:B8):=(S.iw a).1
def aR2(a:Int):=Vg.aM (aP6 a) 31
def aNi(a:M (Int×Int×M (B8×U)))(b:Nat):=getD a (toNat b) (0,0,[])
def aR3(a:O)(b:M (Int×Int×M (B8×U)))(c:Nat):=getD (S.ao a b).2 (toNat c) (0,0,[])
def aOE(a:O)(b:M (Int×Int×M (B8×U)))(c:Nat):=(S.sJ (aR3 a b c).1 (aR3 a b c).2.1 (aR3 a b c).2.2).1
def aOX(a:M (Int×Int×M (B8×U)))(b:Nat):=getD a (toNat b) (0,0,[])
def aQm(a:U×U×U):=aRG (aJ7 (bu a.2.1)) (ake (bu a.1)) (aJn a.2.1) (aJn a.1)
def aQn(a:U×U×U):=aRG (aJ7 (bu a.1)) (ake (bu a.2.1)) (aJn a.1) (aJn a.2.1)
def aQo(a:U×U×U):=aRG (aJ7 (bu a.1)) (ake (bu a.2.1)) (aJn a.1) (aJn a.2.1)
def aQp(a:U×U×U):=aRG (aJ7 (bu a.2.1)) (ake (bu a.1)) (aJn a.2.1) (aJn a.1)
def aQq(a:U×U×U):=aRG (aJ7 (bu a.2.1)) (ake (bu a.1)) (aJn a.2.1) (aJn a.1)
def aQr(a:U×U×U):=aRG (aJ7 (bu a.1)) (ake (bu a.2.1)) (aJn a.1) (aJn a.2.1)
def aQs(a:U×U):=ir (decide (0<HQ)) (cE (ake (bu a.1)) (decide (aSp 0<=aJn a.1)))
def aQt(a:U×U):=aRG (aJ7 (bu a.1)) (ake HQ) (aJn a.1) (aSp 0)
def aQ2(a:O):=S.root (S.leaves a)
def aQ3(a:O):=S.root (S.leaves a)
def aXW(a:M (Int×B8))(b:Nat):=cE (aP9 (aKt a b).2 []) (decide (S.gw a b<2))
def aMe(a:Nat):=toNat a
def aOY(a:B8)(b:Nat×Nat):=S.BX a b.2 b.1
def aMX(a:B8)(b:Nat×Nat):=S.iF a (aOY a b).1.1 (aOY a b).1.2
def aLY(a:B8):=(S.aH a).2
def aM5(a:M (M (Int×B8×B8×B8×O×B8)))(b:Nat)(c:Nat×Nat):=getD (getD a (toNat b) []) (toNat c.1) (0,[],[],[],[],[])
def aM6(a:M (M (Int×B8×B8×B8×O×B8)))(b:Nat)(c:Nat×Nat):=getD (getD a (toNat b) []) (toNat c.1) (0,[],[],[],[],[])
def aMg(a:B8):=S.tail a (S.pO a)
def aMY(a:B8)(b:Nat):=S.eV (S.proc S.H0 (aMg a) b)
def aSX(a:B8)(b c:Nat):=[HN (ahA (aMY a b) (toNat c)/16777216),HN (ahA (aMY a b) (toNat c)/65536%256),HN (ahA (aMY a b) (toNat c)/256%256),HN (ahA (aMY a b) (toNat c)%256)]
def ajr(a:U):=S.Ai a
def ahB(a:B8):=S.sched a 64
def aSY(a:U)(b:B8)(c:Nat):=iy (iy (iy (iy ((S.aL (ahB b) (ajr a) c).2.2.2.2.2.2.2+aP7 (S.right (S.aL (ahB b) (ajr a) c).2.2.2.2.1 6) (S.right (S.aL (ahB b) (ajr a) c).2.2.2.2.1 11) (S.right (S.aL (ahB b) (ajr a) c).2.2.2.2.1 25))+Vg.eP (Vg.aM (S.aL (ahB b) (ajr a) c).2.2.2.2.1 (S.aL (ahB b) (ajr a) c).2.2.2.2.2.1) (Vg.aM (Vg.eP 4294967295 (S.aL (ahB b) (ajr a) c).2.2.2.2.1) (S.aL (ahB b) (ajr a) c).2.2.2.2.2.2.1))+getD S.xU (toNat c) 0)+getD (ahB b) (toNat c) 0)
def aQu(a:Nat):=toNat (a-2)
def aMf(a:B8)(b:Nat):=length (S.sched a b)
def aSZ(a:B8)(b:Nat):=[iy (iy (iy (iy (aJm a ((4*b:Nat):Int)*16777216)+iy (aJm a (((4*b:Nat):Int)+1)*65536))+iy (aJm a (((4*b:Nat):Int)+2)*256))+aJm a (((4*b:Nat):Int)+3))]
def aQv(a:Nat):=toNat (a-15)
def aS0(a:B8)(b:Nat):=[iy (iy (iy (getD (S.sched a b) (toNat (b-16)) 0+aP7 (S.right (ahA (S.sched a b) (aQv b)) 7) (S.right (ahA (S.sched a b) (aQv b)) 18) (ahA (S.sched a b) (aQv b)/lG 2 3))+getD (S.sched a b) (toNat (b-7)) 0)+aP7 (S.right (ahA (S.sched a b) (aQu b)) 17) (S.right (ahA (S.sched a b) (aQu b)) 19) (ahA (S.sched a b) (aQu b)/lG 2 10))]
def aOf(a:B8):=a.length
def aQw(a:B8)(b:Nat×Nat):=S.xc (drop b.2 a) b.1
def aOg(a:Nat×U):=toNat a.1
def aS1(a:Int):=ir (decide (57343<a)) (decide (a<1114112))
def aO3(a:B8):=length (S.decode a)
def aO4(a:O×O):=length a.1
def aQx(a:O):=take (toNat (ml a-1)) a
def aQy(a b:U)(c:Int)(d:Nat):=azH c 2 (ir (S.re (S.vv a) d) (Bool.not (S.re (S.vv b) d)))
def aNj(a:B8)(b:Nat×Int×Int×U):=S.first (q92 b.2.1 a)
def aOh(a:B8):=S.aq a 64
def aO8(a:B8):=S.aq (q92 (aOh a).2.1 a) 64
def aNd(a:M (Int×Int×Int×B8)):Int:=a.length
def apO(a:B8)(b:Nat):=S.cw a (S.ix a) b
def aQz(a:B8):=S.first (drop (toNat ((S.first a).2.1+32)) a)
def aL9(a:B8):=S.first (q92 (S.first a).2.1 a)
def aXX(a:M (Int×B8)):Int:=a.length
def aMI(a:M (Int×B8)):=a.length
def aR4(a:M (Int×B8)):=getD a (toNat (aMI a-1)) (0,[])
def aQA(a:B8):=S.e9 (S.gQ a 1).1 (S.gQ a 1).2
def aLZ(a:B8):=(S.uH a).2
def azX(a:B8)(b:Nat×Nat):=S.uRw a b.2 b.1
def aOx(a:B8)(b:Int):=S.iq a b 10000
def aL1(a:B8)(b:Int):=S.iq (S.gD a b).1.1 (S.gD a b).1.2 200
def aOi(a:M (Int×Int×Int×B8))(b:Nat×Nat):=getD a (toNat b.1) (0,0,0,[])
def aL6(a:M (M (Int×B8×B8×B8×O×B8)))(b:Nat)(c:Nat×Nat):=getD (getD a (toNat c.1) []) (toNat b) (0,[],[],[],[],[])
def aM7(a:B8)(b:Int)(c:B8):=cE (Bool.not (S.qo c b)) (decide (1099511627776-b<a.length))
def aMZ(a:B8)(b:Int)(c:B8):=bif aM7 a b c then [] else c
def aMV(a:Int)(b:B8):=Bool.not (S.qo b a)
def aO9(a b c d e f g h i:Int)(j:B8)(k l:Nat):=aKd [(S.aI (aM3 (aMV a j) b c d e f g h i) (S.jX j a k)).1,(S.aI (aM3 (aMV a j) b c d e f g h i) (S.jX j a k)).2.1,(S.aI (aM3 (aMV a j) b c d e f g h i) (S.jX j a k)).2.2.1,(S.aI (aM3 (aMV a j) b c d e f g h i) (S.jX j a k)).2.2.2.1,(S.aI (aM3 (aMV a j) b c d e f g h i) (S.jX j a k)).2.2.2.2.1,(S.aI (aM3 (aMV a j) b c d e f g h i) (S.jX j a k)).2.2.2.2.2.1,(S.aI (aM3 (aMV a j) b c d e f g h i) (S.jX j a k)).2.2.2.2.2.2.1,(S.aI (aM3 (aMV a j) b c d e f g h i) (S.jX j a k)).2.2.2.2.2.2.2] l
def aS2(a:B8):=((S.aI aOt a).1,(S.aI aOt a).2.1,(S.aI aOt a).2.2.1,(S.aI aOt a).2.2.2.1,(S.aI aOt a).2.2.2.2.1,(S.aI aOt a).2.2.2.2.2.1,(S.aI aOt a).2.2.2.2.2.2.1,(S.aI aOt a).2.2.2.2.2.2.2)
def afX(a:B8):=S.sched a 64
def aQB(a:Nat):=0+toNat (a-15)*1
def aQC(a:Nat):=0+toNat (a-2)*1
def aPP(a:Int×Int):=aP6 (a.1+a.2)/lG 2 1
def aOy(a:Nat×Nat×O×Nat):=toNat a.1
def aOj(a:Nat×Nat×O×Nat):=length a.2.2.1
def aS3(a:Nat×Nat×O×Nat):=take (aOy a) a.2.2.1++replicate (aOj a-aOy a) sy++drop (aOy a+(aOj a-aOy a)) a.2.2.1
def aMh(a:Nat):=toNat a
def aNk(a:O):=a.length
def aOk(a:Nat×Nat×O×Nat):=length a.2.2.1
def aMy(a:Nat):=toNat a
def aOz(a:Nat×Nat×O×Nat):=toNat a.1
def aS4(a:Nat×Nat×O×Nat):=take (aOz a) a.2.2.1++replicate (aOk a-aOz a) sy++drop (aOz a+(aOk a-aOz a)) a.2.2.1
def aNl(a:O):=a.length
def aR5(a:U)(b:Nat×B8):=S.iU (S.bT (aKd a b.1))
def aL8(a:O):=a.length
def aS5(a:O):=List.set a (toNat (aL8 a-2)) (S.aT (q76 a (toNat (aL8 a-2))) (q76 a (toNat (aL8 a-2+1))))
def aSy(a:Int):=[q60 (o8 (S.more a))]
def aRx(a:B8):=q92 1 (wI 2 a)
def aRy(a:B8):=q92 1 (wI 3 a)
def aRz(a:B8):=q92 1 (wI 4 a)
theorem aE {p q:Prop}(h:q)(e:p=q:=by(try delta q1 q2 q14 pf q19 fX e6 cE yb ir q34 q39 na q43 iy uT bu ec q57 o8 q60 ml lG q75 q76 q77 q79 q82 HJ qJ q92 Fi q97 đ mY gl aAu aPZ sy aVf wH aL5 aQg aMc aHF aP6 azH wI Cf aP7 sB PB aNg wJ HN aRX mv Ch aL3 aP8 az6 aP9 aRF aJz yu z7 aRY aji aRZ aOo HQ aSb aSc YG aSJ ahP aSK Eg aQh HR Eh aQG aJ8 aFG aLm ake aSd aSL aGr aQH aR0 aTy aKT aRG aSM rj aOp amK aL7 sC aRH aQR aSe aSN aJm fF aSp aSO aSP aSQ aJ7 aP0 aKd aM3 aTz aTA aSq aR1 aRI aQl aSV apn aOt ahA aOD aSW aKt aJn aNc aKG azV Fq aMd Ĝ zO xy vk nP sT ĝ nQ xz vn aQa Ğ mL Vj aOu aOw aM4 aR2 aNi aR3 aOE aOX aQm aQn aQo aQp aQq aQr aQs aQt aQ2 aQ3 aXW aMe aOY aMX aLY aM5 aM6 aMg aMY aSX ajr ahB aSY aQu aMf aSZ aQv aS0 aOf aQw aOg aS1 aO3 aO4 aQx aQy aNj aOh aO8 aNd apO aQz aL9 aXX aMI aR4 aQA aLZ azX aOx aL1 aOi aL6 aM7 aMZ aMV aO9 aS2 afX aQB aQC aPP aOy aOj aS3 aMh aNk aOk aMy aOz aS4 aNl aR5 aL8 aS5 aSy aRx aRy aRz);exact rfl):p:=e.mpr h
end Go
