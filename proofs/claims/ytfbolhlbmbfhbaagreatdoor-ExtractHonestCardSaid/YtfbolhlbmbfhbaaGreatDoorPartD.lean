import Derived.Test.YtfbolhlbmbfhbaaGreatDoorPartC
import Derived.Lib.LaidTab
import Derived.Test.YtfbolhlbmbfhbaaGreatDoorProg
import Derived.WalkKit
set_option linter.all false
namespace Go.S
def WG(m n:Int):M Bool:=if h:n<=m\/n<2 then [] else if m<=((sp n.toNat:Nat):Int) then false ::WG m ((sp n.toNat:Nat):Int) else true ::WG (m-((sp n.toNat:Nat):Int)) (n-((sp n.toNat:Nat):Int))
termination_by n.toNat
decreasing_by
 have:=iY (n:=n.toNat) w!;omega;have:=iY (n:=n.toNat) w!;omega
def ajH(l:O)(m:Int)(p:Bool):O:=
 if(l.length:Int)=m then(if p then [root l] else [])
 else if h:l.length<2 then []
 else if m<=((sp l.length:Nat):Int) then ajH (l.take (sp l.length)) m p++[root (l.drop (sp l.length))]
 else ajH (l.drop (sp l.length)) (m-((sp l.length:Nat):Int)) true++[root (l.take (sp l.length))]
termination_by l.length
decreasing_by
 have:=iY (n:=l.length) w!;rw[C?];omega;have:=iY (n:=l.length) w!;rw[N?];omega
def ajK(l:O)(m:Int):O:=if cP l=true/\0<=m/\m<=l.length then(if m=0 then [] else ajH l m false) else []
def aUY(l:O)(m:Int):Int:=if cP l=true/\0<=m/\m<=l.length then 0 else 1
def aUU(l:O)(m:Int):Prop:=eW l/\1<=m/\m<=l.length
def aNo(r:B8×B8)(x:Bool×B8):B8×B8:=if x.1 then(bz x.2 r.1,bz x.2 r.2) else(r.1,bz r.2 x.2)
def avL(s:M Bool)(r:B8×B8)(p:O):B8×B8:=(List.zip s.reverse p).foldl aNo r
def aNp(o t:B8)(s:M Bool)(r:B8×B8)(p:O):Bool:=decide (p.length=s.length)&&decide (avL s r p=(o,t))
def aNq(s:M Bool)(o t:B8)(p:O):Bool:=decide (1<=p.length)&&aNp o t s (p.getD 0 [],p.getD 0 []) (p.drop 1)
def avM(m:Int):Bool:=decide (Vg.aT m (m-1)=0)
def accepted(m n:Int)(o t:B8)(p:O):Bool:=
 if m=0 then decide (p.length=0)&&decide (o=sum [])
 else if m=n then decide (p.length=0)&&decide (o=t)
 else aNq (WG m n) o t (if avM m then o::p else p)
def J7(m n:Int)(o t:B8)(p:O):Int:=
 if m<0\/n<m\/1099511627776<n\/(o.length:Int)≠32\/(t.length:Int)≠32 then 1 else if cP p=true/\accepted m n o t p=true then 0 else 6
def strip(i j:Nat):Nat×Nat:=if h:i%2=1 then strip (i/2) (j/2) else(i,j)
termination_by i
def atF(i j:Int)(o t:B8)(p:O):Bool:=aNq (cq ((strip i.toNat j.toNat).1:Int) ((strip i.toNat j.toNat).2+1:Int)) o t p
def at5(i j:Int)(p:O):Prop:=0<=i/\i<j/\1<=p.length/\j<1099511627776
variable {m i v a p1 e:Int}{n j t:Nat}{l p5 docs ts:List B8}{p:Bool}{d:List bw}{P R g b p6:B8}{s:List Sg}{c:UInt8}{x:Int×Int×List Bool}{r:List Int}{f:List (List Int)}
theorem aPZ {n:Int}(h:n<=m\/n<2):WG m n=[]:=by rw[WG,dif_pos h]
theorem aMs {n:Int}(h:2<=n)(H:m<n)(hi:m<=((sp n.toNat:Nat):Int)):WG m n=false ::WG m ((sp n.toNat:Nat):Int):=by rw[WG,dif_neg w!,Q! hi]
theorem aP0 {n:Int}(h:2<=n)(H:m<n)(hi:¬m<=((sp n.toNat:Nat):Int)):WG m n=true ::WG (m-((sp n.toNat:Nat):Int)) (n-((sp n.toNat:Nat):Int)):=by rw[WG,dif_neg w!,R! hi]
theorem aSI(h:3<=n):sp n=2*sp ((n+1)/2):=by
 unfold sp;have e:((n+1)/2-1)=(n-1)/2:=by omega
 have h1:2<=n-1:=by omega
 rw[e,Nat.log2_def,Q! h1,v?];omega
theorem aSJ:sp 2=1:=by decide
def aP2(i n:Int):M Bool:=if i%2=1 then [true] else if i<n-1 then [false] else []
theorem aSK(n:Nat):∀i:Int,0<=i->i<n->2<=n->cq i n=cq (i/2) ((n+1)/2:Int)++aP2 i n:=by
 induction n using Nat.strongRecOn with
 |_ n I=>
  intro i o B C;by_cases u:n=2;subst u;have w:(((2:Nat):Int)+1)/2=1:=by decide
  rw[w,wo (show(1:Int)<2 by omega)];rcases(by omega :i=0\/i=1) with h|h;subst h;rw[zn w! (by rw[E?,aSJ];omega),E?,aSJ,wo w!];rfl;subst h;rw[zo w! (by rw[E?,aSJ];omega),E?,aSJ,wo w!];rfl;have D:=aSI (n:=n) w!;have F:=iY (n:=n) w!;have y:(((n:Nat):Int)+1)/2=(((n+1)/2:Nat):Int):=by omega
  rw[y];by_cases H:i<((sp n:Nat):Int);rw[zn (n:=(n:Int)) w! (by exact H),zn (n:=(((n+1)/2:Nat):Int)) w! (by rw[E?];omega)];rw[E?,E?];have:=I (sp n) w! i o H w!;rw[this,k?];have z:(((sp n:Nat):Int)+1)/2=((sp ((n+1)/2):Nat):Int):=by omega
  rw[z];unfold aP2;split;rfl;rw[if_pos w!,if_pos w!];rw[zo (n:=(n:Int)) w! (by exact H),zo (n:=(((n+1)/2:Nat):Int)) w! (by rw[Int.toNat_natCast];omega)];rw[Int.toNat_natCast,Int.toNat_natCast];have A:(n:Int)-((sp n:Nat):Int)=((n-sp n:Nat):Int):=by omega
  have e:i/2-((sp ((n+1)/2):Nat):Int)=(i-((sp n:Nat):Int))/2:=by omega
  have E:(((n+1)/2:Nat):Int)-((sp ((n+1)/2):Nat):Int)=(((n-sp n:Nat):Int)+1)/2:=by omega
  have el:aP2 i n=aP2 (i-((sp n:Nat):Int)) ((n-sp n:Nat):Int):=by
   unfold aP2;by_cases q:i%2=1;rw[if_pos q,if_pos w!];have Q:¬(i-((sp n:Nat):Int))%2=1:=by omega
   rw[R! q,R! Q];by_cases q2:i<(n:Int)-1;rw[Q! q2,Q! w!];rw[R! q2,R! w!]
  rw[A,e,E,el,k?];congr 1
  by_cases k:n-sp n=1;rw[k];have :i-((sp n:Nat):Int)=0:=by omega
  rw[this,wo w!,wo (by decide)];rfl;exact I (n-sp n) w! _ w! w! w!
theorem aSj(n:Nat):∀m:Int,1<=m->m<n->2<=n->WG m n=if m%2=1 then cq (m-1) n else WG (m/2) (((n+1)/2:Nat):Int):=by
 induction n using Nat.strongRecOn with
 |_ n i=>
  intro m h h1 H;by_cases k:n=2;have :m=1:=by omega
  simp_all[Q!,aMs,E?,aSJ,aPZ,zn,wo]
  have o:=aSI (n:=n) w!;have q:=iY (n:=n) w!;by_cases u:m<=((sp n:Nat):Int);rw[aMs (n:=(n:Int)) w! h1 x!,Int.toNat_natCast];by_cases hm:m%2=1;rw[if_pos hm,zn (n:=(n:Int)) w! x!,Int.toNat_natCast];grind;rw[if_neg hm,aMs (n:=(((n+1)/2:Nat):Int)) w! w! x!,Int.toNat_natCast];grind[aPZ];rw[aP0 (n:=(n:Int)) w! h1 x!,Int.toNat_natCast];have e:(n:Int)-((sp n:Nat):Int)=((n-sp n:Nat):Int):=by omega
  have:=i (n-sp n) w! (m-((sp n:Nat):Int)) w! w! w!;rw[e,this];by_cases hm:m%2=1;rw[if_pos hm,if_pos w!,zo (n:=(n:Int)) w! x!,Int.toNat_natCast,e];grind;rw[if_neg hm,if_neg w!,aP0 (n:=(((n+1)/2:Nat):Int)) w! w! x!,Int.toNat_natCast];grind
theorem aQU {i:Nat}(h:i%2=1):strip i j=strip (i/2) (j/2):=by rw[strip,dif_pos h]
theorem aQC {i:Nat}(h:¬i%2=1):strip i j=(i,j):=by rw[strip,dif_neg h]
theorem aRK(i:Nat):∀j:Nat,i<j->WG ((i:Int)+1) ((j:Int)+1)=cq ((strip i j).1:Int) ((strip i j).2+1:Int):=by
 induction i using Nat.strongRecOn with
 |_ i I=>
  intro j h;have e:(j:Int)+1=((j+1:Nat):Int):=by omega
  rw[e,aSj (j+1) _ w! w! w!];by_cases hi:i%2=1;rw[if_neg w!,aQU hi];grind;rw[if_pos w!,aQC hi];grind
def Qq(l:O):O:=l.reverse
theorem avN(h:2<=n):n<=2*sp n:=by
 have:=Nat.lt_log2_self (n:=n-1);grind[sp,Nat.pow_succ]
theorem Ä(h:2<=n)(H:n<=2^(t+1)):sp n<=2^t/\n-sp n<=2^t:=by
 have k:=iY h;have o:=avN h
 have :sp n<=2^t:=by
  unfold sp at *;have :2^Nat.log2 (n-1)<2^(t+1):=by omega
  grind[Nat.pow_lt_pow_iff_right]
 omega
theorem Ku:∀(t n:Nat) (i:Int),0<=i->i<n->n<=2^t->(cq i n).length<=t
 |0,n,i,k,h1,h=>by grind[wo]
 |t+1,n,i,k,h1,h=>by
  by_cases q:2<=n;have o:=Ä q h;by_cases H:i<((sp n:Nat));rw[zn w! (by exact H),E?];have:=Ku t _ i k H o.1;simp;omega
  rw[zo w! (by exact H),E?];have:=Ku t _ (i-((sp n:Nat))) w! w! o.2;rw[Int.natCast_sub w!] at this;simp;omega
  grind[wo]
theorem apP(H:0<=i)(k:i<l.length)(h:l.length<=2^t):(path l i).length<=t:=by
 rw[alw _ l i rfl];simp_all[Ku]
theorem ny(h:cP l=true)(k:Nat):cP (l.take k)=true:=(cQ _).2 λd H=>(cQ l).1 h d (List.mem_of_mem_take H)
theorem nz(h:cP l=true)(k:Nat):cP (l.drop k)=true:=(cQ _).2 λd H=>(cQ l).1 h d (List.mem_of_mem_drop H)
theorem Qr{d:B8}(h:cP l=true)(H:d.length=32):cP (l++[d])=true:=
 (cQ _).2 λx k=>by
   grind[cQ,List.mem_singleton]
theorem aal(n:Nat):∀(l:O) (i:Int),l.length=n->cP l=true->cP (path l i)=true:=by
 refine wu (C:=λn=>∀(l:M _) (i:Int),l.length=n->cP l=true->cP (path l i)=true) ?_ ?_ n;intro n h l i e _;rw[WC w!];rfl;intro n h H k l i e o;have q:=iY h;by_cases u:i<((sp l.length));grind[WD,Qr,ny,uD,nz,List.length_take];grind[WE,Qr,nz,uD,ny,List.length_drop]
theorem aWu {l:O}(h:(l.length:Int)=m):ajH l m p=if p then [root l] else []:=by rw[ajH,Q! h]
theorem aZy {l:O}(h:¬(l.length:Int)=m)(k:2<=l.length)(H:m<=((sp l.length:Nat):Int)):ajH l m p=ajH (l.take (sp l.length)) m p++[root (l.drop (sp l.length))]:=by
 rw[ajH,R! h,dif_neg w!,Q! H]
theorem aZz {l:O}(h:¬(l.length:Int)=m)(k:2<=l.length)(H:¬m<=((sp l.length:Nat):Int)):ajH l m p=ajH (l.drop (sp l.length)) (m-((sp l.length:Nat):Int)) true++[root (l.take (sp l.length))]:=by
 rw[ajH,R! h,dif_neg w!,R! H]
theorem aVr:∀(t:Nat) (l:O) (m:Int) (p:Bool),cP l=true->l.length<=2^t->cP (ajH l m p)=true/\(ajH l m p).length<=t+1
 |t,l,m,p,hd,o=>by
  by_cases h:(l.length:Int)=m;rw[aWu h];cases p;exact⟨rfl,S! _⟩;exact⟨Qr (l:=[]) rfl (uD hd),z!⟩
  . by_cases H:2<=l.length
    . cases t with
      |zero=>omega
      |succ t=>
       have q:=Ä H o;by_cases k:m<=((sp l.length:Nat):Int);rw[aZy h H k];have i:=aVr t (l.take (sp l.length)) m p (ny hd _) x!;grind[Qr,uD,nz,List.length_append,List.length_singleton];rw[aZz h H k];have i:=aVr t (l.drop (sp l.length)) (m-((sp l.length:Nat):Int)) true (nz hd _) x!;grind[Qr,uD,ny,List.length_append,List.length_singleton]
    rw[ajH,R! h,dif_pos w!];exact⟨rfl,S! _⟩
theorem zp(h:2<=l.length)(H:l.length<=1099511627776):split l.length=((sp l.length:Nat):Int):=by
 grind[Aw,Int.toNat_natCast]
theorem aNr(h:cP l=true)(H:0<=i)(k:i<l.length):gD l i (l,i,[]):=
 ⟨h,M! _,H,k,z!,z!⟩
theorem aNs {m a:O}{j:Int}(h:gD l i (m,j,a))(H:2<=m.length)(o:j<((sp m.length:Nat):Int)):
  gD l i (m.take (sp m.length),j,a++[root (m.drop (sp m.length))]):=by
 obtain⟨A,q,k,u,w,y⟩:=h;have z:=iY H;refine⟨ny A _,?_,k,?_,?_,?_⟩;grind;grind;grind[WD,List.reverse_append];grind
theorem aNt {m a:O}{j:Int}(h:gD l i (m,j,a))(H:2<=m.length)(k:¬j<((sp m.length:Nat):Int)):
  gD l i (m.drop (sp m.length),j-((sp m.length:Nat):Int),a++[root (m.take (sp m.length))]):=by
 obtain⟨A,o,q,u,w,y⟩:=h;have z:=iY H;refine⟨nz A _,?_,x!,?_,?_,?_⟩;grind;grind;grind[WE,List.reverse_append];grind
theorem avO {m a:O}{j:Int}(h:gD l i (m,j,a))(H:¬1<(m.length:Int)):Qq a=path l i:=by
 have:=h.2.2.2.2.1;grind[Qq,WC]
def alx(l:O)(i:Int):Prop:=eW l/\0<=i/\i<l.length
theorem aGL {l:O}(h:cP l=false\/i<0\/(l.length:Int)<=i): []=oz l i/\1=tF l i:=by
 grind[cP,oz,tF]
theorem avP {l:O}(h:cP l=true/\¬i<0/\¬(l.length:Int)<=i):oz l i=path l i/\tF l i=0:=by
 grind[cP,oz,tF]
theorem I1{x:O×Int×O}(H:l.length<=1099511627776)(h:gD l i x)(k:1<(x.1.length:Int)):
  (0<=split x.1.length/\split x.1.length<=x.1.length/\ -9223372036854775808<=x.2.1-split x.1.length/\x.2.1-split x.1.length<=9223372036854775807)/\
  eW (x.1.take (split x.1.length).toNat)/\eW (x.1.drop (split x.1.length).toNat)/\(∀d:B8,x.2.2.length+[d].length<=8796093022208)/\
  len (x.1.take (split x.1.length).toNat)<len x.1/\len (x.1.drop (split x.1.length).toNat)<len x.1:=by
 have⟨a,A,o,q,u,w⟩:=h;have y:=iY (n:=x.1.length) w!;rw[zp w! w!,Int.toNat_natCast];refine⟨w!,⟨ny a _,x!⟩,⟨nz a _,x!⟩,λd=>by grind,?_,?_⟩;grind[len,List.length_take];grind[len,List.length_drop]
theorem aGM{x:O×Int×O}(H:l.length<=1099511627776)(h:gD l i x)(k:1<(x.1.length:Int))(o:x.2.1<split x.1.length):
  gD l i (x.1.take (split x.1.length).toNat,x.2.1,x.2.2++[root (x.1.drop (split x.1.length).toNat)]):=by
 have:=h.2.1;grind[zp,Int.toNat_natCast,aNs]
theorem aGN{x:O×Int×O}(k:l.length<=1099511627776)(h:gD l i x)(o:1<(x.1.length:Int))(H:¬x.2.1<split x.1.length):
  gD l i (x.1.drop (split x.1.length).toNat,x.2.1-split x.1.length,x.2.2++[root (x.1.take (split x.1.length).toNat)]):=by
 have:=h.2.1;rw[zp w! w!] at H |-;exact aNt h w! H
theorem aGO{x:O×Int×O}(H:l.length<=1099511627776)(h:gD l i x):small x.2.2:=by
 have:=h.2.2.2.2.2;grind[small]
theorem avQ {l:O}{x:O×Int×O}(H:cP l=true/\¬i<0/\¬(l.length:Int)<=i)(h:gD l i x)(k:¬1<(x.1.length:Int)):Qq x.2.2=oz l i/\0=tF l i:=by
 grind[avP,avO]
theorem aly {l:O}(h:cP l=true/\¬i<0/\¬(l.length:Int)<=i):gD l i (l,i,[]):=aNr h.1 w! w!
variable {n:Int}{t:B8}{p:List B8}
theorem aVP {l:O}(o:aUU l n)(h:¬n=(l.length:Int)):
  (0<=split l.length/\split l.length<=l.length/\ -9223372036854775808<=n-split l.length/\n-split l.length<=9223372036854775807)/\
  (eW (l.take (split l.length).toNat)/\eW (l.drop (split l.length).toNat)/\small (l.take (split l.length).toNat)/\small (l.drop (split l.length).toNat))/\
  (∀(p:Bool) (d:B8),(ajH (l.take (split l.length).toNat) n p).length+[d].length<=8796093022208)/\(∀(p:Bool) (d:B8),(ajH (l.drop (split l.length).toNat) (n-split l.length) p).length+[d].length<=8796093022208)/\
  (len (l.take (split l.length).toNat)<len l/\len (l.drop (split l.length).toNat)<len l)/\
  (n<=split l.length->aUU (l.take (split l.length).toNat) n/\∀p,ajH (l.take (split l.length).toNat) n p++[root (l.drop (split l.length).toNat)]=ajH l n p)/\
  (¬n<=split l.length->aUU (l.drop (split l.length).toNat) (n-split l.length)/\∀p,ajH (l.drop (split l.length).toNat) (n-split l.length) true++[root (l.take (split l.length).toNat)]=ajH l n p)/\
  (kI (l.take (split l.length).toNat)=root (l.take (split l.length).toNat)/\kI (l.drop (split l.length).toNat)=root (l.drop (split l.length).toNat)):=by
 have⟨⟨a,A⟩,q,u⟩:=o;have w:=iY (n:=l.length) w!;rw[zp w! w!,Int.toNat_natCast];have L:(l.take (sp l.length)).length=sp l.length:=by grind
 have y:(l.drop _).length=l.length-sp l.length:=List.length_drop;have D:=ny a (sp l.length);have k:=nz a (sp l.length);refine⟨w!,⟨⟨D,w!⟩,⟨k,w!⟩,by grind[small],by grind[small]⟩,λp d=>?_,λp d=>?_,⟨by grind[len],by grind[len]⟩,λH=>?_,λH=>?_,by grind[kI]⟩;have:=(aVr 40 _ n p D w!).2;grind;have:=(aVr 40 _ (n-((sp l.length:Nat))) p k w!).2;grind;exact⟨⟨⟨D,w!⟩,w!,w!⟩,λp=>(aZy w! w! H).symm⟩;exact⟨⟨⟨k,w!⟩,w!,w!⟩,λp=>(aZz w! w! H).symm⟩
theorem a8O {l:O}(h:¬yk l=0\/m<0\/(l.length:Int)<m): []=ajK l m/\1=aUY l m:=by
 grind[cP,yk,ajK,aUY]
theorem a6H {l:O}(H:l.length<=1099511627776)(h:yk l=0/\¬m<0/\¬(l.length:Int)<m):aUY l m=0/\(m=0->ajK l m=[])/\(¬m=0->aUU l m/\ajH l m false=ajK l m):=by
 have k:cP l=true:=by
  grind[cP,yk]
 have q:cP l=true/\0<=m/\m<=l.length:=by simp_all
 unfold ajK aUY;rw[if_pos q,if_pos q];exact⟨rfl,λh=>if_pos h,λh=>⟨⟨⟨k,H⟩,w!,w!⟩,x!⟩⟩
abbrev Pf:=Int×B8×B8×B8×O×B8
def aod(d:M bw)(t:B8):Pf:=
 (bo d t+1,(bg (apB d (bo d t+1).toNat)).1.1,(bg (apB d (bo d t+1).toNat)).1.2.1,(bg (apB d (bo d t+1).toNat)).1.2.2,path (leaves (dW d)) (bo d t+1),if fE d t then iH (dN d t) else [])
def aSL:Pf:=(0,[],[],[],[],[])
def wv(d:M bw)(t:B8):Pf×Int:=if aK d&&isTerm t then(aod d t,0) else(aSL,1)
theorem afa(h:dE d≠0\/isTerm t=false):wv d t=(aSL,1):=by
 grind[wv,dE,aK]
theorem Qs(h:aK d=true)(H:isTerm t=true):wv d t=(aod d t,0):=by
 grind[wv]
theorem Å(h:aK d=true):0<=bo d t+1/\bo d t+1<=d.length/\(dW d).length=d.length+1:=by
 have:=IL (d:=d) (t:=t) d.length;unfold bo;grind[dW,eM]
theorem alz(d:M bw)(H:0<=i)(h:i<=d.length):(dW d).getD i.toNat []=apB d i.toNat:=by
 grind[dW,eM]
theorem Æ(H:aW d)(h:aK d=true)(t:B8):
  (0<=bo d t+1/\bo d t+1<=1048576/\bo d t+1<(bn d).length/\(bo d t+1).toNat<(bn d).length)/\((bn d).getD (bo d t+1).toNat []).length<=140737488355328/\dj (bn d)/\eX (leaves (bn d))/\alx (leaves (bn d)) (bo d t+1)/\
  (bn d).getD (bo d t+1).toNat []=apB d (bo d t+1).toNat/\oz (leaves (bn d)) (bo d t+1)=path (leaves (dW d)) (bo d t+1)/\bn d=dW d:=by
 obtain⟨f,F,w⟩:=Å (t:=t) h;have e:bn d=dW d:=by grind[bn]
 have y:=H.1;have o:(leaves (dW d)).length=d.length+1:=by grind[leaves]
 have u:=alz d f F;rw[e];refine⟨w!,?_,(kK H h).1,by grind[eX],⟨(kK H h).2,f,w!⟩,u,?_,rfl⟩;rcases wa h (k:=(bo d t+1).toNat) with q|q;grind[Ay,apB];omega;have q:cP (leaves (dW d))=true/\0<=bo d t+1/\bo d t+1<(leaves (dW d)).length:=⟨(kK H h).2.1,f,w!⟩;simp_all[oz,if_pos]
theorem aGP(H:aW d)(h:aK d=true)(t:B8):
  aod d t=(bo d t+1,(bg ((bn d).getD (bo d t+1).toNat [])).1.1,(bg ((bn d).getD (bo d t+1).toNat [])).1.2.1,(bg ((bn d).getD (bo d t+1).toNat [])).1.2.2,oz (leaves (bn d)) (bo d t+1),if fE d t then jH (dN d t) else []):=by
 have q:=Æ H h t;rw[q.2.2.2.2.2.1,q.2.2.2.2.2.2.1];unfold aod;congr 5
 split
 have :aV (dN d t)=true:=by
  unfold dN;rename_i h1;rw[if_pos h1];have k:=Ef h1;exact(v8 h (i:=(bo d t).toNat) w!).2
 unfold jH;rw[this];rfl;rfl
theorem apQ(H:aK d=true)(h:fE d t=true):0<=bo d t/\bo d t<d.length/\(d.getD (bo d t).toNat ([],[])).2=dN d t/\aV (dN d t)=true/\iH (dN d t)=jH (dN d t):=by
 have k:=Ef h
 have :aV (dN d t)=true:=by
  simp_all[dN,Q!,v8,bo]
 grind[jH]
abbrev bj:=Int×B8
def cM(l:M bj)(i:Nat):bj:=l.getD i (0,[])
def nW(l:M bj):Nat->Int
 |0=>0
 |k+1=>nW l k+if(cM l k).1=0 then 1 else 0
def c9(l:M bj)(k:Nat):Int:=2*nW l k-k
def wx(l:M bj)(i:Nat):Bool:=
 if(cM l i).1=0 then isTerm (cM l i).2 else(decide (1<=(cM l i).1)&&decide ((cM l i).1<=3))&&(decide ((cM l i).2=[])&&decide (2<=c9 l i))
def aZ(l:M bj):Bool:=(List.range l.length).all (wx l)&&(decide (c9 l l.length=1)&&decide (nW l l.length<=16))
def ja(l:M bj)(k:Nat):Prop:=k<=l.length/\l.length<=1099511627776/\∀i,i<k->wx l i=true
def oc(l:M bj):Bool:=l.any (λo=>decide ((200:Int)<o.2.length)) || decide ((60:Int)<l.length)
def GH(l:M bj)(k:Nat):Prop:=k<=l.length/\∀o∈l.take k,¬(200:Int)<o.2.length
def bL(l:M bj)(k:Nat):O:=((l.take k).filter λo=>decide (o.1=0)).map (·.2)
def pj(l:M bj):O:=bL l l.length
def al(l:M bj):O:=sorted (pj l)
theorem gR(l:M bj):∀k,0<=nW l k/\nW l k<=k
 |0=>by simp[nW]
 |k+1=>by have:=gR l k;grind[nW]
variable {l q:List bj}
theorem ND{k:Nat}(h:(cM l k).1=0):nW l (k+1)=nW l k+1:=by simp_all[nW,Q!]
theorem Kv{k:Nat}(h:¬(cM l k).1=0):nW l (k+1)=nW l k:=by simp_all[nW,R!]
theorem zq{k:Nat}(h:(cM l k).1=0):c9 l (k+1)=c9 l k+1:=by grind[c9,ND]
theorem uH{k:Nat}(h:¬(cM l k).1=0):c9 l (k+1)=c9 l k-1:=by grind[c9,Kv]
theorem aEz(h:small l):ja l 0:=⟨S! _,h,λi H=>by omega⟩
theorem Ç{k:Nat}(h:ja l k)(H:(k:Int)<l.length)(o:wx l k=true):ja l (k+1):=by
 refine⟨w!,h.2.1,λi u=>?_⟩;by_cases w:i=k;grind;exact h.2.2 i w!
theorem afb{k:Nat}(H:(k:Int)<l.length)(h:wx l k=false):false=aZ l:=by
 grind[List.range,wx,aZ]
theorem avR{k:Nat}(h:ja l k)(o:¬(k:Int)<l.length):(decide (c9 l k=1)&&decide (nW l k<=16))=aZ l:=by
 have e:k=l.length:=by have:=h.1;omega
 subst e;have :(List.range l.length).all (wx l)=true:=List.all_eq_true.2 λi H=>h.2.2 i (List.mem_range.1 H);grind[aZ]
theorem Qt{k:Nat}(h:(cM l k).1=0):wx l k=isTerm (cM l k).2:=by simp_all[wx,Q!]
theorem apR {l:M bj}{k:Nat}(h:¬(cM l k).1=0)(H:1<=(cM l k).1)(o:(cM l k).1<=3)(u:(cM l k).2=[])(w:2<=c9 l k):wx l k=true:=by
 simp_all[wx,R!]
theorem avS {l:M bj}{k:Nat}(h:¬(cM l k).1=0)(H:¬1<=(cM l k).1\/¬(cM l k).1<=3\/¬(cM l k).2=[]\/¬2<=c9 l k):wx l k=false:=by
 grind[wx]
theorem apS{k:Nat}(h:GH l k)(w:(k:Int)<l.length)(H:¬(200:Int)<(cM l k).2.length):GH l (k+1):=by
 refine⟨w!,?_⟩;rw[an l k (0,[]) w!];intro o u;rcases I!.1 u with q|q;exact h.2 o q;rw[s?.1 q];exact H
theorem avT{k:Nat}(H:(k:Int)<l.length)(h:(200:Int)<(cM l k).2.length):true=oc l:=by
 have :l.any (λo=>decide ((200:Int)<o.2.length))=true:=List.any_eq_true.2 ⟨_,aU l k _ (show k<l.length by omega),decide_eq_true h⟩;grind[oc]
theorem avU{k:Nat}(h:GH l k)(u:¬(k:Int)<l.length):decide ((60:Int)<l.length)=oc l:=by
 have :l.any (λo=>decide ((200:Int)<o.2.length))=false:=by
  rw[<-Bool.not_eq_true,List.any_eq_true];rintro⟨o,w,H⟩;exact h.2 o (by grind[List.take_of_length_le]) (of_decide_eq_true H)
 grind[oc]
theorem apT(h:oc l=false):l.length<=60/\∀o∈l,o.2.length<=200:=by
 grind[oc,Bool.or_eq_false_iff,of_decide_eq_false,decide,List.any_eq_true,decide_eq_true]
theorem alA(h:oc l=false):small l:=by grind[apT,small]
theorem afc{k:Nat}(H:(k:Int)<l.length)(h:(cM l k).1=0):bL l k++[(cM l k).2]=bL l (k+1):=by
 unfold bL;rw[an l k (0,[]) w!,List.filter_append,List.map_append];have :(List.filter (λo:bj=>decide (o.1=0)) [l.getD k (0,[])])=[cM l k]:=by grind[cM]
 grind
theorem apU{k:Nat}(H:(k:Int)<l.length)(h:¬(cM l k).1=0):bL l k=bL l (k+1):=by
 unfold bL;rw[an l k (0,[]) w!,List.filter_append,List.map_append];have :(List.filter (λo:bj=>decide (o.1=0)) [l.getD k (0,[])])=[]:=by grind[cM]
 grind
theorem avV{k:Nat}(h:k<=l.length)(H:¬(k:Int)<l.length):bL l k=pj l:=by
 grind[pj]
theorem apV(l:M bj):∀k,k<=l.length->((bL l k).length:Int)=nW l k
 |0,_=>by rfl
 |k+1,hk=>by
  have i:=apV l k w!;by_cases h:(cM l k).1=0;rw[<-afc w! h,ND h,J!,<-i];simp;rw[<-apU w! h,Kv h,i]
theorem WH:aZ l=true↔(∀i,i<l.length->wx l i=true)/\c9 l l.length=1/\nW l l.length<=16:=by
 simp_all[aZ,B!,V!,f?,H!]
theorem qe(h:aZ l=true):(al l).length<=16:=by
 obtain⟨_,_,H⟩:=WH.1 h;have:=eh (pj l);have e:=apV l l.length (Nat.le_refl _);grind[al,pj]
theorem È(h:aZ l=true):∀t∈al l,isTerm t=true:=by
 obtain⟨u,_,_⟩:=WH.1 h;intro t H;have:=(ir (pj l) t).1 H;simp only[pj,bL,List.mem_map,List.mem_filter,decide_eq_true_eq,List.take_length] at this;obtain⟨o,⟨k,w⟩,rfl⟩:=this;obtain⟨i,y,rfl⟩:=List.mem_iff_getElem.1 k;grind[cM,Qt]
theorem É {l:M bj}{k:Nat}(h:ja l k)(H:(k:Int)<l.length)(o:(l.getD k (0,[])).1=0)(u:isTerm (l.getD (Int.toNat (k:Int)) (0,[])).2=true):ja l (k+1):=
 Ç h H (by rw[Qt o];rwa [E?] at u)
theorem Ê {l:M bj}{k:Nat}(h:(k:Int)<l.length)(H:(l.getD k (0,[])).1=0)(o:isTerm (l.getD (Int.toNat (k:Int)) (0,[])).2=false):false=aZ l:=
 afb h (by rw[Qt H];rwa [E?] at o)
theorem I2 {l:M bj}{k:Nat}(h:ja l k)(o:(k:Int)<l.length)(u:¬(l.getD k (0,[])).1=0)(H:1<=(l.getD k (0,[])).1/\(l.getD k (0,[])).1<=3)(w:(l.getD k (0,[])).2=[]/\¬c9 l k<2):ja l (k+1):=
 Ç h o (apR u H.1 H.2 w.1 w!)
theorem Da {l:M bj}{k:Nat}(H:(k:Int)<l.length)(o:¬(l.getD k (0,[])).1=0)(h:¬(1<=(l.getD k (0,[])).1/\(l.getD k (0,[])).1<=3)\/¬(l.getD k (0,[])).2=[]\/c9 l k<2):false=aZ l:=
 afb H (avS o (by
  grind[cM]))
theorem afd{k:Nat}(h:ja l k)(H:¬(k:Int)<l.length):(bif decide (c9 l k=1) then decide (nW l k<=16) else false)=aZ l:=by
 grind[avR]
theorem aNu(l:M bj): []=bL l 0:=rfl
theorem apY{k:Nat}(H:(k:Int)<l.length)(h:(l.getD k (0,[])).1=0):bL l k++[(l.getD (Int.toNat (k:Int)) (0,[])).2]=bL l (k+1):=by exact afc H h
theorem apZ{k:Nat}(H:l.length<=1099511627776)(h:dX l k)(s:B8):(bL l k).length+[s].length<=8796093022208/\small (bL l k)/\small (fp (bL l k))/\small (bU (fp (bL l k))):=by
 grind[ŧ,bL,eh,P0,dX,List.length_singleton,small]
theorem avW{k:Nat}(h:dX l k)(H:¬(k:Int)<l.length):bU (fp (bL l k))=al l/\sorted (bL l k)=al l:=by
 have:=avV h H;rw[P0,this];exact⟨rfl,rfl⟩
def yo:B8:=[104,97,121]
abbrev El:=Int×Int×B8
def Ë:M El:=[(-1,0,yo)]
def kE:M El:=[(-1,0,yo),(-2,3,[])]
def jK:M bj:=[(0,yo)]
def hdT(l:O):B8:=l.getD 0 []
def uI(k:Nat):Int:=if k=0 then -1 else 0
def BK(l:M El)(n:Int):El:=l.getD n.toNat (0,0,[])
def dq(l:M bj):Prop:=small l/\∀o∈l,small o.2
theorem Db(h:oc l=false):dq l:=by
 refine⟨alA h,λo H=>?_⟩;have:=(apT h).2 o H;grind[small]
theorem ap1(h:dq l)(k:Nat):small (cM l k).2:=by
 by_cases H:k<l.length;exact h.2 _ (aU l k _ H);unfold cM;rw[List.getD_eq_getElem?_getD,List.getElem?_eq_none w!];exact Nat.zero_le _
theorem zr {x:Nat}(h:(x:Int)<(([104,97,121]:U).length:Int)):x=0\/x=1\/x=2:=by
 grind
theorem ge3 {x:Nat}(H:cC x 3)(h:¬(x:Int)<(([104,97,121]:U).length:Int)):x=3:=by
 grind[cC]
abbrev Wp:=B8×Bool
def jL(v:Int):Wp:=if gi v then([],true) else(num v,false)
def gn(b:B8)(g:Int):Wp:=if g<b.length then([],true) else(text b,false)
def kL(n:Int)(g:B8)(l:M Sg):Wp:=if cO n g l then gn (hB n g l) 10000 else([],true)
def Mt(d:B8):Bool:=decide ((d.length:Int)=32)
def jb(p:O):Wp:=if 64<(p.length:Int) then([],true) else(num p.length++(p.takeWhile Mt).flatten,!cP p)
def iv(p:O)(k:Nat):B8:=num p.length++(p.take k).flatten
def aqZ(p:O)(k:Nat):Prop:=p.length<=64/\k<=p.length/\∀d∈p.take k,(d.length:Int)=32
def cat(a b:Wp):Wp:=(a.1++b.1,a.2 || b.2)
def aof(p:Pf):Wp:=
 if eR p.2.1 p.2.2.1 p.2.2.2.1 then cat (cat (cat (jL p.1) (gn (mc p.2.1 p.2.2.1 p.2.2.2.1) 200)) (jb p.2.2.2.2.1)) (gn p.2.2.2.2.2 4000)
 else((jL p.1).1,true)
def pfD(l:M Pf)(i:Nat):Pf:=l.getD i aSL
def Qu(l:M Pf):Nat->Wp
 |0=>(num l.length,false)
 |k+1=>cat (Qu l k) (aof (pfD l k))
def aks(l:M (M Pf))(i:Nat):M Pf:=l.getD i []
def gj(n:Int)(g:B8)(s:M Sg)(l:M (M Pf)):Nat->Wp
 |0=>cat ([1],false) (kL n g s)
 |k+1=>cat (gj n g s l k) (Qu (aks l k) (aks l k).length)
def Fv(w:Wp):B8:=if w.2 then [] else if 1048576<(w.1.length:Int) then [] else w.1
def Fw(w:Wp):Int:=if w.2 then 1 else if 1048576<(w.1.length:Int) then 3 else 0
def WI(l:M (M Pf)):Bool:=l.all λx=>decide ((x.length:Int)<=16)
def xF(n:Int)(g:B8)(s:M Sg)(l:M (M Pf)):B8×Int:=
 if(l.length:Int)≠s.length\/WI l=false then([],1) else(Fv (gj n g s l l.length),Fw (gj n g s l l.length))
def afe(n:Int)(g:B8)(s:M Sg)(a:Int)(d:B8)(p:O):Wp:=
 cat (cat (cat (cat ([2],false) (kL n g s)) (jL a)) (gn d 2000)) (jb p)
def Kw(n:Int)(g:B8)(s:M Sg)(a:Int)(d:B8)(p:O):B8×Int:=(Fv (afe n g s a d p),Fw (afe n g s a d p))
def a1d(n:Int)(g:B8)(s:M Sg)(N:Int)(G:B8)(S:M Sg)(p:O):Wp:=
 cat (cat (cat ([3],false) (kL n g s)) (kL N G S)) (jb p)
def aYI(n:Int)(g:B8)(s:M Sg)(N:Int)(G:B8)(S:M Sg)(p:O):B8×Int:=(Fv (a1d n g s N G S p),Fw (a1d n g s N G S p))
def aQL(p:O):B8:=num p.length++p.flatten
def aNV(n:Int)(g:B8)(s:M Sg):B8:=text (hB n g s)
def aQX(p:Pf):B8:=num p.1++text (mc p.2.1 p.2.2.1 p.2.2.2.1)++aQL p.2.2.2.2.1++text p.2.2.2.2.2
def aUV(l:M Pf)(k:Nat):B8:=num l.length++(l.take k).flatMap aQX
def aYs(n:Int)(g:B8)(s:M Sg)(l:M (M Pf))(k:Nat):B8:=[1]++aNV n g s++(l.take k).flatMap λx=>aUV x x.length
def aYC(n:Int)(g:B8)(s:M Sg)(l:M (M Pf)):B8:=aYs n g s l l.length
def aVJ(n:Int)(g:B8)(s:M Sg)(a:Int)(d:B8)(p:O):B8:=[2]++aNV n g s++num a++text d++aQL p
def aWh(n:Int)(g:B8)(s:M Sg)(N:Int)(G:B8)(S:M Sg)(p:O):B8:=[3]++aNV n g s++aNV N G S++aQL p
def Ì(p:Pf):Bool:= !gi p.1&&(eR p.2.1 p.2.2.1 p.2.2.2.1&&(decide ((p.2.2.2.2.1.length:Int)<=64)&&(cP p.2.2.2.2.1&&decide ((p.2.2.2.2.2.length:Int)<=4000))))
abbrev Rs:=Int×Int
def ajM(b:B8)(a e:Int):Rs×Hd:=
 if(ao b a e 10000).1.2.2≠0 then((ao b a e 10000).1.2,(0,[],[]))
 else(((ao b a e 10000).1.2.1,(hR (ao b a e 10000).2).2),(hR (ao b a e 10000).2).1)
def lI(b:B8)(a e:Int):Rs×Lk:=
 if(ao b a e 200).1.2.2≠0 then((ao b a e 200).1.2,([],[],[]))
 else(((ao b a e 200).1.2.1,(bg (ao b a e 200).2).2),(bg (ao b a e 200).2).1)
def fj(b:B8)(a e g:Int):Rs×Int:=
 if g<(ag b a e).2 then(((ag b a e).1.2.1,2),0) else((ag b a e).1.2,(ag b a e).2)
def Dc(b:B8)(a e:Int):Nat->Rs×O
 |0=>((a,e),[])
 |k+1=>((aF b (Dc b a e k).1.1 (Dc b a e k).1.2).1.2,(Dc b a e k).2++[(aF b (Dc b a e k).1.1 (Dc b a e k).1.2).2])
def qT(b:B8)(a e:Int):Nat:=(fj b a e 64).2.toNat
def iw(b:B8)(a e:Int)(k:Nat):Rs×O:=Dc b (fj b a e 64).1.1 (fj b a e 64).1.2 k
def aur(b:B8)(a e:Int):Rs×O:=iw b a e (qT b a e)
def q1(b:B8)(a e:Int):Rs×Int:=((ag b a e).1.2,(ag b a e).2)
def q2(b:B8)(a e:Int):Rs×Lk:=lI b (q1 b a e).1.1 (q1 b a e).1.2
def q3(b:B8)(a e:Int):Rs×O:=aur b (q2 b a e).1.1 (q2 b a e).1.2
def q4(b:B8)(a e:Int):Rs×B8:=((ao b (q3 b a e).1.1 (q3 b a e).1.2 4000).1.2,(ao b (q3 b a e).1.1 (q3 b a e).1.2 4000).2)
def jc(b:B8)(a e:Int):Rs×Pf:=((q4 b a e).1,((q1 b a e).2,(q2 b a e).2.1,(q2 b a e).2.2.1,(q2 b a e).2.2.2,(q3 b a e).2,(q4 b a e).2))
def Fx(b:B8)(a e:Int):Nat->Rs×M Pf
 |0=>((a,e),[])
 |k+1=>((jc b (Fx b a e k).1.1 (Fx b a e k).1.2).1,(Fx b a e k).2++[(jc b (Fx b a e k).1.1 (Fx b a e k).1.2).2])
def aan(b:B8)(a e:Int):Nat:=(fj b a e 16).2.toNat
def aff(b:B8)(a e:Int)(k:Nat):Rs×M Pf:=Fx b (fj b a e 16).1.1 (fj b a e 16).1.2 k
def aEA(b:B8)(a e:Int):Rs×M Pf:=aff b a e (aan b a e)
def tG(b:B8)(a e:Int):Nat->Rs×M (M Pf)
 |0=>((a,e),[])
 |k+1=>((aEA b (tG b a e k).1.1 (tG b a e k).1.2).1,(tG b a e k).2++[(aEA b (tG b a e k).1.1 (tG b a e k).1.2).2])
def jd(b:B8)(k:UInt8):Int:=if 1048576<(b.length:Int) then 3 else if b.length=0 then 4 else if b.getD 0 0=k then 0 else 2
abbrev An:=Hd×M (M Pf)
def aH(b:B8):Rs×Hd:=ajM b 1 0
def kp(b:B8)(k:Nat):Rs×M (M Pf):=tG b (aH b).1.1 (aH b).1.2 k
def aN(b:B8):Nat:=(aH b).2.2.2.length
def aI(b:B8):(Int×B8×M Sg×M (M Pf))×Int:=
 if jd b 1≠0 then((0,[],[],[]),jd b 1)
 else if done b (kp b (aN b)).1.1 (kp b (aN b)).1.2≠0 then((0,[],[],[]),done b (kp b (aN b)).1.1 (kp b (aN b)).1.2)
 else(((aH b).2.1,(aH b).2.2.1,(aH b).2.2.2,(kp b (aN b)).2),0)
def Í(b:B8):Rs×Hd:=ajM b 1 0
def pg2(b:B8):Rs×Int:=q1 b (Í b).1.1 (Í b).1.2
def pg3(b:B8):Rs×B8:=((ao b (pg2 b).1.1 (pg2 b).1.2 2000).1.2,(ao b (pg2 b).1.1 (pg2 b).1.2 2000).2)
def I3(b:B8):Rs×O:=aur b (pg3 b).1.1 (pg3 b).1.2
def bx(b:B8):(Int×B8×M Sg×Int×B8×O)×Int:=
 if jd b 2≠0 then((0,[],[],0,[],[]),jd b 2)
 else if done b (I3 b).1.1 (I3 b).1.2≠0 then((0,[],[],0,[],[]),done b (I3 b).1.1 (I3 b).1.2)
 else(((Í b).2.1,(Í b).2.2.1,(Í b).2.2.2,(pg2 b).2,(pg3 b).2,(I3 b).2),0)
def st1(b:B8):Rs×Hd:=ajM b 1 0
def st2(b:B8):Rs×Hd:=ajM b (st1 b).1.1 (st1 b).1.2
def st3(b:B8):Rs×O:=aur b (st2 b).1.1 (st2 b).1.2
def Ě(b:B8):(Int×B8×M Sg×Int×B8×M Sg×O)×Int:=
 if jd b 3≠0 then((0,[],[],0,[],[],[]),jd b 3)
 else if done b (st3 b).1.1 (st3 b).1.2≠0 then((0,[],[],0,[],[],[]),done b (st3 b).1.1 (st3 b).1.2)
 else(((st1 b).2.1,(st1 b).2.2.1,(st1 b).2.2.2,(st2 b).2.1,(st2 b).2.2.1,(st2 b).2.2.2,(st3 b).2),0)
theorem a1e(h:gi v=false):ag (P++(num v++R)) P.length 0=((P++(num v++R),(P.length:Int)+(num v).length,0),v):=by
 simp[gi,Bool.or_eq_false_iff,decide_eq_false_iff_not] at h;grind[Int.toNat_natCast,List.drop_left,zm,GB,List.length_append,Int.natCast_add]
theorem a0a {d:B8}(h:(d.length:Int)<=m)(o:m<=1048576):ao (P++(text d++R)) P.length 0 m=((P++(text d++R),(P.length:Int)+(text d).length,0),d):=by
 have hd:(P++(text d++R)).drop ((P.length:Nat):Int).toNat=text d++R:=by rw[E?,List.drop_left]
 have e:text d++R=num (d.length:Int)++(d++R):=by simp[text]
 have H:=zm (v:=(d.length:Int)) w! w! (d++R)
 have k:aL (text d++R) m=(d,((text d).length:Int),0):=by
  unfold aL;rw[e,H,if_neg z!,if_neg w!,if_neg (by simp;omega)];simp[text]
 unfold ao;rw[Gs w! (by simp;omega),C1 w! (by simp;omega),hd,k];simp
theorem a6I {d:B8}(h:(d.length:Int)=32):aF (P++(d++R)) P.length 0=((P++(d++R),(P.length:Int)+d.length,0),d):=by
 rw[apF w! (by simp;omega),E?,List.drop_left];have :(d++R).take 32=d:=by rw[show 32=d.length by omega,List.take_left]
 rw[this,h]
theorem a0W:∀(l:M Sg),(∀i,i<l.length->ow (sg l i).1 (sg l i).2.1 (sg l i).2.2.1 (sg l i).2.2.2=true)->(jo l).length<=50*l.length
 |[],_=>by simp[jo]
 |s::l,h=>by
  have H:=Ks (h 0 z!);have I:=a0W l λi k=>by have:=h (i+1) (by simp;omega);simpa[sg] using this
  have e:jo (s::l)=Gz s++jo l:=rfl;rw[e,J!,M?];have o:s.2.2.2.length=32:=H.2.2.2.2.2;have n:=cU s.2.1;have N:=cU s.2.2.1;simp[Gz,J!];omega
variable {l:List Sg}
theorem a2h(h:cO n g l=true):((hB n g l).length:Int)<=4000:=by
 grind[jq,sb,a0W,cU,hB,List.length_append]
theorem aYt {b:B8}(h:(b.length:Int)<=m):gn b m=(text b,false):=by simp_all[gn,R!]
theorem a1D(h:gi v=false):jL v=(num v,false):=by grind[jL]
theorem aYu(h:cO n g l=true):kL n g l=(aNV n g l,false):=by
 have:=a2h h;unfold kL aNV;rw[if_pos h,aYt w!]
theorem avY(h:cP p=true):p.takeWhile Mt=p:=by
 induction p with
 |nil=>rfl
 |cons a l i=>
  simp_all[cP,List.all_cons,B!,List.takeWhile_cons_of_pos,Mt]
theorem aZA {p:O}(h:(p.length:Int)<=64)(H:cP p=true):jb p=(aQL p,false):=by
 simp_all[jb,aQL,R!,avY]
theorem Ut {p:Pf}:Ì p=true↔gi p.1=false/\eR p.2.1 p.2.2.1 p.2.2.2.1=true/\(p.2.2.2.2.1.length:Int)<=64/\cP p.2.2.2.2.1=true/\(p.2.2.2.2.2.length:Int)<=4000:=by
 simp_all[Ì,B!,K?,H!]
theorem a2i {p:Pf}(h:Ì p=true):aof p=(aQX p,false):=by
 obtain⟨h1,H,k,o,u⟩:=Ut.1 h;have w:=Ay H;unfold aof aQX;rw[if_pos H,a1D h1,aYt w!,aZA k o,aYt w!];rfl
theorem a1E {l:M Pf}(h:∀p∈l,Ì p=true):∀k,k<=l.length->Qu l k=(aUV l k,false)
 |0,_=>by simp[Qu,aUV]
 |k+1,hk=>by
  have hm:=h _ (aU l k aSL w!);simp[Qu];rw[a1E h k w!,show pfD l k=l.getD k aSL from rfl,a2i hm];simp[cat,aUV,Bool.or_self];rw[an l k aSL w!,List.flatMap_append];simp
theorem a1F {n:Int}{g:B8}{s:M Sg}{l:M (M Pf)}(H:cO n g s=true)(h:∀x∈l,∀p∈x,Ì p=true):∀k,k<=l.length->gj n g s l k=(aYs n g s l k,false)
 |0,_=>by grind[gj,aYs,aYu,cat]
 |k+1,hk=>by
  have hm:=h _ (aU l k [] w!);simp[gj];rw[a1F H h k w!,show aks l k=l.getD k [] from rfl,a1E hm _ (M! _)];simp[cat,aYs,Bool.or_self];rw[an l k [] w!,List.flatMap_append];simp
theorem aYv(h:cO n g s=true):
  ajM (P++(aNV n g s++R)) P.length 0=(((P.length:Int)+(aNV n g s).length,0),(n,g,s)):=by
 have:=a2h h;unfold ajM aNV;rw[a0a w! (by decide),if_neg z!,aaf h]
theorem a30 {a c:B8}(h:eR a b c=true):
  lI (P++(text (mc a b c)++R)) P.length 0=(((P.length:Int)+(text (mc a b c)).length,0),(a,b,c)):=by
 have:=Ay h;unfold lI;rw[a0a w! (by decide),if_neg z!,Qe h]
theorem a0f(h:0<=v)(H:v<=m)(k:m<=64):
  fj (P++(num v++R)) P.length 0 m=(((P.length:Int)+(num v).length,0),v):=by
 unfold fj;rw[a1e (by grind[gi]),if_neg w!]
theorem a0X {P R:B8}{p:O}(h:cP p=true):∀k,k<=p.length->
  Dc (P++(p.flatten++R)) P.length 0 k=(((P.length:Int)+((p.take k).flatten).length,0),p.take k)
 |0,_=>by rfl
 |k+1,hk=>by
  have H:((p.getD k []).length:Int)=32:=by grind[cQ,aU]
  have e:P++(p.flatten++R)=(P++(p.take k).flatten)++(p.getD k []++((p.drop (k+1)).flatten++R)):=by
   have :p.flatten=(p.take k).flatten++(p.getD k []++(p.drop (k+1)).flatten):=by
    conv=>lhs;rw[<-O? (k+1) p,an p k [] w!]
    simp
   grind
  simp only[Dc];rw[a0X h k w!];have:=a6I (P:=P++(p.take k).flatten) (R:=(p.drop (k+1)).flatten++R) H;rw[<-e,J!,Int.natCast_add] at this;rw[this,an p k [] w!];simp[Int.add_assoc]
theorem aZB{p:O}(h:(p.length:Int)<=64)(k:cP p=true):
  aur (P++(aQL p++R)) P.length 0=(((P.length:Int)+(aQL p).length,0),p):=by
 have e:P++(aQL p++R)=P++(num p.length++(p.flatten++R)):=by simp[aQL]
 have H:=a0f (P:=P) (R:=p.flatten++R) (v:=(p.length:Int)) (m:=64) w! h (by decide);rw[<-e] at H;unfold aur iw qT;rw[H];simp;have hd:=a0X (P:=P++num p.length) (R:=R) k p.length (Nat.le_refl _);rw[show P++num p.length++(p.flatten++R)=P++(aQL p++R) by simp[aQL],List.length_append,Int.natCast_add] at hd;rw[hd,List.take_length];simp[aQL,Int.add_assoc]
theorem a2j{p:Pf}(h:Ì p=true):
  jc (P++(aQX p++R)) P.length 0=(((P.length:Int)+(aQX p).length,0),p):=by
 obtain⟨h1,H,y,z,A⟩:=Ut.1 h;obtain⟨a,t,u,v,w,d⟩:=p;generalize B:P++(aQX (a,t,u,v,w,d)++R)=b;have e:b=P++(num a++(text (mc t u v)++(aQL w++(text d++R)))):=by rw[<-B];simp[aQX]
 have r:q1 b P.length 0=(((P.length:Int)+(num a).length,0),a):=by unfold q1;rw[e,a1e h1]
 have k:q2 b P.length 0=(((P.length:Int)+(num a).length+(text (mc t u v)).length,0),(t,u,v)):=by
  unfold q2;rw[r];have:=a30 (P:=P++num a) (R:=aQL w++(text d++R)) H;rw[show P++num a++(text (mc t u v)++(aQL w++(text d++R)))=b by rw[e];simp,List.length_append,Int.natCast_add] at this;exact this
 have o:q3 b P.length 0=(((P.length:Int)+(num a).length+(text (mc t u v)).length+(aQL w).length,0),w):=by
  unfold q3;rw[k];have:=aZB (P:=P++num a++text (mc t u v)) (R:=text d++R) y z;rw[show P++num a++text (mc t u v)++(aQL w++(text d++R))=b by rw[e];simp,List.length_append,List.length_append,Int.natCast_add,Int.natCast_add] at this;exact this
 have C:q4 b P.length 0=(((P.length:Int)+(num a).length+(text (mc t u v)).length+(aQL w).length+(text d).length,0),d):=by
  unfold q4;rw[o];have:=a0a (P:=P++num a++text (mc t u v)++aQL w) (R:=R) (d:=d) (m:=4000) A (by decide);rw[show P++num a++text (mc t u v)++aQL w++(text d++R)=b by rw[e];simp,List.length_append,List.length_append,List.length_append,Int.natCast_add,Int.natCast_add,Int.natCast_add] at this;simp only[this]
 unfold jc;rw[r,k,o,C];simp[aQX,Int.add_assoc]
theorem aYJ(l:M Pf):aUV l l.length=num l.length++l.flatMap aQX:=by simp[aUV]
theorem a1G {P R:B8}{l:M Pf}(h:∀p∈l,Ì p=true):∀k,k<=l.length->
  Fx (P++(l.flatMap aQX++R)) P.length 0 k=(((P.length:Int)+((l.take k).flatMap aQX).length,0),l.take k)
 |0,_=>by rfl
 |k+1,hk=>by
  have H:=h _ (aU l k aSL w!)
  have e:P++(l.flatMap aQX++R)=(P++(l.take k).flatMap aQX)++(aQX (l.getD k aSL)++((l.drop (k+1)).flatMap aQX++R)):=by
   have :l.flatMap aQX=(l.take k).flatMap aQX++(aQX (l.getD k aSL)++(l.drop (k+1)).flatMap aQX):=by
    conv=>lhs;rw[<-O? (k+1) l,an l k aSL w!]
    simp
   rw[this];simp
  simp only[Fx];rw[a1G h k w!];have:=a2j (P:=P++(l.take k).flatMap aQX) (R:=(l.drop (k+1)).flatMap aQX++R) H;rw[<-e,J!,Int.natCast_add] at this;rw[this,an l k aSL w!,List.flatMap_append];simp[Int.add_assoc]
theorem a5j{l:M Pf}(h:∀p∈l,Ì p=true)(k:(l.length:Int)<=16):
  aEA (P++(aUV l l.length++R)) P.length 0=(((P.length:Int)+(aUV l l.length).length,0),l):=by
 have e:P++(aUV l l.length++R)=P++(num l.length++(l.flatMap aQX++R)):=by grind[aYJ]
 have H:=a0f (P:=P) (R:=l.flatMap aQX++R) (v:=(l.length:Int)) (m:=16) w! k (by decide);rw[<-e] at H;unfold aEA aff aan;rw[H];simp;have hd:=a1G (P:=P++num l.length) (R:=R) h l.length (Nat.le_refl _);rw[show P++num l.length++(l.flatMap aQX++R)=P++(aUV l l.length++R) by rw[e];simp,List.length_append,Int.natCast_add] at hd;rw[hd,List.take_length,aYJ];simp[Int.add_assoc]
def aUZ(l:M (M Pf)):B8:=l.flatMap λx=>aUV x x.length
theorem a0Y {P R:B8}{l:M (M Pf)}(h:∀x∈l,(x.length:Int)<=16/\∀p∈x,Ì p=true):∀k,k<=l.length->
  tG (P++(aUZ l++R)) P.length 0 k=(((P.length:Int)+(aUZ (l.take k)).length,0),l.take k)
 |0,_=>by rfl
 |k+1,hk=>by
  have H:=h _ (aU l k [] w!)
  have e:P++(aUZ l++R)=(P++aUZ (l.take k))++(aUV (l.getD k []) (l.getD k []).length++(aUZ (l.drop (k+1))++R)):=by
   have :aUZ l=aUZ (l.take k)++(aUV (l.getD k []) (l.getD k []).length++aUZ (l.drop (k+1))):=by
    unfold aUZ;conv=>lhs;rw[<-List.take_append_drop (k+1) l,an l k [] w!]
    simp
   grind
  simp[tG];rw[a0Y h k w!];have:=a5j (P:=P++aUZ (l.take k)) (R:=aUZ (l.drop (k+1))++R) H.2 H.1;rw[<-e,J!,Int.natCast_add] at this;rw[this,an l k [] w!];simp[aUZ,Int.add_assoc]
theorem a0g(h:a=b.length):done b a 0=0:=by
 simp_all[ao9,R!]
theorem a5k {n:Int}{g:B8}{s:M Sg}{l:M (M Pf)}(k:cO n g s=true)(o:l.length=s.length)(h:∀x∈l,(x.length:Int)<=16/\∀p∈x,Ì p=true)(y:((aYC n g s l).length:Int)<=1048576):
  aI (aYC n g s l)=((n,g,s,l),0):=by
 have e:aYC n g s l=[1]++(aNV n g s++(aUZ l++[])):=by simp[aYC,aYs,aUZ]
 generalize aYC n g s l=b at *;have z:jd b 1=0:=by unfold jd;rw[if_neg w!,if_neg (by rw[e];simp),if_pos (by rw[e];rfl)]
 have h1:aH b=((1+((aNV n g s).length:Int),0),(n,g,s)):=by
  rw[e];exact aYv (P:=[1]) (R:=aUZ l++[]) k
 have u:aN b=l.length:=by unfold aN;rw[h1];exact o.symm
 have w:kp b (aN b)=((1+((aNV n g s).length:Int)+(aUZ l).length,0),l):=by
  unfold kp;rw[h1,u];have:=a0Y (P:=[1]++aNV n g s) (R:=[]) h l.length (Nat.le_refl _);rw[show [1]++aNV n g s++(aUZ l++[])=b by rw[e];simp,List.length_append,Int.natCast_add,List.take_length] at this;exact this
 have H:(b.length:Int)=1+((aNV n g s).length:Int)+(aUZ l).length:=by rw[e];simp;omega
 unfold aI;rw[if_neg w!,w,a0g H.symm,if_neg (by decide),h1]
theorem a34 {n:Int}{g:B8}{s:M Sg}{a:Int}{d:B8}{p:O}(u:cO n g s=true)(w:gi a=false)(y:(d.length:Int)<=2000)(z:(p.length:Int)<=64)(A:cP p=true)(B:((aVJ n g s a d p).length:Int)<=1048576):
  bx (aVJ n g s a d p)=((n,g,s,a,d,p),0):=by
 have e:aVJ n g s a d p=[2]++(aNV n g s++(num a++(text d++(aQL p++[])))):=by simp[aVJ]
 generalize aVJ n g s a d p=b at *;have C:jd b 2=0:=by unfold jd;rw[if_neg w!,if_neg (by rw[e];simp),if_pos (by rw[e];rfl)]
 have h1:Í b=((1+((aNV n g s).length:Int),0),(n,g,s)):=by
  rw[e];exact aYv (P:=[2]) u
 have o:pg2 b=((1+((aNV n g s).length:Int)+(num a).length,0),a):=by
  unfold pg2 q1;rw[h1];have:=a1e (P:=[2]++aNV n g s) (R:=text d++(aQL p++[])) w;rw[show [2]++aNV n g s++(num a++(text d++(aQL p++[])))=b by rw[e];simp,List.length_append,Int.natCast_add] at this;simp at this;simp only[this]
 have h:pg3 b=((1+((aNV n g s).length:Int)+(num a).length+(text d).length,0),d):=by
  unfold pg3;rw[o];have:=a0a (P:=[2]++aNV n g s++num a) (R:=aQL p++[]) y (by decide);rw[show [2]++aNV n g s++num a++(text d++(aQL p++[]))=b by rw[e];simp,List.length_append,List.length_append,Int.natCast_add,Int.natCast_add] at this;simp at this;simp only[this]
 have k:I3 b=((1+((aNV n g s).length:Int)+(num a).length+(text d).length+(aQL p).length,0),p):=by
  unfold I3;rw[h];have:=aZB (P:=[2]++aNV n g s++num a++text d) (R:=[]) z A;rw[show [2]++aNV n g s++num a++text d++(aQL p++[])=b by rw[e];simp,List.length_append,List.length_append,List.length_append,Int.natCast_add,Int.natCast_add,Int.natCast_add] at this;exact this
 have H:(b.length:Int)=1+((aNV n g s).length:Int)+(num a).length+(text d).length+(aQL p).length:=by rw[e];simp;omega
 unfold bx;rw[if_neg w!,k,a0g H.symm,if_neg (by decide),h1,o,h]
theorem a38 {n N:Int}{g G:B8}{s S:M Sg}{p:O}(o:cO n g s=true)(q:cO N G S=true)(u:(p.length:Int)<=64)(w:cP p=true)(y:((aWh n g s N G S p).length:Int)<=1048576):
  Ě (aWh n g s N G S p)=((n,g,s,N,G,S,p),0):=by
 have e:aWh n g s N G S p=[3]++(aNV n g s++(aNV N G S++(aQL p++[]))):=by simp[aWh]
 generalize aWh n g s N G S p=b at *;have z:jd b 3=0:=by unfold jd;rw[if_neg w!,if_neg (by rw[e];simp),if_pos (by rw[e];rfl)]
 have h1:st1 b=((1+((aNV n g s).length:Int),0),(n,g,s)):=by
  rw[e];exact aYv (P:=[3]) o
 have k:st2 b=((1+((aNV n g s).length:Int)+(aNV N G S).length,0),(N,G,S)):=by
  unfold st2;rw[h1];have:=aYv (P:=[3]++aNV n g s) (R:=aQL p++[]) q;rw[show [3]++aNV n g s++(aNV N G S++(aQL p++[]))=b by rw[e];simp,List.length_append,Int.natCast_add] at this;exact this
 have H:st3 b=((1+((aNV n g s).length:Int)+(aNV N G S).length+(aQL p).length,0),p):=by
  unfold st3;rw[k];have:=aZB (P:=[3]++aNV n g s++aNV N G S) (R:=[]) u w;rw[show [3]++aNV n g s++aNV N G S++(aQL p++[])=b by rw[e];simp,List.length_append,List.length_append,Int.natCast_add,Int.natCast_add] at this;exact this
 have h:(b.length:Int)=1+((aNV n g s).length:Int)+(aNV N G S).length+(aQL p).length:=by rw[e];simp;omega
 unfold Ě;rw[if_neg w!,H,a0g h.symm,if_neg (by decide),h1,k]
def oA(d:Bool)(w:Wp):Bool:=d || w.2
def bytesOf(w:Wp):B8:=w.1
def mU(w:Wp):Bool:=w.2
def zt(l:M (M Pf)):Prop:=l.length<=1000/\∀x∈l,∀p∈x,p.2.2.2.2.2.length<=1099511627776
def gE(n:Int)(g:B8)(s:M Sg)(l:M (M Pf))(k j:Nat):Wp:=cat (gj n g s l k) (Qu (aks l k) j)
def oV(s:M Sg)(l:M (M Pf))(k:Nat):Prop:=k<=l.length/\l.length=s.length/\zt l/\∀i,i<k->(aks l i).length<=16
def arN(s:M Sg)(l:M (M Pf))(k j:Nat):Prop:=oV s l k/\k<l.length/\(aks l k).length<=16/\j<=(aks l k).length
def I4(b:B8)(k j:Nat):Rs×M Pf:=aff b (kp b k).1.1 (kp b k).1.2 j
def qU(b:B8)(k:Nat):Nat:=aan b (kp b k).1.1 (kp b k).1.2
def a4a(p:O):Prop:=p.length<=64/\cP p=true
theorem ap3(s:B8):(text s).length<=s.length+9:=by
 grind[cU,text,List.length_append]
theorem zu(b:B8)(h:0<=m):((gn b m).1.length:Int)<=m+9:=by
 grind[gn,ap3]
theorem Qv(v:Int):(jL v).1.length<=9:=by
 grind[jL,cU]
theorem Uu(n:Int)(g:B8)(s:M Sg):(kL n g s).1.length<=10009:=by
 unfold kL;split;have:=zu (hB n g s) (m:=10000) (by decide);omega;grind
theorem afg:∀(p:O),(p.takeWhile Mt).flatten.length<=32*p.length
 |[]=>by simp
 |a::p=>by
  have:=afg p;by_cases h:Mt a=true;rw[List.takeWhile_cons_of_pos h,List.flatten_cons,J!,M?];have :(a.length:Int)=32:=of_decide_eq_true h;omega;simp_all
theorem Qw(p:O):(jb p).1.length<=2057:=by
 grind[jb,cU,afg,List.length_append]
theorem Î(p:Pf):(aof p).1.length<=7000:=by
 have h:=Qv p.1;have H:=zu (mc p.2.1 p.2.2.1 p.2.2.2.1) (m:=200) (by decide);have k:=Qw p.2.2.2.2.1;have o:=zu p.2.2.2.2.2 (m:=4000) (by decide);grind[aof,cat,List.length_append]
theorem Kx(l:M Pf):∀k,(Qu l k).1.length<=7000*k+9
 |0=>by grind[Qu,cU]
 |k+1=>by
  have:=Kx l k;have:=Î (pfD l k);simp[Qu,cat,J!];omega
theorem Uv(n:Int)(g:B8)(s:M Sg)(l:M (M Pf)):∀k,(∀i,i<k->(aks l i).length<=16)->(gj n g s l k).1.length<=120000*k+20000
 |0,_=>by
  grind[Uu,gj,cat,List.length_append,List.length_singleton]
 |k+1,h=>by
  have:=Uv n g s l k λi H=>h i w!;have:=Kx (aks l k) (aks l k).length;have:=h k w!;simp[gj,cat,J!];omega
theorem aNw(h:¬(64:Int)<p.length):aqZ p 0:=⟨w!,S! _,z!⟩
theorem avZ{k:Nat}(h:aqZ p k):(iv p k).length<=2057:=by
 obtain⟨H,o,u⟩:=h
 have q:∀(l:O),(∀d∈l,(d.length:Int)=32)->l.flatten.length=32*l.length:=by
  intro l;induction l with
  |nil=>grind
  |cons a l i=>
   grind
 grind[cU,List.length_take,iv,List.length_append]
theorem Ï {p:O}{k:Nat}(h:aqZ p k)(o:(k:Int)<p.length)(u:((p.getD k []).length:Int)=32):aqZ p (k+1)/\iv p k++p.getD k []=iv p (k+1):=by
 have e:=an p k [] w!;refine⟨⟨h.1,w!,?_⟩,?_⟩;rw[e];intro d H;rcases List.mem_append.1 H with q|q;exact h.2.2 d q;grind;grind[iv]
theorem av0:∀ {k:Nat},(∀d∈p.take k,(d.length:Int)=32)->k<p.length->¬((p.getD k []).length:Int)=32->p.takeWhile Mt=p.take k:=by
 induction p with
 |nil=>grind
 |cons a p i=>
  intro k h H hd;cases k with
  |zero=>simp_all[List.takeWhile_cons_of_neg,Mt,H!]
  |succ k=>
   have o:=h a z!;rw[List.takeWhile_cons_of_pos (show Mt a=true from L? o),List.take_succ_cons,i (k:=k) (λd hd=>h d (by exact F! _ hd)) (by simpa using H) hd]
theorem afh {p:O}{k:Nat}(h:aqZ p k)(o:(k:Int)<p.length)(hd:¬((p.getD k []).length:Int)=32):jb p=(iv p k,true):=by
 have H:cP p=false:=by
  grind[cQ,aU]
 unfold jb iv;rw[if_neg (by have:=h.1;omega),H,av0 h.2.2 w! hd];rfl
theorem afi{k:Nat}(h:aqZ p k)(o:¬(k:Int)<p.length):jb p=(iv p k,false):=by
 have e:k=p.length:=by have:=h.2.1;omega
 have H:cP p=true:=(cQ p).2 λd u=>by have:=h.2.2 d x!;omega
 unfold jb iv;rw[if_neg (by have:=h.1;omega),H,avY H,e,List.take_length];rfl
theorem ap4(h:(64:Int)<p.length):jb p=([],true):=by simp_all[jb,Q!]
theorem aNx{l:M (M Pf)}(H:zt l)(h:(l.length:Int)=s.length):oV s l 0:=⟨S! _,w!,H,λi k=>by omega⟩
variable {l:List (List Pf)}
theorem aGQ{k:Nat}(h:oV s l k)(H:(k:Int)<l.length)(o:¬(16:Int)<(aks l k).length):arN s l k 0:=⟨h,w!,w!,S! _⟩
theorem ap5{k j:Nat}(h:arN s l k j)(H:(j:Int)<(aks l k).length):arN s l k (j+1):=⟨h.1,h.2.1,h.2.2.1,w!⟩
theorem afj{k j:Nat}(h:arN s l k j)(H:¬(j:Int)<(aks l k).length):oV s l (k+1)/\gE n g s l k j=gj n g s l (k+1):=by
 have e:j=(aks l k).length:=by have:=h.2.2.2;omega
 refine⟨⟨by have:=h.2.1;omega,h.1.2.1,h.1.2.2.1,λi o=>?_⟩,by subst e;rfl⟩;by_cases q:i=k;subst q;exact h.2.2.1;exact h.1.2.2.2 i w!
theorem aGR{l:M (M Pf)}(h:¬(l.length:Int)=s.length):xF n g s l=([],1):=by simp_all[xF,Q!]
theorem afk{k:Nat}(H:(k:Int)<l.length)(h:(16:Int)<(aks l k).length):xF n g s l=([],1):=by
 have :WI l=false:=by
  rw[<-Bool.not_eq_true];intro q;have:=of_decide_eq_true (List.all_eq_true.1 q _ (aU l k [] w!));grind[aks]
 simp_all[xF,Q!]
theorem afl{k:Nat}(h:oV s l k)(o:¬(k:Int)<l.length):xF n g s l=(Fv (gj n g s l k),Fw (gj n g s l k)):=by
 have e:k=l.length:=by have:=h.1;omega
 subst e
 have :WI l=true:=V!.2 λx H=>by
  obtain⟨i,hi,rfl⟩:=List.mem_iff_getElem.1 H;have:=h.2.2.2 i hi;have e:aks l i=l[i]:=by simp[aks,E!,hi]
  rw[e] at this;exact L? w!
 unfold xF;rw[if_neg (by rw[this,h.2.1];simp)]
theorem ap6{k j:Nat}(h:arN s l k j)(H:(j:Int)<(aks l k).length):(pfD (aks l k) j).2.2.2.2.2.length<=1099511627776:=
 h.1.2.2.1.2 _ (aU l k [] h.2.1) _ (aU (aks l k) j aSL w!)
theorem afm{k:Nat}(h:oV s l k):(gj n g s l k).1.length<=130000000:=by
 have:=Uv n g s l k h.2.2.2;have:=h.1;have:=h.2.2.1.1;omega
theorem ap7{k:Nat}(h:arN s l k j):(gE n g s l k j).1.length<=140000000:=by
 have:=afm (n:=n) (g:=g) h.1;have:=Kx (aks l k) j;have:=h.2.2.1;have:=h.2.2.2
 grind[gE,cat,List.length_append]
theorem av1(v:Int):(mq [] v).length<=9:=by
 grind[mq,cU]
theorem aNy(v:Int):mq [] v=(jL v).1:=by grind[mq,jL]
theorem aNz(v:Int)(d:Bool):(bif !decide (yW v=0) then true else d)=oA d (jL v):=by
 grind[yW,jL,oA,gi]
theorem WJ {n:Nat}(h:n<=1000):jL (n:Int)=(num (n:Int),false):=by
 grind[jL,Qo]
theorem afn(h:m<b.length):gn b m=([],true):=by simp_all[gn,Q!]
theorem ap8(h:¬m<b.length):gn b m=(text b,false):=by simp_all[gn,R!]
theorem ap9(h:¬(hW n g s).2=0):kL n g s=([],true):=by
 grind[cO,NC,kL]
theorem av3(h:(hW n g s).2=0):kL n g s=gn (hW n g s).1 10000/\(hW n g s).1.length<=100000:=by
 simp_all[apL,kL,Q!,ae9]
theorem av4(a b c:B8):(dw a b c).length<=200:=by
 grind[dw,Ay]
theorem aGS {a c:B8}(h:¬kJ a b c=0):eR a b c=false:=by
 grind[eR,kJ]
theorem av5 {a c:B8}(h:kJ a b c=0):eR a b c=true/\dw a b c=mc a b c:=by
 cases q:eR a b c with
 |true=>exact⟨rfl,by grind[dw]⟩
 |false=>grind[kJ]
theorem afo{p P k:B8}(h:¬kJ p P k=0):aof (p1,p,P,k,p5,p6)=((jL p1).1,true):=by
 grind[aof,aGS]
theorem aqa{p P k:B8}(h:kJ p P k=0):aof (p1,p,P,k,p5,p6)=cat (cat (cat (jL p1) (gn (dw p P k) 200)) (jb p5)) (gn p6 4000):=by
 grind[aof,av5]
theorem aEB {n:Int}{g:B8}{s:M Sg}{l:M (M Pf)}{k j:Nat}(p:Pf)(h:p=pfD (aks l k) j)(d:Bool)(b:B8)(H:d=mU (gE n g s l k j))(o:b=bytesOf (gE n g s l k j)):
  oA d (aof p)=mU (gE n g s l k (j+1))/\b++bytesOf (aof p)=bytesOf (gE n g s l k (j+1)):=by
 subst h;subst H;subst o;simp[oA,mU,bytesOf,gE,Qu,cat,Bool.or_assoc,X!,and_self]
theorem afp(h:(1048576:Int)<b.length):jd b c=3:=by simp_all[jd,Q!]
theorem afq {b:B8}(h:¬(1048576:Int)<b.length)(H:(b.length:Int)=0):jd b c=4:=by simp_all[jd,R!,Q!]
theorem aqb {b:B8}(h:¬(1048576:Int)<b.length)(H:¬(b.length:Int)=0)(k:¬((b.getD (Int.toNat 0) 0).toNat:Int)=c.toNat):jd b c=2:=by
 grind[jd]
theorem aGT {b:B8}(h:¬(1048576:Int)<b.length)(H:¬(b.length:Int)=0)(k:((b.getD (Int.toNat 0) 0).toNat:Int)=c.toNat):jd b c=0:=by
 unfold jd;grind[UInt8.toNat_inj]
theorem I5(b:B8)(a e m:Int):(ao b a e m).2.length<=b.length:=by
 grind[ao,akd]
theorem aqc(b:B8)(a e:Int)(h:0<=m):(fj b a e m).2<=m:=by
 grind[fj]
theorem av6(h:m<(ag b a e).2):fj b a e m=(((ag b a e).1.2.1,2),0):=by simp_all[fj,Q!]
theorem aGU(h:¬m<(ag b a e).2):fj b a e m=((ag b a e).1.2,(ag b a e).2):=by simp_all[fj,R!]
theorem aGV(h:¬(ao b a e 10000).1.2.2=0):ajM b a e=((ao b a e 10000).1.2,(0,[],[])):=by simp_all[ajM,Q!]
theorem av7(h:(ao b a e 10000).1.2.2=0):ajM b a e=(((ao b a e 10000).1.2.1,(hR (ao b a e 10000).2).2),(hR (ao b a e 10000).2).1):=by simp_all[ajM,R!]
theorem aGW(h:¬(ao b a e 200).1.2.2=0):lI b a e=((ao b a e 200).1.2,([],[],[])):=by simp_all[lI,Q!]
theorem av8(h:(ao b a e 200).1.2.2=0):lI b a e=(((ao b a e 200).1.2.1,(bg (ao b a e 200).2).2),(bg (ao b a e 200).2).1):=by simp_all[lI,R!]
theorem afr(b:B8)(a e:Int):∀k,(Dc b a e k).2.length=k
 |0=>rfl
 |k+1=>by simp only[Dc];rw[J!,afr b a e k];rfl
theorem WK(b:B8)(a e:Int)(k:Nat):(iw b a e k).2.length=k:=afr ..
theorem afs(b:B8)(a e:Int):∀k,(Fx b a e k).2.length=k
 |0=>rfl
 |k+1=>by simp only[Fx];rw[J!,afs b a e k];rfl
theorem av9(b:B8)(k j:Nat):(I4 b k j).2.length=j:=afs ..
theorem aft(b:B8)(a e:Int):∀k,(tG b a e k).2.length=k
 |0=>rfl
 |k+1=>by simp only[tG];rw[J!,aft b a e k];rfl
theorem awa(b:B8)(k:Nat):(kp b k).2.length=k:=aft ..
theorem WL(b:B8)(a e:Int):qT b a e<=64:=by simp_all[aqc,qT]
theorem aqd(b:B8)(k:Nat):qU b k<=16:=by simp_all[aqc,kp,qU,aan]
theorem aao {x:Nat}(h:(x:Int)<v):x+1<=v.toNat:=by omega
theorem Qx {x:Nat}(h:cC x v.toNat)(H:¬(x:Int)<v):x=v.toNat:=by grind[cC]
theorem awb(b:B8):(hR b).1.2.2.length<=64:=by
 by_cases h:(hR b).2=0;grind[sb,jq,aag];simp_all[apE,Nat.zero_le]
theorem aap(b:B8):aN b<=64:=by
 grind[aN,aH,ajM,awb]
theorem WM {b:B8}{x:Nat}(h:(x:Int)<((ajM b 1 0).2.2.2.length:Int)):x+1<=aN b:=by
 have :aN b=(ajM b 1 0).2.2.2.length:=rfl;omega
theorem aaq {b:B8}{x:Nat}(h:cC x (aN b))(H:¬(x:Int)<((ajM b 1 0).2.2.2.length:Int)):x=aN b:=by
 have :aN b=(ajM b 1 0).2.2.2.length:=rfl;grind[cC]
theorem aEC(h:¬jd b 1=0):aI b=((0,[],[],[]),jd b 1):=by simp_all[aI,Q!]
theorem aqe{k:Nat}(h:jd b 1=0)(H:k=aN b)(o:¬done b (kp b k).1.1 (kp b k).1.2=0):aI b=((0,[],[],[]),done b (kp b k).1.1 (kp b k).1.2):=by simp_all[aI,R!,Q!]
theorem aED{k:Nat}(h:jd b 1=0)(H:k=aN b)(o:done b (kp b k).1.1 (kp b k).1.2=0):aI b=(((aH b).2.1,(aH b).2.2.1,(aH b).2.2.2,(kp b k).2),0):=by simp_all[aI,R!]
theorem aGX(h:¬jd b 2=0):bx b=((0,[],[],0,[],[]),jd b 2):=by simp_all[bx,Q!]
theorem aqf(h:jd b 2=0)(H:¬done b (I3 b).1.1 (I3 b).1.2=0):bx b=((0,[],[],0,[],[]),done b (I3 b).1.1 (I3 b).1.2):=by simp_all[bx,R!,Q!]
theorem aqg(h:jd b 2=0)(H:done b (I3 b).1.1 (I3 b).1.2=0):bx b=(((Í b).2.1,(Í b).2.2.1,(Í b).2.2.2,(pg2 b).2,(pg3 b).2,(I3 b).2),0):=by simp_all[bx,R!]
theorem aYY(h:¬jd b 3=0):Ě b=((0,[],[],0,[],[],[]),jd b 3):=by simp_all[Ě,Q!]
theorem str_1(h:jd b 3=0)(H:¬done b (st3 b).1.1 (st3 b).1.2=0):Ě b=((0,[],[],0,[],[],[]),done b (st3 b).1.1 (st3 b).1.2):=by simp_all[Ě,R!,Q!]
theorem aVS(h:jd b 3=0)(H:done b (st3 b).1.1 (st3 b).1.2=0):Ě b=(((st1 b).2.1,(st1 b).2.2.1,(st1 b).2.2.2,(st2 b).2.1,(st2 b).2.2.1,(st2 b).2.2.2,(st3 b).2),0):=by simp_all[Ě,R!]
variable {l:List Sg}{a b:List B8}{m:List aB}{s:List Int}{j:Int}{c:B8}
theorem I6(h:cO n g l=true):0<=n/\n<=1000/\g.length=32/\l.length<=64:=by
 grind[jq,sb]
theorem WN(h:cO n g l=true):az (hB n g l)/\small (hB n g l):=by
 grind[ae9,az,small]
def qV(n:Int)(g:B8)(l:M Sg):B8×Int:=if cO n g l then(l7 3 (hB n g l),0) else([],1)
def afu(n:Int)(g:B8)(l:M Sg):B8:=pB 3 (hB n g l)
def fk(docs:O)(l:M aB):B8×Int:=
 if cy docs l then(l7 3 (hB docs.length (root (leaves docs)) (ya docs l)),0) else([],7)
def a2k(docs:O)(i:Int):B8:=docs.getD i.toNat []
def Qy(a b:B8):Bool:=decide (a=b)
def SQ(d:M bw)(ts:O):M Pf:=ts.map (aod d)
def sd(d:M bw)(ts:O)(k:Nat):M Pf:=(ts.take k).map (aod d)
def Qz(d:M bw)(ts:O):Prop:=aW d/\aK d=true/\ts.length<=1000/\∀t∈ts,isTerm t=true
def pPs(l:M aB)(ts:O):M (M Pf):=l.map λs=>SQ s.2.2 ts
def oB(l:M aB)(ts:O)(k:Nat):M (M Pf):=pPs (l.take k) ts
def rF(docs:O)(l:M aB)(q:M bj):B8×Int:=
 if cy docs l=false then([],7) else if aZ q=false then([],1)
 else xF docs.length (root (leaves docs)) (ya docs l) (pPs l (al q))
def oC(docs:O)(l:M aB)(i:Int):B8×Int:=
 if cy docs l=false then([],7) else if i<0\/(docs.length:Int)<=i then([],5)
 else Kw docs.length (root (leaves docs)) (ya docs l) i (docs.getD i.toNat []) (path (leaves docs) i)
def aNW(a b:O):Bool:=decide (a.length<=b.length)&&decide (a=b.take a.length)
def aWv(a b:O)(k:Nat):Prop:=a.length<=b.length/\k<=a.length/\a.take k=b.take k
def aRL(docs:O)(l:M aB)(a:O)(L:M aB):B8×Int:=
 if cy docs l=false\/cy a L=false then([],7) else if aNW docs a=false then([],1)
 else aYI docs.length (root (leaves docs)) (ya docs l) a.length (root (leaves a)) (ya a L) (ajK (leaves a) docs.length)
theorem aYw(h:cO n g l=true):((aNV n g l).length:Int)<=4009:=by
 have:=a2h h;grind[ap3,hB,aNV]
theorem a2W:∀(p:O),cP p=true->p.flatten.length=32*p.length
 |[],_=>rfl
 |a::p,h=>by
  have H:=(cQ _).1 h a (G! ..);have:=a2W p ((cQ _).2 λd k=>(cQ _).1 h d (F! _ k));rw[List.flatten_cons,J!,M?,H,this];omega
theorem aZC(h:cP p=true):(aQL p).length<=32*p.length+9:=by
 grind[cU,aQL,List.length_append,a2W]
theorem aY0 {b:B8}(h:(b.length:Int)<=1048576):Fv (b,false)=b/\Fw (b,false)=0:=by
 simp_all[Fv,Fw,R!]
variable {l:List aB}
theorem AI(h:cy docs l=true):docs.length<=1000/\(∀i,((docs.getD i []).length:Int)<=2000):=by
 have H:=(RI.of (iL.1 h).1).fair;simp[dm,Bool.and_eq_true,List.all_eq_true,decide_eq_true_eq] at H;grind
theorem nA(l:O):(leaves l).length=l.length:=by simp[leaves]
theorem a2l(h:cy docs l=true)(H:0<=i)(k:i<docs.length):
  (path (leaves docs) i).length<=10/\cP (path (leaves docs) i)=true:=by
 have:=(AI h).1;exact⟨apP H (by grind[nA]) (by grind[nA]),aal _ _ _ rfl (kn docs)⟩
theorem a0j(h:cy docs l=true)(H:0<=i)(o:i<docs.length):
  oC docs l i=(aVJ docs.length (root (leaves docs)) (ya docs l) i (docs.getD i.toNat []) (path (leaves docs) i),0)/\
  bx (oC docs l i).1=(((docs.length:Int),root (leaves docs),ya docs l,i,docs.getD i.toNat [],path (leaves docs) i),0)/\
  ((oC docs l i).1.length:Int)<=1048576:=by
 obtain⟨D,d⟩:=AI h;obtain⟨p1,p⟩:=a2l h H o;have k:=wk h;have u:gi i=false:=Qo H w!
 have w:((aVJ docs.length (root (leaves docs)) (ya docs l) i (docs.getD i.toNat []) (path (leaves docs) i)).length:Int)<=1048576:=by
  have a:=aYw k;grind[cU,ap3,aZC,aVJ,List.length_append,List.length_singleton]
 have e:oC docs l i=(aVJ docs.length (root (leaves docs)) (ya docs l) i (docs.getD i.toNat []) (path (leaves docs) i),0):=by
  unfold oC Kw afe;rw[if_neg (by rw[h];decide),if_neg w!,aYu k,a1D u,aYt (d _),aZA w! p];have:=aY0 w;simp only[aVJ] at this;simp only[cat,Bool.or_false,aVJ];rw[this.1,this.2]
 grind[a34]
theorem a5l(h:aNW a b=true):a.length<=b.length:=by
 simp[aNW,B!,H!] at h;omega
theorem a1H {a:O}{L:M aB}(h:cy docs l=true)(H:cy a L=true)(u:aNW docs a=true):
  aRL docs l a L=(aWh docs.length (root (leaves docs)) (ya docs l) a.length (root (leaves a)) (ya a L) (ajK (leaves a) docs.length),0)/\
  Ě (aRL docs l a L).1=(((docs.length:Int),root (leaves docs),ya docs l,(a.length:Int),root (leaves a),ya a L,ajK (leaves a) docs.length),0)/\
  ((aRL docs l a L).1.length:Int)<=1048576:=by
 have d:=(AI H).1;have k:=wk h;have q:=wk H
 have o:cP (ajK (leaves a) docs.length)=true/\(ajK (leaves a) docs.length).length<=11:=by
  unfold ajK;split;split;exact⟨rfl,Nat.zero_le _⟩;exact aVr 10 _ _ _ (kn a) (by grind[nA]);exact⟨rfl,Nat.zero_le _⟩
 unfold aRL;generalize ajK (leaves a) docs.length=p at *
 have w:((aWh docs.length (root (leaves docs)) (ya docs l) a.length (root (leaves a)) (ya a L) p).length:Int)<=1048576:=by
  have A:=aYw k;have y:=aYw q;grind[aZC,aWh,List.length_append,List.length_singleton]
 have e:(if cy docs l=false\/cy a L=false then(([]:B8),(7:Int)) else if aNW docs a=false then([],1) else aYI docs.length (root (leaves docs)) (ya docs l) a.length (root (leaves a)) (ya a L) p)=(aWh docs.length (root (leaves docs)) (ya docs l) a.length (root (leaves a)) (ya a L) p,0):=by
  unfold aYI a1d;rw[if_neg x!,if_neg x!,aYu k,aYu q,aZA w! o.1];simp_all[aY0,aWh,cat,Bool.or_false]
 grind[a38]
theorem aqh(h:v<16384):(num v).length<=2:=by
 grind[num,rD]
theorem aqi {l:U}(h:aV l=true):(iH l).length<=2*l.length+2:=by
 have o:=mz h
 have q:∀k,k<=l.length->((List.range k).flatMap (λi=>num (l.getD i 0-cD l i-1))).length<=2*k:=by
  intro k;induction k with
  |zero=>simp
  |succ k I=>
   intro u;have w:=Ue (aeR h (k:=k) w!);have y:=(iI l k).1 ((jI l).1 h k w!);have H:=aqh (v:=l.getD k 0-cD l k-1) w!;rw[List.range_succ,List.flatMap_append,J!];simp only[List.flatMap_cons,List.flatMap_nil,B?];omega
 have:=q l.length (M! _);have H:=aqh (v:=(l.length:Int)) w!;simp only[iH,b6,J!];omega
theorem Uw(h:aK d=true)(t:B8):aV (dN d t)=true:=by
 unfold dN;split;rename_i H;have k:=Ef H;simp_all[v8,bo]
 rfl
theorem aGY(h:aK d=true){i:Nat}(H:i<=d.length):eR (bg (apB d i)).1.1 (bg (apB d i)).1.2.1 (bg (apB d i)).1.2.2=true:=by
 rcases wa h (k:=i) with q|q;have e:apB d i=mc (if i=0 then [] else cF d (i-1)) (if i<d.length then cF d i else []) (kl (if i=0 then [] else iD d (i-1))):=rfl;grind[Qe];omega
theorem aas(h:aK d=true)(k:d.length<=1048576)(t:B8):Ì (aod d t)=true:=by
 obtain⟨f,F,f3⟩:=Å (t:=t) h;have H:(leaves (dW d)).length=d.length+1:=by rw[nA,f3]
 refine Ut.2 ⟨Qo f (by grind[aod]),aGY h w!,?_,aal _ _ _ rfl (kn _),?_⟩;have:=apP (l:=leaves (dW d)) (i:=bo d t+1) (t:=21) f w! w!;grind[aod];grind[aod,Uw,aqi,mz]
theorem aqj(h:aK d=true)(H:d.length<=1048576)(ts:O):∀p∈SQ d ts,Ì p=true:=by
 intro p G;obtain⟨t,_,rfl⟩:=List.mem_map.1 G;grind[aas]
theorem Eo(h:cy docs l=true):∀s∈l,aK s.2.2=true/\s.2.2.length<=1048576/\aW s.2.2:=by
 intro s k;have R:=RI.of (iL.1 h).1;obtain⟨o,H,_⟩:=R.seg s k;refine⟨?_,H.1,H⟩;have :eS s.1 s.2.1 s.2.2=true:=o;simp[eS,Bool.and_eq_true] at this;grind
theorem aqk(h:cy docs l=true)(k:ts.length<=16):∀x∈pPs l ts,(x.length:Int)<=16/\∀p∈x,Ì p=true:=by
 intro x H;obtain⟨s,o,rfl⟩:=List.mem_map.1 H;grind[Eo,SQ,aqj]
theorem Mu(h:cy docs l=true):(ya docs l).length=l.length:=by
 grind[ya,iK,iL,List.length_map]
theorem a5m(h:cy docs l=true)(k:aZ q=true):
  rF docs l q=(Fv (aYC docs.length (root (leaves docs)) (ya docs l) (pPs l (al q)),false),Fw (aYC docs.length (root (leaves docs)) (ya docs l) (pPs l (al q)),false)):=by
 have o:=aqk h (qe k);have u:(pPs l (al q)).length=(ya docs l).length:=by rw[Mu h];simp[pPs]
 have w:WI (pPs l (al q))=true:=List.all_eq_true.2 λx H=>decide_eq_true (o x H).1;unfold rF xF;rw[if_neg (by rw[h];decide),if_neg (by rw[k];decide),if_neg (by rw[u,w];simp),a1F (wk h) (λx H=>(o x H).2) _ (Nat.le_refl _)];rfl
theorem a0Z(h:cy docs l=true)(k:aZ q=true)(u:(rF docs l q).2=0):
  rF docs l q=(aYC docs.length (root (leaves docs)) (ya docs l) (pPs l (al q)),0)/\((rF docs l q).1.length:Int)<=1048576/\
  aI (rF docs l q).1=(((docs.length:Int),root (leaves docs),ya docs l,pPs l (al q)),0):=by
 have e:=a5m h k;rw[e] at u |-
 have H:((aYC docs.length (root (leaves docs)) (ya docs l) (pPs l (al q))).length:Int)<=1048576:=by
  simp_all[Fw,R!]
 have o:=aY0 H;rw[o.1,o.2];exact⟨rfl,H,a5k (wk h) (by grind[Mu,pPs]) (aqk h (qe k)) H⟩
theorem aWR {k:Type}(f:k->B8)(c:Nat):∀(l:M k),(∀x∈l,(f x).length<=c)->(l.flatMap f).length<=c*l.length
 |[],_=>by simp
 |a::l,h=>by
  have i:=aWR f c l λx H=>h x (List.mem_cons_of_mem _ H);grind[List.length_append,List.length_cons,Nat.mul_succ]
def tH(docs:O)(l:M aB):B8:=afu docs.length (root (leaves docs)) (ya docs l)
def hx(l:M aRI):Qi:=(bS (eZ l).1 (eZ l).2).1
def aEE(l m:M aRI)(k:Nat):Qi:=mT (hx l) m k
theorem aGZ{l:M Sg}(h:¬(hW n g l).2=0):qV n g l=([],1)/\(hW n g l).2=1:=by
 grind[cO,NC,aai,qV]
theorem awc{l:M Sg}(h:(hW n g l).2=0):qV n g l=(l7 3 (hW n g l).1,0)/\az (hW n g l).1:=by
 simp_all[apL,qV,Q!,WN]
theorem aat(h:¬(gI docs l).2=0):cy docs l=false:=by
 grind[En]
theorem uJ(h:(gI docs l).2=0):cy docs l=true/\(gI docs l).1.1=(docs.length:Int)/\(gI docs l).1.2.1=root (leaves docs)/\(gI docs l).1.2.2=ya docs l:=by
 grind[cy,En,apK]
theorem aG0(h:¬(gI docs l).2=0):fk docs l=([],7):=by grind[fk,aat]
theorem awd(h:(gI docs l).2=0):qV (gI docs l).1.1 (gI docs l).1.2.1 (gI docs l).1.2.2=fk docs l:=by
 simp_all[uJ,fk,qV,Q!,wk]
theorem Mv(h:isTerm t=true):small t:=by grind[CU,small]
theorem awe(d:M bw)(ts:O)(k:Nat):(sd d ts k).length<=ts.length:=by grind[sd,List.length_take]
theorem aql{k:Nat}(h:(k:Int)<ts.length):sd d ts k++[aod d (ts.getD (Int.toNat (k:Int)) [])]=sd d ts (k+1):=by
 grind[Int.toNat_natCast,sd,an]
theorem awf{k:Nat}(h:dX ts k)(H:¬(k:Int)<ts.length):sd d ts k=SQ d ts:=by
 grind[dX,sd,SQ,List.take_length]
theorem aG1(h:Qz d ts){k:Nat}(H:(k:Int)<ts.length):isTerm (ts.getD (Int.toNat (k:Int)) [])=true:=by
 exact h.2.2.2 _ (aU ts k [] w!)
theorem awg(l:M aB)(ts:O)(k:Nat):(oB l ts k).length<=l.length:=by grind[oB,pPs,List.length_take]
theorem aqm{k:Nat}(h:(k:Int)<l.length):oB l ts k++[SQ (l.getD (Int.toNat (k:Int)) (0,0,[])).2.2 ts]=oB l ts (k+1):=by
 grind[Int.toNat_natCast,oB,pPs,an]
theorem awh{k:Nat}(h:dX l k)(H:¬(k:Int)<l.length):oB l ts k=pPs l ts:=by
 grind[dX,oB,List.take_length]
theorem Ux(h:cy docs l=true):l.length<=64:=by simpa[fT] using(RI.of (iL.1 h).1).le
theorem GI(h:cy docs l=true):dj docs/\eX (leaves docs)/\small (leaves docs):=by
 obtain⟨k,H⟩:=GF (iL.1 h).1;exact⟨k,H,H⟩
theorem awi(h:cy docs l=true)(H:aZ q=true){k:Nat}(o:(k:Int)<l.length):Qz (l.getD (Int.toNat (k:Int)) (0,0,[])).2.2 (al q):=by
 obtain⟨f,u,F⟩:=Eo h _ (aU l k (0,0,[]) w!);exact⟨F,f,by grind[qe],È H⟩
theorem aG2(h:¬(gI docs l).2=0):rF docs l q=([],7):=by simp_all[rF,Q!,aat]
theorem awj {docs:O}{l:M aB}(h:(gI docs l).2=0)(H:aZ q=false):rF docs l q=([],1):=by
 simp_all[rF,R!,uJ,Q!]
theorem awk(h:cy docs l=true)(H:aZ q=true){k:Nat}(h1:dX l k)(hk:¬(k:Int)<l.length):
  xF ((len docs:Nat):Int) (root (leaves docs)) (ya docs l) (oB l (al q) k)=rF docs l q/\zt (oB l (al q) k):=by
 rw[awh h1 hk];refine⟨by unfold rF;rw[if_neg x!,if_neg x!];rfl,?_,?_⟩;grind[Ux,pPs];intro x o p u;have:=(Ut.1 ((aqk h (qe H) x o).2 p u)).2.2.2.2;omega
theorem aG3(h:¬(gI docs l).2=0):oC docs l i=([],7):=by simp_all[oC,Q!,aat]
theorem awl {docs:O}{l:M aB}(h:(gI docs l).2=0)(H:i<0\/(docs.length:Int)<=i):oC docs l i=([],5):=by
 simp_all[oC,R!,uJ,Q!]
theorem afv {docs:O}{l:M aB}(h:(gI docs l).2=0)(H:¬i<0/\¬(docs.length:Int)<=i):
  tF (leaves docs) i=0/\Kw (gI docs l).1.1 (gI docs l).1.2.1 (gI docs l).1.2.2 i (docs.getD i.toNat []) (oz (leaves docs) i)=oC docs l i/\(docs.getD i.toNat []).length<=1099511627776:=by
 obtain⟨k,o,u,w⟩:=uJ h;have q:cP (leaves docs)=true/\0<=i/\i<(leaves docs).length:=⟨kn docs,w!,by grind[nA]⟩;refine⟨by simp_all[tF,if_pos],?_,by grind[AI]⟩;simp_all[oC,oz,if_pos,if_neg]
theorem a5n(h:¬(gI a l).2=0\/¬(gI b m).2=0):aRL a l b m=([],7):=by
 unfold aRL;grind[aat]
theorem a1f {a:O}{l:M aB}{b:O}{m:M aB}(h:(gI a l).2=0)(H:(gI b m).2=0)(k:aNW a b=false):aRL a l b m=([],1):=by
 simp_all[aRL,R!,uJ,Q!]
theorem a1g {a:O}{l:M aB}{b:O}{m:M aB}(h:(gI a l).2=0)(H:(gI b m).2=0)(k:aNW a b=true):
  aYI (gI a l).1.1 (gI a l).1.2.1 (gI a l).1.2.2 (gI b m).1.1 (gI b m).1.2.1 (gI b m).1.2.2 (ajK (leaves b) (a.length:Int))=aRL a l b m/\aUY (leaves b) (a.length:Int)=0:=by
 obtain⟨o,u,w,y⟩:=uJ h;obtain⟨g,G,z,A⟩:=uJ H;simp_all[a5l,aRL,R!,aUY,Q!,kn,nA]
theorem a6K {b:O}(h:(b.length:Int)<a.length):aNW a b=false:=by
 grind[aNW,decide_eq_false]
theorem ban {b:O}(h:¬(b.length:Int)<a.length):aWv a b 0:=⟨w!,S! _,z!⟩
theorem a2X {a b:O}{k:Nat}(h:aWv a b k)(o:(k:Int)<a.length)(H:Qy (a.getD (Int.toNat (k:Int)) []) (b.getD (Int.toNat (k:Int)) [])=false):aNW a b=false:=by
 have d:=of_decide_eq_false H;grind[aNW]
theorem a5o {a b:O}{k:Nat}(h:aWv a b k)(H:(k:Int)<a.length)(he:Qy (a.getD (Int.toNat (k:Int)) []) (b.getD (Int.toNat (k:Int)) [])=true):aWv a b (k+1):=by
 rw[E?] at he;refine⟨h.1,w!,?_⟩;rw[an a k [] w!,an b k [] (by have:=h.1;omega),h.2.2,of_decide_eq_true he]
theorem a1h{k:Nat}(h:aWv a b k)(H:¬(k:Int)<a.length):aNW a b=true:=by
 have q:=h.2.2;grind[List.take_length,aNW,decide_eq_true]
def kx:Qi:=([yo],[(0,1,[(yo,[0])])])
theorem aqn:dq jK:=⟨by unfold small;decide,by unfold small;decide⟩
theorem a5p(h:cy docs l=true)(H:aZ q=false):rF docs l q=([],1):=by
 simp_all[rF,R!,Q!]
theorem aqo(h:cy docs l=true):fk docs l=(tH docs l,0):=by unfold fk;rw[if_pos h];rfl
theorem a5q(h:cy b m=true):a4a (ajK (leaves b) ((len a:Nat):Int)):=by
 have d:=(AI h).1;unfold ajK;split;split;exact⟨Nat.zero_le _,rfl⟩;have:=aVr 10 (leaves b) ((len a:Nat):Int) false (kn b) (by grind[nA]);exact⟨w!,this.1⟩;exact⟨Nat.zero_le _,rfl⟩
theorem a2Y {docs:O}:∀(S:M Sp) (a:Int),fI docs a S=true->(S.length:Int)<=fi a S-a
 |[],a,_=>by simp[fi]
 |s::r,a,h=>by
  simp[fI,Bool.and_eq_true,decide_eq_true_eq,ajQ] at h;have i:=a2Y r s.2 h.2.2;grind[List.length_cons,fi]
theorem a6L(h:aY docs l=true):l.length<=docs.length:=by
 have R:=RI.of h;have H:=a2Y _ 0 R.row;have k:=R.bd;have o:=R.Wx;omega
theorem a5r(h:aY docs l=true)(a b c:Int)(d:B8):
  (pH docs l a b c d).1.1.length+(pH docs l a b c d).1.2.length<=docs.length+l.length+1/\(pH docs l a b c d).1.1.take docs.length=docs/\docs.length<=(pH docs l a b c d).1.1.length:=by
 have H:=ZW h a b c d;by_cases k:a=0;have o:=alv h a b c d;rw[if_neg w!] at H;have u:=iK h;refine⟨w!,?_,?_⟩;unfold pH;grind[aQw];unfold pH;grind[aQw];grind[keeps]
theorem aZD {x:Qi}(h:aY x.1 x.2=true)(m:M aRI):∀k,(mT x m k).1.length+(mT x m k).2.length<=x.1.length+x.2.length+k/\(mT x m k).1.take x.1.length=x.1/\x.1.length<=(mT x m k).1.length
 |0=>⟨M! _,List.take_length,M! _⟩
 |k+1=>by
  have i:=aZD h m k;rw[mT];split;grind;have H:=Mq h m k;have:=a5r H (wi m k).1 (wi m k).2.1 (wi m k).2.2.1 (wi m k).2.2.2;grind
theorem a5s(l:M aRI):(hx l).1=(eZ l).1:=(pf l).1
theorem aU5(l:M aRI):cy (hx l).1 (hx l).2=true:=by rw[a5s];exact(pf l).2.2.2.2
theorem a6M(l:M aRI):(hx l).1.length+(hx l).2.length<=41:=by
 have h:=(aZD (x:=([],[])) ae0 l (min l.length 40)).1;grind[List.length_nil,apM,Â,avC,a5s,hx,eZ]
theorem a4b(l m:M aRI)(k:Nat):aY (aEE l m k).1 (aEE l m k).2=true:=Mq (iL.1 (aU5 l)).1 m k
theorem a00(l m:M aRI){k:Nat}(u:k<=40):
  cy (bS (aEE l m k).1 (aEE l m k).2).1.1 (bS (aEE l m k).1 (aEE l m k).2).1.2=true/\aNW (hx l).1 (bS (aEE l m k).1 (aEE l m k).2).1.1=true:=by
 have h:=a4b l m k;have w:=aZD (iL.1 (aU5 l)).1 m k;have H:=a6M l;have o:=a6L h;have e:aEE l m k=mT (hx l) m k:=rfl;grind[Â,aNW,decide_eq_true]
theorem a1I(l m:M aRI)(k:Nat):
  (bif decide (((m.getD (Int.toNat (k:Int)) (0,0,0,[])).2.2.2.length:Int)<=2500) then(pH (aEE l m k).1 (aEE l m k).2 (m.getD (Int.toNat (k:Int)) (0,0,0,[])).1 (m.getD (Int.toNat (k:Int)) (0,0,0,[])).2.1 (m.getD (Int.toNat (k:Int)) (0,0,0,[])).2.2.1 (m.getD (Int.toNat (k:Int)) (0,0,0,[])).2.2.2).1.1 else(aEE l m k).1)=(aEE l m (k+1)).1/\
  (bif decide (((m.getD (Int.toNat (k:Int)) (0,0,0,[])).2.2.2.length:Int)<=2500) then(pH (aEE l m k).1 (aEE l m k).2 (m.getD (Int.toNat (k:Int)) (0,0,0,[])).1 (m.getD (Int.toNat (k:Int)) (0,0,0,[])).2.1 (m.getD (Int.toNat (k:Int)) (0,0,0,[])).2.2.1 (m.getD (Int.toNat (k:Int)) (0,0,0,[])).2.2.2).1.2 else(aEE l m k).2)=(aEE l m (k+1)).2:=by
 have e:aEE l m (k+1)=if(2500:Int)<(wi m k).2.2.2.length then aEE l m k else(pH (aEE l m k).1 (aEE l m k).2 (wi m k).1 (wi m k).2.1 (wi m k).2.2.1 (wi m k).2.2.2).1:=by
  rfl
 rw[e];show(bif decide (((wi m k).2.2.2.length:Int)<=2500) then _ else _)=_/\(bif decide (((wi m k).2.2.2.length:Int)<=2500) then _ else _)=_;by_cases h:((wi m k).2.2.2.length:Int)<=2500;rw[decide_eq_true h,if_neg w!];exact⟨rfl,rfl⟩;grind
theorem a0k(h:cy a l=true)(H:cy b m=true)(k:aNW a b=true):
  (aRL a l b m).1.length<=140737488355328/\(aRL a l b m).2=0/\Ě (aRL a l b m).1=((((len a:Nat):Int),root (leaves a),ya a l,((len b:Nat):Int),root (leaves b),ya b m,ajK (leaves b) (a.length:Int)),0):=by
 have:=a1H h H k;exact⟨w!,x!,this.2.1⟩
theorem a1J {d:M bw}(h:aK d=true)(k:d.length<=65000)(o:∀t,(dN d t).length<=200)(t:B8):(aQX (aod d t)).length<=1200:=by
 obtain⟨f,F,f3⟩:=Å (t:=t) h;have H:(leaves (dW d)).length=d.length+1:=by rw[nA,f3]
 have a:=cU (bo d t+1);have A:=Ay (aGY h (i:=(bo d t+1).toNat) w!);have u:=ap3 (mc (bg (apB d (bo d t+1).toNat)).1.1 (bg (apB d (bo d t+1).toNat)).1.2.1 (bg (apB d (bo d t+1).toNat)).1.2.2);have w:=aZC (aal _ (leaves (dW d)) (bo d t+1) rfl (kn _));have y:=apP (l:=leaves (dW d)) (i:=bo d t+1) (t:=16) f w! w!
 have z:(text (if fE d t then iH (dN d t) else [])).length<=411:=by
  grind[ap3,aqi,Uw]
 simp[aQX,aod,J!];omega
theorem a5t(h:cy docs l=true)(H:aZ q=true)(u:docs.length<=40)(z:l.length<=41):(rF docs l q).2=0:=by
 rw[a5m h H];refine(aY0 ?_).2;have A:=qe H;have R:=RI.of (iL.1 h).1
 have m:∀x∈pPs l (al q),(aUV x x.length).length<=1200*16+9:=by
  intro x w;obtain⟨s,k,rfl⟩:=U?.1 w;obtain⟨f,F,B⟩:=Eo h s k;obtain⟨C,D,E,r⟩:=R.seg s k;obtain⟨b,G,I,J,K⟩:=sa r
  have o:s.2.2.length<=65000:=by
   grind[uY,b8,eh,b7,Um]
  have u:∀t,(dN s.2.2 t).length<=200:=by
   grind[als,IU,r7,Mj]
  have:=aWR aQX 1200 (SQ s.2.2 (al q)) (λp y=>by
   obtain⟨t,_,rfl⟩:=List.mem_map.1 y;grind[a1J])
  grind[cU,SQ,al,aYJ,List.length_append,Nat.mul_le_mul_left]
 have:=aWR (λx=>aUV x x.length) _ _ m;have L:(pPs l (al q)).length=l.length:=by simp[pPs]
 have a:=aYw (wk h);grind[Nat.mul_le_mul_left,aYC,aYs,List.length_append,List.length_singleton,List.take_length]
def EH(n:Int)(g:B8)(l:M Sg)(r:B8):Bool:=decide ((qV n g l).2=0)&&decide ((qV n g l).1=r)
def qW(a:M (M Pf))(i:Int)(t:O):Bool:=decide ((a.getD i.toNat []).length=t.length)
def yp(l:U)(a b:Int)(k:Nat):Prop:=∀j,j<k->a<=l.getD j 0/\l.getD j 0<b
def xG(l:U)(a b:Int):Bool:=l.all λx=>decide (a<=x)&&decide (x<b)
theorem awm{l:M Sg}{r:B8}:(bif decide ((qV n g l).2=0) then decide ((qV n g l).1=r) else false)=EH n g l r:=by
 grind[decide,qV,EH]
variable {a b m:Int}{l:List Int}{d:B8}
theorem AJ{k:Nat}(h:yp l a b k)(H:a<=l.getD k 0)(o:l.getD k 0<b):yp l a b (k+1):=λj u=>by
 by_cases S:j=k;grind;exact h j w!
theorem Ep{k:Nat}(h:yp l a b k)(o:l.length<=k):xG l a b=true:=by
 simp[xG,List.all_eq_true,Bool.and_eq_true,decide_eq_true_eq];intro x H;obtain⟨j,u,rfl⟩:=List.getElem_of_mem H;have:=h j w!;grind
theorem I7{k:Nat}(hk:k<l.length)(h:l.getD k 0<a\/b<=l.getD k 0):xG l a b=false:=by
 rw[Bool.eq_false_iff];intro H;simp[xG,V!,B!,H!] at H;have:=H l[k] (List.getElem_mem hk);rw[E!,C! hk] at h;simp at h;omega
theorem aNA(h:ob i n):j4 i n (i,n,[]):=⟨h.1,h.2.1,Int.le_refl _,z!,z!⟩
theorem QA(H:ob i n)(h:j4 i n x)(k:1<x.2.1):
  split x.2.1=((sp x.2.1.toNat:Nat):Int)/\1<=split x.2.1/\split x.2.1<x.2.1/\x.2.1<=1099511627776/\x.2.2.length<=1099511627776/\0<=x.1/\x.1<x.2.1:=by
 have⟨_,_,p⟩:=H;have⟨q,Q,o,_,u⟩:=h;grind[Aw,iY]
theorem aNB(H:ob i n)(h:j4 i n x)(k:1<x.2.1)(o:x.1<split x.2.1):j4 i n (x.1,split x.2.1,x.2.2++[false]):=by
 have⟨b,B,u,w,y,_⟩:=QA H h k;have⟨q,Q,z,A,C⟩:=h;refine⟨q,o,x!,?_,x!⟩;grind[zn]
theorem aNC(H:ob i n)(h:j4 i n x)(k:1<x.2.1)(o:¬x.1<split x.2.1):j4 i n (x.1-split x.2.1,x.2.1-split x.2.1,x.2.2++[true]):=by
 have⟨b,B,u,w,y,_⟩:=QA H h k;have⟨q,Q,z,A,C⟩:=h;refine⟨w!,x!,x!,?_,x!⟩;grind[zo]
theorem sd_end(h:j4 i n x)(H:¬1<x.2.1):x.2.2=cq i n:=by
 rw[h.2.2.2.1,wo w!];simp
theorem aau(hp:ob i n):((cq i n).length:Int)<=1099511627776:=by
 have :∀m:Nat,∀i n:Int,n.toNat=m->0<=i->i<n->((cq i n).length)+1<=n:=by
  intro m;induction m using wu with
  |h0 m hm=>grind[wo]
  |h1 m hm ihl ihr=>
   intro i n e h0 h1;have hb:=iY hm;by_cases hi:i<((sp n.toNat:Nat));rw[zn w! hi];have:=ihl i ((sp n.toNat:Nat)) (by rw[e];simp) h0 hi;simp;rw[e] at this |-;omega;rw[zo w! hi];have:=ihr (i-((sp n.toNat:Nat):Int)) (n-((sp n.toNat:Nat):Int)) (by rw[e];omega) w! w!;simp;rw[e] at this |-;omega
 have:=this n.toNat i n rfl hp.1 hp.2.1;have:=hp.2.2;omega
theorem aG4 {d:B8}(h:¬((d.length:Int)=32/\1<=n/\n<=1099511627776/\0<=i/\i<n)): []=jO d i n p/\1=cB d i n p:=by
 simp_all[cB,R!,jO]
theorem afw {d:B8}(h:(d.length:Int)=32/\1<=n/\n<=1099511627776/\0<=i/\i<n):ob i n:=⟨h.2.2.2.1,h.2.2.2.2,h.2.2.1⟩
theorem awn {d:B8}{i n:Int}{p:O}(h:(d.length:Int)=32/\1<=n/\n<=1099511627776/\0<=i/\i<n)(H:¬((p.length:Int)=((cq i n).length:Int)/\cP p=true)): []=jO d i n p/\6=cB d i n p:=by
 have :cB d i n p=6:=by rw[cB,Q! h];exact R! H
 grind[jO]
theorem aG5 {d:B8}{i n:Int}{p:O}(h:(d.length:Int)=32/\1<=n/\n<=1099511627776/\0<=i/\i<n)(H:(p.length:Int)=((cq i n).length:Int)/\cP p=true):cB d i n p=0:=by
 rw[cB,Q! h];exact Q! H
theorem auv(h:cB d i n p=0):((d.length:Int)=32/\1<=n/\n<=1099511627776/\0<=i/\i<n)/\(p.length:Int)=((cq i n).length:Int)/\cP p=true:=by
 unfold cB at h;split at h;rename_i H;split at h;rename_i k;exact⟨H,k⟩;omega;omega
theorem aND(d:B8)(i n:Int)(p:O):d=cL d i n p 0:=by rfl
theorem Ð{k:Nat}(h:cB d i n p=0)(hk:k<p.length):
  (bif (cq i n).getD (((cq i n).length:Int)-1-(k:Int)).toNat false then bz (p.getD k []) (cL d i n p k) else bz (cL d i n p k) (p.getD k []))=cL d i n p (k+1):=by
 have⟨_,H,_⟩:=auv h;have hz:k<(List.zip (cq i n).reverse p).length:=by grind
 have e:cL d i n p (k+1)=O5 (cL d i n p k) ((List.zip _ p)[k]):=by
  unfold cL;rw[List.take_add_one,List.getElem?_eq_getElem hz,List.foldl_append];rfl
 rw[e,List.getElem_zip,List.getElem_reverse];have E:(((cq i n).length:Int)-1-k).toNat=(cq i n).length-1-k:=by omega
 rw[E,E!,C! w!,E!,C! hk];cases (cq i n)[(cq i n).length-1-k]<;>rfl
theorem awo{k:Nat}(h:cB d i n p=0)(H:p.length<=k):cL d i n p k=jO d i n p:=by
 rw[jO,if_pos h,apO,ko,cL,List.take_of_length_le];grind
def Ky(n:Int)(g d:B8)(p:O)(i:Int):Bool:=decide (cB (leaf d) i n p=0)&&decide (jO (leaf d) i n p=g)
abbrev Pg:=Int×B8×M Sg×Int×B8×O
def afx(r:B8)(i:Int)(p:Pg):Bool:=EH p.1 p.2.1 p.2.2.1 r&&(decide (p.2.2.2.1=i)&&Ky p.1 p.2.1 p.2.2.2.2.1 p.2.2.2.2.2 i)
def uc(r:B8)(i:Int)(b:B8):B8×Int:=
 if ¬r.length=32 then([],1) else if ¬(bx b).2=0 then([],(bx b).2) else if afx r i (bx b).1 then((bx b).1.2.2.2.2.1,0) else([],6)
theorem Ñ(b:B8):eX (bx b).1.2.2.2.2.2:=by
 unfold bx;split;exact Nat.zero_le _;split;exact Nat.zero_le _;show(I3 b).2.length<=_;grind[I3,aur,WK,WL]
theorem afy(b:B8):(bx b).1.2.2.2.2.1.length<=b.length:=by
 unfold bx;split;grind;split;grind;exact I5 _ _ _ _
variable {b:B8}{a:List Int}{p:Pf}
theorem aqp(h:b.length<1099511627776):eX (bx b).1.2.2.2.2.2/\az (bx b).1.2.2.2.2.1:=⟨Ñ b,Nat.lt_of_le_of_lt (afy b) h⟩
theorem aG6 {r:B8}(h:¬(r.length:Int)=32):uc r i b=([],1):=by rw[uc,Q! w!]
theorem aG7 {r:B8}(h:(r.length:Int)=32)(H:¬(bx b).2=0):uc r i b=([],(bx b).2):=by rw[uc,R! w!,Q! H]
theorem aqq {r:B8}(h:(r.length:Int)=32)(H:(bx b).2=0):uc r i b=if afx r i (bx b).1 then((bx b).1.2.2.2.2.1,0) else([],6):=by rw[uc,R! w!,R! w!]
def Kz:U:=(List.range 1000).map Int.ofNat
abbrev Kp:=Bool->Bool->Bool
def Br:Kp:=λx y=>x&&y
def QB:Kp:=λx y=>x || y
def Bs:Kp:=λx y=>x&& !y
def wy(k:Kp)(a b:U):U:=Kz.filter λn=>k (aVn a n) (aVn b n)
def wz(k:Kp)(a b:U):U:=wy k (tA a) (tA b)
def AK(a b:U):U:=wz Br a b
def qX(a b:U):U:=wz QB a b
def I8(a b:U):U:=wz Bs a b
abbrev Pk:=U×U×U
def mG(k:Kp)(a b:U)(x:Pk):Prop:=x.2.2++wy k x.1 x.2.1=wz k a b/\aV x.1=true/\aV x.2.1=true
def je(x:Pk):Nat:=x.1.length+x.2.1.length
def opL(o:Int)(a b:U):U:=if o=1 then AK a b else if o=2 then qX a b else I8 a b
def mV(f:B8->U)(s:M U)(o:bj):M U:=
 if o.1=0 then s++[f o.2] else s.take (s.length-2)++[opL o.1 (s.getD (s.length-2) []) (s.getD (s.length-1) [])]
def jU(f:B8->U)(l:M bj)(k:Nat):M U:=(l.take k).foldl (mV f) []
def mH(x:O)(t:B8):Nat:=(x.filter λa=>Op.bytesLess a t).length
def Bt(x:O)(t:B8):Bool:=decide (t∈x)
def od(t:O)(f:M U)(s:B8):U:=if Bt t s then f.getD (mH t s) [] else []
def Dd(l:M bj)(t:O)(f:M U):U:=(jU (od t f) l l.length).getD 0 []
def lO(l:M bj)(f:M U):Bool:=aZ l&&(decide (f.length=(al l).length)&&f.all aV)
def iM(l:M bj)(f:M U):U×Int:=if lO l f then(Dd l (al l) f,0) else([],1)
def yq(x:O):Prop:=qM x/\small x
def qY(x:O)(t:B8)(i j:Int):Prop:=0<=i/\i<=j/\j<=x.length/\(∀k:Nat,(k:Int)<i->Op.bytesLess (x.getD k []) t=true)/\∀k:Nat,j<=(k:Int)->k<x.length->Op.bytesLess (x.getD k []) t=false
def pn(b:B8):Nat->Int->Int->Int->U->U×Int
 |0,a,e,_,l=>if done b a e=0 then(l,0) else([],done b a e)
 |n+1,a,e,p,l=>
  if(ag b a e).1.2.2≠0 then([],(ag b a e).1.2.2)
  else if 998-p<(ag b a e).2 then([],2)
  else pn b n (ag b a e).1.2.1 (ag b a e).1.2.2 (p+((ag b a e).2+1)) (l++[p+((ag b a e).2+1)])
def oe(b:B8):Rd×Int:=ag b 0 0
def cu(b:B8):U×Int:=
 if(oe b).1.2.2≠0 then([],(oe b).1.2.2) else if 1000<(oe b).2 then([],2) else pn b (oe b).2.toNat (oe b).1.2.1 (oe b).1.2.2 (-1) []
abbrev Pr:=Int×Int×Int×U
def wA(b:B8)(k:Nat)(x:Pr):Prop:=(k:Int)<=(oe b).2/\(oe b).1.2.2=0/\(oe b).2<=1000/\pn b ((oe b).2.toNat-k) x.1 x.2.1 x.2.2.1 x.2.2.2=cu b/\ -1<=x.2.2.1/\x.2.2.1<=999/\x.2.2.2.length=k
def I9(t:B8)(e:Int)(p P p6:B8):Bool:=decide (p=t)&&(decide (e=0)&&decide (l7 2 p6=P))
def Ja(t P p p6:B8):Bool:=Op.bytesLess P t&&((Op.bytesLess t p || decide (p=[]))&&decide (p6.length=0))
def WO(p P h:B8):B8:=leaf (mc p P h)
def De(r:B8)(n:Int)(t:B8):Bool:=decide ((r.length:Int)=32)&&(decide (1<=n)&&(decide (n<=1099511627776)&&isTerm t))
def Nf(r:B8)(n:Int)(p:Pf):Bool:=eR p.2.1 p.2.2.1 p.2.2.2.1&&(decide (cB (WO p.2.1 p.2.2.1 p.2.2.2.1) p.1 n p.2.2.2.2.1=0)&&decide (jO (WO p.2.1 p.2.2.1 p.2.2.2.1) p.1 n p.2.2.2.2.1=r))
def Jb(t:B8)(p:Pf):U×Int:=
 if I9 t (cu p.2.2.2.2.2).2 p.2.1 p.2.2.2.1 p.2.2.2.2.2 then((cu p.2.2.2.2.2).1,0) else if Ja t p.2.1 p.2.2.1 p.2.2.2.2.2 then([],0) else([],6)
def jr(r:B8)(n:Int)(t:B8)(p:Pf):U×Int:=if De r n t then(if Nf r n p then Jb t p else([],6)) else([],1)
def Jc(l:M U)(x:U):M U:=l++[x]
def Df(t:O)(f:M U):Prop:=yq t/\f.length=t.length/\∀x∈f,aV x=true
def sH(l:M U):Prop:=2<=l.length/\small l
def tI(o:Int)(l:M U):M U:=l.take (l.length-2)++[opL o (l.getD (l.length-2) []) (l.getD (l.length-1) [])]
def GJ(l:M bj)(t:O)(f:M U):Prop:=aZ l=true/\small l/\Df t f
def pI(l:M bj)(s:M U)(k:Nat):Prop:=k<=l.length/\(s.length:Int)=c9 l k
def GK(f:M U)(k:Nat):Prop:=k<=f.length/\∀x∈f.take k,aV x=true
def wB(t:B8)(p5:O)(p6:B8):Prop:=small t/\eX p5/\az p6/\small p6
def og(r:B8)(n:Int)(t:B8)(p:Pf)(k:Nat):Prop:=k<=2/\De r n t=true/\Nf r n p=true/\(1<=k->I9 t (cu p.2.2.2.2.2).2 p.2.1 p.2.2.2.1 p.2.2.2.2.2=false)/\(2<=k->Ja t p.2.1 p.2.2.1 p.2.2.2.2.2=false)
theorem QC:∀ {l m:U},l.Pairwise (· < ·)->m.Pairwise (· < ·)->(∀x,x∈l↔x∈m)->l=m
 |[],[],_,_,_=>rfl
 |[],y::m,_,_,h=>by grind[List.mem_cons_self]
 |x::l,[],_,_,h=>by grind[List.mem_cons_self]
 |x::l,y::m,H,hm,h=>by
  rw[W?] at H hm
  have k:x=y:=by
   rcases O!.1 ((h x).1 (G! ..)) with e|e;exact e;rcases O!.1 ((h y).2 (G! ..)) with e'|e';exact e'.symm;have:=H.1 y e';have:=hm.1 x e;omega
  subst k;refine congrArg _ (QC H.2 hm.2 λz=>⟨λo=>?_,λo=>?_⟩)<;>grind
theorem aaw:n∈Kz↔0<=n/\n<1000:=by
 simp[Kz,List.mem_map,List.mem_range];constructor;grind;rintro⟨h,H⟩;exact⟨n.toNat,w!,x!⟩
theorem aax:Kz.Pairwise (· < ·):=by
 rw[Kz,List.pairwise_map];exact List.pairwise_lt_range.imp λh=>by grind
theorem pJ {k:Kp}{b:U}{x:Int}:x∈wy k a b↔(0<=x/\x<1000)/\k (aVn a x) (aVn b x)=true:=by
 rw[wy,List.mem_filter,aaw]
theorem AL(k:Kp)(a b:U):(wy k a b).Pairwise (· < ·):=aax.filter _
theorem aay(k:Kp)(a b:U):(wy k a b).length<=1000:=by
 refine b? (List.length_filter_le _ _) ?_;simp[Kz]
theorem xH {x:Int}(h:aV (x::l)=true):(0<=x/\x<1000)/\aV l=true/\∀y∈l,x<y:=by
 rw[jI] at h;have H:=(iI _ _).1 (h 0 z!)
 have k:∀i,i<l.length->(x::l).getD i 0<l.getD i 0/\l.getD i 0<1000:=λi hi=>by
  have:=(iI _ _).1 (h (i+1) x!);grind[lT]
 have o:∀i,i<l.length->x<l.getD i 0:=by
  intro i;induction i<;>grind
 rw[vZ] at H;simp at H;refine⟨⟨w!,H.2⟩,(jI l).2 λi hi=>(iI _ _).2 ⟨?_,(k i hi).2⟩,λy u=>?_⟩;cases i<;>grind[vZ,lT];obtain⟨i,hi,rfl⟩:=List.getElem_of_mem u;have:=o i hi;rwa [List.getD_eq_getElem?_getD,List.getElem?_eq_getElem hi] at this
def jQ(r s:U):Bool:=bif decide ((0:Int)<(r.length:Int)) then bif decide ((s.length:Int)=(0:Int)) then true else decide (r.getD (Int.toNat (0:Int)) 0<=s.getD (Int.toNat (0:Int)) 0) else false
def Jd(r s:U):Int:=bif jQ s r then s.getD (Int.toNat (0:Int)) 0 else bif jQ r s then r.getD (Int.toNat (0:Int)) 0 else 0
def pK(c:Bool)(r:U):U:=bif c then r.drop (Int.toNat (1:Int)) else r
def QE(r R:U)(c:Bool)(n:Int):Prop:=(∀x,x∈r↔x∈R\/(c=true/\x=n))/\(∀x∈R,n<x)/\aV R=true
theorem Uy(H:aV r=true)(h:aV s=true)(d:0<r.length\/0<s.length):
  (0<=Jd r s/\Jd r s<1000)/\QE r (pK (jQ r s) r) (jQ r s) (Jd r s)/\QE s (pK (jQ s r) s) (jQ s r) (Jd r s)/\(pK (jQ r s) r).length+(pK (jQ s r) s).length<r.length+s.length:=by
 cases r with
 |nil=>
  cases s with
  |nil=>grind
  |cons y s=>
   have⟨k,o,u⟩:=xH h;grind[jQ,Jd,pK,QE,List.length_nil,List.length_cons]
 |cons x r=>
  have⟨g,G,w⟩:=xH H;cases s with
  |nil=>
   grind[jQ,Jd,pK,QE,List.length_nil,List.length_cons]
  |cons y s=>
   have⟨k,o,u⟩:=xH h
   have e:jQ (x::r) (y::s)=decide (x<=y):=by
    grind[jQ,List.length_cons,decide_eq_true,decide_eq_false]
   have E:jQ (y::s) (x::r)=decide (y<=x):=by
    grind[jQ,List.length_cons,decide_eq_true,decide_eq_false]
   grind[Jd,pK,QE]
theorem awp {k:Kp}(hk:k false false=false)(w:aV r=true)(z:aV s=true)(d:0<r.length\/0<s.length):
  wy k r s=(if k (jQ r s) (jQ s r)=true then [Jd r s] else [])++wy k (pK (jQ r s) r) (pK (jQ s r) s):=by
 obtain⟨C,⟨D,a,_⟩,⟨E,b,_⟩,_⟩:=Uy w z d;generalize Jd r s=n at *;generalize pK _ r=R at *;generalize pK _ s=S at *;generalize jQ r s=A at *;generalize jQ s r=B at *
 have F:aVn R n=false/\aVn S n=false:=by
  grind[aVn,decide_eq_false_iff_not]
 have h:∀x,aVn r x=(aVn R x || (A&&decide (x=n))):=λx=>by
  simp_all[aVn,H!,Y?,B!]
 have H:∀x,aVn s x=(aVn S x || (B&&decide (x=n))):=λx=>by
  simp_all[aVn,H!,Y?,B!]
 refine QC (AL k r s) ?_ λx=>?_
 . split
   . rw[List.singleton_append];refine W?.2 ⟨λy o=>?_,AL k R S⟩;rw[pJ] at o;cases h1:aVn R y with
     |true=>exact a y (by simpa[aVn] using h1)
     |false=>
      cases u:aVn S y with
      |true=>exact b y (by simpa[aVn] using u)
      |false=>rw[h1,u,hk] at o;cases o.2
   rw[o?];exact AL k R S
 rw[pJ,h,H,List.mem_append,pJ];grind
theorem Uz(l:U):aV (tA l)=true:=by
 unfold tA;split;omega;rfl
theorem Er(l:U):(bif !aV l then [] else l)=tA l:=by
 grind[tA,aV]
theorem aqr(k:Kp)(a b:U):mG k a b (tA a,tA b,[]):=⟨o? _,Uz a,Uz b⟩
theorem WQ {k:Kp}(o:k false false=false){b:U}{x:Pk}(h:mG k a b x)(u:(bif decide ((0:Int)<(x.1.length:Int)) then true else decide ((0:Int)<(x.2.1.length:Int)))=false):x.2.2=wz k a b:=by
 have⟨w,_,_⟩:=h
 have e:x.1=[]:=by
  simp_all
 have E:x.2.1=[]:=by
  simp_all
 have :wy k [] []=[]:=List.eq_nil_iff_forall_not_mem.2 λy H=>by
  rw[pJ] at H;have :aVn [] y=false:=rfl;grind
 grind
theorem mw(h:jQ r s=true):(0:Int)<(r.length:Int)/\(1:Int)<=(r.length:Int):=by
 grind[jQ]
theorem aaz {k:Kp}(y:k false false=false){b:U}{x:Pk}(h:mG k a b x)(B:(bif decide ((0:Int)<(x.1.length:Int)) then true else decide ((0:Int)<(x.2.1.length:Int)))=true):
  x.2.2.length<=1000/\(k (jQ x.1 x.2.1) (jQ x.2.1 x.1)=true->mG k a b (pK (jQ x.1 x.2.1) x.1,pK (jQ x.2.1 x.1) x.2.1,x.2.2++[Jd x.1 x.2.1]))/\(k (jQ x.1 x.2.1) (jQ x.2.1 x.1)=false->mG k a b (pK (jQ x.1 x.2.1) x.1,pK (jQ x.2.1 x.1) x.2.1,x.2.2))/\
  je (pK (jQ x.1 x.2.1) x.1,pK (jQ x.2.1 x.1) x.2.1,x.2.2++[Jd x.1 x.2.1])<je x/\je (pK (jQ x.1 x.2.1) x.1,pK (jQ x.2.1 x.1) x.2.1,x.2.2)<je x:=by
 have⟨z,o,u⟩:=h
 have d:0<x.1.length\/0<x.2.1.length:=by
  grind
 have⟨_,⟨_,_,f⟩,⟨_,_,F⟩,w⟩:=Uy o u d;have C:=awp y o u d;have H:=congrArg List.length z;rw[List.length_append] at H;have:=aay k (tA a) (tA b);refine⟨?_,λA=>⟨?_,f,F⟩,λA=>⟨?_,f,F⟩,w,w⟩;unfold wz at H;omega;grind;grind
variable {x:List B8}{s:B8}{l:List bj}
theorem Je(H:yq x)(h:qY x t i j)(B:i<j):
  (i+j)%18446744073709551616/2^Int.toNat 1=(i+j)/2/\0<=i/\i<=(i+j)/2/\(i+j)/2<j/\j<=x.length/\(x.length:Int)<=1099511627776:=by
 have k:=H.2;unfold small at k;have⟨o,u,w,_⟩:=h;grind
theorem QG(h:qM x){a b:Nat}(k:a<b)(H:b<x.length):Op.bytesLess (x.getD a []) (x.getD b [])=true:=by
 rw[E!,C! w!,E!,C! H];exact List.pairwise_iff_getElem.1 h a b _ H k
theorem aG8(H:yq x)(h:qY x t i j)(z:i<=m)(A:m<j)(o:Op.bytesLess (x.getD m.toNat []) t=true):qY x t (m+1) j:=by
 have⟨B,C,u,D,w⟩:=h;refine⟨w!,w!,u,λk E=>?_,w⟩;by_cases y:k=m.toNat;grind;exact iC _ _ _ (QG H.1 (show k<m.toNat by omega) w!) o
theorem aG9(H:yq x)(h:qY x t i j)(o:i<=m)(A:m<j)(B:Op.bytesLess (x.getD m.toNat []) t=false):qY x t i m:=by
 have⟨u,C,D,w,E⟩:=h;refine⟨u,o,w!,w,λk F V=>?_⟩;by_cases y:k=m.toNat;grind;rw[Bool.eq_false_iff];intro z;have:=iC _ _ _ (QG H.1 (show m.toNat<k by omega) V) z;grind
theorem aHa(H:yq x)(h:qY x t i j)(k:i<=m)(o:m<j):
  qY x t (bif Op.bytesLess (x.getD m.toNat []) t then m+1 else i) (bif Op.bytesLess (x.getD m.toNat []) t then j else m)/\
  ((bif Op.bytesLess (x.getD m.toNat []) t then j else m)-(bif Op.bytesLess (x.getD m.toNat []) t then m+1 else i)).toNat<(j-i).toNat:=by
 grind[aG8,aG9]
theorem afz(h:qY x t i j)(B:¬i<j):i=(mH x t:Int):=by
 obtain⟨w,y,z,o,A⟩:=h
 have e:x.filter (λa=>Op.bytesLess a t)=x.take j.toNat:=by
  conv=>lhs;rw[<-O? j.toNat x]
  have E:(x.take j.toNat).filter (λa=>Op.bytesLess a t)=x.take j.toNat:=List.filter_eq_self.2 λa H=>by
   obtain⟨k,u,rfl⟩:=l? H;rw[C?] at u;have:=o k w!;rw[E!,C! w!] at this;rw[List.getElem_take];exact this
  have C:(x.drop j.toNat).filter (λa=>Op.bytesLess a t)=[]:=List.filter_eq_nil_iff.2 λa H=>by
   grind[List.getElem_of_mem]
  grind
 grind[mH,List.length_take]
theorem awq(u:yq x)(h:qY x t i j)(D:¬i<j):
  (bif decide (i<(x.length:Int)) then bif decide (x.getD i.toNat []=t) then true else bif false then false else false else false)=Bt x t:=by
 have⟨E,F,G,w,y⟩:=h;have z:j=i:=by omega
 subst z;rw[Bt,Bool.eq_iff_iff];have e:∀a b:Bool,(bif a then bif b then true else bif false then false else false else false)=true↔a=true/\b=true:=by decide
 rw[e,decide_eq_true_eq,decide_eq_true_eq,decide_eq_true_eq];constructor;grind;intro B;obtain⟨k,hk,rfl⟩:=List.getElem_of_mem B;have H:x.getD k []=x[k]:=by rw[List.getD_eq_getElem?_getD,List.getElem?_eq_getElem hk];rfl
 have C:j<=k:=by
  apply Classical.byContradiction;intro I;have:=w k w!;rw[H,cJ] at this;cases this
 refine⟨w!,?_⟩;by_cases A:k=j.toNat;rw[<-A];exact H;have h1:=QG u.1 (show j.toNat<k by omega) hk;have o:=y j.toNat w! w!;rw[H] at h1;rw[h1] at o;cases o
theorem afA(h:Bt x t=true):mH x t<x.length:=by
 have H:t∈x:=of_decide_eq_true h;grind[mH,Nat.not_le,List.filter_eq_self,List.Sublist.eq_of_length_le,List.filter_sublist,cJ]
variable {t:List B8}{x:Pr}
theorem aaA(k:Df t f)(h:(!Bt t s)=false):(0<=(mH t s:Int)/\(mH t s:Int)<(f.length:Int))/\small (f.getD (Int.toNat (mH t s:Int)) [])/\f.getD (Int.toNat (mH t s:Int)) []=od t f s:=by
 have H:Bt t s=true:=by grind
 have o:=afA H;have⟨_,u,w⟩:=k;rw[Int.toNat_natCast];refine⟨⟨w!,w!⟩,?_,by rw[od,if_pos H]⟩;grind[mz,aU,mH,small]
theorem awr(h:(!Bt t s)=true): []=od t f s:=by
 simp_all[Bt,od,R!]
theorem aws(f:B8->U)(l:M bj): []=jU f l 0:=by rfl
variable {f:B8->List Int}{s:List (List Int)}
theorem GL{k:Nat}(hk:k<l.length):jU f l (k+1)=mV f (jU f l k) (l.getD k (0,[])):=by
 rw[jU,an l k _ hk,List.foldl_append];rfl
theorem aqs {o:Int}(h:2<=s.length):(tI o s).length=s.length-1:=by
 grind[tI,List.length_append,List.length_take]
theorem Ò{k:Nat}(H:(k:Int)<l.length)(h:(cM l k).1=0):Jc (jU f l k) (f (cM l k).2)=jU f l (k+1):=by
 rw[GL w!];show _=mV f _ (cM l k);rw[mV,Q! h];rfl
theorem NG{l:M bj}{k:Nat}{o:Int}(H:(k:Int)<l.length)(h:(cM l k).1=o)(u:o≠0):tI o (jU f l k)=jU f l (k+1):=by
 rw[GL w!];show _=mV f _ (cM l k);rw[mV,R! w!,<-h];rfl
theorem aNF(h:aZ l=true){k:Nat}(H:(k:Int)<l.length):wx l k=true:=by
 simp_all[aZ,B!,V!,f?]
theorem Jf(h:aZ l=true){k:Nat}(H:(k:Int)<l.length):0<=(cM l k).1/\(cM l k).1<=3/\((cM l k).1≠0->2<=c9 l k):=by
 have:=aNF h H;grind[wx]
theorem WR(l:M bj)(k:Nat):c9 l k<=k:=by
 have:=gR l k;grind[c9]
theorem aNG(l:M bj):pI l [] 0:=⟨S! _,by rfl⟩
variable {f:List (List Int)}
theorem NH{k:Nat}(H:GJ l t f)(h:pI l s k)(o:(k:Int)<l.length)(u:(cM l k).1≠0):sH s:=by
 have:=(Jf H.1 o).2.2 u;have w:=h.2;have y:=WR l k;have z:=H.2.1;refine⟨w!,by grind[small]⟩
theorem alD{k:Nat}(H:GJ l t f)(h:pI l s k):small s:=by
 have o:=h.2;have u:=WR l k;have w:=H.2.1;have y:=h.1;grind[small]
theorem aqt {l:M bj}{g:B8->U}{k:Nat}(h:pI l (jU g l k) k)(hk:(k:Int)<l.length)(H:(cM l k).1=0):pI l (jU g l (k+1)) (k+1):=by
 refine⟨w!,?_⟩;rw[<-Ò hk H,Jc,J!,zq H,<-h.2];simp
theorem QH {l:M bj}{g:B8->U}{k:Nat}(H:GJ l t f)(h:pI l (jU g l k) k)(hk:(k:Int)<l.length){o:Int}(u:(cM l k).1=o)(w:o≠0):pI l (jU g l (k+1)) (k+1):=by
 have y:=(NH H h hk w!).1;refine⟨w!,?_⟩;rw[<-NG hk u w,aqs y,uH w!,<-h.2];omega
theorem afB{k:Nat}(H:GJ l t f)(h:pI l s k)(u:¬(k:Int)<l.length):0<s.length/\k=l.length:=by
 have e:k=l.length:=by have:=h.1;omega
 have o:=H.1;simp[aZ,Bool.and_eq_true,decide_eq_true_eq] at o;have w:=h.2;grind
theorem UA(h:small l):yq (al l):=by
 refine⟨iX _,?_⟩;have H:=eh (pj l);grind[pj,bL,List.length_map,Nat.le_trans,List.length_filter_le,small,al]
theorem KA(h:lO l f=false): []=(iM l f).1/\1=(iM l f).2:=by
 grind[iM]
theorem afC(h:lO l f=true):Dd l (al l) f=(iM l f).1/\0=(iM l f).2:=by
 grind[iM]
theorem aqu{k:Nat}(h:GK f k)(o:(k:Int)<f.length)(u:aV (f.getD k [])=true):GK f (k+1):=by
 refine⟨w!,λx H=>?_⟩;rw[an f k [] w!,I!,s?] at H;rcases H with H|rfl;exact h.2 x H;omega
theorem WS{k:Nat}(h:GK f k)(H:¬(k:Int)<f.length):f.all aV=true:=by
 have e:k=f.length:=by have:=h.1;omega
 have:=h.2;grind
theorem afD{k:Nat}(h:(k:Int)<f.length)(H:aV (f.getD k [])=false):f.all aV=false:=by
 grind
theorem qZ(b:B8)(a e:Int):0<=(ag b a e).2/\(ag b a e).2<=4611686018427387904:=by
 unfold ag;split;omega;split;omega;rename_i h _
 have H:dK b a:=by
  unfold bV at h;unfold dK;by_cases k:e=0/\inside b a=false;grind;simp_all[if_neg,inside,Bool.and_eq_true,decide_eq_true_eq]
 simp_all[PJ]
theorem aNH {b:B8}(h:(oe b).1.2.2=0)(H:¬1000<(oe b).2):wA b 0 ((oe b).1.2.1,(oe b).1.2.2,-1,[]):=by
 have:=(qZ b 0 0).1;refine⟨this,h,w!,?_,z!,z!,rfl⟩;simp_all[cu,R!]
theorem afE(h:¬(oe b).1.2.2=0): []=(cu b).1/\(oe b).1.2.2=(cu b).2:=by
 simp_all[cu,Q!]
theorem Ó {b:B8}(h:(oe b).1.2.2=0)(H:1000<(oe b).2): []=(cu b).1/\2=(cu b).2:=by
 simp_all[cu,R!,Q!]
theorem WT{k:Nat}(h:wA b k x)(H:(k:Int)<(oe b).2):cu b=
  if(ag b x.1 x.2.1).1.2.2≠0 then([],(ag b x.1 x.2.1).1.2.2) else if 998-x.2.2.1<(ag b x.1 x.2.1).2 then([],2)
  else pn b ((oe b).2.toNat-(k+1)) (ag b x.1 x.2.1).1.2.1 (ag b x.1 x.2.1).1.2.2 (x.2.2.1+((ag b x.1 x.2.1).2+1)) (x.2.2.2++[x.2.2.1+((ag b x.1 x.2.1).2+1)]):=by
 have o:=h.2.2.2.1;have e:(oe b).2.toNat-k=((oe b).2.toNat-(k+1))+1:=by omega
 grind[pn]
theorem afF {b:B8}{k:Nat}(h:wA b k x)(hk:(k:Int)<(oe b).2)(h1:¬(ag b x.1 x.2.1).1.2.2=0): []=(cu b).1/\(ag b x.1 x.2.1).1.2.2=(cu b).2:=by
 rw[WT h hk,if_pos h1];grind
theorem afG {b:B8}{k:Nat}{x:Pr}(h:wA b k x)(hk:(k:Int)<(oe b).2)(o:(ag b x.1 x.2.1).1.2.2=0)(H:998-x.2.2.1<(ag b x.1 x.2.1).2): []=(cu b).1/\2=(cu b).2:=by
 rw[WT h hk,if_neg w!,if_pos H];grind
theorem aqv {b:B8}{k:Nat}{x:Pr}(h:wA b k x)(o:(k:Int)<(oe b).2)(w:(ag b x.1 x.2.1).1.2.2=0)(u:¬998-x.2.2.1<(ag b x.1 x.2.1).2):
  wA b (k+1) ((ag b x.1 x.2.1).1.2.1,(ag b x.1 x.2.1).1.2.2,x.2.2.1+((ag b x.1 x.2.1).2+1),x.2.2.2++[x.2.2.1+((ag b x.1 x.2.1).2+1)]):=by
 have H:=WT h o;rw[if_neg w!,if_neg u] at H;have y:=(qZ b x.1 x.2.1).1;have⟨_,g,G,_,z,A,B⟩:=h;refine⟨w!,g,G,H.symm,x!,x!,x!⟩
theorem Jg{k:Nat}(h:wA b k x)(H:¬(k:Int)<(oe b).2):cu b=if done b x.1 x.2.1=0 then(x.2.2.2,0) else([],done b x.1 x.2.1):=by
 have o:=h.2.2.2.1;simp_all[oe,pn]
variable {t:B8}
theorem awt {r:B8}(p:Pf)(h:De r n t=false): []=(jr r n t p).1/\1=(jr r n t p).2:=by
 grind[jr]
theorem aqw {r:B8}(h:De r n t=true)(H:Nf r n p=false): []=(jr r n t p).1/\6=(jr r n t p).2:=by
 grind[jr]
theorem WU {r:B8}(h:De r n t=true)(H:Nf r n p=true):jr r n t p=Jb t p:=by
 grind[jr]
theorem aHc(a b:B8):(!(Op.bytesLess a b || decide (a=b)))=Op.bytesLess b a:=by
 grind[pg,y8,cJ,decide_eq_false]
theorem WV {r:B8}(h:(r.length:Int)=32/\¬n<1/\¬1099511627776<n/\isTerm t=true):De r n t=true:=by
 simp_all[De,B!,H!]
theorem awu {r:B8}(h:¬(r.length:Int)=32\/n<1\/1099511627776<n\/isTerm t=false):De r n t=false:=by
 simp[De,Ne,Bool.and_eq_true,decide_eq_true_eq];grind
theorem QI {a:B8}(h:kJ a b c=0):eR a b c=true/\dw a b c=mc a b c:=by
 simp_all[kJ,dw,Q!]
theorem aqx {a:B8}(h:¬kJ a b c=0):eR a b c=false:=by
 grind[kJ]
theorem aaB {a:B8}(h:kJ a b c=0):az (dw a b c):=by
 have⟨H,k⟩:=QI h;simp[eR,Bool.and_eq_true,decide_eq_true_eq] at H;grind[q1,cU,q2,az,mc,text,List.length_append]
theorem aHd {r:B8}(h:kJ p.2.1 p.2.2.1 p.2.2.2.1=0)(H:cB (leaf (dw p.2.1 p.2.2.1 p.2.2.2.1)) p.1 n p.2.2.2.2.1=0/\jO (leaf (dw p.2.1 p.2.2.1 p.2.2.2.1)) p.1 n p.2.2.2.2.1=r):Nf r n p=true:=by
 grind[QI,Nf,WO,decide_true,Bool.and_self]
theorem awv {r:B8}(h:¬kJ p.2.1 p.2.2.1 p.2.2.2.1=0):Nf r n p=false:=by
 simp_all[Nf,aqx,Bool.false_and]
theorem aww {r:B8}(h:kJ p.2.1 p.2.2.1 p.2.2.2.1=0)(H:¬cB (leaf (dw p.2.1 p.2.2.1 p.2.2.2.1)) p.1 n p.2.2.2.2.1=0\/¬jO (leaf (dw p.2.1 p.2.2.1 p.2.2.2.1)) p.1 n p.2.2.2.2.1=r):Nf r n p=false:=by
 have⟨g1,g⟩:=QI h;simp[Nf,WO,g1,Bool.true_and];grind
theorem aHe {r:B8}(h:De r n t=true)(H:Nf r n p=true):og r n t p 0:=⟨w!,h,H,w!,w!⟩
theorem aHf {r:B8}{k:Nat}(h:og r n t p k)(o:(k:Int)=0)(H:I9 t (cu p.2.2.2.2.2).2 p.2.1 p.2.2.2.1 p.2.2.2.2.2=false):og r n t p (k+1):=
 ⟨w!,h.2.1,h.2.2.1,λ_=>H,w!⟩
theorem aHg {r:B8}{k:Nat}(h:og r n t p k)(o:(k:Int)=1)(H:Ja t p.2.1 p.2.2.1 p.2.2.2.2.2=false):og r n t p (k+1):=
 ⟨w!,h.2.1,h.2.2.1,λ_=>h.2.2.2.1 w!,λ_=>H⟩
theorem afH {r:B8}{k:Nat}(h:og r n t p k)(h1:I9 t (cu p.2.2.2.2.2).2 p.2.1 p.2.2.2.1 p.2.2.2.2.2=true):(cu p.2.2.2.2.2).1=(jr r n t p).1/\0=(jr r n t p).2:=by
 rw[WU h.2.1 h.2.2.1,Jb,h1];grind
theorem afI {r:B8}{k:Nat}(h:og r n t p k)(H:(k:Int)=1)(h1:Ja t p.2.1 p.2.2.1 p.2.2.2.2.2=true): []=(jr r n t p).1/\0=(jr r n t p).2:=by
 rw[WU h.2.1 h.2.2.1,Jb,h.2.2.2.1 w!,h1];grind
theorem awx {r:B8}{k:Nat}(h:og r n t p k)(H:¬(k:Int)<((2:Nat):Int)): []=(jr r n t p).1/\6=(jr r n t p).2:=by
 rw[WU h.2.1 h.2.2.1,Jb,h.2.2.2.1 w!,h.2.2.2.2 w!];grind
end Go.S
namespace Go.S
open Go.Vg (CF Z bX)
def Mw(a:M (M Pf))(i j:Int):Pf:=pfD (aks a i.toNat) j.toNat
def wV(g:Sg)(w:B8)(a:M (M Pf))(i j:Int):U×Int:=jr g.2.2.2 g.2.2.1 w (Mw a i j)
def ud(g:Sg)(w:B8)(a:M (M Pf))(i j:Int):Bool:=decide ((wV g w a i j).2=0)&&xG (wV g w a i j).1 g.1 g.2.1
def QJ(w:B8)(a:M (M Pf))(i j:Int):Prop:=(0<=i/\i<a.length)/\(0<=j/\j<(aks a i.toNat).length)/\wB w (Mw a i j).2.2.2.2.1 (Mw a i j).2.2.2.2.2
def UB(j:Int)(q n:Nat)(l:U):Prop:=q=j.toNat/\q<n/\small l
def QK(l m:U):U:=l++m
def QL(g:Sg)(w:B8)(a:M (M Pf))(i j:Int)(l:U):U:=if ud g w a i j then QK l (wV g w a i j).1 else l
def aqy(r:B8)(n:Int)(g:B8)(l:M Sg):CF:=λz=>(True,.bool (EH n g l r),z)
def afJ(a:M (M Pf))(i:Int)(t:O):CF:=λz=>(0<=i/\i<(a.length:Int),.bool (qW a i t),z)
def GM(b E:Nat)(g:Sg)(w:B8)(a:M (M Pf))(i j:Int):CF:=λz=>match z with
 |.g e ei l=>(e=b/\ei=E/\QJ w a i j/\UB j j.toNat l.length (l.getD j.toNat []),.bool (ud g w a i j),.g e ei (l.set j.toNat (QL g w a i j (l.getD j.toNat []))))
 |z=>(False,.bool false,z)
def EI(l:M Sg)(i:Nat):Sg:=l.getD i (0,0,0,[])
def QM(E e:Nat)(s:M Sg)(a:M (M Pf))(t:O)(i k:Nat):M CF:=
 afJ a i t::(List.range k).map λ(j:Nat)=>GM E e (EI s i) (t.getD j []) a i j
def conds(E e:Nat)(r:B8)(n:Int)(g:B8)(s:M Sg)(a:M (M Pf))(t:O):Nat->M CF
 |0=>[aqy r n g s]
 |i+1=>conds E e r n g s a t i++QM E e s a t i t.length
def ra(E e:Nat)(r:B8)(n:Int)(g:B8)(s:M Sg)(a:M (M Pf))(t:O)(i k:Nat):M CF:=
 conds E e r n g s a t i++QM E e s a t i k
def AM(s:M Sg)(a:M (M Pf))(t:O)(i k:Nat):Bool:=(List.range k).all λ(j:Nat)=>ud (EI s i) (t.getD j []) a i j
def AN(s:M Sg)(a:M (M Pf))(t:O)(i:Nat):Bool:=(List.range i).all λ(i:Nat)=>qW a i t&&AM s a t i t.length
def tJ(s:M Sg)(a:M (M Pf))(t:O)(j:Nat):Nat->U
 |0=>[]
 |i+1=>QK (tJ s a t j i) (wV (EI s i) (t.getD j []) a i j).1
def wD(s:M Sg)(a:M (M Pf))(t:O)(i k:Nat):M U:=(List.range t.length).map λ(j:Nat)=>tJ s a t j (if j<k then i+1 else i)
def xI(s:M Sg)(a:M (M Pf))(t:O)(i:Nat):M U:=(List.range t.length).map λ(j:Nat)=>tJ s a t j i
def Fy(r:B8)(a:Int×B8×M Sg×M (M Pf))(t:O):Bool:=EH a.1 a.2.1 a.2.2.1 r&&AN a.2.2.1 a.2.2.2 t a.2.2.1.length
def fJ(r:B8)(l:M bj)(b:B8):U×Int:=
 if(bif !decide ((r.length:Int)=32) then true else !aZ l) then([],1) else if(aI b).2≠0 then([],(aI b).2)
 else if Fy r (aI b).1 (al l) then iM l (xI (aI b).1.2.2.1 (aI b).1.2.2.2 (al l) (aI b).1.2.2.1.length) else([],6)
def afK(b:B8)(k:Nat):Prop:=k<=(aI b).1.2.2.1.length/\(aI b).2=0
def WW(b:B8)(t:O)(k j:Nat):Prop:=k<(aI b).1.2.2.1.length/\j<=t.length/\(aI b).2=0
theorem Fz:∀(l m:M CF) (z:Z),((bX (l++m) z).1↔(bX l z).1/\((bX l z).2.1=true->(bX m (bX l z).2.2).1))/\(bX (l++m) z).2.1=((bX l z).2.1&&(bX m (bX l z).2.2).2.1)/\((bX l z).2.1=true->(bX (l++m) z).2.2=(bX m (bX l z).2.2).2.2)
 |[],m,z=>by simp[bX]
 |F::l,m,z=>by
  have⟨h,H,a⟩:=Fz l m (F z).2.2;simp[List.cons_append,bX];grind
structure rb (l:List CF) (z z':Z) (o:Bool):Prop where
 pre:(bX l z).1
 ok:(bX l z).2.1=o
 to:o=true->(bX l z).2.2=z'
theorem rb.snoc {l m:M CF}{z b c:Z}{o O:Bool}(h:rb l z b o)(g:o=true->rb m b c O):rb (l++m) z c (o&&O):=by
 have⟨H,a,d⟩:=Fz l m z;cases o with
 |false=>exact⟨H.2 ⟨h.pre,λq=>by rw[h.ok] at q;cases q⟩,by rw[a,h.ok];rfl,nofun⟩
 |true=>
  obtain⟨G,g2,e⟩:=g rfl;rw[(h.to rfl)] at H a d;exact⟨H.2 ⟨h.pre,λ_=>G⟩,by rw[a,h.ok,g2],λq=>by rw[d h.ok];grind⟩
theorem rb.one {F:CF}{z:Z}{b:Bool}(h:(F z).1)(h1:(F z).2.1= .bool b):rb [F] z (F z).2.2 b:=by
 refine⟨⟨h,by rw[h1];rfl,λ_=>trivial⟩,?_,λq=>?_⟩;simp[bX,h1];rfl;grind[bX]
theorem awy(s:M Sg)(a:M (M Pf))(t:O)(i:Nat):wD s a t i 0=xI s a t i:=by
 rfl
theorem alE(s:M Sg)(a:M (M Pf))(t:O)(i:Nat):wD s a t i t.length=xI s a t (i+1):=by
 simp_all[wD,xI,g?,Q!,f?]
theorem KB(s:M Sg)(a:M (M Pf))(t:O)(i k:Nat):(wD s a t i k).length=t.length:=by simp[wD]
variable {a:List (List Pf)}{i e0 ei0:Nat}{s:List Sg}{t:List B8}{b g:B8}{l:List bj}{n:Int}
theorem Ô{k:Nat}(hk:k<t.length):(wD s a t i k).getD k []=tJ s a t k i:=by
 rw[E!,wD,A?,List.getElem?_range hk];simp
theorem alF{k:Nat}(hk:k<t.length):(wD s a t i k).set k (tJ s a t k (i+1))=wD s a t i (k+1):=by
 apply List.ext_getElem?;intro j;rw[List.getElem?_set,KB];by_cases H:j<t.length;by_cases h:k=j;subst h;rw[if_pos rfl,if_pos hk,wD,List.getElem?_map,List.getElem?_range hk];simp;rw[if_neg h,wD,wD,List.getElem?_map,List.getElem?_map,List.getElem?_range H];grind;grind[List.getElem?_eq_none,KB]
theorem Mx(b:B8):∀(n:Nat) (a e p:Int) (l:U),(pn b n a e p l).1.length<=l.length+n
 |0,a,e,p,l=>by
  grind[pn]
 |n+1,a,e,p,l=>by
  unfold pn;split;simp;split;simp;have:=Mx b n (ag b a e).1.2.1 (ag b a e).1.2.2 (p+((ag b a e).2+1)) (l++[p+((ag b a e).2+1)]);rw[List.length_append,List.length_singleton] at this;omega
theorem Õ(b:B8):(cu b).1.length<=1000:=by
 grind[cu,Mx,oe,List.length_nil]
theorem UC(r:B8)(n:Int)(t:B8)(p:Pf):(jr r n t p).1.length<=1000:=by
 grind[jr,Jb,Õ]
theorem QN(s:M Sg)(a:M (M Pf))(t:O)(j:Nat):∀i,(tJ s a t j i).length<=1000*i
 |0=>by simp[tJ]
 |i+1=>by
  have h:=QN s a t j i;have H:=UC (EI s i).2.2.2 (EI s i).2.2.1 (t.getD j []) (Mw a i j);rw[tJ,QK,J!,wV];omega
def WX(s:M Sg)(a:M (M Pf))(t:O):Prop:=s.length=a.length/\s.length<=64/\t.length<=1099511627776/\(∀w∈t,small w)/\∀x∈a,∀p∈x,eX p.2.2.2.2.1/\az p.2.2.2.2.2/\small p.2.2.2.2.2
theorem aqz(c:WX s a t){k:Nat}(o:i<s.length)(d:qW a i t=true)(e:k<t.length):QJ (t.getD k []) a i k:=by
 have⟨p,r,u,f,j⟩:=c;have d:(a.getD i []).length=t.length:=by grind[qW]
 have h:i<a.length:=by omega
 have H:Mw a i k∈a.getD i []:=by
  grind[Mw,pfD,aks,aU,aSL]
 have⟨q,Q,m⟩:=j _ (aU a i [] h) _ H;refine⟨⟨w!,w!⟩,⟨w!,?_⟩,f _ (aU t k [] e),q,Q,m⟩;grind[aks]
theorem alG{k:Nat}(h:ud (EI s i) (t.getD k []) a i k=true):QL (EI s i) (t.getD k []) a i k (tJ s a t k i)=tJ s a t k (i+1):=by
 rw[QL,Q! h];rfl
theorem Bu {c:Type}(f:Nat->c)(k:Nat):(List.range (k+1)).map f=(List.range k).map f++[f k]:=by
 rw[List.range_succ,X?];rfl
theorem aEF {e0 ei0:Nat}{s:M Sg}{a:M (M Pf)}{t:O}(H:WX s a t){i:Nat}(c:i<s.length)(d:qW a i t=true):∀k,k<=t.length->
  rb ((List.range k).map λ(j:Nat)=>GM e0 ei0 (EI s i) (t.getD j []) a i j) (.g e0 ei0 (wD s a t i 0)) (.g e0 ei0 (wD s a t i k)) (AM s a t i k)
 |0,_=>⟨trivial,rfl,λ_=>rfl⟩
 |k+1,hk=>by
  rw[Bu]
  have e:AM s a t i (k+1)=(AM s a t i k&&ud (EI s i) (t.getD k []) a i k):=by
   unfold AM;rw[List.range_succ,List.all_append];simp
  rw[e];refine(aEF H c d k w!).snoc λ_=>?_;have y:k<t.length:=by omega
  have E:((k:Int)).toNat=k:=by simp
  have f:=QN s a t k i
  have h:=rb.one (F:=GM e0 ei0 (EI s i) (t.getD k []) a i k) (z:=.g e0 ei0 (wD s a t i k))
   ⟨rfl,rfl,aqz H c d y,by rw[E,Ô y,KB];exact⟨E.symm,y,by have:=H.2.1;grind[small]⟩⟩ rfl
  refine⟨h.pre,h.ok,λq=>?_⟩;rw[h.to q];grind[GM,Ô,alG,alF]
theorem aEG {e0 ei0:Nat}{root:B8}{n:Int}{g:B8}{s:M Sg}{a:M (M Pf)}{t:O}(h:WX s a t):∀i,i<=s.length->
  rb (conds e0 ei0 root n g s a t i) (.g e0 ei0 (xI s a t 0)) (.g e0 ei0 (xI s a t i)) (EH n g s root&&AN s a t i)
 |0,_=>by
  have:=rb.one (F:=aqy root n g s) (z:=.g e0 ei0 (xI s a t 0)) trivial rfl;have e:(EH n g s root&&AN s a t 0)=EH n g s root:=by simp[AN]
  rw[e];exact this
 |i+1,hi=>by
  have e:AN s a t (i+1)=(AN s a t i&&(qW a i t&&AM s a t i t.length)):=by
   unfold AN;rw[List.range_succ,List.all_append];simp
  rw[e,<-Bool.and_assoc];refine(aEG h i w!).snoc λ_=>?_
  have H:=(rb.one (F:=afJ a i t) (by have:=h.1;exact⟨w!,w!⟩) rfl).snoc λc=>by
   have:=aEF (e0:=e0) (ei0:=ei0) h (show i<s.length by omega) c t.length (M! _);rw[awy,alE] at this;exact this
  exact H
theorem awz(s:M Sg)(a:M (M Pf))(t:O):xI s a t 0=List.replicate t.length []:=by
 rw[List.eq_replicate_iff];refine⟨by simp[xI],λx h=>?_⟩;obtain⟨j,_,rfl⟩:=U?.1 h;rfl
theorem WY(z:b.length<1099511627776)(f:dq l)(h:(aI b).2=0):WX (aI b).1.2.2.1 (aI b).1.2.2.2 (al l):=by
 have j:∀(k:Nat) (a e:Int),(tG b a e k).2.length=k/\∀x∈(tG b a e k).2,∀p∈x,p.2.2.2.2.1.length<=64/\p.2.2.2.2.2.length<=b.length:=by
  intro k a e;induction k with
  |zero=>exact⟨rfl,nofun⟩
  |succ k i=>
   refine⟨by grind[tG],λx H=>?_⟩;simp only[tG,List.mem_append,List.mem_singleton] at H;rcases H with H|rfl;grind
   . have d:∀(m:Nat) (a e:Int),∀p∈(Fx b a e m).2,p.2.2.2.2.1.length<=64/\p.2.2.2.2.2.length<=b.length:=by
      intro m a e;induction m with
      |zero=>exact nofun
      |succ m i=>
       intro p c;simp only[Fx,List.mem_append,List.mem_singleton] at c;rcases c with c|rfl;grind;refine⟨?_,I5 _ _ _ _⟩<;>grind[I5,jc,q3,aur,WK,WL]
     exact d _ _ _
 have r:=(UA f.1).2
 have u:∀w∈al l,small w:=λw v=>by
  have:=(ir (pj l) w).1 v;simp only[pj,bL,U?,List.mem_filter] at this;obtain⟨o,⟨y,_⟩,rfl⟩:=this;exact f.2 o (List.mem_of_mem_take y)
 have Y:aI b=(((aH b).2.1,(aH b).2.2.1,(aH b).2.2.2,(kp b (aN b)).2),0):=by
  grind[aED,aqe,aEC]
 rw[Y];have:=j (aN b) (aH b).1.1 (aH b).1.2;refine⟨this.1.symm,aap b,r,u,λx H p c=>?_⟩;have q:=this.2 x H p c;grind[eX,az,small]
theorem QO(e0 ei0:Nat)(s:M Sg)(a:M (M Pf))(t:O)(i k:Nat):(QM e0 ei0 s a t i k).length=k+1:=by simp[QM]
theorem GN {e0 ei0:Nat}{r:B8}{n:Int}{g:B8}{s:M Sg}{a:M (M Pf)}{t:O}:∀i,(conds e0 ei0 r n g s a t i).length=1+i*(t.length+1)
 |0=>by simp[conds]
 |i+1=>by rw[conds,J!,GN i,QO,Nat.succ_mul];omega
theorem WZ{r:B8}(i k:Nat):(ra e0 ei0 r n g s a t i k).length=1+i*(t.length+1)+(k+1):=by
 rw[ra,J!,GN,QO]
theorem SR{r:B8}(i k:Nat):
  ra e0 ei0 r n g s a t i k++[GM e0 ei0 (EI s i) (t.getD k []) a i k]=ra e0 ei0 r n g s a t i (k+1):=by
 grind[ra,QM,Bu,List.append_assoc]
theorem afL(H:b.length<1099511627776)(c:dq l)(h:(aI b).2=0):(aI b).1.2.2.1.length<=64:=(WY H c h).2.1
theorem afM {b:B8}(H:b.length<1099511627776)(c:dq l)(h:(aI b).2=0)(d:aZ l=true)(e:i<=(aI b).1.2.2.1.length):i*((al l).length+1)<=1088:=by
 have f:=afL H c h;have j:=qe d;exact b? (Nat.mul_le_mul (show i<=64 by omega) (show(al l).length+1<=17 by omega)) (by decide)
theorem QP {r:B8}(h:(r.length:Int)=32/\aZ l=true):¬(bif !decide ((r.length:Int)=32) then true else !aZ l)=true:=by
 grind
theorem aHh {r:B8}(h:¬(r.length:Int)=32\/aZ l=false):(bif !decide ((r.length:Int)=32) then true else !aZ l)=true:=by
 grind
theorem awA {r:B8}(h:(bif !decide ((r.length:Int)=32) then true else !aZ l)=true): []=(fJ r l b).1/\1=(fJ r l b).2:=by
 simp_all[fJ,Q!]
theorem awB {r:B8}(h:¬(bif !decide ((r.length:Int)=32) then true else !aZ l)=true)(H:¬(aI b).2=0): []=(fJ r l b).1/\(aI b).2=(fJ r l b).2:=by
 simp_all[fJ,R!,Q!]
theorem Jh{r:B8}{b:B8}(H:b.length<1099511627776)(c:dq l)(h:(aI b).2=0){k:Nat}(d:k=(aI b).1.2.2.1.length):
  rb (conds e0 ei0 r (aI b).1.1 (aI b).1.2.1 (aI b).1.2.2.1 (aI b).1.2.2.2 (al l) k) (.g e0 ei0 (Vg.aE.L9 (Int.toNat ((al l).length:Int)))) (.g e0 ei0 (xI (aI b).1.2.2.1 (aI b).1.2.2.2 (al l) (aI b).1.2.2.1.length)) (Fy r (aI b).1 (al l)):=by
 subst d;have:=aEG (e0:=e0) (ei0:=ei0) (root:=r) (n:=(aI b).1.1) (g:=(aI b).1.2.1) (WY H c h) _ (M! _);rw[awz] at this;exact this
theorem aqA {r:B8}{l:M bj}{b:B8}{c:M CF}{z d:Z}(f:¬(bif !decide ((r.length:Int)=32) then true else !aZ l)=true)(h:(aI b).2=0)(H:rb c z d (Fy r (aI b).1 (al l)))(j:¬(bif (Vg.aE.run c z).2.1 then(0:Int) else 6)=0):
  []=(fJ r l b).1/\(bif (Vg.aE.run c z).2.1 then(0:Int) else 6)=(fJ r l b).2:=by
 have e:=H.ok;cases k:Fy r (aI b).1 (al l) with
 |true=>grind
 |false=>simp_all[fJ,R!]
theorem afN {e0 ei0:Nat}{r:B8}{l:M bj}{b:B8}{c:M CF}{z:Z}(f:¬(bif !decide ((r.length:Int)=32) then true else !aZ l)=true)(h:(aI b).2=0)(H:rb c z (.g e0 ei0 (xI (aI b).1.2.2.1 (aI b).1.2.2.2 (al l) (aI b).1.2.2.1.length)) (Fy r (aI b).1 (al l)))(j:(bif (Vg.aE.run c z).2.1 then(0:Int) else 6)=0):
  iM l (Vg.aE.rows (Vg.aE.run c z).2.2)=fJ r l b:=by
 have e:=H.ok;cases d:Fy r (aI b).1 (al l) with
 |false=>grind
 |true=>
  rw[H.to d,fJ,R! f,R! w!,Q! d];rfl
end Go.S
namespace Go.S
def cTl(s:M Bool)(k:Nat):M Bool:=s.drop (s.length-k)
def clS(i j:Int):M Bool:=cq ((strip i.toNat j.toNat).1:Int) ((strip i.toNat j.toNat).2+1:Int)
def aRP(s:M Bool)(i j:Int)(k:Nat):Prop:=0<=i/\i<=j/\j<=1099511627776/\k<=s.length/\s=cq i (j+1)++cTl s k
def aRQ(s:M Bool)(p:O)(k:Nat):B8×B8:=avL (cTl s k) (p.getD 0 [],p.getD 0 []) ((p.drop 1).take k)
abbrev Cl0:=Int×Int
abbrev Cl2:=Nat×Int×Int×B8×B8
abbrev Cl4:=Int×Int×Nat
def aFJ(i j:Int)(x:Cl0):Prop:=0<=x.1/\x.1<x.2/\x.2<=1099511627776/\strip x.1.toNat x.2.toNat=strip i.toNat j.toNat
def aue(i j:Int)(p:O)(x:Cl2):Prop:=aRP (clS i j) x.2.1 x.2.2.1 x.1/\(x.2.2.2.1,x.2.2.2.2)=aRQ (clS i j) p x.1/\x.1+1<=p.length
def aFK(i j:Int)(x:Cl4):Prop:=aRP (clS i j) x.1 x.2.1 x.2.2/\(x.1%2=1\/x.1=x.2.1/\x.1≠0)
def aIk(m n:Int)(p:O):Prop:=0<=m/\m<=n/\n<=1099511627776/\eX p
abbrev Stp:=Int×B8×M Sg×Int×B8×M Sg×O
def aMF(r:B8)(s:Stp):Bool:=EH s.1 s.2.1 s.2.2.1 r&&(decide (J7 s.1 s.2.2.2.1 s.2.1 s.2.2.2.2.1 s.2.2.2.2.2.2=0)&&decide ((qV s.2.2.2.1 s.2.2.2.2.1 s.2.2.2.2.2.1).2=0))
def anq(r b:B8):B8×Int×Int:=
 if ¬r.length=32 then([],0,1) else if ¬(Ě b).2=0 then([],0,(Ě b).2)
 else if aMF r (Ě b).1 then((qV (Ě b).1.2.2.2.1 (Ě b).1.2.2.2.2.1 (Ě b).1.2.2.2.2.2.1).1,(Ě b).1.2.2.2.1,0) else([],0,6)
theorem aVT(s:M Bool):cTl s 0=[]:=by simp[cTl]
variable {s:List Bool}{i j m n:Int}{p docs:List B8}{x:Cl0}{u v b r:B8}{l:List aB}{q:List bj}{d:List bw}
theorem aNY{k:Nat}(h:k<=s.length):(cTl s k).length=k:=by grind[cTl]
theorem aFL(i:Int):i/2^Int.toNat 1=i/2:=by
 rfl
theorem aQV(h:0<=i)(H:i<=j)(a:1<=j):cq i (j+1)=cq (i/2) (j/2+1)++(if i%2=1 then [true] else if i<j then [false] else []):=by
 have:=aSK (j+1).toNat i h w! w!;grind[aP2]
theorem aSN{j:Int}{k:Nat}{x:Bool}{I J:Int}(h:aRP s i j k)(H:cq i (j+1)=cq I (J+1)++[x])(a:0<=I)(c:I<=J)(f:J<=1099511627776):aRP s I J (k+1)/\cTl s (k+1)=x::cTl s k:=by
 have⟨_,_,_,g4,g⟩:=h;rw[H,X!] at g;have o:=congrArg List.length g;simp[J!,J?,aNY g4] at o
 have e:cTl s (k+1)=[x]++cTl s k:=by
  have :cTl s (k+1)=(cq I (J+1)++([x]++cTl s k)).drop (cq I (J+1)).length:=by
   unfold cTl;congr 1
   omega
  rw[this,List.drop_left]
 exact⟨⟨a,c,f,w!,by rw[e];exact g⟩,e⟩
theorem aVU{j:Int}{k:Nat}{I J:Int}(h:aRP s i j k)(H:cq i (j+1)=cq I (J+1))(a:0<=I)(c:I<=J)(e:J<=1099511627776):aRP s I J k:=
 ⟨a,c,e,h.2.2.2.1,by rw[<-H];exact h.2.2.2.2⟩
theorem aSO{k:Nat}{x:Bool}(he:cTl s (k+1)=x::cTl s k)(h:k<=s.length)(H:k+1<p.length):aRQ s p (k+1)=aNo (aRQ s p k) (x,p.getD (k+1) []):=by
 unfold aRQ avL
 have e:(p.drop 1).take (k+1)=(p.drop 1).take k++[p.getD (k+1) []]:=by
  rw[an _ k [] x!];grind
 rw[he,List.reverse_cons,e,List.zip_append (by grind[List.length_reverse,aNY,List.length_take,List.length_drop]),List.foldl_append];rfl
theorem aY3(h:at5 i j p):aFJ i j (i,j):=⟨h.1,h.2.1,by have:=h.2.2.2;omega,rfl⟩
theorem aMP(h:0<=i):Vg.aT i 1=i%2:=by
 have:=and_1 (j:=i.toNat);grind
theorem aU7(h:aFJ i j x)(H:x.1%2=1):aFJ i j (x.1/2,x.2/2):=by
 have⟨g,G,a,g4⟩:=h;refine⟨w!,w!,w!,?_⟩;rw[<-g4,aQU (i:=x.1.toNat) w!];grind
theorem aVV(H:at5 i j p)(h:aFJ i j x)(c:¬x.1%2=1):aue i j p (0,x.1,x.2,p.getD 0 [],p.getD 0 []):=by
 have⟨g,f,G,a⟩:=h;rw[aQC w!] at a
 have e:clS i j=cq x.1 (x.2+1):=by
  grind[clS]
 refine⟨⟨g,x!,G,Nat.zero_le _,by rw[aVT,List.append_nil,e]⟩,?_,by have:=H.2.2.1;omega⟩;simp_all[aRQ,aVT,avL]
theorem aS9(h:1<=j):cq i (j+1)≠ []:=by
 grind[zn,zo]
variable {x:Cl2}
theorem aWW{o t:B8}(a:at5 i j p)(h:aue i j p x)(c:p.length<=x.1+1):
  (bif (bif decide (x.2.2.1=0) then decide (x.2.2.2.1=o) else false) then decide (x.2.2.2.2=t) else false)=atF i j o t p:=by
 obtain⟨⟨G,e,f,g4,g⟩,k,w⟩:=h;have H:=congrArg List.length g;rw[List.length_append,aNY g4] at H;have E:atF i j o t p=(decide _&&(decide _&&decide _)):=rfl;by_cases y:x.2.2.1=0;grind[cq,wo,clS,cTl,List.take_of_length_le,aRQ];grind[cq,aS9,List.eq_nil_of_length_eq_zero,decide_eq_false,clS,List.length_drop]
theorem aU8{o t:B8}(h:aue i j p x)(a:x.1+1<p.length)(c:x.2.2.1=0):false=atF i j o t p:=by
 have⟨⟨G,e,f,g4,g⟩,k,w⟩:=h;have H:=congrArg List.length g;rw[List.length_append,aNY g4,wo w!] at H;have E:atF i j o t p=(decide _&&(decide ((p.drop 1).length=(clS i j).length)&&decide _)):=rfl;grind
theorem aU9(h:aue i j p x)(hk:x.1+1<p.length)(h1:¬x.2.1%2=1)(c:¬x.2.1=x.2.2.1):
  aue i j p (x.1+1,x.2.1/2,x.2.2.1/2,x.2.2.2.1,bz x.2.2.2.2 (p.getD (x.1+1) [])):=by
 have⟨g,g6,e⟩:=h;have G:=g.1;have a:=g.2.1;have f:=g.2.2.1;have H:=aQV G a w!;rw[R! h1,Q! w!] at H;have⟨q,q2⟩:=aSN g H w! w! w!;refine⟨q,?_,w!⟩;rw[aSO q2 g.2.2.2.1 hk,<-g6];rfl
theorem aY4(h:aue i j p x)(a:¬x.2.2.1=0)(H:x.2.1%2=1\/x.2.1=x.2.2.1):aFK i j (x.2.1,x.2.2.1,x.1):=
 ⟨h.1,H.imp id λe=>⟨e,w!⟩⟩
theorem aVa{x:Cl4}(h:aFK i j x)(a:x.1%2=0)(c:¬x.1=0):aFK i j (x.1/2,x.2.1/2,x.2.2):=by
 have⟨g,e⟩:=h;have G:=g.1;have f:=g.2.2.1;have H:=aQV G (g.2.1) w!;rw[if_neg w!,if_neg w!,List.append_nil] at H;exact⟨aVU g H w! x! x!,x!⟩
theorem aVW{y:Cl4}(h:aue i j p x)(hk:x.1+1<p.length)(a:aFK i j y)(c:y.2.2=x.1)(k:¬(y.1%2=0/\¬y.1=0)):
  aue i j p (x.1+1,y.1/2,y.2.1/2,bz (p.getD (x.1+1) []) x.2.2.2.1,bz (p.getD (x.1+1) []) x.2.2.2.2):=by
 have⟨g,g6,G⟩:=h;have⟨f,o⟩:=a;rw[c] at f;have F:=f.1;have e:=f.2.1;have t:=f.2.2.1;have H:=aQV F e w!;rw[Q! w!] at H;have⟨q,q2⟩:=aSN f H w! w! w!;refine⟨q,?_,w!⟩;rw[aSO q2 g.2.2.2.1 hk,<-g6];rfl
theorem a0h(h:m=0):(bif decide ((p.length:Int)=0) then decide (u=sum []) else false)=accepted m n u v p:=by
 simp_all[accepted,Q!]
theorem aY5(h:¬m=0)(H:m=n):(bif decide ((p.length:Int)=0) then decide (u=v) else false)=accepted m n u v p:=by
 simp_all[accepted,R!,Q!]
theorem aVX(H:aIk m n p)(h:¬m=0)(h1:¬m=n):accepted m n u v p=atF (m-1) (n-1) u v (if avM m then u::p else p):=by
 have⟨q,Q,a,_⟩:=H;rw[accepted,if_neg h,if_neg h1];have e:=aRK (m-1).toNat (n-1).toNat w!;grind[atF]
theorem a0i(H:aIk m n p)(h:¬m=0)(a:¬m=n)(c:Vg.aT m (m-1)=0):atF (m-1) (n-1) u v ([u]++p)=accepted m n u v p:=by
 simp_all[aVX,Q!,avM,H!]
theorem aYd(H:aIk m n p)(h:¬m=0)(a:¬m=n)(c:¬Vg.aT m (m-1)=0):atF (m-1) (n-1) u v p=accepted m n u v p:=by
 simp_all[aVX,R!,avM,H!]
theorem aWX {m:Int}{p:O}(H:aIk m n p)(h:¬m=0)(h1:¬m=n)(hw:¬Vg.aT m (m-1)=0)(a:(p.length:Int)=0):false=accepted m n u v p:=by
 rw[<-aYd H h h1 hw,atF,aNq,e? (show ¬1<=p.length by omega)];rfl
theorem aUc{q:O}(H:aIk m n p)(h:¬m=0)(a:¬m=n)(c:¬(q.length:Int)=0):at5 (m-1) (n-1) q:=by
 have⟨Q,e,f,_⟩:=H;refine⟨?_,?_,?_,?_⟩<;>omega
theorem aWY{u v:B8}(h:m<0\/n<m\/1099511627776<n\/¬(u.length:Int)=32\/¬(v.length:Int)=32):1=J7 m n u v p:=by
 rw[J7,Q! h]
theorem aTa{u v:B8}(h:¬m<0/\¬n<m/\¬1099511627776<n/\(u.length:Int)=32/\(v.length:Int)=32):J7 m n u v p=if cP p=true/\accepted m n u v p=true then 0 else 6:=by
 simp_all[J7,R!]
theorem aWZ {p:O}{k:Nat}(H:(k:Int)<p.length)(h:¬((p.getD k []).length:Int)=32):cP p=false:=by
 rw[Bool.eq_false_iff];intro q;have:=List.all_eq_true.1 q _ (aU p k [] w!);grind
theorem aVY {p:O}{k:Nat}(h:sZ p k)(a:(k:Int)<p.length)(c:((p.getD k []).length:Int)=32):sZ p (k+1):=by
 refine⟨λd H=>?_,w!⟩;rw[an p k [] w!,I!,s?] at H;rcases H with H|rfl;exact h.1 d H;omega
theorem aW0{k:Nat}(h:sZ p k)(a:¬(k:Int)<p.length):cP p=true:=by
 have e:k=p.length:=by have:=h.2;omega
 have:=h.1;rw[e,List.take_length] at this;exact V!.2 λd H=>L? (this d H)
theorem aY6 {r:B8}(h:¬(r.length:Int)=32):anq r b=([],0,1):=by rw[anq,Q! w!]
theorem aY7 {r:B8}(h:(r.length:Int)=32)(H:¬(Ě b).2=0):anq r b=([],0,(Ě b).2):=by rw[anq,R! w!,Q! H]
theorem aSk {r:B8}(h:(r.length:Int)=32)(H:(Ě b).2=0):anq r b=if aMF r (Ě b).1 then((qV (Ě b).1.2.2.2.1 (Ě b).1.2.2.2.2.1 (Ě b).1.2.2.2.2.2.1).1,(Ě b).1.2.2.2.1,0) else([],0,6):=by
 rw[anq,R! w!,R! w!]
theorem aQW(b:B8):eX (Ě b).1.2.2.2.2.2.2:=by
 unfold Ě;split;exact Nat.zero_le _;split;exact Nat.zero_le _;show(st3 b).2.length<=_;grind[st3,aur,WK,WL]
theorem aVZ(a b c:Bool):(bif (bif a then(bif b then(bif c then true else false) else false) else false) then(0:Int) else 6)=if a&&(b&&c) then 0 else 6:=by
 grind
theorem aTb {a b c:Bool}(h:(bif (bif a then(bif b then(bif c then true else false) else false) else false) then(0:Int) else 6)=0):(a&&(b&&c))=true:=by
 grind
theorem dl {p:O}{k:Nat}(h:(k:Int)<((p.drop (Int.toNat 1)).length:Int)):k+1<p.length:=by
 grind
theorem dl' {p:O}{k:Nat}(h:¬(k:Int)<((p.drop (Int.toNat 1)).length:Int)):p.length<=k+1:=by
 grind
theorem dgD(p:O)(k:Nat):(p.drop (Int.toNat 1)).getD (Int.toNat (k:Int)) []=p.getD (k+1) []:=by
 grind
def aNJ:B8:=[119,97,105,110,32,104,97,121]
def ky:Qi:=([yo,aNJ],[(0,2,[(yo,[0,1]),([119,97,105,110],[1])])])
theorem a8S{l:M bj}(h:¬(aI b).2=0):¬(fJ r l b).2=0:=by
 grind[fJ]
theorem a8T(h:¬(bx b).2=0):¬(uc r i b).2=0:=by
 grind[uc]
theorem a1L(h:cy docs l=true):EH ((docs.length:Nat):Int) (root (leaves docs)) (ya docs l) (fk docs l).1=true:=by
 have e:qV ((docs.length:Nat):Int) (root (leaves docs)) (ya docs l)=fk docs l:=by
  unfold qV fk;rw[if_pos (wk h),if_pos h]
 have E:(fk docs l).2=0:=by unfold fk;rw[if_pos h]
 simp[EH,e,E]
theorem a1M(h:cy docs l=true):(fk docs l).1.length=32:=by
 unfold fk;rw[if_pos h];exact TY _ _
theorem a1N(l:M aRI):(hx l).1.length<=40/\(hx l).2.length<=41:=by
 have:=pf l;have:=apN l;grind[hx]
theorem a2Z(l:M aRI)(h:aZ q=true):(rF (hx l).1 (hx l).2 q).2=0:=a5t (aU5 l) h (a1N l).1 (a1N l).2
theorem bar(l:M aRI)(h:aZ q=true):(rF (hx l).1 (hx l).2 q).1.length<1099511627776:=by
 grind[a0Z,aU5,a2Z]
theorem a5u(h:aK d=true){i:Nat}(H:i<=d.length):(bg (apB d i)).1=(if i=0 then [] else cF d (i-1),if i<d.length then cF d i else [],kl (if i=0 then [] else iD d (i-1))):=by
 rcases wa h (k:=i) with q|q;have e:apB d i=mc (if i=0 then [] else cF d (i-1)) (if i<d.length then cF d i else []) (kl (if i=0 then [] else iD d (i-1))):=rfl;grind[Qe];omega
variable {l:List B8}{n:Nat}
theorem a0l(f:l.length<=1099511627776)(a:cP l=true)(h:0<=i)(H:i<l.length)(c:(l.getD i.toNat []).length=32):
  cB (l.getD i.toNat []) i l.length (path l i)=0/\jO (l.getD i.toNat []) i l.length (path l i)=root l:=by
 have e:cB (l.getD i.toNat []) i l.length (path l i)=0:=by
  unfold cB;rw[if_pos ⟨w!,w!,w!,h,H⟩,if_pos ⟨by rw[alw _ l i rfl];rfl,aal _ l i rfl a⟩]
 refine⟨e,?_⟩;unfold jO;rw[if_pos e];exact aWQ _ l i rfl h H
theorem a5v(h:aK d=true){t:B8}(a:fE d t=false)(k:t≠ []):
  Op.bytesLess (if(bo d t+1).toNat=0 then [] else cF d ((bo d t+1).toNat-1)) t=true/\((bo d t+1).toNat<d.length->Op.bytesLess t (cF d (bo d t+1).toNat)=true):=by
 have z:bo d t=dB d t d.length:=(ao6 h).symm;rcases IP (d:=d) (t:=t) d.length with⟨o,c⟩|⟨q,o,c,f,w⟩;have e:(bo d t+1).toNat=0:=by omega
 rw[e];refine⟨by rw[Q! rfl];exact avu k,λH=>?_⟩;have:=c 0 H;rw[CW] at this;simpa using this;have e:(bo d t+1).toNat=q+1:=by omega
 rw[e];refine⟨?_,λH=>?_⟩;rw[R! w!];show Op.bytesLess (cF d q) t=true
 have D:cF d q≠t:=λy=>by
  simp only[fE,Bool.and_eq_false_iff,p?] at a;rcases a with g|g;omega;exact g (by rw[show(bo d t).toNat=q by omega];exact y)
 simp only[zc,Y?,H!] at f;rcases f with g|g;exact g;exact absurd g D;have:=w (q+1) w! H;rw[CW] at this;simpa using this
theorem QR {a:Type}{l:M a}{i:Nat}(h:i<l.length)(x:a):l.getD i x=l[i]:=by
 grind
theorem aY1(x:Bool)(s:M Bool)(p:O)(y:B8)(r:B8×B8)(h:p.length=s.length):avL (x::s) r (p++[y])=aNo (avL s r p) (x,y):=by
 simp_all[avL,List.reverse_cons,List.zip_append,List.foldl_append]
theorem aUd(h:2<=n):∃t,sp n=2^t/\2^t<n/\n<=2^(t+1):=by
 refine⟨Nat.log2 (n-1),rfl,?_,?_⟩;grind[Nat.log2_self_le];grind[Nat.lt_log2_self]
theorem aZa {m:Nat}(h:2<=n)(H:sp n<m)(a:m<=n):sp m=sp n:=by
 grind[aUd,Ũ]
theorem a5w(n:Nat):∀(l:O) (m:Int),l.length=n->1<=m->m<=l.length->
  ∃h r,ajH l m true=h::r/\r.length=(WG m l.length).length/\avL (WG m l.length) (h,h) r=(root (l.take m.toNat),root l):=by
 induction n using Nat.strongRecOn with
 |_ n i=>
  intro l m e c t;by_cases he:(l.length:Int)=m;rw[ajH,Q! he,aPZ w!];refine⟨_,[],rfl,rfl,?_⟩;rw[show m.toNat=l.length by omega,List.take_length];rfl;have H:2<=l.length:=by omega
  have w:=iY H;have E:=za (l:=l) H rfl;rw[ajH,if_neg he,dif_neg w!];by_cases hm:m<=((sp l.length:Nat):Int);rw[if_pos hm,aMs w! w! x!];have el:(l.take (sp l.length)).length=sp l.length:=by grind
  obtain⟨h,r,a,a2,a3⟩:=i (sp l.length) w! (l.take (sp l.length)) m el c w!;rw[el] at a2 a3;refine⟨h,r++[root (l.drop (sp l.length))],x!,by simp[a2],?_⟩;rw[show((l.length:Nat):Int).toNat=l.length from rfl,aY1 _ _ _ _ _ a2,a3,List.take_take,show min m.toNat (sp l.length)=m.toNat by omega,E];rfl;rw[if_neg hm,aP0 w! w! (by simpa using hm)];have el:(l.drop (sp l.length)).length=l.length-sp l.length:=List.length_drop;obtain⟨h,r,a,a2,a3⟩:=i (l.length-sp l.length) w! (l.drop (sp l.length)) (m-((sp l.length:Nat):Int)) el w! w!;have f:(((l.drop (sp l.length)).length:Nat):Int)=((l.length:Nat):Int)-((sp l.length:Nat):Int):=by omega
  rw[f] at a2 a3;refine⟨h,r++[root (l.take (sp l.length))],by rw[a];rfl,by simp[a2],?_⟩;rw[show((l.length:Nat):Int).toNat=l.length from rfl,aY1 _ _ _ _ _ a2,a3,E];have g:(l.take m.toNat).length=m.toNat:=by rw[C?];omega
  have k:sp (l.take m.toNat).length=sp l.length:=by exact aZa H w! w!
  have o:=za (l:=l.take m.toNat) w! k;rw[o,List.take_take,show min (sp l.length) m.toNat=sp l.length by omega,List.drop_take,show m.toNat-sp l.length=(m-((sp l.length:Nat):Int)).toNat by omega];rfl
theorem aW1(t:Nat):avM ((2^t:Nat):Int)=true:=by
 grind[avM,qH,Int.natCast_nonneg,decide_eq_true,Int.emod_self]
theorem aUe {a t:Nat}(h:2^t<=a)(H:a<2^(t+1)):a.testBit t=true:=by
 rw[Nat.testBit_eq_decide_div_mod_eq,show a/2^t=1 from Nat.div_eq_of_lt_le w! w!];rfl
theorem aW2 {t:Nat}(h:((2^t:Nat):Int)<m)(a:m<((2^(t+1):Nat):Int)):avM m=false:=by
 refine decide_eq_false λe=>?_;have H:m.toNat&&&(m-1).toNat=0:=by grind[Vg.aT]
 have:=congrArg (λx=>x.testBit t) H;simp only[Nat.testBit_and,Nat.zero_testBit] at this;rw[aUe w! w!,aUe w! w!] at this;cases this
theorem a5x(n:Nat):∀(l:O) (m:Int),l.length=n->1<=m->m<=l.length->
  (avM m=true->ajH l m true=root (l.take m.toNat)::ajH l m false)/\(avM m=false->m<l.length->ajH l m false=ajH l m true):=by
 induction n using Nat.strongRecOn with
 |_ n i=>
  intro l m e H g;by_cases he:(l.length:Int)=m;refine⟨λ_=>?_,λ_ h=>by omega⟩;rw[ajH,Q! he,ajH,Q! he,show m.toNat=l.length by omega,List.take_length];rfl;have a:2<=l.length:=by omega
  obtain⟨t,E,k,o⟩:=aUd a
  have c:∀b,ajH l m b=if m<=((sp l.length:Nat):Int) then ajH (l.take (sp l.length)) m b++[root (l.drop (sp l.length))] else ajH (l.drop (sp l.length)) (m-((sp l.length:Nat):Int)) true++[root (l.take (sp l.length))]:=λb=>by
   rw[ajH,R! he,dif_neg w!]
  rw[c,c];by_cases hm:m<=((sp l.length:Nat):Int);rw[Q! hm,Q! hm];have el:(l.take (sp l.length)).length=sp l.length:=by rw[C?];omega
  obtain⟨i1,i2⟩:=i (sp l.length) w! (l.take (sp l.length)) m el H (by rw[el];exact hm);refine⟨λhw=>?_,λhw _=>?_⟩;rw[i1 hw,List.take_take,show min m.toNat (sp l.length)=m.toNat by omega];rfl;have d:m≠((sp l.length:Nat):Int):=λf=>by rw[f,E,aW1] at hw;cases hw
  rw[i2 hw w!];rw[R! hm,R! hm];refine⟨λhw=>?_,λ_ _=>rfl⟩;have:=aW2 (t:=t) (m:=m) w! w!;rw[this] at hw;cases hw
theorem a5y(c:cP l=true)(f:0<=m)(H:m<=l.length):accepted m l.length (root (l.take m.toNat)) (root l) (ajK l m)=true:=by
 have E:ajK l m=if m=0 then [] else ajH l m false:=by simp_all[ajK,Q!]
 rw[E];unfold accepted;by_cases e:m=0;simp_all[if_pos,Ua]
 rw[R! e,R! e];by_cases a:m=l.length;simp_all[Q!,ajH,List.take_length]
 rw[if_neg a];obtain⟨h,r,A,g,k⟩:=a5w _ l m rfl w! H;obtain⟨s,S⟩:=a5x _ l m rfl w! H;grind[avM,root,ajH,aNq,aNp]
theorem a4d(h:cP l=true)(e:l.length<=1099511627776)(H:0<=m)(a:m<=l.length)(c:cP (ajK l m)=true):J7 m l.length (root (l.take m.toNat)) (root l) (ajK l m)=0:=by
 have d:(root (l.take m.toNat)).length=32:=akQ _ _ (M! _) (by
  grind[cP,List.all_eq_true,hx,List.mem_of_mem_take])
 have D:(root l).length=32:=akQ _ _ (Nat.le_refl _) h;unfold J7;rw[if_neg w!,if_pos ⟨c,a5y h H a⟩]
variable {l:List aB}
theorem a1O(h:cy docs l=true):qV ((docs.length:Nat):Int) (root (leaves docs)) (ya docs l)=((fk docs l).1,0):=by
 have E:(fk docs l).2=0:=by rw[aqo h]
 have e:qV ((docs.length:Nat):Int) (root (leaves docs)) (ya docs l)=fk docs l:=by
  simp_all[qV,fk,Q!,wk]
 grind
theorem a1P {a b:O}{m:M aB}(h:cy a l=true)(H:cy b m=true)(e:aNW a b=true):
  anq (fk a l).1 (aRL a l b m).1=((fk b m).1,(b.length:Int),0):=by
 obtain⟨_,_,g⟩:=a0k h H e;have f:(fk a l).1.length=32:=a1M h;simp[aNW,B!,H!] at e
 have k:root (leaves a)=root ((leaves b).take ((a.length:Nat):Int).toNat):=by
  grind[Int.toNat_natCast,leaves,List.map_take]
 have c:(leaves b).length=b.length:=nA b;have o:=(RI.of (iL.1 H).1).fair;have A:b.length<=1000:=by grind[dm]
 have t:J7 ((len a:Nat):Int) ((len b:Nat):Int) (root (leaves a)) (root (leaves b)) (ajK (leaves b) ((a.length:Nat):Int))=0:=by
  have:=a4d (l:=leaves b) (kn b) w! (m:=((a.length:Nat):Int)) w! w! (a5q (a:=a) H).2;rw[c,<-k] at this;exact this
 have w:aMF (fk a l).1 (((len a:Nat):Int),root (leaves a),ya a l,((len b:Nat):Int),root (leaves b),ya b m,ajK (leaves b) ((a.length:Nat):Int))=true:=by
  unfold aMF;simp only[t,decide_true,Bool.true_and,Bool.and_eq_true];exact⟨a1L h,decide_eq_true (by show(qV ((b.length:Nat):Int) (root (leaves b)) (ya b m)).2=0;rw[a1O H])⟩
 unfold anq;rw[if_neg w!,g,if_neg z!,if_pos w];show((qV ((b.length:Nat):Int) (root (leaves b)) (ya b m)).1,((b.length:Nat):Int),(0:Int))=_;rw[a1O H]
theorem a5z(h:cy docs l=true)(c:0<=i)(f:i<docs.length):
  uc (fk docs l).1 i (oC docs l i).1=(a2k docs i,0):=by
 have e:(fk docs l).1.length=32:=a1M h;have g:=(a0j h (i:=i) c f).2.1;have H:(leaves docs).length=docs.length:=nA docs;have k:=(RI.of (iL.1 h).1).fair;have A:docs.length<=1000:=by grind[dm]
 have S:(leaves docs).getD i.toNat []=leaf (a2k docs i):=by
  unfold leaves a2k;rw[QR (by rw[List.length_map];omega),List.getElem_map,QR w!]
 have a:=a0l (l:=leaves docs) w! (kn docs) c w! (by rw[S];rfl);rw[S,H] at a
 have G:afx (fk docs l).1 i ((docs.length:Int),root (leaves docs),ya docs l,i,docs.getD i.toNat [],path (leaves docs) i)=true:=by
  unfold afx Ky;simp only[Bool.and_eq_true,decide_eq_true_eq];exact⟨a1L h,trivial,a.1,a.2⟩
 unfold uc;rw[if_neg w!,g,if_neg z!,if_pos G];rfl
def hz(l m:M aRI):Qi:=(bS (aEE l m (min m.length 40)).1 (aEE l m (min m.length 40)).2).1
def aWN(l m:M aRI)(k:Nat):Qi:=(bS (aEE l m k).1 (aEE l m k).2).1
theorem a6O(l m:M aRI){k:Nat}(h:k<=40):
  (fk (hx l).1 (hx l).2).2=0/\(fk (aWN l m k).1 (aWN l m k).2).2=0/\
  (aRL (hx l).1 (hx l).2 (aWN l m k).1 (aWN l m k).2).2=0/\
  (aRL (hx l).1 (hx l).2 (aWN l m k).1 (aWN l m k).2).1.length<1099511627776/\
  anq (fk (hx l).1 (hx l).2).1 (aRL (hx l).1 (hx l).2 (aWN l m k).1 (aWN l m k).2).1=((fk (aWN l m k).1 (aWN l m k).2).1,((aWN l m k).1.length:Int),0):=by
 grind[a00,a0k,aU5,aqo,aWN,a1P,a1H]
end Go.S
namespace Go.S
open Go.Vg (CF AV gF)
abbrev Cl:=(B8×B8)×Bool
def ix:Cl:=(([],[]),false)
def iy(a b:B8):Prop:=small a/\small b
def QT(a b:B8):Bool:= !Qy a b&&decide (sum a=sum b)
def bt(a b:B8):Cl:=if QT a b then((a,b),true) else ix
def Bv(x:Cl):AV:=.bk [.agg [.sl [.int .u8] x.1.1,.sl [.int .u8] x.1.2],.bool x.2]
def Ý(a b:B8):CF:=λz=>(iy a b,Bv (bt a b),z)
def Ng(l:M CF):Cl:=(((gF l).2.1,(gF l).2.2.1),(gF l).2.2.2)
def QU(k:Nat)(a b:B8):Cl:=bt (bB k a) (bB k b)
def xJ(a b:B8):Prop:=az a/\az b
def wE(l:O):B8:=bB 1 (kI (l.take (split l.length).toNat)++kI (l.drop (split l.length).toNat))
def mW(l:O)(i:Int):O:=
 if h:l.length<2 then [] else if i<((sp l.length:Nat):Int) then wE l::mW (l.take (sp l.length)) i else wE l::mW (l.drop (sp l.length)) (i-((sp l.length:Nat):Int))
termination_by l.length
decreasing_by all_goals (have:=iY (n:=l.length) w!;simp only[C?,N?];omega)
def AO(l:O)(i:Int)(f:B8)(p:O)(k:O×M Bool×O×Int):Prop:=
 mW (leaves l) i=k.1++mW k.2.2.1 k.2.2.2/\cq i l.length=k.2.1++cq k.2.2.2 k.2.2.1.length/\0<=k.2.2.2/\k.2.2.2<k.2.2.1.length/\cP k.2.2.1=true/\k.2.2.1.length<=l.length/\cB (leaf f) i l.length p=0/\
  k.1.length+k.2.2.1.length<=l.length/\k.1.length=k.2.1.length
def Þ(f:B8)(i n:Int)(p:O)(j:Nat):B8:=
 if(cq i n).getD (p.length-1-j) false then bB 1 (p.getD j []++cL (leaf f) i n p j) else bB 1 (cL (leaf f) i n p j++p.getD j [])
def rG(l:O)(i:Int)(f:B8)(p:O):Nat->M CF
 |0=>Vg.aE.JY (p.length+1)
 |k+1=>(rG l i f p k).set (p.length-1-k) (Ý (Þ f i l.length p k) ((mW (leaves l) i).getD (p.length-1-k) []))
def yr(l:O)(i:Int)(f:B8)(p:O):M CF:=(rG l i f p p.length).set p.length (Ý (bB 0 f) (bB 0 (l.getD i.toNat [])))
def afQ(l:O)(i:Int):Prop:=0<=i/\i<l.length
instance (l:List B8) (i:Int):Decidable (afQ l i):=by unfold afQ;infer_instance
def jY(l:O)(i:Int)(f:B8)(p:O):Cl:=
 if ¬afQ l i then ix else if ¬cB (leaf f) i l.length p=0 then ix else Ng (yr l i f p)
def mI(l:O)(f:B8)(p:O):Prop:=dj l/\az f/\eX p
def xK(p:O)(k:Nat):Prop:=k<=p.length
def fv(d:M bw)(t:B8)(p:Pf):Cl:=
 if ¬dE d=0 then ix else if ¬(jr (pG d) (bn d).length t p).2=0 then ix
 else if(jY (bn d) p.1 (dw p.2.1 p.2.2.1 p.2.2.2.1) p.2.2.2.2.1).2 then jY (bn d) p.1 (dw p.2.1 p.2.2.1 p.2.2.2.1) p.2.2.2.2.1
 else if ¬p.2.1=t then ix else QU 2 p.2.2.2.2.2 (jH (dN d t))
def Dg(d:M bw)(t:B8)(p:O)(P:B8):Prop:=aW d/\wB t p P
def th(n:Int)(g:B8)(l:M Sg):B8:=(hW n g l).1
def zv(d:O)(l:M aB):B8:=th (gI d l).1.1 (gI d l).1.2.1 (gI d l).1.2.2
def Bw(n:Int)(g:B8)(s:M Sg)(d:O)(l:M aB):Bool:=Qy (th n g s) (zv d l)
def sI(n:Int)(g:B8)(s:M Sg)(d:O)(l:M aB):Cl:=QU 3 (th n g s) (zv d l)
def wC(d:M bw):O->M Pf->Cl
 |t::ts,p::ps=>if(fv d t p).2 then fv d t p else wC d ts ps
 |_,_=>ix
def sC(t:O):M aB->M (M Pf)->Cl
 |s::l,p::a=>if(wC s.2.2 t p).2 then wC s.2.2 t p else sC t l a
 |_,_=>ix
def aaF(t:O)(P:M Pf):Prop:=t.length<=P.length/\∀p∈P,eX p.2.2.2.2.1/\az p.2.2.2.2.2/\small p.2.2.2.2.2
def W2(l:M aB)(T:O)(a:M (M Pf)):Prop:=l.length<=a.length/\(∀r∈a,aaF T r)/\(∀t∈T,small t)/\∀s∈l,aW s.2.2
def lf(n:Int)(g:B8)(s:M Sg)(d:O)(l:M aB)(t:O)(a:M (M Pf)):Cl:=if Bw n g s d l then sC t l a else ix
def uK(n:Int)(g:B8)(s:M Sg)(d:O)(l:M aB)(t:O)(a:M (M Pf)):Prop:=Bw n g s d l=true->W2 l t a
def KD(l:M aB)(t:O)(a:M (M Pf))(k:Nat):Prop:=k<=l.length/\W2 l t a/\sC t l a=sC t (l.drop k) (a.drop k)
def wF(l:M aB)(k:Nat):aB:=l.getD k (0,0,[])
def aVH(l:M aB)(t:O)(a:M (M Pf))(k j:Nat):Prop:=
 k<l.length/\j<=t.length/\W2 l t a/\sC t l a=sC t (l.drop k) (a.drop k)/\wC (wF l k).2.2 t (aks a k)=wC (wF l k).2.2 (t.drop j) ((aks a k).drop j)
def QV(n:Int)(g:B8)(s:M Sg)(d:O)(l:M aB)(i:Int)(f:B8)(p:O):Cl:=if Bw n g s d l then jY d i f p else ix
def hdF(n:Int)(g:B8)(s:M Sg)(d:O)(l:M aB):CF:=λz=>(True,Bv (sI n g s d l),z)
def lsF(n:Int)(g:B8)(s:M Sg)(d:O)(l:M aB)(t:O)(a:M (M Pf)):CF:=λz=>(uK n g s d l t a,Bv (lf n g s d l t a),z)
def dcF(n:Int)(g:B8)(s:M Sg)(d:O)(l:M aB)(i:Int)(f:B8)(p:O):CF:=λz=>(mI d f p,Bv (QV n g s d l i f p),z)
def dJ(d:O)(l:M aB)(q:M bj)(b:B8):Cl:=
 if ¬(fk d l).2=0 then ix else if ¬(fJ (fk d l).1 q b).2=0 then ix else if ¬(aI b).2=0 then ix
 else Ng [hdF (aI b).1.1 (aI b).1.2.1 (aI b).1.2.2.1 d l,lsF (aI b).1.1 (aI b).1.2.1 (aI b).1.2.2.1 d l (al q) (aI b).1.2.2.2]
def mX(d:O)(l:M aB)(i:Int)(b:B8):Cl:=
 if ¬(fk d l).2=0 then ix else if ¬(uc (fk d l).1 i b).2=0 then ix else if ¬(bx b).2=0 then ix
 else Ng [hdF (bx b).1.1 (bx b).1.2.1 (bx b).1.2.2.1 d l,dcF (bx b).1.1 (bx b).1.2.1 (bx b).1.2.2.1 d l i (bx b).1.2.2.2.2.1 (bx b).1.2.2.2.2.2]
end Go.S
namespace Go.S
open Go.Vg (CF AV gF tD)
theorem Et(n:Nat):0<=split n/\split n<=n:=by
 grind[split,iY,Int.toNat_natCast]
theorem UH(l:O):(kI l).length<=32:=by
 grind[kI,Nat.le_of_eq,uD]
variable {l p ts docs:List B8}{b f g:B8}{i n:Int}{m j:Nat}{d:List bw}{ps:List Pf}{a:List (List Pf)}{s:List Sg}
theorem aqK:az (kI (l.take (split l.length).toNat)++kI (l.drop (split l.length).toNat)):=by
 grind[UH,split,az,List.length_append]
theorem UI {c:Type}{l:M c}(h:small l)(n:Nat):small (l.take n)/\small (l.drop n):=by grind[small]
theorem NJ {a:B8}(k:Nat)(h:xJ a b):iy (bB k a) (bB k b):=by grind[xJ,iy,az,small,bB]
theorem aqL {l:O}(h:i<0\/(l.length:Int)<=i):jY l i f p=ix:=by
 rw[jY,if_pos (by grind[afQ])]
theorem W3(h:¬cB (leaf f) i l.length p=0):jY l i f p=ix:=by
 rw[jY,Q! h,ite_self]
theorem aNM(h:cB (leaf f) i l.length p=0):AO l i f p ([],[],leaves l,i):=by
 have⟨⟨_,_,_,H,c⟩,_⟩:=auv h;exact⟨rfl,by grind[nA],H,by grind[nA],kn l,by simp_all[nA,Nat.le_refl],h,by simp[nA],rfl⟩
theorem AP{x:O×M Bool×O×Int}(h:AO l i f p x)(H:1<(x.2.2.1.length:Int)):
  split x.2.2.1.length=((sp x.2.2.1.length:Nat):Int)/\1<=sp x.2.2.1.length/\sp x.2.2.1.length<x.2.2.1.length/\small x.2.2.1/\x.1.length<1099511627776/\x.2.1.length<1099511627776:=by
 have⟨Q,c,e,k,o,r,q,t,u⟩:=h;have⟨⟨_,_,g,_,_⟩,_⟩:=auv q;grind[iY,zp,small]
theorem W4 {l:O}(h:2<=l.length)(hi:i<((sp l.length:Nat):Int)):mW l i=wE l::mW (l.take (sp l.length)) i:=by rw[mW,dif_neg w!,Q! hi]
theorem W5 {l:O}(h:2<=l.length)(hi:¬i<((sp l.length:Nat):Int)):mW l i=wE l::mW (l.drop (sp l.length)) (i-((sp l.length:Nat):Int)):=by rw[mW,dif_neg w!,R! hi]
theorem afR(h:l.length<2):mW l i=[]:=by rw[mW,dif_pos h]
theorem ß{x:O×M Bool×O×Int}(h:AO l i f p x)(H:1<(x.2.2.1.length:Int)):
  AO l i f p (x.1++[wE x.2.2.1],x.2.1++[decide (split x.2.2.1.length<=x.2.2.2)],(bif decide (x.2.2.2<split x.2.2.1.length) then x.2.2.1.take (split x.2.2.1.length).toNat else x.2.2.1.drop (split x.2.2.1.length).toNat),
   (bif decide (x.2.2.2<split x.2.2.1.length) then x.2.2.2 else x.2.2.2-split x.2.2.1.length))/\
  (bif decide (x.2.2.2<split x.2.2.1.length) then x.2.2.1.take (split x.2.2.1.length).toNat else x.2.2.1.drop (split x.2.2.1.length).toNat).length<x.2.2.1.length:=by
 have⟨e,B,b,_⟩:=AP h H;have⟨q1,q2,c,k,q,o,Q,r,t⟩:=h;rw[e,Int.toNat_natCast];have em:((x.2.2.1.length:Int)).toNat=x.2.2.1.length:=by grind
 by_cases hi:x.2.2.2<((sp x.2.2.1.length:Nat):Int);rw[decide_eq_true hi,decide_eq_false w!];simp;refine⟨⟨?_,?_,c,?_,ny q _,?_,Q,?_,?_⟩,?_⟩;simp[q1,W4 w! hi,List.append_assoc,List.cons_append,List.nil_append];simp[q2,zn (n:=(x.2.2.1.length:Int)) w! (by exact hi),em,List.append_assoc,List.cons_append,List.nil_append,List.length_take,Nat.min_eq_left (Nat.le_of_lt b)];grind;grind;grind;grind;grind;rw[decide_eq_false hi,decide_eq_true w!];simp;have E:((x.2.2.1.length-sp x.2.2.1.length:Nat):Int)=(x.2.2.1.length:Int)-((sp x.2.2.1.length:Nat):Int):=by omega
 refine⟨⟨?_,?_,Int.sub_nonneg_of_le (Int.not_lt.1 hi),?_,nz q _,?_,Q,?_,?_⟩,?_⟩;simp[q1,W5 w! hi,List.append_assoc,List.cons_append,List.nil_append];simp[q2,zo (n:=(x.2.2.1.length:Int)) w! (by exact hi),em,List.append_assoc,List.cons_append,List.nil_append,List.length_drop,E];grind;grind;grind;grind;grind
theorem re{x:O×M Bool×O×Int}(h:AO l i f p x)(H:¬1<(x.2.2.1.length:Int)):
  x.1=mW (leaves l) i/\x.2.1=cq i l.length/\x.1.length=p.length/\x.2.1.length=p.length/\cB (leaf f) i l.length p=0/\cP p=true/\0<=i/\i<l.length:=by
 have⟨q,q2,k,o,r,t,Q,u,v⟩:=h;have⟨⟨_,_,_,g,G⟩,c,e⟩:=auv Q;rw[afR (l:=x.2.2.1) w!,B?] at q;rw[wo (n:=(x.2.2.1.length)) w!,B?] at q2;refine⟨q.symm,q2.symm,?_,?_,Q,e,g,G⟩<;>(rw[q2] at c;omega)
theorem Eu(l:O)(i:Int)(f:B8)(p:O):∀k,(rG l i f p k).length=p.length+1
 |0=>List.length_replicate ..
 |k+1=>by rw[rG,List.length_set];exact Eu l i f p k
theorem aEH(h:cP p=true)(k:Nat):(cL (leaf f) i l.length p k).length=32:=
 C9 _ _ (PD _) λx H=>(cQ p).1 h _ (List.of_mem_zip (List.mem_of_mem_take H)).2
theorem aHj {l:O}{i:Int}{f:B8}{p:O}{k:Nat}(h:cB (leaf f) i l.length p=0)(H:k<p.length)(b:Bool):
  az ((bif b then p.getD k [] else cL (leaf f) i l.length p k)++(bif b then cL (leaf f) i l.length p k else p.getD k [])):=by
 have d:=(auv h).2.2;have c:=aEH (l:=l) (i:=i) (f:=f) d k;have e:(p.getD k []).length=32:=(cQ p).1 d _ x!;cases b<;>(simp_all[cond_true,cond_false,az,List.length_append])
theorem aHk {l:O}{i:Int}{f:B8}{p:O}{k:Nat}{a:M Bool}(h:cB (leaf f) i l.length p=0)(H:k<p.length)(c:a=cq i l.length)(e:a.length=p.length):
  bz (bif a.getD ((p.length:Int)-1-(k:Int)).toNat false then p.getD k [] else cL (leaf f) i l.length p k) (bif a.getD ((p.length:Int)-1-(k:Int)).toNat false then cL (leaf f) i l.length p k else p.getD k [])=cL (leaf f) i l.length p (k+1):=by
 rw[<-(Ð h H),<-c,e];cases a.getD _ false<;>rfl
theorem awL {l:O}{i:Int}{f:B8}{p:O}{k:Nat}{a:M Bool}{g:O}(o:k<p.length)(q:a=cq i l.length)(H:g=mW (leaves l) i){x y u v:B8}(r:u=p.getD k [])(t:v=cL (leaf f) i l.length p k)
  (hx:x=bB 1 ((bif a.getD ((p.length:Int)-1-(k:Int)).toNat false then u else v)++(bif a.getD ((p.length:Int)-1-(k:Int)).toNat false then v else u))) (h:y=g.getD ((p.length:Int)-1-(k:Int)).toNat []):
  Vg.aE.put (rG l i f p k) ((p.length:Int)-1-(k:Int)).toNat (iy x y) (Bv (bt x y))=rG l i f p (k+1):=by
 have e:((p.length:Int)-1-k).toNat=p.length-1-k:=by omega
 rw[e] at hx h |-;rw[rG]
 have c:x=Þ f i l.length p k:=by
  grind[hx,Þ]
 rw[<-c,<-H,<-h];rfl
theorem aqM(l:O)(i:Int)(f:B8)(p:O):∀(k:Nat),k<=p.length->∀m,p.length-k<=m->m<p.length->
  (rG l i f p k)[m]? =some (Ý (Þ f i l.length p (p.length-1-m)) ((mW (leaves l) i).getD m []))
 |0,_,m,h1,h=>by omega
 |k+1,hk,m,h1,h=>by
  rw[rG];by_cases e:p.length-1-k=m;rw[List.getElem?_set,if_pos e,if_pos (by grind[Eu])];grind;rw[List.getElem?_set,if_neg e];exact aqM l i f p k w! m w! h
theorem W6(h:m<=p.length):
  (yr l i f p)[m]? =some (if m=p.length then Ý (bB 0 f) (bB 0 (l.getD i.toNat [])) else Ý (Þ f i l.length p (p.length-1-m)) ((mW (leaves l) i).getD m [])):=by
 unfold yr;by_cases e:m=p.length;simp_all[List.getElem?_set,if_pos,Eu]
 rw[List.getElem?_set,R! (Ne.symm e),R! e];exact aqM l i f p p.length (M! _) m w! w!
theorem aqN(l:O)(i:Int)(f:B8)(p:O):(yr l i f p).length=p.length+1:=by rw[yr,List.length_set,Eu]
theorem W7(x:Cl):tD (Bv x)=some (x.1.1,x.1.2,x.2):=rfl
theorem afS:∀(l:M CF),(∀F∈l,∃a b,F=Ý a b/\iy a b)->(gF l).1
 |[],_=>trivial
 |F::l,h=>by
  obtain⟨a,b,rfl,H⟩:=h F (G! ..);exact⟨H,λ_=>afS l λG c=>h G (F! _ c)⟩
theorem à(l:O):(wE l).length<=65:=by
 grind[UH,split,wE,bB,List.length_cons,List.length_append]
theorem aqO:∀(n:Nat) (l:O) (i:Int),l.length=n->∀b∈mW l i,b.length<=65:=by
 refine wu (λn h l i e b hb=>?_) (λn h I c l i e b hb=>?_);grind[afR];have H:=iY w!;subst e;by_cases hi:i<((sp l.length));rw[W4 h hi,List.mem_cons] at hb;rcases hb with rfl|hb;exact à l;exact I _ _ (by rw[List.length_take];omega) b hb;rw[W5 h hi,List.mem_cons] at hb;rcases hb with rfl|hb;exact à l;exact c _ _ (by rw[List.length_drop]) b hb
theorem W8 {l:O}{i:Int}{f:B8}{p:O}(h:cB (leaf f) i l.length p=0)(H:mI l f p)(F:CF)(k:F∈yr l i f p):∃a b,F=Ý a b/\iy a b:=by
 have⟨m,o,e⟩:=List.getElem_of_mem k;rw[aqN] at o;have q:=W6 (l:=l) (i:=i) (f:=f) (p:=p) (m:=m) w!;rw[List.getElem?_eq_getElem w!,e] at q;have q:=Option.some.inj q;have⟨⟨_,_,_,g,G⟩,r,t⟩:=auv h;by_cases c:m=p.length;have:=H.1.2 (l.getD i.toNat []) x!;have:=H.2.1;grind[iy,small,bB,az];rw[if_neg c] at q;refine⟨_,_,q,?_,?_⟩;grind[aEH,cQ,Þ,small,bB,List.length_cons,List.length_append];have:=aqO _ (leaves l) i rfl;grind[mW,leaves,small]
theorem awM {l:O}{i:Int}{f:B8}{p:O}(h:cB (leaf f) i l.length p=0)(H:mI l f p):(gF (yr l i f p)).1:=afS _ (W8 h H)
theorem NK(h:cB (leaf f) i l.length p=0):jY l i f p=Ng (yr l i f p):=by
 have⟨⟨_,_,_,g,G⟩,_⟩:=auv h;rw[jY,R! (not_not_intro ⟨g,G⟩),R! (not_not_intro h)]
theorem aSP{k:Nat}(h:cP p=true)(H:k<p.length):(p.getD k []).length=32:=(cQ p).1 h _ x!
theorem awN(a b c:B8):az (dw a b c):=by
 unfold dw;split;grind[Ay,eR,az];exact Nat.lt_of_lt_of_le (Nat.zero_lt_succ _) (Nat.le_refl _)
theorem afT(l:U):az (jH l):=by
 unfold jH;split;grind[Ax,aV,az];exact Nat.lt_of_lt_of_le (Nat.zero_lt_succ _) (Nat.le_refl _)
theorem NL(n:Int)(g:B8)(l:M Sg):az (th n g l):=by
 unfold th hW;split;grind[WN];exact Nat.lt_of_lt_of_le (Nat.zero_lt_succ _) (Nat.le_refl _)
theorem dEz(h:dE d=0):aK d=true:=by
 grind[dE]
theorem aaG{t:B8}{p:O}{P:B8}(H:Dg d t p P)(h:dE d=0)(a b c:B8):mI (bn d) (dw a b c) p:=by
 have h:=dEz h;refine⟨?_,awN ..,H.2.2.1⟩;rw[bn,Q! h];exact(kK H.1 h).1
theorem awO(h:ts.length<=j):wC d (ts.drop j) (ps.drop j)=ix:=by
 grind[List.drop_of_length_le,wC]
theorem aqP(h:j<ts.length)(h1:j<ps.length):
  wC d (ts.drop j) (ps.drop j)=if(fv d (ts.getD j []) (ps.getD j (0,[],[],[],[],[]))).2 then fv d (ts.getD j []) (ps.getD j (0,[],[],[],[],[])) else wC d (ts.drop (j+1)) (ps.drop (j+1)):=by
 rw[T? h,T? h1,wC,E!,C! h,E!,C! h1];rfl
variable {l:List aB}
theorem aqQ{k:Nat}(h:k<l.length)(h1:k<a.length):
  sC ts (l.drop k) (a.drop k)=if(wC (wF l k).2.2 ts (aks a k)).2 then wC (wF l k).2.2 ts (aks a k) else sC ts (l.drop (k+1)) (a.drop (k+1)):=by
 rw[T? h,T? h1,sC,wF,aks,E!,C! h,E!,C! h1];rfl
theorem afU{k:Nat}(h:W2 l ts a)(H:k<l.length):k<a.length/\aaF ts (aks a k)/\aW (wF l k).2.2:=by
 have V:k<a.length:=Y! H h.1;exact⟨V,h.2.1 _ (aU a k [] V),h.2.2.2 _ (aU l k _ H)⟩
theorem QW{k:Nat}(h:aVH l ts a k j)(c:j<ts.length):
  k<a.length/\j<(aks a k).length/\Dg (wF l k).2.2 (ts.getD j []) ((aks a k).getD j (0,[],[],[],[],[])).2.2.2.2.1 ((aks a k).getD j (0,[],[],[],[],[])).2.2.2.2.2:=by
 obtain⟨o,u,e,v,w⟩:=h;obtain⟨r,Q,t⟩:=afU e o;have H:=Y! c Q.1;have q:=Q.2 _ (aU (aks a k) j (0,[],[],[],[],[]) H);exact⟨r,H,t,e.2.2.1 _ (aU ts j [] c),q.1,q.2.1,q.2.2⟩
theorem afV{k:Nat}(c:Bw n g s docs l=true)(h:aVH l ts a k j)(H:j<ts.length)
  (e:(fv (wF l k).2.2 (ts.getD j []) ((aks a k).getD j (0,[],[],[],[],[]))).2=true):fv (wF l k).2.2 (ts.getD j []) ((aks a k).getD j (0,[],[],[],[],[]))=lf n g s docs l ts a:=by
 obtain⟨q1,q2,_⟩:=QW h H;obtain⟨o,q,r,t,u⟩:=h;simp_all[aqP,wF,q2,Q!,lf,aqQ,q1]
theorem aHl{k:Nat}(h:aVH l ts a k j)(H:j<ts.length)
  (r:(fv (wF l k).2.2 (ts.getD j []) ((aks a k).getD j (0,[],[],[],[],[]))).2=false):aVH l ts a k (j+1):=by
 obtain⟨Q,t,_⟩:=QW h H;obtain⟨c,u,e,o,q⟩:=h;refine⟨c,H,e,o,q.trans ?_⟩;grind[aqP]
theorem aqR{k:Nat}(h:aVH l ts a k j)(c:ts.length<=j):KD l ts a (k+1):=by
 obtain⟨h1,q,H,e,o⟩:=h;obtain⟨q1,_⟩:=afU H h1;refine⟨h1,H,e.trans ?_⟩;rw[aqQ h1 q1,o,awO c];rfl
theorem afW{k:Nat}(H:Bw n g s docs l=true)(h:KD l ts a k)(c:l.length<=k):lf n g s docs l ts a=ix:=by
 obtain⟨e,o,q⟩:=h;simp_all[lf,Q!,List.drop_of_length_le,sC]
theorem á(h:(fk docs l).2=0):cy docs l=true:=by
 grind[fk]
theorem afX(c:cy docs l=true)(H:cO n g s=true)(h:Bw n g s docs l=true):n=docs.length/\g=root (leaves docs)/\s=ya docs l:=by
 have e:zv docs l=hB docs.length (root (leaves docs)) (ya docs l):=by
  simp_all[zv,gI,Q!,th,hW,wk]
 have h:=of_decide_eq_true h;rw[e,th,hW,if_pos H] at h;have q:=(Ms (a:=(n,g,s)) (b:=((docs.length:Int),root (leaves docs),ya docs l)) H (wk c)).1 h;grind
theorem GO{r:B8}(h:EH n g s r=true):cO n g s=true/\l7 3 (hB n g s)=r:=by
 simp[EH,Bool.and_eq_true,decide_eq_true_eq] at h;grind[qV,absurd]
theorem ckA {r b:B8}{q:M bj}(h:(fJ r q b).2=0)(H:(aI b).2=0):Fy r (aI b).1 (al q)=true:=by
 grind[fJ,absurd]
theorem afY {docs:O}{l:M aB}{q:M bj}{b:B8}(t:b.length<1099511627776)(u:dq q)(v:(fk docs l).2=0)(w:(fJ (fk docs l).1 q b).2=0)(c:(aI b).2=0):
  uK (aI b).1.1 (aI b).1.2.1 (aI b).1.2.2.1 docs l (al q) (aI b).1.2.2.2:=by
 intro x;have k:=á v;have H:=ckA w c;simp[Fy,Bool.and_eq_true] at H;obtain⟨h,_⟩:=GO H.1;obtain⟨_,_,e⟩:=afX k h x;obtain⟨B,C,D,P,y⟩:=WY t u c;have E:(aI b).1.2.2.1.length=l.length:=by grind[Mu]
 refine⟨w!,λr h=>⟨?_,λp z=>y r h p z⟩,P,λs A=>(Eo k s A).2.2⟩;obtain⟨i,hi,rfl⟩:=l? h;have o:=H.2;simp[AN,V!,f?,B!] at o;have:=(o i w!).1;simp[qW,H!,E?,E!,C! hi,Option.getD_some] at this;omega
theorem aHm(h:b.length<1099511627776)(H:(fk docs l).2=0):mI docs (bx b).1.2.2.2.2.1 (bx b).1.2.2.2.2.2:=by
 obtain⟨k,c⟩:=AI (á H);refine⟨⟨w!,λd e=>?_⟩,Nat.lt_of_le_of_lt (afy b) h,Ñ b⟩;obtain⟨i,o,rfl⟩:=List.getElem_of_mem e;have:=c i;grind
theorem W9 {docs:O}{l:M aB}{q:M bj}{b:B8}(h:(fk docs l).2=0)(H:(fJ (fk docs l).1 q b).2=0)(c:(aI b).2=0):
  dJ docs l q b=Ng [hdF (aI b).1.1 (aI b).1.2.1 (aI b).1.2.2.1 docs l,lsF (aI b).1.1 (aI b).1.2.1 (aI b).1.2.2.1 docs l (al q) (aI b).1.2.2.2]:=by
 simp_all[dJ,R!,not_not_intro]
theorem afZ {docs:O}{l:M aB}{i:Int}{b:B8}(h:(fk docs l).2=0)(H:(uc (fk docs l).1 i b).2=0)(c:(bx b).2=0):
  mX docs l i b=Ng [hdF (bx b).1.1 (bx b).1.2.1 (bx b).1.2.2.1 docs l,dcF (bx b).1.1 (bx b).1.2.1 (bx b).1.2.2.1 docs l i (bx b).1.2.2.2.2.1 (bx b).1.2.2.2.2.2]:=by
 simp_all[mX,R!,not_not_intro]
def kz:Qi:=([yo],[(0,1,[(yo,[0])])])
abbrev kz0:(O×M aB)×Int:=aQw (Vg.pV B8) (Vg.pV (Int×Int×M (B8×U))) [104,97,121]
theorem Xa:(bS kz0.1.1 kz0.1.2).1=kz:=by rfl
theorem Xb:(rF kz.1 kz.2 jK).1.length<1099511627776/\(oC kz.1 kz.2 0).1.length<1099511627776:=by decide+kernel
theorem aNO:fJ (fk kz.1 kz.2).1 jK (rF kz.1 kz.2 jK).1=([0],0):=by decide+kernel
theorem aNP:(dJ kz.1 kz.2 jK (rF kz.1 kz.2 jK).1).2=false:=by decide+kernel
theorem aNQ:(mX kz.1 kz.2 0 (oC kz.1 kz.2 0).1).2=false:=by decide+kernel
theorem awQ:(bif lG (fJ (fk kz.1 kz.2).1 jK (rF kz.1 kz.2 jK).1).1 [0] then bif decide ((fJ (fk kz.1 kz.2).1 jK (rF kz.1 kz.2 jK).1).2=0) then bif !(dJ kz.1 kz.2 jK (rF kz.1 kz.2 jK).1).2 then !(mX kz.1 kz.2 0 (oC kz.1 kz.2 0).1).2 else false else false else false)=true:=by
 rw[aNO,aNP,aNQ];rfl
def FA(x:Cl):Prop:=x.2=true->QT x.1.1 x.1.2=true/\iy x.1.1 x.1.2
theorem rf:FA ix:=nofun
theorem QY {a:B8}(h:iy a b):FA (bt a b):=by
 unfold bt;split;exact λ_=>⟨w!,h⟩;exact rf
def SS(d:B8)(s:M Bool)(p:O)(m:Nat):B8:=
 if s.getD m false then bB 1 (p.getD (p.length-1-m) []++ko d (s.drop (m+1)) (p.take (p.length-1-m))) else bB 1 (ko d (s.drop (m+1)) (p.take (p.length-1-m))++p.getD (p.length-1-m) [])
theorem KF {a:B8}(h:a.length=32)(H:b.length=32):bz a b=sum (bB 1 (a++b)):=by
 simp[bz,Mc,h,H,decide_true,Bool.and_self,Q?];rfl
theorem alH {l:O}(h:2<=l.length)(H:l.length<=1099511627776)(c:cP l=true):wE l=bB 1 (root (l.take (sp l.length))++root (l.drop (sp l.length))):=by
 simp_all[wE,zp,E?,kI,Q!,ny,nz]
theorem aHn(h:m<p.length)(H:p.length=(cq i n).length):Þ f i n p (p.length-1-m)=SS (leaf f) (cq i n) p m:=by
 have e:cL (leaf f) i n p (p.length-1-m)=ko (leaf f) ((cq i n).drop (m+1)) (p.take (p.length-1-m)):=by
  unfold cL ko;congr 1
  rw[List.reverse_drop,List.zip_eq_zipWith,List.take_zipWith,List.zip_eq_zipWith];congr 2
  omega
 grind[Þ,SS]
theorem aqS(x y:Cl)(p q:Prop):Ng [λz=>(p,Bv x,z),λz=>(q,Bv y,z)]=if x.2 then x else if y.2 then y else ix:=by
 obtain⟨⟨a,b⟩,c⟩:=x;obtain⟨⟨A,B⟩,C⟩:=y;cases c<;>cases C<;>rfl
end Go.S
namespace Go.S
end Go.S
namespace Go.S
open Go.Vg (CF AV gF)
abbrev Sp5:=Int×Int×Int×Int×Bool
def desc(f m n:Int):M Sp5×Int:=
 if h:n<=m\/n<2 then([],f)
 else if m<=((sp n.toNat:Nat):Int) then((f,m,n,((sp n.toNat:Nat):Int),false)::(desc f m ((sp n.toNat:Nat):Int)).1,(desc f m ((sp n.toNat:Nat):Int)).2)
 else((f,m,n,((sp n.toNat:Nat):Int),true)::(desc (f+((sp n.toNat:Nat):Int)) (m-((sp n.toNat:Nat):Int)) (n-((sp n.toNat:Nat):Int))).1,(desc (f+((sp n.toNat:Nat):Int)) (m-((sp n.toNat:Nat):Int)) (n-((sp n.toNat:Nat):Int))).2)
termination_by n.toNat
decreasing_by all_goals (have:=iY (n:=n.toNat) w!;omega)
def aFO(m n:Int):M Sp5:=(desc 0 m n).1
def aFP(m n:Int):Int:=(desc 0 m n).2
def aF7(m n:Int):Prop:=1<=m/\m<=n/\n<=1099511627776
def awP(m n:Int)(k:M Sp5×Int×Int×Int):Prop:=
 aFO m n=k.1++(desc k.2.1 k.2.2.1 k.2.2.2).1/\aFP m n=(desc k.2.1 k.2.2.1 k.2.2.2).2/\1<=k.2.2.1/\k.2.2.1<=k.2.2.2/\0<=k.2.1/\k.2.1+k.2.2.2<=n/\k.2.1+k.2.2.1=m/\k.1.length+k.2.2.2<=n
def akf(a b:O):Cl:=
 if h:a.length<2 then bt (bB 0 (a.getD 0 [])) (bB 0 (b.getD 0 []))
 else if(bt (wE (leaves a)) (wE (leaves b))).2 then bt (wE (leaves a)) (wE (leaves b))
 else if(akf (a.take (sp a.length)) (b.take (sp a.length))).2 then akf (a.take (sp a.length)) (b.take (sp a.length))
 else akf (a.drop (sp a.length)) (b.drop (sp a.length))
termination_by a.length
decreasing_by all_goals (have:=iY (n:=a.length) w!;simp only[C?,N?];omega)
def aui(a b x y:O):Prop:=x=leaves a/\y=leaves b/\a.length=b.length/\1<=a.length/\dj a/\dj b
def ap0(a:O)(k:Int)(b x y:O):Prop:=aui a b x y/\1<=k/\k<a.length
def tkI(l:O)(k:Int):O:=l.take k.toNat
def dpI(l:O)(k:Int):O:=l.drop k.toNat
def auw(a b:O):Cl:=if a.length≠b.length\/a.length=0 then ix else akf a b
def ajL(l:O)(i j:Int):O:=(l.take j.toNat).drop i.toNat
def aI1(a:O)(i j:Int)(b:O):Prop:=dj a/\dj b/\0<=i/\i<=j/\j<=a.length/\j<=b.length
def ptF(a:O)(i j:Int)(b:O):CF:=λz=>(aI1 a i j b,Bv (auw (ajL a i j) (ajL b i j)),z)
def noF:CF:=λz=>(True,Bv ix,z)
def ep(a b:O):M Sp5:=aFO a.length b.length
def ccF(a b:O):Int:=aFP a.length b.length
def ajU(a b:O)(i:Nat):Sp5:=(ep a b).getD i (0,0,0,0,false)
def ccP(a b p:O):O:=bif decide (0<ccF a b) then p.drop 1 else p
def ccO(a b p:O):B8:=bif decide (0<ccF a b) then p.getD 0 [] else kI (leaves a)
def ccR(a b p:O)(k:Nat):B8×B8:=((List.zip ((ep a b).map λs=>s.2.2.2.2).reverse (ccP a b p)).take k).foldl aNo (ccO a b p,ccO a b p)
def an8(a b p:O)(k:Nat):B8:=(ccR a b p k).1
def anp(a b p:O)(k:Nat):B8:=(ccR a b p k).2
def aQD(a b p:O)(k:Nat)(s:Sp5):CF:=
 if s.2.2.2.2 then Ý (bB 1 ((ccP a b p).getD k []++an8 a b p k)) (wE (ajL (leaves a) s.1 (s.1+s.2.1))) else noF
def aQZ(a b p:O)(k:Nat)(s:Sp5):CF:=
 Ý (if s.2.2.2.2 then bB 1 ((ccP a b p).getD k []++anp a b p k) else bB 1 (anp a b p k++(ccP a b p).getD k [])) (wE (ajL (leaves b) s.1 (s.1+s.2.2.1)))
def an3(a b p:O):Nat->M CF
 |0=>Vg.aE.JY (ep a b).length
 |k+1=>(an3 a b p k).set ((ep a b).length-1-k) (aQD a b p k (ajU a b ((ep a b).length-1-k)))
def anH(a b p:O):Nat->M CF
 |0=>Vg.aE.JY (ep a b).length
 |k+1=>(anH a b p k).set ((ep a b).length-1-k) (aQZ a b p k (ajU a b ((ep a b).length-1-k)))
def aQ0(a b:O)(k:Nat):M CF:=(((ep a b).take k).filter λs=>s.2.2.2.2).map λs=>ptF a s.1 (s.1+s.2.2.2.1) b
def anw(a b p:O)(k:Nat):M CF:=an3 a b p (ep a b).length++anH a b p (ep a b).length++aQ0 a b k
def aI3(a b p:O):M CF:=anw a b p (ep a b).length++[ptF a (ccF a b) a.length b]
def anD(a b p:O):Prop:=a.length=0\/b.length<a.length\/¬J7 a.length b.length (kI (leaves a)) (kI (leaves b)) p=0
instance (a b p:List B8):Decidable (anD a b p):=by unfold anD;infer_instance
def aul(a b p:O):Cl:=if anD a b p then ix else Ng (aI3 a b p)
def leP(l:M Sp5)(k:Nat):Prop:=k<=l.length
def aFQ(a b p:O):Prop:=dj a/\dj b/\eX p
def aOi(n:Int)(g:B8)(s:M Sg)(d:O)(l:M aB)(N:Int)(G:B8)(S:M Sg)(a:O)(L:M aB)(p:O):Prop:=aFQ d a p
def at6(n:Int)(g:B8)(s:M Sg)(d:O)(l:M aB)(N:Int)(G:B8)(S:M Sg)(a:O)(L:M aB)(p:O):Cl:=
 if Bw n g s d l=true/\Bw N G S a L=true then aul d a p else ix
def pfF(n:Int)(g:B8)(s:M Sg)(d:O)(l:M aB)(N:Int)(G:B8)(S:M Sg)(a:O)(L:M aB)(p:O):CF:=
 λz=>(aOi n g s d l N G S a L p,Bv (at6 n g s d l N G S a L p),z)
def alN(d:O)(l:M aB)(a:O)(L:M aB)(b:B8):Cl:=
 if ¬(fk d l).2=0 then ix else if ¬(fk a L).2=0 then ix
 else if ¬(anq (fk d l).1 b).2.2=0\/¬(anq (fk d l).1 b).1=(fk a L).1 then ix else if ¬(Ě b).2=0 then ix
 else Ng [hdF (Ě b).1.1 (Ě b).1.2.1 (Ě b).1.2.2.1 d l,hdF (Ě b).1.2.2.2.1 (Ě b).1.2.2.2.2.1 (Ě b).1.2.2.2.2.2.1 a L,
  pfF (Ě b).1.1 (Ě b).1.2.1 (Ě b).1.2.2.1 d l (Ě b).1.2.2.2.1 (Ě b).1.2.2.2.2.1 (Ě b).1.2.2.2.2.2.1 a L (Ě b).1.2.2.2.2.2.2]
end Go.S
namespace Go.S
open Go.Vg (CF AV gF tD)
variable {f m n i j:Int}{x:List Sp5×Int×Int×Int}{l a b y p docs:List B8}{s:Sp5}{d:List bw}
theorem aOO(h:n<=m\/n<2):desc f m n=([],f):=by rw[desc,dif_pos h]
theorem aQM {n:Int}(h:2<=n)(H:m<n)(hi:m<=((sp n.toNat:Nat):Int)):desc f m n=((f,m,n,((sp n.toNat:Nat):Int),false)::(desc f m ((sp n.toNat:Nat):Int)).1,(desc f m ((sp n.toNat:Nat):Int)).2):=by
 rw[desc,dif_neg w!,Q! hi]
theorem aQN {n:Int}(h:2<=n)(H:m<n)(hi:¬m<=((sp n.toNat:Nat):Int)):
  desc f m n=((f,m,n,((sp n.toNat:Nat):Int),true)::(desc (f+((sp n.toNat:Nat):Int)) (m-((sp n.toNat:Nat):Int)) (n-((sp n.toNat:Nat):Int))).1,(desc (f+((sp n.toNat:Nat):Int)) (m-((sp n.toNat:Nat):Int)) (n-((sp n.toNat:Nat):Int))).2):=by
 rw[desc,dif_neg w!,R! hi]
theorem a0o(h:aF7 m n):awP m n ([],0,m,n):=by
 obtain⟨H,c,e⟩:=h;exact⟨rfl,rfl,H,c,Int.le_refl _,z!,z!,z!⟩
theorem aV0(H:aF7 m n)(h:awP m n x)(c:x.2.2.1<x.2.2.2):split x.2.2.2=((sp x.2.2.2.toNat:Nat):Int)/\1<=sp x.2.2.2.toNat/\((sp x.2.2.2.toNat:Nat):Int)<x.2.2.2/\x.2.2.2<=1099511627776:=by
 obtain⟨p,P,e⟩:=H;obtain⟨q,Q,g,k,o,r,t,u⟩:=h;have:=iY (n:=x.2.2.2.toNat) w!;exact⟨Aw w! w!,this.1,w!,w!⟩
theorem aSQ(c:aF7 m n)(h:awP m n x)(H:x.2.2.1<x.2.2.2):
  awP m n (x.1++[(x.2.1,x.2.2.1,x.2.2.2,split x.2.2.2,decide (split x.2.2.2<x.2.2.1))],(bif decide (split x.2.2.2<x.2.2.1) then x.2.1+split x.2.2.2 else x.2.1),(bif decide (split x.2.2.2<x.2.2.1) then x.2.2.1-split x.2.2.2 else x.2.2.1),(bif decide (split x.2.2.2<x.2.2.1) then x.2.2.2-split x.2.2.2 else split x.2.2.2))/\
  (bif decide (split x.2.2.2<x.2.2.1) then x.2.2.2-split x.2.2.2 else split x.2.2.2).toNat<x.2.2.2.toNat:=by
 obtain⟨e,b,B,r⟩:=aV0 c h H;obtain⟨q,Q,g,t,k,u,o,v⟩:=h;rw[e];by_cases hi:x.2.2.1<=((sp x.2.2.2.toNat:Nat):Int);rw[decide_eq_false w!,cond_false,cond_false,cond_false];rw[aQM w! H hi] at q Q;refine⟨⟨by simpa using q,Q,g,hi,k,?_,o,?_⟩,?_⟩;dsimp only;omega;simp;omega
 omega
 . rw[decide_eq_true w!,cond_true,cond_true,cond_true];rw[aQN w! H hi] at q Q;refine⟨⟨by simpa using q,Q,?_,?_,?_,?_,?_,?_⟩,?_⟩;all_goals (try dsimp only)
   all_goals (try simp only[J!,J?])
   all_goals omega
theorem aUf(h:awP m n x)(H:¬x.2.2.1<x.2.2.2):x.1=aFO m n/\x.2.1=aFP m n:=by
 obtain⟨q,Q,_⟩:=h;rw[aOO w!] at q Q;exact⟨by simpa using q.symm,Q.symm⟩
theorem a0p(H:aF7 m n)(h:awP m n x):x.1.length<=1099511627776:=by
 obtain⟨q,Q,c,e,g,k,o,r⟩:=h;have:=H.2.2;omega
theorem aI4(n:Nat):∀(f m:Int),1<=m->m<=n->0<=f->
  (∀s∈(desc f m n).1,0<=s.1/\f<=s.1/\1<=s.2.1/\s.2.1<s.2.2.1/\1<=s.2.2.2.1/\s.2.2.2.1<s.2.2.1/\s.1+s.2.1=f+m/\s.1+s.2.2.1<=f+n/\(s.2.2.2.2=true->s.2.2.2.1<s.2.1))/\
  f<=(desc f m n).2/\(desc f m n).2<=f+m/\(desc f m n).1.length<=n/\(desc f m n).1.map (λs=>s.2.2.2.2)=WG m n:=by
 induction n using Nat.strongRecOn with
 |_ n i=>
  intro f m c B e;by_cases C:m=n;rw[aOO w!,aPZ w!];exact⟨λs h=>(nomatch h),Int.le_refl _,by dsimp only;omega,Nat.zero_le _,rfl⟩;have D:=iY (n:=n) w!;have em:((n:Int)).toNat=n:=Int.toNat_natCast _;by_cases H:m<=((sp n:Nat):Int);rw[aQM (n:=(n:Int)) w! w! (by rw[em];exact H),aMs (n:=(n:Int)) w! w! (by rw[em];exact H),em];obtain⟨g,G,u,z,g5⟩:=i (sp n) w! f m c H e;refine⟨λs h=>?_,G,u,by simp;omega,by simp[g5]⟩;rcases List.mem_cons.1 h with rfl|h;dsimp only;refine⟨e,Int.le_refl _,c,w!,w!,w!,rfl,w!,nofun⟩;obtain⟨k,v,K,o,q,r,w,A,t⟩:=g s h;exact⟨k,v,K,o,q,r,w,w!,t⟩;rw[aQN (n:=(n:Int)) w! w! (by rw[em];exact H),aP0 (n:=(n:Int)) w! w! (by rw[em];exact H),em];have E:(n:Int)-((sp n:Nat):Int)=((n-sp n:Nat):Int):=by omega
  rw[E];obtain⟨g,G,u,z,g5⟩:=i (n-sp n) w! (f+((sp n:Nat):Int)) (m-((sp n:Nat):Int)) w! w! w!;refine⟨λs h=>?_,by dsimp only;omega,by dsimp only;omega,by simp;omega,by simp[g5]⟩;rcases List.mem_cons.1 h with rfl|h;dsimp only;refine⟨e,Int.le_refl _,c,w!,w!,w!,rfl,w!,λ_=>by omega⟩;obtain⟨k,v,K,o,q,r,w,A,t⟩:=g s h;exact⟨k,w!,K,o,q,r,w!,w!,t⟩
theorem aQ1(l:O)(k:Nat):leaves (l.take k)=(leaves l).take k:=by simp[leaves]
theorem aQ2(l:O)(k:Nat):leaves (l.drop k)=(leaves l).drop k:=by simp[leaves]
theorem aP3(h:dj l)(k:Nat):dj (l.take k):=⟨by rw[C?];have:=h.1;omega,λb H=>h.2 b (List.mem_of_mem_take H)⟩
theorem aP4(h:dj l)(k:Nat):dj (l.drop k):=⟨by rw[N?];have:=h.1;omega,λb H=>h.2 b (List.mem_of_mem_drop H)⟩
variable {x:List B8}
theorem aV1{k:Int}(h:ap0 a k b x y):aui (a.take k.toNat) (b.take k.toNat) (x.take k.toNat) (y.take k.toNat):=by
 obtain⟨⟨rfl,rfl,e,g,H,c⟩,o,q⟩:=h;refine⟨(aQ1 ..).symm,(aQ1 ..).symm,?_,?_,aP3 H _,aP3 c _⟩<;>(simp only[C?];omega)
theorem aV2{k:Int}(h:ap0 a k b x y):aui (a.drop k.toNat) (b.drop k.toNat) (x.drop k.toNat) (y.drop k.toNat):=by
 obtain⟨⟨rfl,rfl,e,g,H,c⟩,o,q⟩:=h;refine⟨(aQ2 ..).symm,(aQ2 ..).symm,?_,?_,aP4 H _,aP4 c _⟩<;>(simp only[N?];omega)
theorem aMR(h:aui a b x y):x.length=a.length/\y.length=a.length/\b.length=a.length/\a.length<=1099511627776:=by
 obtain⟨rfl,rfl,H,e,c,g⟩:=h;rw[nA,nA];exact⟨rfl,H.symm,H.symm,c.1⟩
theorem aQ3(h:a.length<2):akf a b=bt (bB 0 (a.getD 0 [])) (bB 0 (b.getD 0 [])):=by rw[akf,dif_pos h]
theorem aQO(h:2<=a.length):akf a b=if(bt (wE (leaves a)) (wE (leaves b))).2 then bt (wE (leaves a)) (wE (leaves b)) else if(akf (a.take (sp a.length)) (b.take (sp a.length))).2 then akf (a.take (sp a.length)) (b.take (sp a.length)) else akf (a.drop (sp a.length)) (b.drop (sp a.length)):=by
 rw[akf,dif_neg w!]
theorem aW3 {a b:B8}(h:(bt a b).2=false):bt a b=ix:=by
 unfold bt at *;split;rename_i h1;rw[if_pos h1] at h;cases h;rfl
theorem aV3(n:Nat):∀a b:O,a.length=n->(akf a b).2=false->akf a b=ix:=by
 refine wu (C:=λn=>∀a b:O,a.length=n->(akf a b).2=false->akf a b=ix) (λn h a b e H=>?_) (λn h I i a b e H=>?_) n;rw[aQ3 w!] at *;exact aW3 H;subst e;have c:=iY h;rw[aQO h] at *;split at H;rename_i q;rw[q] at H;cases H;rename_i q0;rw[R! q0];split at H;rename_i q;rw[q] at H;cases H;rename_i q1;rw[R! q1];exact i _ _ (by rw[N?]) H
theorem aQ4(x y v:Cl)(p q r:Prop):Ng [λz=>(p,Bv x,z),λz=>(q,Bv y,z),λz=>(r,Bv v,z)]=if x.2 then x else if y.2 then y else if v.2 then v else ix:=by
 obtain⟨⟨a,b⟩,c⟩:=x;obtain⟨⟨g,h⟩,e⟩:=y;obtain⟨⟨A,B⟩,C⟩:=v;cases c<;>cases e<;>cases C<;>rfl
theorem aUg(l L:O):iy (wE l) (wE L):=by
 have:=à l;have:=à L;unfold iy small;omega
theorem aW4(h:2<=a.length)(p q r:Prop):Ng [λz=>(p,Bv (bt (wE (leaves a)) (wE (leaves b))),z),λz=>(q,Bv (akf (a.take (sp a.length)) (b.take (sp a.length))),z),λz=>(r,Bv (akf (a.drop (sp a.length)) (b.drop (sp a.length))),z)]=akf a b:=by
 rw[aQ4,aQO h];cases H:(akf (a.drop (sp a.length)) (b.drop (sp a.length))).2 with
 |true=>rfl
 |false=>rw[aV3 _ _ _ rfl H];simp
theorem aQP(h:2<=l.length)(g:l.length<=1099511627776):
  wE (leaves l)=bB 1 (root (leaves (l.take (sp l.length)))++root (leaves (l.drop (sp l.length))))/\root (leaves l)=sum (wE (leaves l)):=by
 have H:=kn l;have c:=nA l;have e:=alH (l:=leaves l) w! w! H;rw[c] at e;have r:=za (l:=leaves l) w! rfl;rw[c] at r;rw[e,r,aQ1,aQ2,KF (uD (ny H _)) (uD (nz H _))];exact⟨rfl,rfl⟩
theorem aFw(l:O):(root (leaves l)).length=32:=uD (kn l)
theorem aVc(n:Nat):∀a b:O,a.length=n->(∀x∈a,x.length<1099511627776)->(∀x∈b,x.length<1099511627776)->FA (akf a b):=by
 refine wu (C:=λn=>∀a b:O,a.length=n->(∀x∈a,x.length<1099511627776)->(∀x∈b,x.length<1099511627776)->FA (akf a b)) (λn h a b E c e=>?_) (λn h i I a b E c e=>?_) n
 . rw[aQ3 w!]
   have q:∀l:O,(∀x∈l,x.length<1099511627776)->az (l.getD 0 []):=λl g=>by
    cases l with
    |nil=>exact Y! (Nat.zero_lt_succ _) (M! _)
    |cons x l=>exact g x (G! ..)
   exact QY (NJ 0 ⟨q a c,q b e⟩)
 subst E;rw[aQO h];split;exact QY (aUg ..);split;exact i _ _ (by rw[C?];have:=iY h;omega) (λx H=>c x (List.mem_of_mem_take H)) (λx H=>e x (List.mem_of_mem_take H));exact I _ _ (by rw[N?]) (λx H=>c x (List.mem_of_mem_drop H)) (λx H=>e x (List.mem_of_mem_drop H))
theorem aTd(h:dj a)(H:dj b):FA (auw a b):=by
 unfold auw;split;exact rf;exact aVc _ a b rfl h.2 H.2
theorem aQ5 {c:Type}(g:Nat->c)(L:Nat)(T:Nat->M c)(h:(T 0).length=L)(H:∀k,T (k+1)=(T k).set (L-1-k) (g k)):∀k,k<=L->(T k).length=L/\∀i,i<L->L-k<=i->(T k)[i]? =some (g (L-1-i))
 |0,_=>⟨h,λi o q=>by omega⟩
 |k+1,hk=>by
  obtain⟨G,r⟩:=aQ5 g L T h H k w!;rw[H];refine⟨by rw[List.length_set];exact G,λi o q=>?_⟩;rw[List.getElem?_set];by_cases e:L-1-k=i;rw[Q! e,Q! w!];have :L-1-i=k:=by omega
  rw[this];rw[R! e];exact r i o w!
theorem aO2{k:Nat}(h:k<=(ep a b).length):(an3 a b p k).length=(ep a b).length/\∀i,i<(ep a b).length->(ep a b).length-k<=i->(an3 a b p k)[i]? =some (aQD a b p ((ep a b).length-1-i) (ajU a b i)):=by
 obtain⟨g,g2⟩:=aQ5 (λk=>aQD a b p k (ajU a b ((ep a b).length-1-k))) (ep a b).length (an3 a b p) (List.length_replicate ..) (λ_=>rfl) k h;refine⟨g,λi h1 H=>?_⟩;rw[g2 i h1 H];have :(ep a b).length-1-((ep a b).length-1-i)=i:=by omega
 rw[this]
theorem aO3{k:Nat}(h:k<=(ep a b).length):(anH a b p k).length=(ep a b).length/\∀i,i<(ep a b).length->(ep a b).length-k<=i->(anH a b p k)[i]? =some (aQZ a b p ((ep a b).length-1-i) (ajU a b i)):=by
 obtain⟨g,g2⟩:=aQ5 (λk=>aQZ a b p k (ajU a b ((ep a b).length-1-k))) (ep a b).length (anH a b p) (List.length_replicate ..) (λ_=>rfl) k h;refine⟨g,λi h1 H=>?_⟩;rw[g2 i h1 H];have :(ep a b).length-1-((ep a b).length-1-i)=i:=by omega
 rw[this]
theorem aTe(n:Nat):∀(f m:Int),1<=m->m<n->0<=f->(f<(desc f m n).2↔avM m=false):=by
 induction n using Nat.strongRecOn with
 |_ n i=>
  intro f m c o e;have h:2<=n:=by omega
  have q:=iY h;obtain⟨t,E,r,u⟩:=aUd h;have em:((n:Int)).toNat=n:=E? _;by_cases H:m<=((sp n:Nat):Int);rw[aQM (n:=(n:Int)) w! w! (by rw[em];exact H),em];by_cases he:m=((sp n:Nat):Int);rw[aOO w!,he,E,aW1];simp;exact i (sp n) w! f m c w! e;rw[aQN (n:=(n:Int)) w! w! (by rw[em];exact H),em];have g:(n:Int)-((sp n:Nat):Int)=((n-sp n:Nat):Int):=by omega
  rw[g];obtain⟨_,G,_⟩:=aI4 (n-sp n) (f+((sp n:Nat):Int)) (m-((sp n:Nat):Int)) w! w! w!;have k:=aW2 (t:=t) (m:=m) w! w!;rw[k];simp;omega
theorem aQQ {a b p:O}{k:Nat}(H:(ccP a b p).length=(ep a b).length)(h:k<(ep a b).length):
  ccR a b p (k+1)=aNo (ccR a b p k) ((ajU a b ((ep a b).length-1-k)).2.2.2.2,(ccP a b p).getD k []):=by
 unfold ccR
 have e:(List.zip ((ep a b).map λs=>s.2.2.2.2).reverse (ccP a b p))[k]? =some ((ajU a b ((ep a b).length-1-k)).2.2.2.2,(ccP a b p).getD k []):=by
  rw[List.getElem?_zip_eq_some];refine⟨?_,?_⟩;rw[List.getElem?_reverse (by simpa using h),A?,List.length_map,ajU,E!,C! w!];rfl;rw[E!,C! w!];rfl
 rw[List.take_add_one,e,List.foldl_append];rfl
theorem aP5(h:¬anD a b p):1<=a.length/\a.length<=b.length/\b.length<=1099511627776/\cP p=true/\accepted a.length b.length (root (leaves a)) (root (leaves b)) p=true:=by
 unfold anD at h;simp only[not_or,Decidable.not_not] at h;obtain⟨c,e,H⟩:=h;rw[kI,kI,if_pos (kn a),if_pos (kn b)] at H;unfold J7 at H;split at H;cases H;split at H;rename_i q g;exact⟨w!,w!,w!,g.1,g.2⟩;cases H
theorem arO(h:¬anD a b p):(ccP a b p).length=(ep a b).length/\cP (ccP a b p)=true/\(ccO a b p).length=32/\(decide (0<ccF a b)=true->p.length≠0)/\ccR a b p (ep a b).length=(root (leaves a),root (leaves b)):=by
 obtain⟨F,G,I,r,H⟩:=aP5 h;have hO:kI (leaves a)=root (leaves a):=by rw[kI,Q! (kn a)]
 unfold accepted at H;rw[if_neg w!] at H;by_cases he:(a.length:Int)=b.length;rw[if_pos he] at H;simp only[Bool.and_eq_true,decide_eq_true_eq] at H;have u:desc 0 (a.length:Int) (b.length:Int)=([],0):=aOO w!;have e:ccF a b=0:=by rw[ccF,aFP,u]
 have v:ep a b=[]:=by rw[ep,aFO,u]
 have E:ccP a b p=p:=by rw[ccP,e];rfl
 have c:ccO a b p=root (leaves a):=by rw[ccO,e,<-hO];rfl
 refine⟨by rw[E,v];exact H.1,by rw[E];exact r,by rw[c,aFw],by rw[e];nofun,?_⟩;rw[ccR,v,c];simp[H.2]
 . rw[R! he] at H;have w:=aTe b.length 0 a.length w! w! (Int.le_refl _);obtain⟨_,_,_,_,A⟩:=aI4 b.length 0 a.length w! w! (Int.le_refl _);have i:(ep a b).map (λs=>s.2.2.2.2)=WG a.length b.length:=A;have z:(WG (a.length:Int) (b.length:Int)).length=(ep a b).length:=by rw[<-i,List.length_map]
   unfold aNq aNp at H;simp only[Bool.and_eq_true,decide_eq_true_eq] at H;obtain⟨t,k,K⟩:=H
   have g:∀(P:O) (O:B8),ccP a b p=P->ccO a b p=O->P.length=(WG (a.length:Int) (b.length:Int)).length->avL (WG a.length b.length) (O,O) P=(root (leaves a),root (leaves b))->ccR a b p (ep a b).length=(root (leaves a),root (leaves b)):=by
    intro P O B C J D;rw[ccR,B,C,i,d? (by simp;omega)];exact D
   cases o:avM (a.length:Int) with
   |true=>
    rw[o] at t k K;simp only[Q?,List.drop_succ_cons,List.drop_zero,List.getD_cons_zero] at t k K;have e:decide (0<ccF a b)=false:=e? λq=>by rw[w.1 q] at o;cases o
    have E:ccP a b p=p:=by rw[ccP,e];rfl
    have c:ccO a b p=root (leaves a):=by rw[ccO,e,<-hO];rfl
    exact⟨by rw[E,k,z],by rw[E];exact r,by rw[c,aFw],(by rw[e];nofun),g _ _ E c k K⟩
   |false=>
    rw[o] at t k K;simp only[c?,r?] at t k K;have e:decide (0<ccF a b)=true:=L? (w.2 o);have E:ccP a b p=p.drop 1:=by rw[ccP,e];rfl
    have c:ccO a b p=p.getD 0 []:=by rw[ccO,e];rfl
    exact⟨by rw[E,k,z],by rw[E];exact nz r 1,by rw[c];exact aSP r w!,λ_=>by omega,g _ _ E c k K⟩
theorem aQR(h:¬anD a b p):∀k,k<=(ep a b).length->(an8 a b p k).length=32/\(anp a b p k).length=32:=by
 obtain⟨h1,e,c,_⟩:=arO h;intro k;induction k with
 |zero=>intro _;exact⟨c,c⟩
 |succ k i=>
  intro o;obtain⟨g,G⟩:=i w!;have H:=aSP (p:=ccP a b p) e (k:=k) w!;unfold an8 anp at *;rw[aQQ h1 w!,aNo];split;exact⟨aum _ _ H g,aum _ _ H G⟩;exact⟨g,aum _ _ G H⟩
theorem aSm(l:O)(i j:Int):ajL (leaves l) i j=leaves (ajL l i j):=by simp[ajL,leaves]
theorem aPm(h:0<=i)(H:i<=j)(c:j<=l.length):((ajL l i j).length:Int)=j-i:=by
 simp only[ajL,N?,C?];omega
theorem aMu(k:Nat)(h:0<=i)(H:i+k<=j):(ajL l i j).take k=ajL l i (i+k):=by
 unfold ajL;rw[List.take_drop,List.take_take];congr 2
 omega
theorem aMv(k:Nat)(h:0<=i):(ajL l i j).drop k=ajL l (i+k) j:=by
 unfold ajL;rw[List.drop_drop];congr 1
 omega
theorem aPn(h:dj l)(i j:Int):dj (ajL l i j):=aP4 (aP3 h _) _
theorem aQ6 {a b:O}{j:Nat}{s:Sp5}{r:M Sp5}(h:(ep a b).drop j=s::r):j<(ep a b).length/\ajU a b j=s/\(ep a b).drop (j+1)=r:=by
 have H:j<(ep a b).length:=by
  by_cases q:j<(ep a b).length;exact q;rw[List.drop_of_length_le w!] at h;cases h
 rw[T? H] at h;obtain⟨rfl,c⟩:=List.cons.inj h;exact⟨H,by rw[ajU,E!,C! H];rfl,c⟩
theorem aSo(h:¬anD a b p)(w:aFQ a b p):∀F∈aI3 a b p,∃x,(F .n).2.1=Bv x/\FA x/\(F .n).1:=by
 obtain⟨I,J,L,_,_⟩:=aP5 h;obtain⟨M,C,_⟩:=arO h;obtain⟨P,r,N⟩:=w;obtain⟨d,D,R,_,_⟩:=aI4 b.length 0 a.length w! w! (Int.le_refl _);have c:=aQR h;have K:∀k,k<(ep a b).length->((ccP a b p).getD k []).length=32:=λk T=>aSP C w!
 have B:∀(u v:B8) (l:O),u.length=32->v.length=32->iy (bB 1 (u++v)) (wE l):=λu v l U V=>by
  have:=à l;refine⟨?_,?_⟩<;>(unfold small;(try simp only[bB,List.length_cons,List.length_append]);omega)
 have t:∀i j:Int,0<=i->i<=j->j<=a.length->∃x,((ptF a i j b) .n).2.1=Bv x/\FA x/\((ptF a i j b) .n).1:=λi j Q z A=>
  ⟨_,rfl,aTd (aPn P ..) (aPn r ..),P,r,Q,z,A,w!⟩
 intro F H;rw[aI3,anw,List.mem_append,List.mem_append,List.mem_append] at H;rcases H with((H|H)|H)|H;obtain⟨i,hi,e⟩:=List.getElem_of_mem H;obtain⟨G,g⟩:=aO2 (a:=a) (b:=b) (p:=p) (Nat.le_refl _);have q:=g i w! w!;rw[List.getElem?_eq_getElem hi,e] at q;have q:=Option.some.inj q;subst q;unfold aQD;split;exact⟨_,rfl,QY (B _ _ _ (K _ w!) (c _ w!).1),B _ _ _ (K _ w!) (c _ w!).1⟩;exact⟨_,rfl,rf,trivial⟩;obtain⟨i,hi,e⟩:=List.getElem_of_mem H;obtain⟨G,g⟩:=aO3 (a:=a) (b:=b) (p:=p) (Nat.le_refl _);have q:=g i w! w!;rw[List.getElem?_eq_getElem hi,e] at q;have q:=Option.some.inj q;subst q;unfold aQZ;split;exact⟨_,rfl,QY (B _ _ _ (K _ w!) (c _ w!).2),B _ _ _ (K _ w!) (c _ w!).2⟩;exact⟨_,rfl,QY (B _ _ _ (c _ w!).2 (K _ w!)),B _ _ _ (c _ w!).2 (K _ w!)⟩;rw[aQ0,List.mem_map] at H;obtain⟨s,o,rfl⟩:=H;rw[List.mem_filter] at o;obtain⟨S,_,_,_,W,_,X,_,E⟩:=d s (List.mem_of_mem_take o.1);exact t _ _ S w! (by have:=E o.2;omega);rw[List.mem_singleton] at H;subst H;exact t _ _ D (by rw[ccF,aFP];omega) (Int.le_refl _)
theorem aUh:∀(l:M CF),(∀F∈l,∃x,(F .n).2.1=Bv x/\(F .n).1)->(gF l).1
 |[],_=>trivial
 |F::l,h=>by
  obtain⟨x,h1,H⟩:=h F (List.mem_cons_self ..);unfold gF;rw[h1,W7];exact⟨H,λ_=>aUh l λG c=>h G (List.mem_cons_of_mem _ c)⟩
theorem aW7(h:¬anD a b p)(H:aFQ a b p):(gF (aI3 a b p)).1:=aUh _ λF c=>by
 obtain⟨x,e,_,g⟩:=aSo h H F c;exact⟨x,e,g⟩
theorem aRR(h:aui a b x y):az (a.getD 0 [])/\az (b.getD 0 [])/\small x/\small y:=by
 obtain⟨l,L,g,k⟩:=aMR h;obtain⟨_,_,o,H,c,e⟩:=h;exact⟨c.2 _ (aU _ _ _ H),e.2 _ (aU _ _ _ w!),by unfold small;omega,by unfold small;omega⟩
theorem aTg {a:O}(h:aui a b x y)(H:¬(a.length:Int)=1):2<=a.length/\split a.length=((sp a.length:Nat):Int)/\1<=sp a.length/\sp a.length<a.length:=by
 obtain⟨l,L,c,e⟩:=aMR h;have g:=h.2.2.2.1;have:=iY (n:=a.length) w!;exact⟨w!,zp w! w!,this.1,w!⟩
theorem aV6 {a:O}(h:aui a b x y)(H:¬(a.length:Int)=1):ap0 a (split a.length) b x y:=by
 obtain⟨l,L,c,e⟩:=aTg h H;exact⟨h,w!,w!⟩
theorem aYe {m:Nat}{a:O}(h:aui a b x y)(H:¬(a.length:Int)=1)(c:len a<m+1):(split a.length).toNat+1<m+1/\len a-(split a.length).toNat+1<m+1:=by
 obtain⟨L,l,e,g⟩:=aTg h H;rw[l];unfold len at *;omega
theorem aV7 {a:O}(h:aui a b x y)(H:¬(a.length:Int)=1)(p q r:Prop):
  Ng [λz=>(p,Bv (bt (wE x) (wE y)),z),λz=>(q,Bv (akf (tkI a (split a.length)) (tkI b (split a.length))),z),λz=>(r,Bv (akf (dpI a (split a.length)) (dpI b (split a.length))),z)]=akf a b:=by
 obtain⟨l,L,c,e⟩:=aTg h H;obtain⟨rfl,rfl,_⟩:=h;unfold tkI dpI;rw[L,Int.toNat_natCast];exact aW4 l p q r
theorem aj1 {a b:O}(h:¬(a.length:Int)=0/\¬(b.length:Int)<a.length/\J7 a.length b.length (kI (leaves a)) (kI (leaves b)) p=0):¬anD a b p:=by
 rintro(q|q|q);omega;omega;exact q h.2.2
theorem aYf {a b:O}(h:(a.length:Int)=0\/(b.length:Int)<a.length\/¬J7 a.length b.length (kI (leaves a)) (kI (leaves b)) p=0):aul a b p=ix:=by
 rw[aul,Q!];rcases h with q|q|q;exact .inl w!;exact .inr (.inl w!);exact .inr (.inr q)
theorem aYg(h:¬anD a b p){i:Nat}(H:i<(ep a b).length):
  0<=(ajU a b i).1/\1<=(ajU a b i).2.1/\(ajU a b i).2.1<(ajU a b i).2.2.1/\1<=(ajU a b i).2.2.2.1/\(ajU a b i).1+(ajU a b i).2.1=a.length/\(ajU a b i).1+(ajU a b i).2.2.1<=b.length/\(ajU a b i).2.2.2.1<(ajU a b i).2.2.1/\((ajU a b i).2.2.2.2=true->(ajU a b i).2.2.2.1<(ajU a b i).2.1):=by
 obtain⟨o,q,r,_⟩:=aP5 h;obtain⟨d,_⟩:=aI4 b.length 0 a.length w! w! (Int.le_refl _);obtain⟨s,_,S,c,e,g,t,u,k⟩:=d (ajU a b i) (aU _ _ _ H);exact⟨s,S,c,e,w!,w!,g,k⟩
theorem aog(h:¬anD a b p):(ep a b).length<=b.length/\b.length<=1099511627776/\a.length<=b.length/\1<=a.length/\(leaves a).length=a.length/\(leaves b).length=b.length/\0<=ccF a b/\ccF a b<=a.length:=by
 obtain⟨H,c,e,_⟩:=aP5 h;obtain⟨_,d,g,D,_⟩:=aI4 b.length 0 a.length w! w! (Int.le_refl _);exact⟨D,e,c,H,nA a,nA b,d,by rw[ccF,aFP];omega⟩
theorem auz {a b p:O}{x:Nat}(h:¬anD a b p)(H:(x:Int)<((ccP a b p).length:Int)):x<(ep a b).length/\(((ep a b).length:Int)-1-(x:Int)).toNat=(ep a b).length-1-x/\(an3 a b p x).length=(ep a b).length/\(anH a b p x).length=(ep a b).length:=by
 obtain⟨c,_⟩:=arO h;have H:x<(ep a b).length:=by omega
 exact⟨H,w!,(aO2 w!).1,(aO3 w!).1⟩
theorem aTh {a b p:O}{x:Nat}(h:¬anD a b p)(H:(x:Int)<((ccP a b p).length:Int)):(ep a b).getD (((ep a b).length:Int)-1-(x:Int)).toNat (0,0,0,0,false)=ajU a b ((ep a b).length-1-x):=by
 rw[(auz h H).2.1];rfl
theorem auy {a b p:O}{x:Nat}(h:¬anD a b p)(hx:(x:Int)<((ccP a b p).length:Int))(H:s=(ep a b).getD (((ep a b).length:Int)-1-(x:Int)).toNat (0,0,0,0,false)):
  0<=s.1/\1<=s.2.1/\s.2.1<s.2.2.1/\s.1+s.2.1=a.length/\s.1+s.2.2.1<=b.length:=by
 rw[aTh h hx] at H;have hx:=(auz h hx).1;obtain⟨S,c,e,o,g,k,_⟩:=aYg h (i:=(ep a b).length-1-x) w!;subst H;exact⟨S,c,e,g,k⟩
theorem a0r {a b p:O}{x:Nat}(h:¬anD a b p)(H:(x:Int)<((ccP a b p).length:Int)):((ccP a b p).getD x []).length=32/\(an8 a b p x).length=32/\(anp a b p x).length=32:=by
 obtain⟨C,c,_⟩:=arO h;exact⟨aSP c w!,aQR h x w!⟩
theorem aTi {a b p:O}{x:Nat}(h:¬anD a b p)(H:(x:Int)<((ccP a b p).length:Int)):
  az ((ccP a b p).getD (x:Int).toNat []++an8 a b p x)/\az ((ccP a b p).getD (x:Int).toNat []++anp a b p x)/\az (anp a b p x++(ccP a b p).getD (x:Int).toNat []):=by
 obtain⟨k,K,c⟩:=a0r h H;rw[Int.toNat_natCast];unfold az;simp only[List.length_append];omega
theorem aSp {a b p:O}{x:Nat}(h:¬anD a b p)(hx:(x:Int)<((ccP a b p).length:Int)):
  (an8 a b p (x+1),anp a b p (x+1))=if((ep a b).getD (((ep a b).length:Int)-1-(x:Int)).toNat (0,0,0,0,false)).2.2.2.2 then(bz ((ccP a b p).getD (x:Int).toNat []) (an8 a b p x),bz ((ccP a b p).getD (x:Int).toNat []) (anp a b p x)) else(an8 a b p x,bz (anp a b p x) ((ccP a b p).getD (x:Int).toNat [])):=by
 obtain⟨c,_⟩:=arO h;rw[aTh h hx,E?];have q:=aQQ c (auz h hx).1;exact q
theorem aSq {a b p:O}{x:Nat}(h:¬anD a b p)(hx:(x:Int)<((ccP a b p).length:Int)):
  an3 a b p (x+1)=(an3 a b p x).set (((ep a b).length:Int)-1-(x:Int)).toNat (aQD a b p x ((ep a b).getD (((ep a b).length:Int)-1-(x:Int)).toNat (0,0,0,0,false)))/\
  anH a b p (x+1)=(anH a b p x).set (((ep a b).length:Int)-1-(x:Int)).toNat (aQZ a b p x ((ep a b).getD (((ep a b).length:Int)-1-(x:Int)).toNat (0,0,0,0,false))):=by
 rw[aTh h hx,(auz h hx).2.1];exact⟨rfl,rfl⟩
theorem aUi {a b p:O}{x:Nat}(h:¬anD a b p)(H:x<=len (ccP a b p))(c:¬(x:Int)<((ccP a b p).length:Int)):x=(ep a b).length/\(an3 a b p x).length=(ep a b).length/\(anH a b p x).length=(ep a b).length:=by
 obtain⟨C,_⟩:=arO h;unfold len at H;have e:x=(ep a b).length:=by omega
 subst e;exact⟨rfl,(aO2 (M! _)).1,(aO3 (M! _)).1⟩
theorem aV8(h:¬anD a b p)(k:Nat):(anw a b p k).length<=3*(ep a b).length:=by
 have e:=(aO2 (a:=a) (b:=b) (p:=p) (M! _)).1;have E:=(aO3 (a:=a) (b:=b) (p:=p) (M! _)).1
 have c:(aQ0 a b k).length<=(ep a b).length:=by
  unfold aQ0;rw[List.length_map];exact Nat.le_trans (List.length_filter_le ..) (by rw[List.length_take];omega)
 rw[anw,J!,J!];omega
theorem aZc(a b p:O):anw a b p 0=an3 a b p (ep a b).length++anH a b p (ep a b).length:=by simp[anw,aQ0]
theorem aV9 {a b:O}{k:Nat}(hk:(k:Int)<((ep a b).length:Int)):anw a b p (k+1)=if((ep a b).getD (k:Int).toNat (0,0,0,0,false)).2.2.2.2 then anw a b p k++[ptF a ((ep a b).getD (k:Int).toNat (0,0,0,0,false)).1 (((ep a b).getD (k:Int).toNat (0,0,0,0,false)).1+((ep a b).getD (k:Int).toNat (0,0,0,0,false)).2.2.2.1) b] else anw a b p k:=by
 have hk:k<(ep a b).length:=by omega
 rw[Int.toNat_natCast,List.getD_eq_getElem?_getD,List.getElem?_eq_getElem hk,Option.getD_some];unfold anw aQ0;rw[List.take_add_one,List.getElem?_eq_getElem hk];simp only[Option.toList_some,List.filter_append,List.map_append];split;rename_i q;rw[List.filter_cons_of_pos (by simpa using q)];simp;rename_i q;rw[List.filter_cons_of_neg (by simpa using q)];simp
theorem aZd {a b:O}{k:Nat}(h:¬anD a b p)(e:(k:Int)<((ep a b).length:Int))(H:s=(ep a b).getD (k:Int).toNat (0,0,0,0,false)):0<=s.1/\1<=s.2.2.2.1/\s.1+s.2.2.2.1<=b.length:=by
 rw[E?] at H;have H:s=ajU a b k:=H;obtain⟨S,g,o,c,q,r,t,_⟩:=aYg h (i:=k) w!;subst H;exact⟨S,c,w!⟩
theorem aUj(h:¬anD a b p):aul a b p=Ng (aI3 a b p):=by rw[aul,R! h]
theorem aF2 {c:Type}{l:M c}(h:l.length<=1099511627776):small l:=h
variable {l:List aB}
theorem aPt(h:(fk docs l).2=0):dj docs:=by
 obtain⟨e,H⟩:=AI (á h);refine⟨w!,λd c=>?_⟩;obtain⟨i,g,rfl⟩:=List.getElem_of_mem c;have:=H i;grind
theorem aSr {docs:O}{l:M aB}{a:O}{L:M aB}{b:B8}(H:(fk docs l).2=0)(c:(fk a L).2=0)(h:(anq (fk docs l).1 b).2.2=0/\(anq (fk docs l).1 b).1=(fk a L).1)(e:(Ě b).2=0):
  alN docs l a L b=Ng [hdF (Ě b).1.1 (Ě b).1.2.1 (Ě b).1.2.2.1 docs l,hdF (Ě b).1.2.2.2.1 (Ě b).1.2.2.2.2.1 (Ě b).1.2.2.2.2.2.1 a L,
  pfF (Ě b).1.1 (Ě b).1.2.1 (Ě b).1.2.2.1 docs l (Ě b).1.2.2.2.1 (Ě b).1.2.2.2.2.1 (Ě b).1.2.2.2.2.2.1 a L (Ě b).1.2.2.2.2.2.2]:=by
 rw[alN,R! (not_not_intro H),R! (not_not_intro c),R! (by rw[h.1,h.2];simp),R! (not_not_intro e)]
theorem aVK(a:B8):bt a a=ix:=by
 unfold bt;rw[if_neg];simp[QT,Qy]
theorem aZE:∀(l:M CF),(∀F∈l,(F .n).2.1=Bv ix)->Ng l=ix
 |[],_=>rfl
 |F::l,h=>by
  have h1:=h F (List.mem_cons_self ..);have i:=aZE l λG H=>h G (List.mem_cons_of_mem _ H);unfold Ng gF;rw[h1,W7];exact i
theorem a6Q(n:Nat):∀(L:O) (j:Int),L.length=n->n<=1099511627776->cP L=true->0<=j->j<L.length->∀m,m<(path L j).length->SS (L.getD j.toNat []) (cq j L.length) (path L j) m=(mW L j).getD m []:=by
 refine wu (C:=λn=>∀(L:O) (j:Int),L.length=n->n<=1099511627776->cP L=true->0<=j->j<L.length->∀m,m<(path L j).length->SS (L.getD j.toNat []) (cq j L.length) (path L j) m=(mW L j).getD m []) (λn h L j e u o q v m H=>?_) (λn h i I L j e u o q v m H=>?_) n;rw[WC w!] at H;cases H
 . have P:=iY (n:=L.length) w!;subst e;have w:=alH h u o;have em:((L.length:Int)).toNat=L.length:=E? _
   have k:∀(x:Bool) (s:M Bool) (l p:O) (y d:B8) (J:Int),p.length=s.length->m<(p++[y]).length->ko d s p=(if x then root (L.drop (sp L.length)) else root (L.take (sp L.length)))->y=(if x then root (L.take (sp L.length)) else root (L.drop (sp L.length)))->
     (∀m,m<p.length->SS d s p m=(mW l J).getD m [])->SS d (x::s) (p++[y]) m=(wE L::mW l J).getD m []:=by
    intro x s l p y d J Q H z A B;cases m with
    |zero=>
     have D:(p++[y]).length-1-0=p.length:=by simp
     unfold SS;rw[D,List.getD_cons_zero,List.drop_succ_cons,List.drop_zero,List.take_left,List.getD_eq_getElem?_getD,List.getElem?_append_right (Nat.le_refl _),Nat.sub_self,List.getD_cons_zero,w,z];cases x<;>simp[A]
    |succ m=>
     have r:m<p.length:=by simp at H;omega
     rw[List.getD_cons_succ,<-B m r];have F:(p++[y]).length-1-(m+1)=p.length-1-m:=by simp;omega
     unfold SS
     have G:(p++[y]).getD (p.length-1-m) []=p.getD (p.length-1-m) []:=by
      simp;rw[List.getElem?_append_left w!]
     rw[F,G,List.getD_cons_succ,List.drop_succ_cons,List.take_append_of_le_length w!]
   by_cases hi:j<((sp L.length:Nat):Int);have E:(L.take (sp L.length)).length=sp L.length:=by rw[C?];omega
   have t:L.getD j.toNat []=(L.take (sp L.length)).getD j.toNat []:=by
    rw[E!,E!,List.getElem?_take,Q! w!]
   have c:=alw _ (L.take (sp L.length)) j rfl;have g:=aWQ _ (L.take (sp L.length)) j rfl q w!;rw[WD h hi] at H |-;rw[zn (n:=(L.length:Int)) w! (by rw[em];exact hi),W4 h hi,em,t];rw[E] at c g
   exact k false _ _ _ _ _ _ c H g rfl (λm H=>by
    have:=i (L.take (sp L.length)) j E w! (ny o _) q w! m H;rw[E] at this;exact this)
   have K:((L.length-sp L.length:Nat):Int)=(L.length:Int)-((sp L.length:Nat):Int):=by omega
   have E:(L.drop (sp L.length)).length=L.length-sp L.length:=N? ..
   have t:L.getD j.toNat []=(L.drop (sp L.length)).getD (j-((sp L.length:Nat):Int)).toNat []:=by
    rw[E!,E!,List.getElem?_drop];have N:sp L.length+(j-((sp L.length:Nat):Int)).toNat=j.toNat:=by omega
    rw[N]
   have c:=alw _ (L.drop (sp L.length)) (j-((sp L.length:Nat):Int)) rfl;have g:=aWQ _ (L.drop (sp L.length)) (j-((sp L.length:Nat):Int)) rfl w! w!;rw[WE h hi] at H |-;rw[zo (n:=(L.length:Int)) w! (by rw[em];exact hi),W5 h hi,em,t,<-K];rw[E] at c g
   exact k true _ _ _ _ _ _ c H g rfl (λm H=>by
    have:=I (L.drop (sp L.length)) (j-((sp L.length:Nat):Int)) E w! (nz o _) w! w! m H;rw[E] at this;exact this)
theorem a3a {l:O}(r:l.length<=1099511627776)(H:0<=i)(t:i<l.length):jY l i (l.getD i.toNat []) (path (leaves l) i)=ix:=by
 have Y:=nA l
 have S:(leaves l).getD i.toNat []=leaf (l.getD i.toNat []):=by
  have hi:i.toNat<l.length:=by omega
  rw[E!,E!,leaves,A?,C! hi];rfl
 have g:=(a0l (l:=leaves l) w! (kn l) H w! (by rw[S];exact TY _ _)).1;rw[S,Y] at g;rw[NK g];refine aZE _ λF k=>?_;obtain⟨m,o,e⟩:=l? k;rw[aqN] at o;have q:=W6 (l:=l) (i:=i) (f:=l.getD i.toNat []) (p:=path (leaves l) i) (m:=m) w!;rw[C! (by rw[aqN];omega),e] at q;have q:=R? q;have h:=alw _ (leaves l) i rfl;rw[Y] at h;by_cases c:m=(path (leaves l) i).length;rw[Q! c] at q;rw[q];exact congrArg Bv (aVK _);rw[R! c,aHn w! h] at q;have d:=a6Q _ (leaves l) i rfl w! (kn l) H w! m w!;rw[Y,S] at d;rw[q,d];exact congrArg Bv (aVK _)
theorem a4g(n:Nat):∀a:O,a.length=n->akf a a=ix:=by
 refine wu (C:=λn=>∀a:O,a.length=n->akf a a=ix) (λn h a e=>?_) (λn h i1 i2 a e=>?_) n;rw[aQ3 w!];exact aVK _;subst e;have H:=iY h;rw[aQO h,aVK,i1 _ (by rw[C?];omega),i2 _ (by rw[N?])];rfl
theorem a0q(a:O):auw a a=ix:=by
 unfold auw;split;rfl;exact a4g _ a rfl
theorem a01(k:Nat)(a:B8):QU k a a=ix:=aVK _
theorem bay(h:aK d=true){i:Nat}(hi:i<=d.length):dw (bg (apB d i)).1.1 (bg (apB d i)).1.2.1 (bg (apB d i)).1.2.2=apB d i:=by
 rw[dw,Q! (aGY h hi),a5u h hi];rfl
theorem a6R(u:d.length<=1048576){t:B8}(c:isTerm t=true):fv d t (aod d t)=ix:=by
 unfold fv;split;rfl
 . rename_i k;have h:=dEz (Decidable.not_not.1 k);split;rfl
   . obtain⟨f1,f2,f⟩:=Å (t:=t) h;have hi:(bo d t+1).toNat<=d.length:=by omega
     have o:bn d=dW d:=by rw[bn,Q! h]
     have E:dw (aod d t).2.1 (aod d t).2.2.1 (aod d t).2.2.2.1=(dW d).getD (bo d t+1).toNat []:=by
      rw[alz d f1 f2];exact bay h hi
     have e:jY (bn d) (aod d t).1 (dw (aod d t).2.1 (aod d t).2.2.1 (aod d t).2.2.2.1) (aod d t).2.2.2.2.1=ix:=by
      rw[o,E];exact a3a (i:=bo d t+1) w! f1 w!
     rw[e,R! (by decide)];split;rfl
     . rename_i q;have q:(aod d t).2.1=t:=Decidable.not_not.1 q;cases H:fE d t with
       |true=>
        have r:(aod d t).2.2.2.2.2=jH (dN d t):=by
         rw[<-(apQ h H).2.2.2.2];simp[aod,H]
        rw[r];exact a01 _ _
       |false=>
        obtain⟨g,_⟩:=a5v h H (ZO c)
        have e:(aod d t).2.1=if(bo d t+1).toNat=0 then [] else cF d ((bo d t+1).toNat-1):=by
         unfold aod;rw[a5u h hi]
        rw[<-e,q,cJ] at g;cases g
theorem a3b {d:M bw}(H:d.length<=1048576):∀(T:O),(∀t∈T,isTerm t=true)->wC d T (SQ d T)=ix
 |[],_=>rfl
 |t::T,h=>by
  have i:=a3b H T λx c=>h x (F! _ c);show(if(fv d t (aod d t)).2 then fv d t (aod d t) else wC d T (SQ d T))=ix;rw[a6R H (h t (G! ..)),i];rfl
theorem a3c {T:O}(H:∀t∈T,isTerm t=true):∀(l:M aB),(∀s∈l,s.2.2.length<=1048576)->sC T l (pPs l T)=ix
 |[],_=>rfl
 |s::l,h=>by
  have i:=a3c H l λx c=>h x (F! _ c);show(if(wC s.2.2 T (SQ s.2.2 T)).2 then wC s.2.2 T (SQ s.2.2 T) else sC T l (pPs l T))=ix;rw[a3b (h s (G! ..)) T H,i];rfl
theorem a0b(h:cy docs l=true):sI docs.length (root (leaves docs)) (ya docs l) docs l=ix:=by
 have e:zv docs l=th docs.length (root (leaves docs)) (ya docs l):=by
  simp_all[zv,gI,Q!]
 rw[sI,e];exact a01 _ _
theorem a6S(h:cy docs l=true)(i:Int):(mX docs l i (oC docs l i).1).2=false:=by
 have E:(fk docs l).2=0:=by rw[aqo h]
 by_cases H:0<=i/\i<docs.length;have g:=a5z h H.1 H.2;have c:=(a0j h (i:=i) H.1 H.2).2.1;rw[afZ E (by rw[g]) (by rw[c]),c];have o:=aqS (sI docs.length (root (leaves docs)) (ya docs l) docs l) (QV docs.length (root (leaves docs)) (ya docs l) docs l i (docs.getD i.toNat []) (path (leaves docs) i)) True (mI docs (docs.getD i.toNat []) (path (leaves docs) i));rw[show Ng [hdF _ _ _ docs l,dcF _ _ _ docs l i _ _]=_ from o,a0b h]
 have r:QV docs.length (root (leaves docs)) (ya docs l) docs l i (docs.getD i.toNat []) (path (leaves docs) i)=ix:=by
  unfold QV;split;exact a3a (aPt E).1 H.1 H.2;rfl
 rw[r];rfl
 have e:oC docs l i=([],5):=by
  rw[oC,R! (by simp[h]),Q! w!]
 rw[e,mX,R! (not_not_intro E)];split;rfl;rename_i q;exact absurd (by decide :¬(bx []).2=0) (λk=>a8T k (Decidable.not_not.1 q))
theorem a6T{q:M bj}(h:cy docs l=true)(o:aZ q=true->(rF docs l q).2=0):(dJ docs l q (rF docs l q).1).2=false:=by
 have E:(fk docs l).2=0:=by rw[aqo h]
 by_cases H:aZ q=true;obtain⟨_,_,c⟩:=a0Z h H (o H);by_cases g:(fJ (fk docs l).1 q (rF docs l q).1).2=0;rw[W9 E g (by rw[c]),c];have r:=aqS (sI docs.length (root (leaves docs)) (ya docs l) docs l) (lf docs.length (root (leaves docs)) (ya docs l) docs l (al q) (pPs l (al q))) True (uK docs.length (root (leaves docs)) (ya docs l) docs l (al q) (pPs l (al q)));rw[show Ng [hdF _ _ _ docs l,lsF _ _ _ docs l _ _]=_ from r,a0b h]
 have t:lf docs.length (root (leaves docs)) (ya docs l) docs l (al q) (pPs l (al q))=ix:=by
  unfold lf;split;exact a3c (È H) l λs u=>(Eo h s u).2.1;rfl
 rw[t];rfl;rw[dJ,R! (not_not_intro E),Q! g];rfl;have e:=a5p (docs:=docs) h (q:=q) (by simpa using H);rw[e,dJ,R! (not_not_intro E)];split;rfl;rename_i k;exact absurd (Decidable.not_not.1 k) (a8S (by decide))
def aVR(b:O)(f m n:Int):O:=
 if h:n<=m\/n<2 then []
 else if m<=((sp n.toNat:Nat):Int) then aVR b f m ((sp n.toNat:Nat):Int)++[root (leaves (ajL b (f+((sp n.toNat:Nat):Int)) (f+n)))]
 else aVR b (f+((sp n.toNat:Nat):Int)) (m-((sp n.toNat:Nat):Int)) (n-((sp n.toNat:Nat):Int))++[root (leaves (ajL b f (f+((sp n.toNat:Nat):Int))))]
termination_by n.toNat
decreasing_by all_goals (have:=iY (n:=n.toNat) w!;omega)
theorem a6U(h:n<=m\/n<2):aVR b f m n=[]:=by rw[aVR,dif_pos h]
theorem a3d{n:Int}(h:2<=n)(H:m<n)(hi:m<=((sp n.toNat:Nat):Int)):aVR b f m n=aVR b f m ((sp n.toNat:Nat):Int)++[root (leaves (ajL b (f+((sp n.toNat:Nat):Int)) (f+n)))]:=by
 rw[aVR,dif_neg w!,Q! hi]
theorem a3e{n:Int}(h:2<=n)(H:m<n)(hi:¬m<=((sp n.toNat:Nat):Int)):aVR b f m n=aVR b (f+((sp n.toNat:Nat):Int)) (m-((sp n.toNat:Nat):Int)) (n-((sp n.toNat:Nat):Int))++[root (leaves (ajL b f (f+((sp n.toNat:Nat):Int))))]:=by
 rw[aVR,dif_neg w!,R! hi]
theorem cpv(n:Nat):∀(f m:Int) (w:Bool),1<=m->m<=n->0<=f->f+n<=b.length->
  ajH (leaves (ajL b f (f+n))) m w=(if w=true\/f<(desc f m n).2 then [root (leaves (ajL b (desc f m n).2 (f+m)))] else [])++aVR b f m n:=by
 induction n using Nat.strongRecOn with
 |_ n I=>
  intro f m w h1 r h H;have L:=aPm (l:=b) (i:=f) (j:=f+n) h w! H;have t:=nA (ajL b f (f+n));by_cases he:m=n;rw[aOO w!,a6U w!,aWu w!,he];cases w<;>simp;have c:2<=n:=by omega
  have u:=iY c;have em:((n:Int)).toNat=n:=E? _;have g:(n:Int)-((sp n:Nat):Int)=((n-sp n:Nat):Int):=by omega
  have el:(leaves (ajL b f (f+n))).length=n:=by omega
  have e:(leaves (ajL b f (f+n))).take (sp n)=leaves (ajL b f (f+((sp n:Nat):Int))):=by rw[<-aQ1,aMu (sp n) h w!]
  have E:(leaves (ajL b f (f+n))).drop (sp n)=leaves (ajL b (f+((sp n:Nat):Int)) (f+n)):=by rw[<-aQ2,aMv (sp n) h]
  by_cases hi:m<=((sp n:Nat):Int);rw[aQM (n:=(n:Int)) w! w! (by rw[em];exact hi),a3d (n:=(n:Int)) w! w! (by rw[em];exact hi),em,aZy w! w! (by rw[el];exact hi),el,e,E];rw[I (sp n) w! f m w h1 hi h w!,X!];rw[aQN (n:=(n:Int)) w! w! (by rw[em];exact hi),a3e (n:=(n:Int)) w! w! (by rw[em];exact hi),em,aZz w! w! (by rw[el];exact hi),el,e,E];have k:f+((sp n:Nat):Int)+((n-sp n:Nat):Int)=f+n:=by omega
  have q:=I (n-sp n) w! (f+((sp n:Nat):Int)) (m-((sp n:Nat):Int)) true w! w! w! w!;rw[k] at q;rw[g] at *;obtain⟨_,G,_⟩:=aI4 (n-sp n) (f+((sp n:Nat):Int)) (m-((sp n:Nat):Int)) w! w! w!;have o:f+((sp n:Nat):Int)+(m-((sp n:Nat):Int))=f+m:=by omega
  rw[q,if_pos (.inl rfl),if_pos (.inr (by dsimp only;omega)),o,List.append_assoc]
structure Lvl (a b p:List B8) (j:Nat) (f m:Int) (n:Nat):Prop where
 d:(ep a b).drop j=(desc f m n).1
 s:(ccP a b p).take ((ep a b).length-j)=aVR b f m n
 j:j<=(ep a b).length
 m1:1<=m
 mn:m<=n
 f0:0<=f
 fm:f+m=a.length
 fn:f+n<=b.length
 F:ccF a b=(desc f m n).2
theorem a3f {l r:O}{x:B8}{k:Nat}(h:l.take (k+1)=r++[x])(c:k+1<=l.length):l.take k=r/\l.getD k []=x:=by
 have H:=congrArg List.length h;simp only[C?,J!,J?] at H;have e:=an l k [] w!;rw[e] at h;have q:=List.append_inj h (by rw[C?];omega);exact⟨q.1,by simpa using q.2⟩
theorem aZF {a b p:O}{j:Nat}{n:Nat}(t:(ccP a b p).length=(ep a b).length)(h:Lvl a b p j f m n)(u:m<n):
  j<(ep a b).length/\((m<=((sp n:Nat):Int)/\Lvl a b p (j+1) f m (sp n)/\ajU a b j=(f,m,(n:Int),((sp n:Nat):Int),false)/\(ccP a b p).getD ((ep a b).length-1-j) []=root (leaves (ajL b (f+((sp n:Nat):Int)) (f+n))))\/
  (¬m<=((sp n:Nat):Int)/\Lvl a b p (j+1) (f+((sp n:Nat):Int)) (m-((sp n:Nat):Int)) (n-sp n)/\ajU a b j=(f,m,(n:Int),((sp n:Nat):Int),true)/\(ccP a b p).getD ((ep a b).length-1-j) []=root (leaves (ajL b f (f+((sp n:Nat):Int)))))):=by
 obtain⟨d,s,v,M,w,q,r,z,F⟩:=h;have A:=iY (n:=n) w!;have em:((n:Int)).toNat=n:=E? _;have o:(n:Int)-((sp n:Nat):Int)=((n-sp n:Nat):Int):=by omega
 by_cases H:m<=((sp n:Nat):Int);rw[aQM (n:=(n:Int)) w! w! (by rw[em];exact H),em] at d F;rw[a3d (n:=(n:Int)) w! w! (by rw[em];exact H),em] at s;obtain⟨D,c,g⟩:=aQ6 d;have E:(ep a b).length-j=(ep a b).length-1-j+1:=by omega
 have e:(ep a b).length-(j+1)=(ep a b).length-1-j:=by omega
 rw[E] at s;obtain⟨S,k⟩:=a3f s w!;exact⟨D,.inl ⟨H,⟨g,by rw[e];exact S,w!,M,H,q,r,w!,F⟩,c,k⟩⟩;rw[aQN (n:=(n:Int)) w! w! (by rw[em];exact H),em,o] at d F;rw[a3e (n:=(n:Int)) w! w! (by rw[em];exact H),em,o] at s;obtain⟨D,c,g⟩:=aQ6 d;have E:(ep a b).length-j=(ep a b).length-1-j+1:=by omega
 have e:(ep a b).length-(j+1)=(ep a b).length-1-j:=by omega
 rw[E] at s;obtain⟨S,k⟩:=a3f s w!;exact⟨D,.inr ⟨H,⟨g,by rw[e];exact S,w!,w!,w!,w!,w!,w!,F⟩,c,k⟩⟩
theorem a3g {a b p:O}(H:(ccP a b p).length=(ep a b).length)(h:Lvl a b p 0 0 a.length b.length):∀j,j<=(ep a b).length->∃f m n,Lvl a b p j f m n
 |0,_=>⟨_,_,_,h⟩
 |j+1,c=>by
  obtain⟨f,m,n,q⟩:=a3g H h j w!
  have D:m<n:=by
   by_cases e:m=n;have d:=q.d;rw[aOO w!,T? w!] at d;cases d;have:=q.mn;omega
  rcases(aZF H q D).2 with⟨_,q,_⟩|⟨_,q,_⟩<;>exact⟨_,_,_,q⟩
theorem aYx{m k:Nat}(h:0<=f)(H:2<=m)(c:sp m=k)(g:f+m<=b.length)(M:b.length<=1099511627776):
  wE (leaves (ajL b f (f+m)))=bB 1 (root (leaves (ajL b f (f+k)))++root (leaves (ajL b (f+k) (f+m))))/\root (leaves (ajL b f (f+m)))=bz (root (leaves (ajL b f (f+k)))) (root (leaves (ajL b (f+k) (f+m)))):=by
 subst c;have l:=aPm (l:=b) (i:=f) (j:=f+m) h w! g;have o:=iY H;obtain⟨t1,t2⟩:=aQP (l:=ajL b f (f+m)) w! w!;have e:(ajL b f (f+m)).length=m:=by omega
 rw[e,aMu (sp m) h w!,aMv (sp m) h] at t1;refine⟨t1,?_⟩;rw[t2,t1,KF (aFw _) (aFw _)]
theorem a5B {a b p:O}(e:(ccP a b p).length=(ep a b).length)(g:b.length<=1099511627776)(hO:ccO a b p=root (leaves (ajL b (ccF a b) a.length)))(n:Nat):
  ∀j f m,Lvl a b p j f m n->ccR a b p ((ep a b).length-j)=(root (leaves (ajL b f (f+m))),root (leaves (ajL b f (f+n)))):=by
 induction n using Nat.strongRecOn with
 |_ n i=>
  intro j f m h;have:=h.m1;have:=h.mn;have:=h.f0;have:=h.fm;have:=h.fn;have:=h.j
  by_cases he:m=n;have d:=h.d;have F:=h.F;rw[aOO w!] at d F
  have o:j=(ep a b).length:=by
   by_cases q:j<(ep a b).length;rw[T? q] at d;cases d;omega
  dsimp only at F;rw[o,Nat.sub_self];show(ccO a b p,ccO a b p)=_;rw[hO,F,<-h.fm,he];have A:=iY (n:=n) w!;obtain⟨o,q⟩:=aZF e h w!;have H:=aQQ e (k:=(ep a b).length-1-j) w!;have t:(ep a b).length-1-((ep a b).length-1-j)=j:=by omega
  have u:(ep a b).length-1-j+1=(ep a b).length-j:=by omega
  have E:(ep a b).length-(j+1)=(ep a b).length-1-j:=by omega
  rw[t,u] at H;have r:=(aYx (b:=b) (f:=f) (m:=n) h.f0 w! rfl h.fn g).2;rcases q with⟨v,q,Q,c⟩|⟨v,q,Q,c⟩;have i1:=i (sp n) w! _ _ _ q;rw[E] at i1;rw[H,i1,Q,c,r];rfl;have i1:=i (n-sp n) w! _ _ _ q;rw[E] at i1;have hm:m=((m.toNat:Nat):Int):=by omega
  have R:=(aYx (b:=b) (f:=f) (m:=m.toNat) (k:=sp n) h.f0 w! (aZa w! w! w!) w! g).2;rw[<-hm] at R;have w:f+((sp n:Nat):Int)+(m-((sp n:Nat):Int))=f+m:=by omega
  have z:f+((sp n:Nat):Int)+((n-sp n:Nat):Int)=f+n:=by omega
  rw[w,z] at i1;rw[H,i1,Q,c,r,R];rfl
theorem a6V {a b:O}(h:¬anD a b p)(L:p=ajK (leaves b) a.length)(K:a=b.take a.length):aul a b p=ix:=by
 obtain⟨Y,Z,o,_,_⟩:=aP5 h;obtain⟨r,_⟩:=arO h;obtain⟨_,M,l,_,_⟩:=aI4 b.length 0 a.length w! w! (Int.le_refl _);have N:ajL b 0 b.length=b:=by simp[ajL]
 have P:ajL b 0 a.length=a:=by
  have :ajL b 0 a.length=b.take a.length:=by simp[ajL]
  rw[this,<-K]
 have C:p=(if 0<ccF a b then [root (leaves (ajL b (ccF a b) a.length))] else [])++aVR b 0 a.length b.length:=by
  have q:=cpv (b:=b) b.length 0 a.length false w! w! (Int.le_refl _) w!;rw[Int.zero_add,Int.zero_add,N] at q
  have e:p=ajH (leaves b) a.length false:=by
   rw[L,ajK,Q! ⟨kn b,w!,by rw[nA];omega⟩,R! w!]
  rw[e,q];unfold ccF aFP;congr 1
  by_cases c:0<(desc 0 (a.length:Int) (b.length:Int)).2<;>simp[c]
 have v:ccP a b p=aVR b 0 a.length b.length/\ccO a b p=root (leaves (ajL b (ccF a b) a.length)):=by
  unfold ccP ccO;by_cases c:0<ccF a b;rw[decide_eq_true c,cond_true,cond_true,C,if_pos c];exact⟨rfl,rfl⟩
  have T:ccF a b=0:=by
   have :0<=ccF a b:=M;omega
  rw[e? c,N!,N!,kI,Q! (kn a),T,P];refine⟨?_,rfl⟩;rw[C,R! c];rfl
 have w:Lvl a b p 0 0 a.length b.length:=⟨rfl,by rw[Nat.sub_zero,d? w!];exact v.1,S! _,w!,w!,Int.le_refl _,w!,w!,rfl⟩
 have z:∀i,i<(ep a b).length->(∃f m n,Lvl a b p i f m n/\m<(n:Int)):=λi hi=>by
  obtain⟨f,m,n,q⟩:=a3g r w i w!;refine⟨f,m,n,q,?_⟩;by_cases e:m=n;have d:=q.d;rw[aOO w!,T? w!] at d;cases d;have:=q.mn;omega
 have E:∀i,i<(ep a b).length->∃x y,aQZ a b p ((ep a b).length-1-i) (ajU a b i)=Ý x x/\(aQD a b p ((ep a b).length-1-i) (ajU a b i)=Ý y y\/aQD a b p ((ep a b).length-1-i) (ajU a b i)=noF)/\((ajU a b i).2.2.2.2=true->ajL a (ajU a b i).1 ((ajU a b i).1+(ajU a b i).2.2.2.1)=ajL b (ajU a b i).1 ((ajU a b i).1+(ajU a b i).2.2.2.1)):=λi hi=>by
  obtain⟨f,m,n,q,U⟩:=z i hi;have:=q.m1;have:=q.mn;have:=q.f0;have fm:=q.fm;have:=q.fn
  have t:=iY (n:=n) w!;obtain⟨_,g⟩:=aZF r q U;have D:(ep a b).length-(i+1)=(ep a b).length-1-i:=by omega
  have I:=(aYx (b:=b) (f:=f) (m:=n) q.f0 w! rfl q.fn o).1;rcases g with⟨A,B,Q,u⟩|⟨A,B,Q,u⟩;have R:=a5B r o v.2 _ _ _ _ B;rw[D] at R;refine⟨wE (leaves (ajL b f (f+n))),[],?_,.inr ?_,?_⟩;unfold aQZ anp;rw[Q,R,u];simp only[Bool.false_eq_true,if_false,aSm];rw[I];unfold aQD;rw[Q];rfl;rw[Q];intro c;cases c;have R:=a5B r o v.2 _ _ _ _ B;have V:f+((sp n:Nat):Int)+(m-((sp n:Nat):Int))=f+m:=by omega
  have W:f+((sp n:Nat):Int)+((n-sp n:Nat):Int)=f+n:=by omega
  rw[D,V,W] at R;have hm:m=((m.toNat:Nat):Int):=by omega
  have J:=(aYx (b:=b) (f:=f) (m:=m.toNat) (k:=sp n) q.f0 w! (aZa w! w! w!) w! o).1;rw[<-hm] at J
  have S:∀j:Int,0<=j->j<=a.length->ajL a f j=ajL b f j:=λj j0 j1=>by
   rw[K];unfold ajL;rw[List.take_take];congr 2
   omega
  refine⟨wE (leaves (ajL b f (f+n))),wE (leaves (ajL b f (f+m))),?_,.inl ?_,?_⟩;unfold aQZ anp;rw[Q,R,u];simp only[if_true,aSm];rw[I];unfold aQD an8;rw[Q,R,u];simp only[if_true,aSm];rw[S (f+m) w! w!,J];rw[Q];intro _;exact S _ (by dsimp only;omega) (by dsimp only;omega)
 rw[aUj h];refine aZE _ λF H=>?_;rw[aI3,anw,I!,I!,I!] at H;rcases H with((H|H)|H)|H;obtain⟨i,hi,e⟩:=l? H;obtain⟨X,G⟩:=aO2 (a:=a) (b:=b) (p:=p) (M! _);have q:=G i w! w!;rw[C! hi,e] at q;rw[R? q];obtain⟨x,y,_,k|k,_⟩:=E i w!;rw[k];exact congrArg Bv (aVK _);rw[k];rfl;obtain⟨i,hi,e⟩:=l? H;obtain⟨X,G⟩:=aO3 (a:=a) (b:=b) (p:=p) (M! _);have q:=G i w! w!;rw[C! hi,e] at q;rw[R? q];obtain⟨x,y,k,_,_⟩:=E i w!;rw[k];exact congrArg Bv (aVK _);rw[aQ0,U?] at H;obtain⟨s,t,rfl⟩:=H;rw[List.mem_filter,List.take_length] at t;obtain⟨i,hi,e⟩:=l? t.1;obtain⟨x,y,_,_,k⟩:=E i hi;have es:ajU a b i=s:=by rw[ajU,E!,C! hi,<-e];rfl
 rw[es] at k;show Bv (auw _ _)=_;rw[k t.2,a0q];rw[s?] at H;subst H;show Bv (auw _ _)=_
 have :ajL a (ccF a b) a.length=ajL b (ccF a b) a.length:=by
  have e:a.take ((a.length:Int)).toNat=b.take ((a.length:Int)).toNat:=by
   rw[E?,List.take_length];exact K
  unfold ajL;rw[e]
 rw[this,a0q]
theorem a6W{a:O}{L:M aB}(h:cy docs l=true)(H:cy a L=true)(e:aNW docs a=true):(alN docs l a L (aRL docs l a L).1).2=false:=by
 have k:(fk docs l).2=0:=by rw[aqo h]
 have E:(fk a L).2=0:=by rw[aqo H]
 have o:=a1P h H e;obtain⟨_,_,g⟩:=a0k h H e;rw[aSr k E (by rw[o];exact⟨rfl,rfl⟩) (by rw[g]),g]
 have q:=aQ4 (sI docs.length (root (leaves docs)) (ya docs l) docs l) (sI a.length (root (leaves a)) (ya a L) a L)
  (at6 docs.length (root (leaves docs)) (ya docs l) docs l a.length (root (leaves a)) (ya a L) a L (ajK (leaves a) docs.length)) True True (aFQ docs a (ajK (leaves a) docs.length))
 have eq:Ng [hdF docs.length (root (leaves docs)) (ya docs l) docs l,hdF a.length (root (leaves a)) (ya a L) a L,pfF docs.length (root (leaves docs)) (ya docs l) docs l a.length (root (leaves a)) (ya a L) a L (ajK (leaves a) docs.length)]=_:=q;show(Ng [hdF docs.length (root (leaves docs)) (ya docs l) docs l,hdF a.length (root (leaves a)) (ya a L) a L,pfF docs.length (root (leaves docs)) (ya docs l) docs l a.length (root (leaves a)) (ya a L) a L (ajK (leaves a) docs.length)]).2=false;rw[eq,a0b h,a0b H]
 have r:at6 docs.length (root (leaves docs)) (ya docs l) docs l a.length (root (leaves a)) (ya a L) a L (ajK (leaves a) docs.length)=ix:=by
  unfold at6;split;by_cases c:anD docs a (ajK (leaves a) docs.length);rw[aul,if_pos c];simp only[aNW,Bool.and_eq_true,decide_eq_true_eq] at e;exact a6V c rfl e.2;rfl
 rw[r];rfl
theorem a5C(l m:M aRI)(q:M bj)(i:Int){k:Nat}(H:k<=40):(rF (hx l).1 (hx l).2 q).1.length<1099511627776/\(oC (hx l).1 (hx l).2 i).1.length<1099511627776/\
  (aRL (hx l).1 (hx l).2 (bS (aEE l m k).1 (aEE l m k).2).1.1 (bS (aEE l m k).1 (aEE l m k).2).1.2).1.length<1099511627776:=by
 refine⟨?_,?_,(a6O l m H).2.2.2.1⟩
 . cases h:aZ q with
   |true=>exact bar l h
   |false=>rw[a5p (aU5 l) h];exact Y! (Nat.zero_lt_succ _) (M! _)
 by_cases hi:i<0\/((hx l).1.length:Int)<=i;rw[oC,R! (by simp[aU5 l]),Q! hi];exact Y! (Nat.zero_lt_succ _) (M! _);have:=(a0j (aU5 l) (i:=i) w! w!).2.2;omega
theorem a6X(l m:M aRI)(q:M bj)(i:Int){k:Nat}(h:k<=40):(dJ (hx l).1 (hx l).2 q (rF (hx l).1 (hx l).2 q).1).2=false/\(mX (hx l).1 (hx l).2 i (oC (hx l).1 (hx l).2 i).1).2=false/\
  (alN (hx l).1 (hx l).2 (bS (aEE l m k).1 (aEE l m k).2).1.1 (bS (aEE l m k).1 (aEE l m k).2).1.2 (aRL (hx l).1 (hx l).2 (bS (aEE l m k).1 (aEE l m k).2).1.1 (bS (aEE l m k).1 (aEE l m k).2).1.2).1).2=false:=by
 have f:=a00 l m h;exact⟨a6T (aU5 l) λH=>by have:=a2Z l H;grind,a6S (aU5 l) i,a6W (aU5 l) f.1 f.2⟩
end Go.S
namespace Go.Vg
open Go
variable [HP]
def Q1 {P:Program}{W:World}:∀ {l:M (String×DataW Unit)} {b:M MemPlace} {n:String} {d:DataW Unit},DataW.LaidVars P W l b->(n,d)∈l->
  ∃(g:Nat) (t:TypeId) (c:Array Value) (f:Nat) (p:M MemPlace),P.globalNamed n=some g/\(P.globals[g]?).map (·.type)=some t/\W.var? P n=some c/\DataW.trod (λ_=>()) P W 0 (λ_=>true) false f t c.toList=some (d,p)
 |[],_,_,_,_,hm=>by grind
 |x::rest,b,n,d,h,hm=>by
  obtain⟨G,T,c,f,p,q,y,H,a,e,i,j⟩:=h;rcases O!.1 hm with rfl|hm;exact⟨G,T,c,f,p,y,H,a,e⟩;exact Q1 i hm
def Q2 {H:Type}{E:TypeId×Value->H}{P:Program}{w:World}{B:Nat}{S:Nat->Bool}{d:Bool}{F:Nat}{t e:TypeId}{n m:Nat}{k:IntKind}{C:M Value}{Z:M U}{p:M MemPlace}{c:Array Field}
  (L:P.underlying t=some (.array n e)) (N:P.underlying e=some (.struct c)) (V:P.cellsOf e=m) (s:P.cellsOf t=n*m) (O:c.size=m) (Q:∀(i:Nat) (f:Field),c[i]? =some f->f.offset=i/\P.underlying f.type=some (.int k)/\P.cellsOf f.type=1)
  (R:∀r∈Z,r.length=m) (h:DataW.trod E P w B S d F t C=some (.agg (Z.map λr=>.agg (r.map λz=>.lit (.int k z))),p)):C.length=n*m/\Z.length=n/\
    ∀i j,i<n->j<m->C[i*m+j]? =some (.int k ((Z.getD i []).getD j 0)):=by
 cases F with
 |zero=>simp[DataW.trod] at h
 |succ F=>
  simp only[DataW.trod,L,V,s] at h;split at h;rename_i T;obtain⟨x,J,W⟩:=Option.map_eq_some_iff.1 h
  have g:x.map (·.1)=Z.map λr=>(DataW.agg (r.map λz=>.lit (.int k z)):DataW H):=by
   have:=congrArg Prod.fst W;simpa using this
  have M9:x.length=n:=by simpa using Lib.mapM_length J
  have u:Z.length=n:=by
   have:=congrArg List.length g;simp at this;omega
  refine⟨T,u,λi j hi X=>?_⟩;obtain⟨b,Y,v⟩:=Lib.mapM_at J i i (by simp[hi])
  have K:b.1=DataW.agg ((Z.getD i []).map λz=>.lit (.int k z)):=by
   have q:(x.map (·.1))[i]? =some b.1:=by simp[Y]
   rw[g] at q;rw[A?,C! w!] at q;simp at q;rw[<-q,E!,C! w!];rfl
  obtain⟨y,n',_,hy,_,hyl,A⟩:=DataW.trod_struct N v
  have D:y.map (·.1)=(Z.getD i []).map λz=>(DataW.lit (.int k z):DataW H):=by
   rw[hy] at K;simpa using K
  have hrl:(Z.getD i []).length=m:=R _ (by rw[E!,C! w!];exact List.getElem_mem _);have l:j<c.size:=by omega
  have a:=A j c[j] (u? l);obtain⟨f1,f2,f3⟩:=Q j c[j] (u? l);rw[f1,f3] at a;have o:j<y.length:=by omega
  rw[C! o] at a;obtain⟨z,hc,G,_⟩:=DataW.trod_int f2 a
  have h1:C[i*m+j]? =some (.int k z):=by
   have:=congrArg (·[0]?) hc;simpa[X,Nat.add_comm] using this
  have I:(y.map (·.1))[j]? =some (DataW.lit (.int k z)):=by rw[A?,C! o,G];rfl
  rw[D,List.getElem?_map,List.getElem?_eq_getElem w!] at I;simp only[Option.map_some,Option.some.injEq,DataW.lit.injEq,Lit.int.injEq,true_and] at I;rw[h1,List.getD_eq_getElem?_getD,List.getElem?_eq_getElem w!];simp only[Option.getD_some,I];grind
variable {W:World}
theorem af3 {P:Program}{n:String}{g:Nat}{c:Array Value}(H:P.globalNamed n=some g)(h:W.var? P n=some c)(a:0<c.size):g<W.heap.size:=by
 have b:=World.var?_cell H h 0;grind[Array.getElem?_eq_getElem,World.cell?,Array.getElem?_eq_some_iff]
def po(k:IntKind):(ts:M Ty)->U->Row ts->Prop
 |[],[],_=>True
 |.int k'::ts,z::zs,x=>k'=k/\DI.toInt k' (Row.hd (t:=.int k') (ts:=ts) x)=z/\lo k<=z/\z<=hi k/\po k ts zs (Row.tl x)
 |_,_,_=>False
def Q3 {w:World}{A:Nat->Prop}{k:IntKind}:∀(t:M Ty) (Z:U) (x:Row t),po k t Z x->bJ w A t (Z.map (Value.int k)) x
 |[],[],x,_=>by rfl
 |.int k'::t,z::Z,x,h=>by
   obtain⟨rfl,H,a,b,c⟩:=h;refine⟨_,_,rfl,?_,Q3 t Z _ c⟩;simp[Rd];rw[H];exact⟨rfl,a,b⟩
 |.bool::_,_,_,h|.str::_,_,_,h|.slice _::_,_,_,h|[],_::_,_,h|.int _::_,[],_,h=>by grind[po]
def yu(k:IntKind)(t:M Ty):M U->M (Row t)->Prop
 |[],[]=>True
 |z::r,x::l=>po k t z x/\yu k t r l
 |_,_=>False
theorem KH {w:World}{A:Nat->Prop}{k:IntKind}{t:M Ty}:∀(z:M U) (l:M (Row t)),yu k t z l->dZ (bJ w A t) (z.flatten.map (Value.int k)) l
 |[],[],_=>by rfl
 |Z::r,x::l,h=>by
  exact⟨Z.map (Value.int k),r.flatten.map (Value.int k),z!,Q3 t Z x h.1,KH r l h.2⟩
 |[],_::_,h|_::_,[],h=>by grind[yu]
def MA {m:Nat}:∀(Z:M U),(∀r∈Z,r.length=m)->∀q (z:Int),Z.flatten[q]? =some z->∃i j,i<Z.length/\j<m/\q=i*m+j/\(Z.getD i []).getD j 0=z
 |[],_,q,z,h=>by grind
 |r::rs,hz,q,z,h=>by
  have H:r.length=m:=hz r z!;by_cases a:q<m;refine⟨0,q,z!,a,z!,?_⟩;grind;rw[List.flatten_cons,List.getElem?_append_right w!,H] at h;obtain⟨i,j,c,b,d,e⟩:=MA rs (λr Q=>hz r x!) (q-m) z h;refine⟨i+1,j,x!,b,?_,x!⟩;grind
def Q4 {P:Program}{N:String}{g:Nat}{t e:TypeId}{n m:Nat}{k:IntKind}{F:Array Field}{zss:M U}{R:M Ty}{l:M (Row R)}{L:M (String×DataW Unit)}
  (w:laidMet P L W) (A:(N,DataW.agg (zss.map λr=>.agg (r.map λz=>.lit (.int k z))))∈L) (h:P.globalNamed N=some g) (C:(P.globals[g]?).map (·.type)=some t)
  (x:P.underlying t=some (.array n e)) (y:P.underlying e=some (.struct F)) (V:P.cellsOf e=m) (H:P.cellsOf t=n*m) (a:F.size=m) (B:∀(i:Nat) (f:Field),F[i]? =some f->f.offset=i/\P.underlying f.type=some (.int k)/\P.cellsOf f.type=1)
  (d:∀r∈zss,r.length=m) (T:0<n*m) (D:yu k R zss l):auo W (λb=>b<W.heap.size) g ⟨R,l⟩:=by
 obtain⟨X,S,_⟩:=w;obtain⟨Y,Z,E,o,p,G,I,s,J⟩:=Q1 S A;obtain rfl:=R? (h.symm.trans G);obtain rfl:=R? (C.symm.trans I);obtain⟨q1,q2,q3⟩:=Q2 x y V H a B d J;have K:E.size=n*m:=by omega
 refine⟨af3 h s w!,zss.flatten.map (Value.int k),λq v u=>?_,KH zss l D⟩;rw[A?] at u;obtain⟨z,c,rfl⟩:=Option.map_eq_some_iff.1 u;obtain⟨i,j,hi,O,rfl,Q⟩:=MA zss d q z c;rw[n?,World.var?_cell h s,<-m?,q3 i j w! O,Q]
theorem Jk:∀Z:U,(Z.map λz=>[z]).flatten=Z
 |[]=>rfl
 |z::Z=>by simp only[G?,List.flatten_cons,Jk Z];rfl
def Q5 {P:Program}{N:String}{g:Nat}{t e:TypeId}{n:Nat}{k:IntKind}{zs:U}{r:M Ty}{l:M (Row r)}{L:M (String×DataW Unit)}
  (c:laidMet P L W) (A:(N,DataW.agg (zs.map λz=>.lit (.int k z)))∈L) (h:P.globalNamed N=some g) (C:(P.globals[g]?).map (·.type)=some t)
  (d:P.underlying t=some (.array n e)) (i:P.underlying e=some (.int k)) (V:P.cellsOf e=1) (H:P.cellsOf t=n) (w:0<zs.length) (x:yu k r (zs.map λz=>[z]) l):auo W (λb=>b<W.heap.size) g ⟨r,l⟩:=by
 obtain⟨y,S,_⟩:=c;obtain⟨G,T,j,f,p,m,o,a,s⟩:=Q1 S A;obtain rfl:=R? (h.symm.trans m);obtain rfl:=R? (C.symm.trans o);have u:=Lib.cells_of_tab d i V H s
 have E:0<j.size:=by
  grind
 refine⟨af3 h a E,zs.map (Value.int k),λq v B=>?_,?_⟩;rw[Nat.zero_add,World.var?_cell h a,<-Array.getElem?_toList,u];omega;grind[KH,Jk]
end Go.Vg
namespace Go.Vg
open Go Go.ChangeShapes Go.WideShapes Go.ChangeAt Go.RowKit
variable [HP]
end Go.Vg
namespace Go.Proofs
open Go Go.RowKit Go.ChangeShapes Go.Vg
set_option maxHeartbeats 1000000 in
def Tryz.aHx:anj Tryz.prog 239 240:=by
 refine⟨λargs w=>by kernel_rfl,λw y p=>?_⟩;go_enter Tryz.func239,Tryz.ntmps239
 go_wp2
 go_ret
 exact⟨_,rfl,rfl⟩
def Tryz.mkf(f:Nat):Option Nat:=bif Nat.beq f 239 then some 240 else none
theorem Tryz.Vb(P:Program)(H:P=Tryz.prog)(f g:Nat)(h:Tryz.mkf f=some g):anj P f g:=by
 subst H;unfold Tryz.mkf at h;cases h1:Nat.beq f 239 with
 |true=>
  rw[h1] at h;cases D! h1;cases h;exact Tryz.aHx
 |false=>
  rw[h1] at h;cases h
end Go.Proofs
namespace Go.Vg
open Go.Proofs
open Go
instance :HP:=⟨λP=>P=Tryz.prog,Tryz.mkf,Tryz.Vb⟩
def gm:Vg.b9:=(.node (.node (.node (.node (.node (.node (.node .leaf 3 ⟨.int .i64,1,8, .int .i64 (0)⟩ .leaf) 4 ⟨.bool,1,1, .bool false⟩ (.node .leaf 5 ⟨.int .u8,1,1, .int .u8 (0)⟩ .leaf)) 9 ⟨.string,1,16, .string ⟨#[]⟩⟩ (.node (.node .leaf 22 ⟨.slice 27,1,24, .slice none 0 0⟩ .leaf) 23 ⟨.slice 89,1,24, .slice none 0 0⟩ .leaf)) 25 ⟨.struct #[⟨ "Docs",22,0,false,"","",0⟩,⟨ "Segs",23,1,false,"","",24⟩],2,48, .agg #[.slice none 0 0, .slice none 0 0]⟩ (.node (.node (.node .leaf 26 ⟨.slice 81,1,24, .slice none 0 0⟩ .leaf) 27 ⟨.slice 5,1,24, .slice none 0 0⟩ .leaf) 31 ⟨.slice 87,1,24, .slice none 0 0⟩ (.node (.node .leaf 33 ⟨.struct #[⟨ "Docs",22,0,false,"","",0⟩,⟨ "Segs",31,1,false,"","",24⟩],2,48, .agg #[.slice none 0 0, .slice none 0 0]⟩ .leaf) 35 ⟨.func #[] #[4] false,1,8, .nilFunc⟩ .leaf))) 36 ⟨.slice 3,1,24, .slice none 0 0⟩ (.node (.node (.node (.node .leaf 37 ⟨.int .i64,1,8, .int .i64 (0)⟩ .leaf) 42 ⟨.slice 124,1,24, .slice none 0 0⟩ (.node .leaf 47 ⟨.struct #[⟨ "A",27,0,false,"","",0⟩,⟨ "B",27,1,false,"","",24⟩],2,48, .agg #[.slice none 0 0, .slice none 0 0]⟩ .leaf)) 56 ⟨.struct #[⟨ "A",27,0,false,"","",0⟩,⟨ "B",27,1,false,"","",24⟩],2,48, .agg #[.slice none 0 0, .slice none 0 0]⟩ (.node (.node .leaf 68 ⟨.slice 73,1,24, .slice none 0 0⟩ .leaf) 73 ⟨.struct #[⟨ "Kind",3,0,false,"","",0⟩,⟨ "I",3,1,false,"","",8⟩,⟨ "Many",3,2,false,"","",16⟩,⟨ "Doc",27,3,false,"","",24⟩],4,48, .agg #[.int .i64 (0), .int .i64 (0), .int .i64 (0), .slice none 0 0]⟩ .leaf)) 81 ⟨.struct #[⟨ "Kind",3,0,false,"","",0⟩,⟨ "Term",9,1,false,"","",8⟩],2,24, .agg #[.int .i64 (0), .string ⟨#[]⟩]⟩ (.node (.node (.node .leaf 84 ⟨.struct #[⟨ "From",3,0,false,"","",0⟩,⟨ "To",3,1,false,"","",8⟩],2,16, .agg #[.int .i64 (0), .int .i64 (0)]⟩ .leaf) 85 ⟨.slice 308,1,24, .slice none 0 0⟩ .leaf) 87 ⟨.struct #[⟨ "Span",84,0,false,"","",0⟩,⟨ "Dict",85,2,false,"","",16⟩],3,40, .agg #[.int .i64 (0), .int .i64 (0), .slice none 0 0]⟩ (.node (.node .leaf 89 ⟨.struct #[⟨ "Span",84,0,false,"","",0⟩,⟨ "Dict",85,2,false,"","",16⟩],3,40, .agg #[.int .i64 (0), .int .i64 (0), .slice none 0 0]⟩ .leaf) 95 ⟨.slice 109,1,24, .slice none 0 0⟩ .leaf)))) 97 ⟨.struct #[⟨ "Size",3,0,false,"","",0⟩,⟨ "Log",9,1,false,"","",8⟩,⟨ "Segs",95,2,false,"","",24⟩],3,48, .agg #[.int .i64 (0), .string ⟨#[]⟩, .slice none 0 0]⟩ (.node (.node (.node (.node (.node .leaf 98 ⟨.slice 110,1,24, .slice none 0 0⟩ .leaf) 100 ⟨.struct #[⟨ "Head",97,0,false,"","",0⟩,⟨ "Proofs",98,3,false,"","",48⟩],4,72, .agg #[.int .i64 (0), .string ⟨#[]⟩, .slice none 0 0, .slice none 0 0]⟩ (.node .leaf 103 ⟨.slice 9,1,24, .slice none 0 0⟩ .leaf)) 105 ⟨.slice 36,1,24, .slice none 0 0⟩ (.node (.node .leaf 107 ⟨.slice 35,1,24, .slice none 0 0⟩ .leaf) 109 ⟨.struct #[⟨ "Span",84,0,false,"","",0⟩,⟨ "Links",3,2,false,"","",16⟩,⟨ "Root",9,3,false,"","",24⟩],4,40, .agg #[.int .i64 (0), .int .i64 (0), .int .i64 (0), .string ⟨#[]⟩]⟩ .leaf)) 110 ⟨.slice 115,1,24, .slice none 0 0⟩ (.node (.node (.node .leaf 113 ⟨.struct #[⟨ "Term",9,0,false,"","",0⟩,⟨ "Next",9,1,false,"","",16⟩,⟨ "Posts",9,2,false,"","",32⟩],3,48, .agg #[.string ⟨#[]⟩, .string ⟨#[]⟩, .string ⟨#[]⟩]⟩ .leaf) 115 ⟨.struct #[⟨ "At",3,0,false,"","",0⟩,⟨ "Link",113,1,false,"","",8⟩,⟨ "Path",103,4,false,"","",56⟩,⟨ "Docs",27,5,false,"","",80⟩],6,104, .agg #[.int .i64 (0), .string ⟨#[]⟩, .string ⟨#[]⟩, .string ⟨#[]⟩, .slice none 0 0, .slice none 0 0]⟩ .leaf) 120 ⟨.slice 282,1,24, .slice none 0 0⟩ (.node (.node .leaf 122 ⟨.struct #[⟨ "Size",3,0,false,"","",0⟩,⟨ "Log",9,1,false,"","",8⟩,⟨ "Segs",120,2,false,"","",24⟩],3,48, .agg #[.int .i64 (0), .string ⟨#[]⟩, .slice none 0 0]⟩ .leaf) 124 ⟨.struct #[⟨ "Kind",3,0,false,"","",0⟩,⟨ "Term",9,1,false,"","",8⟩],2,24, .agg #[.int .i64 (0), .string ⟨#[]⟩]⟩ .leaf))) 128 ⟨.struct #[⟨ "claimed",97,0,false,"","rubrick/extract",0⟩,⟨ "honest",25,3,false,"","rubrick/extract",48⟩],5,96, .agg #[.int .i64 (0), .string ⟨#[]⟩, .slice none 0 0, .slice none 0 0, .slice none 0 0]⟩ (.node (.node (.node (.node .leaf 130 ⟨.struct #[⟨ "pair",128,0,true,"","rubrick/extract",0⟩,⟨ "terms",103,5,false,"","rubrick/extract",96⟩,⟨ "proofs",98,6,false,"","rubrick/extract",120⟩],7,144, .agg #[.int .i64 (0), .string ⟨#[]⟩, .slice none 0 0, .slice none 0 0, .slice none 0 0, .slice none 0 0, .slice none 0 0]⟩ .leaf) 132 ⟨.func #[] #[47,4] false,1,8, .nilFunc⟩ .leaf) 136 ⟨.struct #[⟨ "Head",97,0,false,"","",0⟩,⟨ "At",3,3,false,"","",48⟩,⟨ "Doc",27,4,false,"","",56⟩,⟨ "Path",103,5,false,"","",80⟩],6,104, .agg #[.int .i64 (0), .string ⟨#[]⟩, .slice none 0 0, .int .i64 (0), .slice none 0 0, .slice none 0 0]⟩ (.node (.node .leaf 141 ⟨.struct #[⟨ "pair",128,0,true,"","rubrick/extract",0⟩,⟨ "at",3,5,false,"","rubrick/extract",96⟩,⟨ "doc",27,6,false,"","rubrick/extract",104⟩,⟨ "path",103,7,false,"","rubrick/extract",128⟩],8,152, .agg #[.int .i64 (0), .string ⟨#[]⟩, .slice none 0 0, .slice none 0 0, .slice none 0 0, .int .i64 (0), .slice none 0 0, .slice none 0 0]⟩ .leaf) 144 ⟨.slice 156,1,24, .slice none 0 0⟩ .leaf)) 146 ⟨.struct #[⟨ "Head",122,0,false,"","",0⟩,⟨ "Proofs",144,3,false,"","",48⟩],4,72, .agg #[.int .i64 (0), .string ⟨#[]⟩, .slice none 0 0, .slice none 0 0]⟩ (.node (.node (.node .leaf 153 ⟨.struct #[⟨ "Term",9,0,false,"","",0⟩,⟨ "Next",9,1,false,"","",16⟩,⟨ "Posts",9,2,false,"","",32⟩],3,48, .agg #[.string ⟨#[]⟩, .string ⟨#[]⟩, .string ⟨#[]⟩]⟩ .leaf) 155 ⟨.struct #[⟨ "At",3,0,false,"","",0⟩,⟨ "Link",153,1,false,"","",8⟩,⟨ "Path",103,4,false,"","",56⟩,⟨ "Docs",27,5,false,"","",80⟩],6,104, .agg #[.int .i64 (0), .string ⟨#[]⟩, .string ⟨#[]⟩, .string ⟨#[]⟩, .slice none 0 0, .slice none 0 0]⟩ .leaf) 156 ⟨.slice 155,1,24, .slice none 0 0⟩ (.node (.node .leaf 160 ⟨.struct #[⟨ "Head",122,0,false,"","",0⟩,⟨ "At",3,3,false,"","",48⟩,⟨ "Doc",27,4,false,"","",56⟩,⟨ "Path",103,5,false,"","",80⟩],6,104, .agg #[.int .i64 (0), .string ⟨#[]⟩, .slice none 0 0, .int .i64 (0), .slice none 0 0, .slice none 0 0]⟩ .leaf) 165 ⟨.struct #[⟨ "Old",97,0,false,"","",0⟩,⟨ "New",97,3,false,"","",48⟩,⟨ "Proof",103,6,false,"","",96⟩],7,120, .agg #[.int .i64 (0), .string ⟨#[]⟩, .slice none 0 0, .int .i64 (0), .string ⟨#[]⟩, .slice none 0 0, .slice none 0 0]⟩ .leaf))))) 169 ⟨.struct #[⟨ "before",128,0,false,"","rubrick/extract",0⟩,⟨ "after",128,5,false,"","rubrick/extract",96⟩,⟨ "proof",103,10,false,"","rubrick/extract",192⟩],11,216, .agg #[.int .i64 (0), .string ⟨#[]⟩, .slice none 0 0, .slice none 0 0, .slice none 0 0, .int .i64 (0), .string ⟨#[]⟩, .slice none 0 0, .slice none 0 0, .slice none 0 0, .slice none 0 0]⟩ (.node (.node (.node (.node (.node (.node .leaf 173 ⟨.struct #[⟨ "Old",122,0,false,"","",0⟩,⟨ "New",122,3,false,"","",48⟩,⟨ "Proof",103,6,false,"","",96⟩],7,120, .agg #[.int .i64 (0), .string ⟨#[]⟩, .slice none 0 0, .int .i64 (0), .string ⟨#[]⟩, .slice none 0 0, .slice none 0 0]⟩ .leaf) 188 ⟨.func #[9] #[] false,1,8, .nilFunc⟩ (.node .leaf 203 ⟨.slice 209,1,24, .slice none 0 0⟩ .leaf)) 206 ⟨.struct #[⟨ "elems",203,0,false,"","rubrick/query",0⟩,⟨ "next",3,1,false,"","rubrick/query",24⟩,⟨ "words",3,2,false,"","rubrick/query",32⟩,⟨ "ops",26,3,false,"","rubrick/query",40⟩],4,64, .agg #[.slice none 0 0, .int .i64 (0), .int .i64 (0), .slice none 0 0]⟩ (.node (.node .leaf 209 ⟨.struct #[⟨ "kind",3,0,false,"","rubrick/query",0⟩,⟨ "at",3,1,false,"","rubrick/query",8⟩,⟨ "term",9,2,false,"","rubrick/query",16⟩],3,32, .agg #[.int .i64 (0), .int .i64 (0), .string ⟨#[]⟩]⟩ .leaf) 211 ⟨.pointer 221,1,8, .pointer none⟩ .leaf)) 219 ⟨.struct #[⟨ "B",27,0,false,"","",0⟩,⟨ "At",3,1,false,"","",24⟩,⟨ "E",37,2,false,"","",32⟩],3,40, .agg #[.slice none 0 0, .int .i64 (0), .int .i64 (0)]⟩ (.node (.node (.node .leaf 221 ⟨.struct #[⟨ "Reader",219,0,true,"","",0⟩],3,40, .agg #[.slice none 0 0, .int .i64 (0), .int .i64 (0)]⟩ .leaf) 225 ⟨.slice 229,1,24, .slice none 0 0⟩ .leaf) 227 ⟨.func #[115] #[4] false,1,8, .nilFunc⟩ (.node (.node .leaf 229 ⟨.struct #[⟨ "holds",227,0,false,"","rubrick/term",0⟩,⟨ "docs",36,1,false,"","rubrick/term",8⟩],2,32, .agg #[.nilFunc, .slice none 0 0]⟩ .leaf) 234 ⟨.func #[9] #[36] false,1,8, .nilFunc⟩ .leaf))) 236 ⟨.func #[36,36] #[36] false,1,8, .nilFunc⟩ (.node (.node (.node (.node .leaf 238 ⟨.struct #[⟨ "find",234,0,false,"","rubrick/eval",0⟩,⟨ "both",236,1,false,"","rubrick/eval",8⟩,⟨ "either",236,2,false,"","rubrick/eval",16⟩,⟨ "but",236,3,false,"","rubrick/eval",24⟩],4,32, .agg #[.nilFunc, .nilFunc, .nilFunc, .nilFunc]⟩ .leaf) 247 ⟨.slice 132,1,24, .slice none 0 0⟩ (.node .leaf 253 ⟨.int .u32,1,4, .int .u32 (0)⟩ .leaf)) 254 ⟨.array 8 253,8,32, .agg #[.int .u32 (0), .int .u32 (0), .int .u32 (0), .int .u32 (0), .int .u32 (0), .int .u32 (0), .int .u32 (0), .int .u32 (0)]⟩ (.node (.node .leaf 256 ⟨.struct #[⟨ "H",254,0,false,"","",0⟩,⟨ "Rest",27,8,false,"","",32⟩,⟨ "N",3,9,false,"","",56⟩],10,64, .agg #[.int .u32 (0), .int .u32 (0), .int .u32 (0), .int .u32 (0), .int .u32 (0), .int .u32 (0), .int .u32 (0), .int .u32 (0), .slice none 0 0, .int .i64 (0)]⟩ .leaf) 259 ⟨.func #[] #[3] false,1,8, .nilFunc⟩ .leaf)) 262 ⟨.slice 4,1,24, .slice none 0 0⟩ (.node (.node (.node .leaf 271 ⟨.struct #[⟨ "B",27,0,false,"","",0⟩,⟨ "E",3,1,false,"","",24⟩],2,32, .agg #[.slice none 0 0, .int .i64 (0)]⟩ .leaf) 282 ⟨.struct #[⟨ "Span",84,0,false,"","",0⟩,⟨ "Links",3,2,false,"","",16⟩,⟨ "Root",9,3,false,"","",24⟩],4,40, .agg #[.int .i64 (0), .int .i64 (0), .int .i64 (0), .string ⟨#[]⟩]⟩ .leaf) 308 ⟨.struct #[⟨ "Term",9,0,false,"","",0⟩,⟨ "Docs",36,1,false,"","",16⟩],2,40, .agg #[.string ⟨#[]⟩, .slice none 0 0]⟩ (.node (.node .leaf 312 ⟨.slice 84,1,24, .slice none 0 0⟩ .leaf) 323 ⟨.struct #[⟨ "b",27,0,false,"","rubrick/reply",0⟩,⟨ "bad",4,1,false,"","rubrick/reply",24⟩],2,32, .agg #[.slice none 0 0, .bool false]⟩ .leaf)))) 333 ⟨.pointer 206,1,8, .pointer none⟩ (.node (.node (.node (.node (.node .leaf 340 ⟨.int .u64,1,8, .int .u64 (0)⟩ .leaf) 343 ⟨.func #[9,9] #[4] false,1,8, .nilFunc⟩ (.node .leaf 345 ⟨.map 3 188,1,8, .map none⟩ .leaf)) 347 ⟨.func #[3,4,4] #[4] false,1,8, .nilFunc⟩ (.node (.node .leaf 354 ⟨.int .u64,1,8, .int .u64 (0)⟩ .leaf) 364 ⟨.slice 365,1,24, .slice none 0 0⟩ .leaf)) 365 ⟨.func #[] #[47,4] false,1,8, .nilFunc⟩ (.node (.node (.node .leaf 382 ⟨.slice 386,1,24, .slice none 0 0⟩ .leaf) 386 ⟨.struct #[⟨ "from",3,0,false,"","rubrick/clash",0⟩,⟨ "m",3,1,false,"","rubrick/clash",8⟩,⟨ "n",3,2,false,"","rubrick/clash",16⟩,⟨ "k",3,3,false,"","rubrick/clash",24⟩,⟨ "right",4,4,false,"","rubrick/clash",32⟩],5,40, .agg #[.int .i64 (0), .int .i64 (0), .int .i64 (0), .int .i64 (0), .bool false]⟩ .leaf) 393 ⟨.map 9 36,1,8, .map none⟩ (.node (.node .leaf 396 ⟨.func #[125] #[] false,1,8, .nilFunc⟩ .leaf) 404 ⟨.pointer 323,1,8, .pointer none⟩ .leaf))) 409 ⟨.struct #[⟨ "from",3,0,false,"","rubrick/utf",0⟩,⟨ "to",3,1,false,"","rubrick/utf",8⟩],2,16, .agg #[.int .i64 (0), .int .i64 (0)]⟩ (.node (.node (.node (.node .leaf 410 ⟨.array 9 409,18,144, .agg #[.int .i64 (0), .int .i64 (0), .int .i64 (0), .int .i64 (0), .int .i64 (0), .int .i64 (0), .int .i64 (0), .int .i64 (0), .int .i64 (0), .int .i64 (0), .int .i64 (0), .int .i64 (0), .int .i64 (0), .int .i64 (0), .int .i64 (0), .int .i64 (0), .int .i64 (0), .int .i64 (0)]⟩ .leaf) 412 ⟨.func #[] #[9] false,1,8, .nilFunc⟩ .leaf) 415 ⟨.int .i64,1,8, .int .i64 (0)⟩ (.node (.node .leaf 423 ⟨.slice 253,1,24, .slice none 0 0⟩ .leaf) 440 ⟨.func #[308,308] #[4] false,1,8, .nilFunc⟩ .leaf)) 442 ⟨.func #[9,9] #[3] false,1,8, .nilFunc⟩ (.node (.node (.node .leaf 444 ⟨.int .u64,1,8, .int .u64 (0)⟩ .leaf) 448 ⟨.pointer 3,1,8, .pointer none⟩ .leaf) 453 ⟨.array 64 253,64,256, .agg #[.int .u32 (0), .int .u32 (0), .int .u32 (0), .int .u32 (0), .int .u32 (0), .int .u32 (0), .int .u32 (0), .int .u32 (0), .int .u32 (0), .int .u32 (0), .int .u32 (0), .int .u32 (0), .int .u32 (0), .int .u32 (0), .int .u32 (0), .int .u32 (0), .int .u32 (0), .int .u32 (0), .int .u32 (0), .int .u32 (0), .int .u32 (0), .int .u32 (0), .int .u32 (0), .int .u32 (0), .int .u32 (0), .int .u32 (0), .int .u32 (0), .int .u32 (0), .int .u32 (0), .int .u32 (0), .int .u32 (0), .int .u32 (0), .int .u32 (0), .int .u32 (0), .int .u32 (0), .int .u32 (0), .int .u32 (0), .int .u32 (0), .int .u32 (0), .int .u32 (0), .int .u32 (0), .int .u32 (0), .int .u32 (0), .int .u32 (0), .int .u32 (0), .int .u32 (0), .int .u32 (0), .int .u32 (0), .int .u32 (0), .int .u32 (0), .int .u32 (0), .int .u32 (0), .int .u32 (0), .int .u32 (0), .int .u32 (0), .int .u32 (0), .int .u32 (0), .int .u32 (0), .int .u32 (0), .int .u32 (0), .int .u32 (0), .int .u32 (0), .int .u32 (0), .int .u32 (0)]⟩ (.node (.node .leaf 462 ⟨.struct #[⟨ "from",3,0,false,"","rubrick/utf",0⟩,⟨ "to",3,1,false,"","rubrick/utf",8⟩,⟨ "add",3,2,false,"","rubrick/utf",16⟩],3,24, .agg #[.int .i64 (0), .int .i64 (0), .int .i64 (0)]⟩ .leaf) 463 ⟨.array 7 462,21,168, .agg #[.int .i64 (0), .int .i64 (0), .int .i64 (0), .int .i64 (0), .int .i64 (0), .int .i64 (0), .int .i64 (0), .int .i64 (0), .int .i64 (0), .int .i64 (0), .int .i64 (0), .int .i64 (0), .int .i64 (0), .int .i64 (0), .int .i64 (0), .int .i64 (0), .int .i64 (0), .int .i64 (0), .int .i64 (0), .int .i64 (0), .int .i64 (0)]⟩ .leaf))))))
set_option maxRecDepth 100000 in
def af4:gm.Ok Tryz.prog:=⟨⟨⟨⟨⟨⟨⟨trivial,trivial,Tryz.underlying3,trivial,Tryz.t3,rfl,rfl,rfl,rfl⟩,⟨trivial,trivial,Tryz.underlying5,trivial,Tryz.t5,rfl,rfl,rfl,rfl⟩,Tryz.underlying4,trivial,Tryz.t4,rfl,rfl,rfl,rfl⟩,⟨⟨trivial,trivial,Tryz.underlying22,trivial,Tryz.t22,rfl,rfl,rfl,rfl⟩,trivial,Tryz.underlying23,trivial,Tryz.t23,rfl,rfl,rfl,rfl⟩,Tryz.underlying9,trivial,Tryz.t9,rfl,rfl,rfl,rfl⟩,⟨⟨⟨trivial,trivial,Tryz.underlying26,trivial,Tryz.t26,rfl,rfl,rfl,rfl⟩,trivial,Tryz.underlying27,trivial,Tryz.t27,rfl,rfl,rfl,rfl⟩,⟨⟨trivial,trivial,Tryz.underlying33,⟨y!,y!,y!⟩,Tryz.t33,rfl,rfl,rfl,rfl⟩,trivial,Tryz.underlying35,trivial,Tryz.t35,rfl,rfl,rfl,rfl⟩,Tryz.underlying31,trivial,Tryz.t31,rfl,rfl,rfl,rfl⟩,Tryz.underlying25,⟨y!,y!,y!⟩,Tryz.t25,rfl,rfl,rfl,rfl⟩,⟨⟨⟨⟨trivial,trivial,Tryz.underlying37,trivial,Tryz.t37,rfl,rfl,rfl,rfl⟩,⟨trivial,trivial,Tryz.underlying47,⟨y!,y!,y!⟩,Tryz.t47,rfl,rfl,rfl,rfl⟩,Tryz.underlying42,trivial,Tryz.t42,rfl,rfl,rfl,rfl⟩,⟨⟨trivial,trivial,Tryz.underlying68,trivial,Tryz.t68,rfl,rfl,rfl,rfl⟩,trivial,Tryz.underlying73,⟨y!,y!,y!⟩,Tryz.t73,rfl,rfl,rfl,rfl⟩,Tryz.underlying56,⟨y!,y!,y!⟩,Tryz.t56,rfl,rfl,rfl,rfl⟩,⟨⟨⟨trivial,trivial,Tryz.underlying84,⟨y!,y!,y!⟩,Tryz.t84,rfl,rfl,rfl,rfl⟩,trivial,Tryz.underlying85,trivial,Tryz.t85,rfl,rfl,rfl,rfl⟩,⟨⟨trivial,trivial,Tryz.underlying89,⟨y!,y!,y!⟩,Tryz.t89,rfl,rfl,rfl,rfl⟩,trivial,Tryz.underlying95,trivial,Tryz.t95,rfl,rfl,rfl,rfl⟩,Tryz.underlying87,⟨y!,y!,y!⟩,Tryz.t87,rfl,rfl,rfl,rfl⟩,Tryz.underlying81,⟨y!,y!,y!⟩,Tryz.t81,rfl,rfl,rfl,rfl⟩,Tryz.underlying36,trivial,Tryz.t36,rfl,rfl,rfl,rfl⟩,⟨⟨⟨⟨⟨trivial,trivial,Tryz.underlying98,trivial,Tryz.t98,rfl,rfl,rfl,rfl⟩,⟨trivial,trivial,Tryz.underlying103,trivial,Tryz.t103,rfl,rfl,rfl,rfl⟩,Tryz.underlying100,⟨y!,y!,y!⟩,Tryz.t100,rfl,rfl,rfl,rfl⟩,⟨⟨trivial,trivial,Tryz.underlying107,trivial,Tryz.t107,rfl,rfl,rfl,rfl⟩,trivial,Tryz.underlying109,⟨y!,y!,y!⟩,Tryz.t109,rfl,rfl,rfl,rfl⟩,Tryz.underlying105,trivial,Tryz.t105,rfl,rfl,rfl,rfl⟩,⟨⟨⟨trivial,trivial,Tryz.underlying113,⟨y!,y!,y!⟩,Tryz.t113,rfl,rfl,rfl,rfl⟩,trivial,Tryz.underlying115,⟨y!,y!,y!⟩,Tryz.t115,rfl,rfl,rfl,rfl⟩,⟨⟨trivial,trivial,Tryz.underlying122,⟨y!,y!,y!⟩,Tryz.t122,rfl,rfl,rfl,rfl⟩,trivial,Tryz.underlying124,⟨y!,y!,y!⟩,Tryz.t124,rfl,rfl,rfl,rfl⟩,Tryz.underlying120,trivial,Tryz.t120,rfl,rfl,rfl,rfl⟩,Tryz.underlying110,trivial,Tryz.t110,rfl,rfl,rfl,rfl⟩,⟨⟨⟨⟨trivial,trivial,Tryz.underlying130,⟨y!,y!,y!⟩,Tryz.t130,rfl,rfl,rfl,rfl⟩,trivial,Tryz.underlying132,trivial,Tryz.t132,rfl,rfl,rfl,rfl⟩,⟨⟨trivial,trivial,Tryz.underlying141,⟨y!,y!,y!⟩,Tryz.t141,rfl,rfl,rfl,rfl⟩,trivial,Tryz.underlying144,trivial,Tryz.t144,rfl,rfl,rfl,rfl⟩,Tryz.underlying136,⟨y!,y!,y!⟩,Tryz.t136,rfl,rfl,rfl,rfl⟩,⟨⟨⟨trivial,trivial,Tryz.underlying153,⟨y!,y!,y!⟩,Tryz.t153,rfl,rfl,rfl,rfl⟩,trivial,Tryz.underlying155,⟨y!,y!,y!⟩,Tryz.t155,rfl,rfl,rfl,rfl⟩,⟨⟨trivial,trivial,Tryz.underlying160,⟨y!,y!,y!⟩,Tryz.t160,rfl,rfl,rfl,rfl⟩,trivial,Tryz.underlying165,⟨y!,y!,y!⟩,Tryz.t165,rfl,rfl,rfl,rfl⟩,Tryz.underlying156,trivial,Tryz.t156,rfl,rfl,rfl,rfl⟩,Tryz.underlying146,⟨y!,y!,y!⟩,Tryz.t146,rfl,rfl,rfl,rfl⟩,Tryz.underlying128,⟨y!,y!,y!⟩,Tryz.t128,rfl,rfl,rfl,rfl⟩,Tryz.underlying97,⟨y!,y!,y!⟩,Tryz.t97,rfl,rfl,rfl,rfl⟩,⟨⟨⟨⟨⟨⟨trivial,trivial,Tryz.underlying173,⟨y!,y!,y!⟩,Tryz.t173,rfl,rfl,rfl,rfl⟩,⟨trivial,trivial,Tryz.underlying203,trivial,Tryz.t203,rfl,rfl,rfl,rfl⟩,Tryz.underlying188,trivial,Tryz.t188,rfl,rfl,rfl,rfl⟩,⟨⟨trivial,trivial,Tryz.underlying209,⟨y!,y!,y!⟩,Tryz.t209,rfl,rfl,rfl,rfl⟩,trivial,Tryz.underlying211,trivial,Tryz.t211,rfl,rfl,rfl,rfl⟩,Tryz.underlying206,⟨y!,y!,y!⟩,Tryz.t206,rfl,rfl,rfl,rfl⟩,⟨⟨⟨trivial,trivial,Tryz.underlying221,⟨y!,y!,y!⟩,Tryz.t221,rfl,rfl,rfl,rfl⟩,trivial,Tryz.underlying225,trivial,Tryz.t225,rfl,rfl,rfl,rfl⟩,⟨⟨trivial,trivial,Tryz.underlying229,⟨y!,y!,y!⟩,Tryz.t229,rfl,rfl,rfl,rfl⟩,trivial,Tryz.underlying234,trivial,Tryz.t234,rfl,rfl,rfl,rfl⟩,Tryz.underlying227,trivial,Tryz.t227,rfl,rfl,rfl,rfl⟩,Tryz.underlying219,⟨y!,y!,y!⟩,Tryz.t219,rfl,rfl,rfl,rfl⟩,⟨⟨⟨⟨trivial,trivial,Tryz.underlying238,⟨y!,y!,y!⟩,Tryz.t238,rfl,rfl,rfl,rfl⟩,⟨trivial,trivial,Tryz.underlying253,trivial,Tryz.t253,rfl,rfl,rfl,rfl⟩,Tryz.underlying247,trivial,Tryz.t247,rfl,rfl,rfl,rfl⟩,⟨⟨trivial,trivial,Tryz.underlying256,⟨y!,y!,y!⟩,Tryz.t256,rfl,rfl,rfl,rfl⟩,trivial,Tryz.underlying259,trivial,Tryz.t259,rfl,rfl,rfl,rfl⟩,Tryz.underlying254,trivial,Tryz.t254,rfl,rfl,rfl,rfl⟩,⟨⟨⟨trivial,trivial,Tryz.underlying271,⟨y!,y!,y!⟩,Tryz.t271,rfl,rfl,rfl,rfl⟩,trivial,Tryz.underlying282,⟨y!,y!,y!⟩,Tryz.t282,rfl,rfl,rfl,rfl⟩,⟨⟨trivial,trivial,Tryz.underlying312,trivial,Tryz.t312,rfl,rfl,rfl,rfl⟩,trivial,Tryz.underlying323,⟨y!,y!,y!⟩,Tryz.t323,rfl,rfl,rfl,rfl⟩,Tryz.underlying308,⟨y!,y!,y!⟩,Tryz.t308,rfl,rfl,rfl,rfl⟩,Tryz.underlying262,trivial,Tryz.t262,rfl,rfl,rfl,rfl⟩,Tryz.underlying236,trivial,Tryz.t236,rfl,rfl,rfl,rfl⟩,⟨⟨⟨⟨⟨trivial,trivial,Tryz.underlying340,trivial,Tryz.t340,rfl,rfl,rfl,rfl⟩,⟨trivial,trivial,Tryz.underlying345,trivial,Tryz.t345,rfl,rfl,rfl,rfl⟩,Tryz.underlying343,trivial,Tryz.t343,rfl,rfl,rfl,rfl⟩,⟨⟨trivial,trivial,Tryz.underlying354,trivial,Tryz.t354,rfl,rfl,rfl,rfl⟩,trivial,Tryz.underlying364,trivial,Tryz.t364,rfl,rfl,rfl,rfl⟩,Tryz.underlying347,trivial,Tryz.t347,rfl,rfl,rfl,rfl⟩,⟨⟨⟨trivial,trivial,Tryz.underlying382,trivial,Tryz.t382,rfl,rfl,rfl,rfl⟩,trivial,Tryz.underlying386,⟨y!,y!,y!⟩,Tryz.t386,rfl,rfl,rfl,rfl⟩,⟨⟨trivial,trivial,Tryz.underlying396,trivial,Tryz.t396,rfl,rfl,rfl,rfl⟩,trivial,Tryz.underlying404,trivial,Tryz.t404,rfl,rfl,rfl,rfl⟩,Tryz.underlying393,trivial,Tryz.t393,rfl,rfl,rfl,rfl⟩,Tryz.underlying365,trivial,Tryz.t365,rfl,rfl,rfl,rfl⟩,⟨⟨⟨⟨trivial,trivial,Tryz.underlying410,trivial,Tryz.t410,rfl,rfl,rfl,rfl⟩,trivial,Tryz.underlying412,trivial,Tryz.t412,rfl,rfl,rfl,rfl⟩,⟨⟨trivial,trivial,Tryz.underlying423,trivial,Tryz.t423,rfl,rfl,rfl,rfl⟩,trivial,Tryz.underlying440,trivial,Tryz.t440,rfl,rfl,rfl,rfl⟩,Tryz.underlying415,trivial,Tryz.t415,rfl,rfl,rfl,rfl⟩,⟨⟨⟨trivial,trivial,Tryz.underlying444,trivial,Tryz.t444,rfl,rfl,rfl,rfl⟩,trivial,Tryz.underlying448,trivial,Tryz.t448,rfl,rfl,rfl,rfl⟩,⟨⟨trivial,trivial,Tryz.underlying462,⟨y!,y!,y!⟩,Tryz.t462,rfl,rfl,rfl,rfl⟩,trivial,Tryz.underlying463,trivial,Tryz.t463,rfl,rfl,rfl,rfl⟩,Tryz.underlying453,trivial,Tryz.t453,rfl,rfl,rfl,rfl⟩,Tryz.underlying442,trivial,Tryz.t442,rfl,rfl,rfl,rfl⟩,Tryz.underlying409,⟨y!,y!,y!⟩,Tryz.t409,rfl,rfl,rfl,rfl⟩,Tryz.underlying333,trivial,Tryz.t333,rfl,rfl,rfl,rfl⟩,Tryz.underlying169,⟨y!,y!,y!⟩,Tryz.t169,rfl,rfl,rfl,rfl⟩
end Go.Vg
namespace Go.J
open Go.Proofs
def G0:Nat->Option Go.Vg.GD:=λi=>match i with
 |0=>some ⟨[.int .u32],[1779033703,3144134277,1013904242,2773480762,1359893119,2600822924,528734635,1541459225]⟩
 |1=>some ⟨[.int .i64,.int .i64],[(65,90),(97,122),(192,214),(216,246),(248,255),(913,929),(931,937),(945,969),(1024,1119)]⟩
 |2=>some ⟨[.int .u32],Go.S.Bo⟩
 |3=>some ⟨[.int .i64,.int .i64,.int .i64],[(65,90,32),(192,214,32),(216,222,32),(913,929,32),(931,937,32),(1024,1039,80),(1040,1071,32)]⟩
 |_=>none
end Go.J
namespace Go.J
open Go Vg
abbrev xM:M Ty:=[.int .i64,.int .i64,.int .i64,.str]
abbrev ue:M Ty:=[.int .i64,.str,.str,.str,.slice [.str],.slice [.int .u8]]
abbrev oX:M Ty:=[.slice [.int .u8]]
abbrev oY:M Ty:=[.slice [.int .u8],.slice [.int .u8]]
abbrev zw:M Ty:=[.str,.slice [.int .i64]]
abbrev oq:M Ty:=[.int .i64,.int .i64,.slice zw]
abbrev Q6:M Ty:=[.slice oX,.slice oq]
abbrev è:M Ty:=[.int .i64,.str,.slice xM,.int .i64,.str,.slice xM,.slice [.str]]
abbrev wG:M Ty:=[.int .i64,.str,.slice xM,.slice [.slice ue]]
abbrev Dh:M Ty:=[.int .i64,.str,.slice xM,.int .i64,.slice [.int .u8],.slice [.str]]
abbrev wH:M Ty:=[.slice [.int .i64]]
abbrev mJ:M Ty:=[.int .i64,.int .i64,.str]
abbrev KI:M Ty:=[.slice [.int .u8],.int .i64,.int .i64]
abbrev aaJ:M Ty:=[.slice [.int .u8],.int .i64]
abbrev GQ:M Ty:=[.int .i64,.str]
abbrev KJ:M Ty:=[.int .u32,.int .u32,.int .u32,.int .u32,.int .u32,.int .u32,.int .u32,.int .u32]
abbrev aq0:M Ty:=[.int .i64,.int .i64,.int .i64,.slice [.int .u8]]
abbrev Xd:M Ty:=[.int .i64,.str,.slice xM]
abbrev GR:M Ty:=[.int .u32,.int .u32,.int .u32,.int .u32,.int .u32,.int .u32,.int .u32,.int .u32,.slice [.int .u8],.int .i64]
abbrev aMS:M Ty:=[.int .i64,.int .i64]
abbrev a1i:M Ty:=[.slice [.int .i64],.int .i64]
abbrev aYL:M Ty:=[.str,.int .i64]
abbrev q0p:M PS:=[.one (.int .u32),.one (.int .i64)]
abbrev aq1:Type:=Int×Int
abbrev q1p:M PS:=[]
abbrev aEJ:Type:=Unit
abbrev lL:M PS:=[.agg GR]
abbrev a5E:Type:=Int×Int×Int×Int×Int×Int×Int×Int×B8×Int
abbrev q3p:M PS:=[.agg KJ,.one (.slice [.int .u8])]
abbrev aEK:Type:=Int×Int×Int×Int×Int×Int×Int×Int×B8
abbrev q4p:M PS:=[.agg GR,.one (.slice [.int .u8])]
abbrev aq2:Type:=Int×Int×Int×Int×Int×Int×Int×Int×B8×Int×B8
abbrev q5p:M PS:=[.one (.slice [.int .u8])]
abbrev af5:Type:=B8
abbrev q6p:M TA:=[.own 50000,.dV (.int .i64)]
abbrev aNX:Type:=Int
abbrev q0q:M TB:=[.row 5 [.int .u8]]
abbrev aq4:Type:=B8×Unit
abbrev EJ:M TA:=[.own 50000,.dV (.str)]
abbrev qg:Type:=B8
abbrev q8p:M PS:=[.one (.slice [.int .u8]),.one (.int .i64)]
abbrev UM:Type:=B8×Int
abbrev q9p:M PS:=[.one (.slice [.int .u8]),.one (.str)]
abbrev aEL:Type:=B8×B8
abbrev aN0:M PS:=[.agg KI]
abbrev aHB:Type:=B8×Int×Int
abbrev é:M PS:=[.one (.slice [.int .u8]),.one (.int .i64),.one (.int .i64)]
abbrev Q7:Type:=B8×Int×Int
abbrev aq5:M PS:=[.agg KI,.one (.int .i64)]
abbrev Xe:Type:=B8×Int×Int×Int
abbrev UN:M PS:=[.one (.int .u8),.one (.slice oX)]
abbrev Q8:Type:=UInt8×O
abbrev aEM:M PS:=[.one (.str),.one (.str)]
abbrev aHC:Type:=B8×B8
abbrev aN1:M PS:=[.one (.int .i64)]
abbrev aHD:Type:=Int
abbrev aq6:M PS:=[.one (.slice [.int .i64])]
abbrev aaK:Type:=U
abbrev Q9:M PS:=[.one (.str)]
abbrev GS:Type:=B8
abbrev aEN:M TA:=[.dV (.str),.dV (.str),.ref 50000 0]
abbrev aq7:Type:=B8×B8
abbrev q1q:M TB:=[.cells [.fn (.func 359) [] []]]
abbrev MB:Type:=Unit×Unit
abbrev aN2:M TA:=[.own 50000,.fn (.func 382) [] [.ref 50001 0]]
abbrev aHE:Type:=Unit
abbrev q2q:M TB:=[.row 9 [.str],.cells [.fn (.func 359) [] []]]
abbrev aN4:Type:=O×Unit×Unit
abbrev aEO:M PS:=[.one (.slice [.str])]
abbrev aaL:Type:=O
abbrev Di:M TA:=[.own 50000,.fn (.func 359) [] []]
abbrev se:Type:=Unit
abbrev q3q:M TB:=[.row 9 [.str]]
abbrev aEP:Type:=O×Unit
abbrev Dj:M TA:=[.dV (.slice [.str]),.fn (.func 359) [] []]
abbrev tM:Type:=O
abbrev BL:M TB:=[]
abbrev xN:Type:=Unit
abbrev ê:M TA:=[.own 50000]
abbrev GU:Type:=Unit
abbrev aN3:M PS:=[.one (.slice oX)]
abbrev aHF:Type:=O
abbrev aN5:M PS:=[.one (.slice [.str]),.one (.int .i64)]
abbrev aq8:Type:=O×Int
abbrev aN6:M PS:=[.one (.slice [.str]),.one (.int .i64),.one (.bool)]
abbrev aHG:Type:=O×Int×Bool
abbrev aN7:M TA:=[.dV (.int .i64),.dV (.bool),.dV (.bool),.ref 50000 0]
abbrev aHH:Type:=Int×Bool×Bool
abbrev q5q:M TB:=[.cells [.dV (.int .i64),.dV (.int .i64)]]
abbrev ara:Type:=(Int×Int)×Unit
abbrev af6:M TA:=[.dV (.slice [.int .i64]),.dV (.slice [.int .i64]),.fn (.func 384) [] [.ref 50000 0]]
abbrev KK:Type:=U×U
abbrev aN8:M PS:=[.one (.slice [.int .i64]),.agg aMS]
abbrev aq9:Type:=U×Int×Int
abbrev aN9:M PS:=[.one (.slice [.int .i64]),.one (.slice [.int .i64])]
abbrev aHI:Type:=U×U
abbrev aEQ:M PS:=[.one (.slice zw)]
abbrev arb:Type:=M (B8×U)
abbrev arc:M PS:=[.agg [.str,.str,.str]]
abbrev aaM:Type:=B8×B8×B8
abbrev Ra:M PS:=[.one (.slice zw),.one (.str)]
abbrev GV:Type:=M (B8×U)×B8
abbrev Rb:M PS:=[.one (.slice oX),.agg aMS]
abbrev wI:Type:=O×Int×Int
abbrev aER:M PS:=[.agg aMS]
abbrev ard:Type:=Int×Int
abbrev are:M PS:=[.agg oq]
abbrev Xf:Type:=Int×Int×M (B8×U)
abbrev Rc:M PS:=[.agg xM]
abbrev Dk:Type:=Int×Int×Int×B8
abbrev arf:M PS:=[.one (.slice xM),.one (.int .i64)]
abbrev aaN:Type:=M (Int×Int×Int×B8)×Int
abbrev aOa:M PS:=[.one (.slice oq)]
abbrev aHK:Type:=M (Int×Int×M (B8×U))
abbrev ë:M PS:=[.one (.slice aMS)]
abbrev Re:Type:=M (Int×Int)
abbrev aOb:M PS:=[.agg zw,.agg zw]
abbrev aHL:Type:=B8×U×B8×U
abbrev aOc:M TA:=[.dV (.slice zw),.dV (.slice zw),.fn (.func 356) [] []]
abbrev arh:Type:=M (B8×U)×M (B8×U)
abbrev aOd:M PS:=[.one (.slice zw),.one (.slice zw)]
abbrev aHM:Type:=M (B8×U)×M (B8×U)
abbrev aOe:M PS:=[.agg Q6]
abbrev aHN:Type:=O×M (Int×Int×M (B8×U))
abbrev aOf:M PS:=[.one (.slice oq),.one (.int .i64),.one (.int .i64),.agg oq]
abbrev ari:Type:=M (Int×Int×M (B8×U))×Int×Int×Int×Int×M (B8×U)
abbrev lV:M PS:=[.agg Q6,.one (.slice [.int .u8])]
abbrev iz:Type:=O×M (Int×Int×M (B8×U))×B8
abbrev arj:M PS:=[.agg Q6,.one (.int .i64),.one (.int .i64)]
abbrev ark:Type:=O×M (Int×Int×M (B8×U))×Int×Int
abbrev Rf:M PS:=[.agg Q6,.agg aq0]
abbrev GW:Type:=O×M (Int×Int×M (B8×U))×Int×Int×Int×B8
abbrev af7:M PS:=[.one (.slice aq0)]
abbrev arl:Type:=M (Int×Int×Int×B8)
abbrev aOk:M PS:=[.agg Xd]
abbrev aHO:Type:=Int×B8×M (Int×Int×Int×B8)
abbrev Bx:M TA:=[.dV (.int .i64),.ref 50000 0,.ref 50001 0]
abbrev wJ:Type:=Int
abbrev q6q:M TB:=[.cells [.dV (.int .i64)],.cells [.nil]]
abbrev aOh:Type:=Int×Unit×Unit
abbrev q7q:M TB:=[.cells [.dV (.int .i64)],.cells [.own 50002],.row 5 [.int .u8]]
abbrev aOj:Type:=Int×Unit×B8×Unit
abbrev aOm:M TA:=[.dV (.str),.ref 50000 0]
abbrev aHP:Type:=B8
abbrev q8q:M TB:=[.cells [.own 50001],.row 5 [.int .u8]]
abbrev aOl:Type:=Unit×B8×Unit
abbrev Jl:M TA:=[.ref 50000 0]
abbrev tN:Type:=Unit
abbrev Xg:M TB:=[.cells [.dV (.slice [.int .u8]),.dV (.int .i64),.dV (.int .i64)]]
abbrev FB:Type:=(B8×Int×Int)×Unit
abbrev aOo:M TA:=[.ref 50000 0,.ref 50001 0,.ref 50002 0]
abbrev aHR:Type:=Unit
abbrev aOn:M TB:=[.cells [.dV (.int .i64)],.cells [.fn (.func 319) [] [.ref 50003 0]],.cells [.fn (.func 320) [] [.ref 50003 0]],.cells [.dV (.slice [.int .u8]),.dV (.int .i64),.dV (.int .i64)]]
abbrev aHQ:Type:=Int×Unit×Unit×(B8×Int×Int)×Unit
abbrev UO:M PS:=[.one (.slice GQ)]
abbrev Dl:Type:=M (Int×B8)
abbrev aOq:M TA:=[.ref 50000 0,.ref 50001 0,.ref 50002 0,.ref 50003 0]
abbrev aHU:Type:=Unit
abbrev aOp:M TB:=[.cells [.dV (.int .i64)],.cells [.nil],.cells [.dV (.slice [.int .u8])],.cells [.dV (.int .i64)]]
abbrev aHS:Type:=Int×Unit×B8×Int×Unit
abbrev ì:M TB:=[.cells [.dV (.slice mJ),.dV (.int .i64),.dV (.int .i64),.nil]]
abbrev KL:Type:=(M (Int×Int×B8)×Int×Int)×Unit
abbrev aES:M TB:=[.cells [.dV (.slice mJ),.dV (.int .i64),.dV (.int .i64),.own 50001],.row 81 GQ]
abbrev aHT:Type:=(M (Int×Int×B8)×Int×Int)×(M (Int×B8))×Unit
abbrev aOr:M TA:=[.ref 50000 0,.dV (.int .i64)]
abbrev aHV:Type:=Int
abbrev UP:M TB:=[.cells [.own 50001,.dV (.bool)],.row 5 [.int .u8]]
abbrev GX:Type:=Bool×B8×Unit
abbrev aOs:M TA:=[.ref 50000 0,.dV (.slice [.int .u8]),.dV (.int .i64)]
abbrev arn:Type:=B8×Int
abbrev aOt:M TA:=[.ref 50000 0,.agg [.dV (.int .i64),.dV (.str),.dV (.slice xM)]]
abbrev aHW:Type:=Int×B8×M (Int×Int×Int×B8)
abbrev aET:M TA:=[.ref 50000 0,.dV (.slice [.str])]
abbrev aro:Type:=O
abbrev aOu:M TA:=[.ref 50000 0,.agg [.dV (.int .i64),.dV (.str),.dV (.str),.dV (.str),.dV (.slice [.str]),.dV (.slice [.int .u8])]]
abbrev aHX:Type:=Int×B8×B8×B8×O×B8
abbrev MC:M PS:=[.agg wG]
abbrev arp:Type:=Int×B8×M (Int×Int×Int×B8)×M (M (Int×B8×B8×B8×O×B8))
abbrev í:M PS:=[.agg Dh]
abbrev Rg:Type:=Int×B8×M (Int×Int×Int×B8)×Int×B8×O
abbrev af8:M PS:=[.agg è]
abbrev arq:Type:=Int×B8×M (Int×Int×Int×B8)×Int×B8×M (Int×Int×Int×B8)×O
abbrev aEW:M TA:=[.dV (.slice [.int .u8]),.dV (.int .u8)]
abbrev ars:Type:=B8×UInt8
abbrev aEY:M PS:=[.one (.slice [.int .u8]),.one (.slice [.int .u8])]
abbrev aru:Type:=B8×B8
abbrev aOv:M TA:=[.dV (.str),.ref 50000 0,.ref 50001 0,.ref 50002 0]
abbrev aH0:Type:=B8
abbrev aEU:M TB:=[.cells [.dV (.slice zw)],.cells [.dV (.int .i64)],.cells [.nil]]
abbrev aHY:Type:=(M (B8×U))×Int×Unit×Unit
abbrev aEV:M TB:=[.cells [.dV (.slice zw)],.cells [.dV (.int .i64)],.cells [.own 50003],.row 115 ue]
abbrev aHZ:Type:=(M (B8×U))×Int×Unit×(M (Int×B8×B8×B8×O×B8))×Unit
abbrev aEZ:M TA:=[.dV (.slice zw),.ref 50000 0,.ref 50001 0]
abbrev arv:Type:=M (B8×U)
abbrev aEX:M TB:=[.cells [.dV (.int .i64)],.cells [.dV (.slice [.str])]]
abbrev art:Type:=Int×O×Unit
abbrev arw:M PS:=[.agg Q6,.one (.slice GQ)]
abbrev aaO:Type:=O×M (Int×Int×M (B8×U))×M (Int×B8)
abbrev aE0:M PS:=[.agg Q6,.one (.int .i64)]
abbrev arx:Type:=O×M (Int×Int×M (B8×U))×Int
abbrev aE1:M PS:=[.agg Q6,.agg Q6]
abbrev ary:Type:=O×M (Int×Int×M (B8×U))×O×M (Int×Int×M (B8×U))
abbrev aE2:M PS:=[.one (.int .i64),.one (.int .i64)]
abbrev arz:Type:=Int×Int
abbrev aOw:M PS:=[.one (.str),.one (.int .i64),.one (.int .i64),.one (.slice [.str])]
abbrev arA:Type:=B8×Int×Int×O
abbrev aOx:M PS:=[.one (.int .i64),.one (.bool),.one (.bool)]
abbrev aH1:Type:=Int×Bool×Bool
abbrev Rh:M TA:=[.dV (.slice [.int .i64]),.dV (.slice [.int .i64]),.fn (.func 243) [] []]
abbrev Xh:Type:=U×U
abbrev aOz:M TA:=[.dV (.slice [.int .i64]),.dV (.slice [.int .i64]),.fn (.func 244) [] []]
abbrev arB:Type:=U×U
abbrev aE6:M TA:=[.dV (.slice [.int .i64]),.dV (.slice [.int .i64]),.fn (.func 245) [] []]
abbrev arC:Type:=U×U
abbrev aOA:M PS:=[.one (.slice [.str]),.one (.str)]
abbrev aH6:Type:=O×B8
abbrev aOB:M PS:=[.one (.str),.var [.slice [.str]],.var [.slice wH]]
abbrev aH7:Type:=B8×O×M U
abbrev aOC:M TA:=[.dV (.str),.ref 50000 0,.ref 50001 0]
abbrev aH8:Type:=B8
abbrev aE3:M TB:=[.cells [.own 50002],.cells [.fn (.func 130) [] []],.row 36 wH]
abbrev aH2:Type:=Unit×Unit×(M U)×Unit
abbrev aE4:M TB:=[.cells [.own 50002],.cells [.fn (.func 131) [] []],.row 36 wH]
abbrev aH3:Type:=Unit×Unit×(M U)×Unit
abbrev aE5:M TB:=[.cells [.own 50002],.cells [.fn (.func 132) [] []],.row 36 wH]
abbrev aH4:Type:=Unit×Unit×(M U)×Unit
abbrev aOy:M TB:=[.cells [.own 50002],.cells [.fn (.func 126) [] [.var [.slice [.str]],.var [.slice wH]],.fn (.func 130) [] [],.fn (.func 131) [] [],.fn (.func 132) [] []],.row 36 wH]
abbrev aH5:Type:=Unit×(O×M U)×(M U)×Unit
abbrev aOD:M TA:=[.dV (.slice GQ),.agg [.fn (.func 126) [] [.var [.slice [.str]],.var [.slice wH]],.fn (.func 130) [] [],.fn (.func 131) [] [],.fn (.func 132) [] []]]
abbrev arD:Type:=M (Int×B8)×O×M U
abbrev aOE:M PS:=[.one (.slice GQ),.one (.slice wH)]
abbrev aH9:Type:=M (Int×B8)×M U
abbrev aOF:M PS:=[.agg ue,.var [.str],.var [.int .i64]]
abbrev aIa:Type:=Int×B8×B8×B8×O×B8×B8×Int
abbrev aOG:M PS:=[.agg ue,.var [.str]]
abbrev aIb:Type:=Int×B8×B8×B8×O×B8×B8
abbrev aE7:M TA:=[.dV (.str),.agg [.dV (.int .i64),.dV (.str),.dV (.str),.dV (.str),.dV (.slice [.str]),.dV (.slice [.int .u8])]]
abbrev arE:Type:=B8×Int×B8×B8×B8×O×B8
abbrev aOH:M PS:=[.one (.str),.one (.int .i64),.one (.str),.agg ue]
abbrev aIc:Type:=B8×Int×B8×Int×B8×B8×B8×O×B8
abbrev î:M PS:=[.one (.int .i64),.one (.int .i64),.one (.str),.one (.str),.one (.slice [.str])]
abbrev aaP:Type:=Int×Int×B8×B8×O
abbrev aE8:M PS:=[.var Xd,.var [.str]]
abbrev aId:Type:=Int×B8×M (Int×Int×Int×B8)×B8
abbrev aOI:M PS:=[.agg Xd,.one (.str)]
abbrev arF:Type:=Int×B8×M (Int×Int×Int×B8)×B8
abbrev aOJ:M PS:=[.var wG,.var [.int .i64],.var [.slice [.str]]]
abbrev aIe:Type:=Int×B8×M (Int×Int×Int×B8)×M (M (Int×B8×B8×B8×O×B8))×Int×O
abbrev aOK:M PS:=[.var Dh,.var [.int .i64]]
abbrev aIf:Type:=Int×B8×M (Int×Int×Int×B8)×Int×B8×O×Int
abbrev aE9:M PS:=[.one (.str),.one (.int .i64),.one (.slice [.int .u8])]
abbrev arG:Type:=B8×Int×B8
abbrev aOL:M TA:=[.var xM,.var [.str],.var wG,.var [.int .i64],.var [.int .i64],.ref 50000 0]
abbrev aIg:Type:=Int×Int×Int×B8×B8×Int×B8×M (Int×Int×Int×B8)×M (M (Int×B8×B8×B8×O×B8))×Int×Int
abbrev ï:M TB:=[.cells [.own 50001],.eG 36 50002,.row 3 [.int .i64]]
abbrev aaQ:Type:=Unit×(M Value×Nat)×U×Unit
abbrev arH:M PS:=[.var xM,.var [.str],.var wG,.var [.int .i64],.var [.int .i64]]
abbrev aaR:Type:=Int×Int×Int×B8×B8×Int×B8×M (Int×Int×Int×B8)×M (M (Int×B8×B8×B8×O×B8))×Int×Int
abbrev aFa:M PS:=[.one (.str),.one (.slice GQ),.one (.slice [.int .u8])]
abbrev arI:Type:=B8×M (Int×B8)×B8
abbrev aOM:M TA:=[.var è,.ref 50000 0]
abbrev aIh:Type:=Int×B8×M (Int×Int×Int×B8)×Int×B8×M (Int×Int×Int×B8)×O
abbrev aYh:M TB:=[.cells [.dV (.str)]]
abbrev aZj:Type:=B8×Unit
abbrev ð:M PS:=[.var è]
abbrev arJ:Type:=Int×B8×M (Int×Int×Int×B8)×Int×B8×M (Int×Int×Int×B8)×O
abbrev aON:M PS:=[.one (.str),.one (.slice [.int .u8])]
abbrev aIi:Type:=B8×B8
abbrev aFb:M PS:=[.agg oY]
abbrev arK:Type:=B8×B8
abbrev arL:M PS:=[.var oX,.var oX]
abbrev af9:Type:=B8×B8
abbrev aZk:M PS:=[.one (.slice oX),.one (.int .i64),.one (.slice [.int .u8]),.one (.slice [.str])]
abbrev aXc:Type:=O×Int×B8×O
abbrev aZl:M PS:=[.one (.slice zw),.one (.str),.agg ue]
abbrev aXd:Type:=M (B8×U)×B8×Int×B8×B8×B8×O×B8
abbrev aZm:M PS:=[.agg [.int .i64,.str,.slice xM,.slice oX,.slice oq]]
abbrev aXe:Type:=Int×B8×M (Int×Int×Int×B8)×O×M (Int×Int×M (B8×U))
abbrev aP6:M PS:=[.agg [.int .i64,.str,.slice xM,.slice oX,.slice oq,.slice [.str],.slice [.slice ue]]]
abbrev aQS:Type:=Int×B8×M (Int×Int×Int×B8)×O×M (Int×Int×M (B8×U))×O×M (M (Int×B8×B8×B8×O×B8))
abbrev aTl:M PS:=[.agg [.int .i64,.str,.slice xM,.slice oX,.slice oq,.int .i64,.slice [.int .u8],.slice [.str]]]
abbrev aUk:Type:=Int×B8×M (Int×Int×Int×B8)×O×M (Int×Int×M (B8×U))×Int×B8×O
abbrev aWb:M PS:=[.agg Q6,.one (.slice GQ),.one (.slice [.int .u8])]
abbrev aXf:Type:=O×M (Int×Int×M (B8×U))×M (Int×B8)×B8
abbrev aWc:M PS:=[.agg Q6,.one (.int .i64),.one (.slice [.int .u8])]
abbrev aXg:Type:=O×M (Int×Int×M (B8×U))×Int×B8
abbrev aWd:M PS:=[.var [.slice oX],.var [.int .i64],.var [.slice oX],.var [.slice [.str]],.var [.slice [.str]]]
abbrev aUl:Type:=O×Int×O×O×O
abbrev aWe:M PS:=[.one (.slice oX),.one (.slice oX),.one (.slice [.str]),.one (.slice [.str])]
abbrev aXh:Type:=O×O×O×O
abbrev aMT:M PS:=[.one (.slice oX),.one (.slice oX)]
abbrev aUm:Type:=O×O
abbrev a5G:M PS:=[.var [.slice oX],.var [.int .i64],.var [.int .i64],.var [.slice oX]]
abbrev a6Y:Type:=O×Int×Int×O
abbrev a5H:M PS:=[.one (.slice oX),.one (.slice oX),.one (.int .i64),.one (.int .i64)]
abbrev a6Z:Type:=O×O×Int×Int
abbrev a5I:M PS:=[.one (.slice oX),.one (.slice oX),.one (.slice [.str])]
abbrev a3h:Type:=O×O×O
abbrev a5J:M PS:=[.agg [.int .i64,.str,.slice xM,.slice oX,.slice oq,.int .i64,.str,.slice xM,.slice oX,.slice oq,.slice [.str]]]
abbrev a61:Type:=Int×B8×M (Int×Int×Int×B8)×O×M (Int×Int×M (B8×U))×Int×B8×M (Int×Int×Int×B8)×O×M (Int×Int×M (B8×U))×O
abbrev a5K:M PS:=[.agg Q6,.agg Q6,.one (.slice [.int .u8])]
abbrev a62:Type:=O×M (Int×Int×M (B8×U))×O×M (Int×Int×M (B8×U))×B8
abbrev a1j:M PS:=[.one (.slice aq0),.one (.slice aq0),.one (.slice GQ),.one (.int .i64)]
abbrev a3i:Type:=M (Int×Int×Int×B8)×M (Int×Int×Int×B8)×M (Int×B8)×Int
end Go.J
namespace Go
open List (length getD take drop replicate)
open Int (toNat)
def q0(a:Int×Int×B8)(b:S.El)(c:Prop):Prop:=a.1=b.1/\a.2.1=b.2.1/\a.2.2=b.2.2/\c
def q2(a:Int×Int)(b:S.Rs):Prop:=a.1=b.1/\a.2=b.2
def q4(a b:S.Hd)(c:Prop):Prop:=a.1=b.1/\a.2.1=b.2.1/\a.2.2=b.2.2/\c
def q7(a b:Int×Int):Prop:=a.1=b.1/\a.2=b.2
def q11(a b:S.Cl):Prop:=a.1.1=b.1.1/\a.1.2=b.1.2/\a.2=b.2
def q18(a:S.Rd×B8)(b:B8)(c d:Int)(e:B8):Prop:=b=a.1.1/\c=a.1.2.1/\d=a.1.2.2/\e=a.2
def q32(a:(Int×Int×M S.bw)×Int)(b c:Int)(d:M S.bw)(e:Int):Prop:=b=a.1.1/\c=a.1.2.1/\d=a.1.2.2/\e=a.2
def ò(a:(O×M S.aB)×Int)(b:O)(c:M S.aB)(d:Int):Prop:=b=a.1.1/\c=a.1.2/\d=a.2
def q42(a:U×U×U)(b c d:U):Prop:=b=a.1/\c=a.2.1/\d=a.2.2
def q43(a b:B8×Int):Prop:=a.1=b.1/\a.2=b.2
def q44(a:(Int×B8×M S.Sg×M (M S.Pf))×Int)(b:Int)(c:B8)(d:M S.Sg)(e:M (M S.Pf))(f:Int):Prop:=b=a.1.1/\c=a.1.2.1/\d=a.1.2.2.1/\e=a.1.2.2.2/\f=a.2
def q45(a b:S.Rs)(c:Prop):Prop:=a.1=b.1/\a.2=b.2/\c
def q46(a:(Int×B8×M S.Sg×Int×B8×O)×Int)(b:Int)(c:B8)(d:M S.Sg)(e:Int)(f:B8)(g:O)(h:Int):Prop:=b=a.1.1/\c=a.1.2.1/\d=a.1.2.2.1/\e=a.1.2.2.2.1/\f=a.1.2.2.2.2.1/\g=a.1.2.2.2.2.2/\h=a.2
def q47(a:(Int×B8×M S.Sg×Int×B8×M S.Sg×O)×Int)(b:Int)(c:B8)(d:M S.Sg)(e:Int)(f:B8)(g:M S.Sg)(h:O)(i:Int):Prop:=b=a.1.1/\c=a.1.2.1/\d=a.1.2.2.1/\e=a.1.2.2.2.1/\f=a.1.2.2.2.2.1/\g=a.1.2.2.2.2.2.1/\h=a.1.2.2.2.2.2.2/\i=a.2
def a2n(a b:S.H8)(c:Prop):Prop:=a.1=b.1/\a.2.1=b.2.1/\a.2.2.1=b.2.2.1/\a.2.2.2.1=b.2.2.2.1/\c
def a02(a:S.H8):=a.2.2.2.2.2.2.2
def a03(a:S.H8):=a.2.2.2.2.2.2.1
def q56(a b:S.H8)(c:Prop):Prop:=a2n a b (a.2.2.2.2.1=b.2.2.2.2.1/\a.2.2.2.2.2.1=b.2.2.2.2.2.1/\a03 a=a03 b/\a02 a=a02 b/\c)
def q57(a:S.H8)(b c d e f g h i:Int):Prop:=b=a.1/\c=a.2.1/\d=a.2.2.1/\e=a.2.2.2.1/\f=a.2.2.2.2.1/\g=a.2.2.2.2.2.1/\h=a03 a/\i=a02 a
def q60(a b:S.H8):Prop:=a2n a b (a.2.2.2.2.1=b.2.2.2.2.1/\a.2.2.2.2.2.1=b.2.2.2.2.2.1/\a03 a=a03 b/\a02 a=a02 b)
def q72(a b:Int):=Bool.not (decide (a=b))
def cE(a:Nat):Prop:=a<=140737488355328
def q76(a:Bool)(b c:Prop):Prop:=(a->b)/\(a=false->c)
def mB(a:O):Int:=a.length
def q81(a b:Bool):=bif a then true else b
def jz(a b c:Int):Prop:=a<=b/\b<c
def mC(a:Int):Prop:=-9223372036854775808<=a/\a<=9223372036854775807
def q85(a:Bool)(b c d:Prop):Prop:=q76 a b (c/\d)
def wK(a:B8):Prop:=cE a.length
def fU(a b:Bool):=bif a then b else false
def cV(a:Prop):Prop:=True/\a
def q98(a b c:Nat):Prop:=S.af a b<S.af a c
def q99(a:B8):Int:=a.length
def eN(a:Bool)(b c d e:Prop):Prop:=q85 a b c (d/\e)
def fK(a:U):Int:=a.length
def yb(a:O)(b:Nat):=getD a b []
def bY(a:B8):Prop:=a.length<=35184372088832
def ap2(a:O)(b:Int):=yb a (toNat b)
def anS(a:Bool)(b:Prop):Prop:=q76 a b True
def a0s(a:UInt8):Int:=UInt8.toNat a
def arQ(a b:Int)(c:Bool):=q81 (decide (a<b)) c
def FC:=Prod B8 U
def anG(a:Bool)(b c:Prop)(d:Bool)(e f:Prop):Prop:=q85 a b c (q85 d b e f)
def aVo(a:S.Cl):Prop:=[]=a.1.1/\[]=a.1.2/\false=a.2
def lJ(a:Int):=UInt8.ofNat (toNat a)
def aUQ:=Vg.pV UInt8
def aMG(a:Nat):Prop:=a<=8796093022208
def Jo(a:Int):=140737488355328/a
def aVj(a:B8×Int)(b:Int):Prop:=[]=a.1/\b=a.2
def gg(a:M (B8×U)):Int:=a.length
def aVL(a b c:Int)(d e:Nat)(f:Prop):Prop:=mC a/\jz b a c/\d<e/\f
def aVp(a:Bool)(b:Prop)(c d:Int)(e:Prop):Prop:=q85 a b (mC (c+d)) e
def aHz(a:Nat):Prop:=a<=5864062014805
def aPv(a b:Bool):=q81 a (Bool.not b)
def aST(a b:Prop):Prop:=cV (a/\b)
def arR(a:UInt8):=(S.aQw (Vg.pV B8) (Vg.pV (Prod Int (Prod Int (M FC)))) [104,a,121]).1
def aVe(a:Bool):Prop:=(a->True)/\(a=false->True)
def nD(a:U×Int)(b:Int):Prop:=[]=a.1/\b=a.2
def aWT(a:Bool)(b c:B8):=fU a (decide (b=c))
def ME(a:Nat):Prop:=a<1099511627776
def qh(a b:Int)(c:Bool):=fU (decide (a<=b)) c
def aUT(a:Int)(b:Nat)(c d:Prop)(e f:Nat):Prop:=(a=b/\c)/\d/\S.af e b<f
def xQ(a:B8)(b:S.Wp):=a++S.bytesOf b
def gJ(a:Int):=a%18446744073709551616
def Dm(a:UInt8):=(S.bS (arR a).1 (arR a).2).1
def aVq(a:Bool)(b c:Prop):Prop:=q85 a b True c
def aWr(a b c:Int)(d:Bool)(e:Prop)(f:Int)(g:Prop):Prop:=jz a b c/\aVp d e b f g
def aVz(a:Bool)(b:Int)(c:U):=bif a then drop (toNat b) c else c
def aPz(a b:Nat)(c d:Prop)(e:Nat):Prop:=((a:Int)+1=b/\c)/\d/\q98 e b a
def aI5(a:Int):=Bool.not (decide (a=a))
def FF(a b c d:Int):Prop:=a<=b/\b<=c/\c<=d
def aZb:Prop:=true=true
def MH(a b c d:Int)(e:Prop):Prop:=jz a b c/\jz a d c/\e
def Rk(a:Bool)(b c d e f:Prop):Prop:=eN a b c d (e/\f)
def aWU(a b:Int):Prop:=S.ux a (-b)
def US(a:M Vg.CF):Prop:=(Vg.aE.first a).1
def qi(a:B8):Prop:=a.length<=1099511627776
def aV4(a:Bool)(b:Prop):Prop:=q76 a True b
def aQ8(a:U):=Bool.not (S.aV a)
def Rl(a b c:Int):=arQ a b (decide (c<=a))
def a0t(a b:Nat)(c:Prop)(d:Nat):Prop:=aPz a b c (S.cC b d) d
def aWV(a:M U)(b:Nat):=getD a b []
def anP(a:Int):=q72 a 0
def aLW(a b:Int):Prop:=toNat a<toNat b
def UT(a:Bool)(b c:Prop):Prop:=cV (q76 a b c)
def aYD(a b:Prop):Prop:=(a->False)/\b
def aZe:=fK S.sF
def Jq(a:B8)(b:Prop):Prop:=S.az a/\b
def aub(a b c:Int):=qh a b (decide (b<=c))
def aTm(a:B8)(b:Int)(c:UInt8):=a0s (getD a (toNat b) c)
def a1T(a b c:Int):=arQ a b (decide (c<a))
def mZ(a:Prop)(b:Bool)(c d e:Int)(f g h:Prop):Prop:=a->q76 b (jz c d e/\f/\g) h
def Bz(a:M (B8×U))(b:Int):=getD a (toNat b) ([],[])
def õ(a b:Int)(c d:O)(e:Prop):Prop:=(a<=b/\b<=mB c)/\(a<=b/\b<=mB d)/\e
def Rm(a b:Int):=(a+b)%4294967296
def alU(a:Int):=decide (a=0)
def aVk(a b:Nat)(c:Prop)(d:Nat):Prop:=(a:Int)+1=b/\c/\q98 d b a
def Rn(a:Bool)(b:Int)(c:Bool)(d e:Int):=bif a then b else bif c then d else e
def aSV(a:M Vg.CF):=(Vg.aE.first a).2.2
def aW6(a:Int×Int)(b:Int):Prop:=65533=a.1/\b=a.2
def aRi:Prop:=[]=S.jK
def dz(a b:Int)(c d:Nat)(e:Prop):Prop:=jz a b c/\d<c/\e
def ö(a b:B8):=Bool.not (decide (a=b))
def aYE(a b:B8):Prop:=cE (a.length+b.length)
def aYF(a b:Prop):Prop:=cV (aST a b)
def aYG(a b:U):Prop:=a.length+b.length<=17592186044416
def a3j(a:B8):Prop:=a.length<=17592186044416
def a1U(a:Int)(b:U):=a::a::a::a::a::a::a::a::a::a::a::a::a::a::a::a::b
def aZf(a b:O):Prop:=aMG (a.length+b.length)
def a3k(a b:B8):=Op.bytesLess a b||decide (a=b)
def aRM(a b:Int)(c:Prop):Prop:=(0<=a/\a<=b)/\c
def Ju(a b c:Int):Prop:=a<=b/\b<=b/\b<=Jo c
def gW(a b c:Int):Prop:=(a<=a/\a<b)/\a<=c/\c<=b
def an7(a:B8×B8)(b:S.Cl):=Vg.AV.bk [Vg.AV.agg [Vg.AV.sl [Vg.Ty.int IntKind.u8] a.1,Vg.AV.sl [Vg.Ty.int IntKind.u8] a.2],Vg.AV.bool b.2]
def aZg(a:Int):=lJ (a%256)
def aZ2(a:Int)(b:B8):=decide (a<q99 b)
def anl(a b:Bool)(c d:Int):=fU a (q81 b (decide (c<=d)))
def aSi(a b:Int)(c:Prop):Prop:=jz 0 a b/\c
def a0u(a:Int)(b:UInt8):=replicate (toNat a) b
def Jw(a:Bool)(b c d:Int):Prop:=eN a True (b<=b/\b<c) (b<=b) (b<d)
def a0v(a:Int):Prop:=a=a/\S.jK=S.jK
def aVf(a b:Int)(c:B8):=drop (toNat a) (take (toNat b) c)
def aZ3(a:Int):=Bool.not (S.cA a)
def baI(a:Int)(b:Nat)(c:Int)(d:M (Int×B8))(e:Int)(f g:Nat):Prop:=aUT (a+1) b (c=S.c9 d b/\e=S.nW d b) (S.ja d b) f g
def a04(a:B8)(b:Nat):Prop:=cE (a.length+b)
def a1V(a:M Vg.CF):=(Vg.aE.first a).2.1
def aSn(a b:Int):=a/2^toNat b
def aZh(a b:Nat):Prop:=a+b<=3518437208883
def aWa(a:B8):=q72 (q99 a) 32
def a1W(a:O)(b:UInt8)(c:Nat)(d:B8):Prop:=S.oS a/\S.gQ b a=S.bB c d
def a3l(a:B8×Int)(b:B8×Bool):Prop:=S.Fv b=a.1/\S.Fw b=a.2
def a3m(a:Int):=getD S.sF (toNat a) a
def a1X(a:M Vg.CF):Prop:=Nat.succ (Vg.aE.len a)<=17592186044416
def aVg(a:Int)(b:Prop):Prop:=mC (a+1)/\b
def aW9(a:Int):Prop:=0<=a/\a<=64
def a1Y(a b c:Int):=a*b^toNat c%4294967296
def a1Z(a b c d:Int):=Vg.e9 (Vg.e9 (S.rotl a (-b)) (S.rotl a (-c))) d
def a10(a:Bool)(b c d e f g h i:Int):=(bif a then 1779033703 else b,bif a then 3144134277 else c,bif a then 1013904242 else d,bif a then 2773480762 else e,bif a then 1359893119 else f,bif a then 2600822924 else g,bif a then 528734635 else h,bif a then 1541459225 else i)
def a3n(a b c d:Int)(e f g:Nat)(h i:M U)(j:Int):Prop:=mC a/\mC b/\aRM b c (aVL b d c e f (jz d a c/\g<f/\aST (aHz (e+h.length)) (take e i++h=S.tI j i)))
def a0w(a:Int):=lJ (a0s (S.more a))
def a3o(a b:Int):=lJ (Vg.cv a (b%256))
def a3p(a:U×U×U)(b c:U)(d:S.Kp):Prop:=q42 a (bif aQ8 b then [] else b) (bif aQ8 c then [] else c) []/\S.mG d b c a
def aRO(a:Int):=decide (0<a)
def aWs:Prop:=(0:Int)=0
def aZH:=(Dm 97).2
def aZI:=(Dm 97).1
def aU6:Int:=((8:Nat):Int)
def a2o(a b c:Int):=bif fU (alU a) (q72 (S.BK S.kE b).1 (-c)) then c else a
def a1k:=(S.rF (Dm 97).1 (Dm 97).2 S.jK).1
def aXa:Int:=((64:Nat):Int)
def a2p:=S.fJ (S.fk aZI aZH).1 S.jK a1k
def a2q:Prop:=ME a1k.length/\S.dq S.jK
def aYM:Int×Int×Int×Int×Int×Int×Int×Int:=(1779033703,3144134277,1013904242,2773480762,1359893119,2600822924,528734635,1541459225)
def aTR(a:U)(b:Nat):=getD a b 0
def aYN(a:B8×Int×Int)(b:Int):Prop:=[]=a.1/\0=a.2.1/\b=a.2.2
def aZJ(a:Int):=decide (a=1)
def aXb(a:Int):=decide (1<a)
def pM(a:O)(b:S.Qi)(c:M S.aB):Prop:=a=b.1/\c=b.2
def aZK:Int:=((1:Nat):Int)
def aZL(a:S.Hd×Int)(b:Int):Prop:=0=a.1.1/\[]=a.1.2.1/\[]=a.1.2.2/\b=a.2
def aVC(a:U)(b:Int):=getD a (toNat b) 0
def a0x(a:B8)(b c:Int)(d:Nat):=S.aF a (S.iw a b c d).1.1 (S.iw a b c d).1.2
def KP(a:B8)(b c:Int):=S.lI a (S.ag a b c).1.2.1 (S.ag a b c).1.2.2
def aZM(a:B8)(b c:Int):=S.aur a (KP a b c).1.1 (KP a b c).1.2
def a1l(a:M (Int×Int×M (B8×U)))(b:O)(c:M (M (Int×B8×B8×B8×O×B8)))(d:Nat)(e:Nat×Nat):=S.fv (getD a (toNat d) (0,0,[])).2.2 (yb b (toNat e.1)) (getD (getD c (toNat d) []) (toNat e.1) (0,[],[],[],[],[]))
def aVb(a b:O):Int:=length (S.aFO (mB a) (mB b))
def aWi(a b:O)(c:Nat):=toNat (aVb a b-1-c)
def a1m(a b c:O)(d:Nat):=Vg.aE.put (S.an3 a b c d) (aWi a b d) True (an7 S.ix.1 S.ix)
def aYO(a b:O)(c:Nat):=getD (S.aFO (mB a) (mB b)) (toNat c) (0,0,0,0,false)
def aVM(a b:O):=S.aFP (mB a) (mB b)
def aU1(a b:O)(c:Nat):=getD (S.aFO (mB a) (mB b)) (aWi a b c) (0,0,0,0,false)
def aU2(a b c:O):=bif aRO (aVM a b) then drop (toNat 1) c else c
def aXi(a b:O)(c:Nat):=drop (toNat (aU1 a b c).1) (take (toNat ((aU1 a b c).1+(aU1 a b c).2.2.1)) (S.leaves b))
def aWw(a b:O):=S.auw (S.ajL a (aVM a b) (mB a)) (S.ajL b (aVM a b) (mB a))
def a0y(a b:O)(c:Nat):=(aYO a b c).1+(aYO a b c).2.2.2.1
def a0z(a b:O)(c:Nat):=drop (toNat (aU1 a b c).1) (take (toNat ((aU1 a b c).1+(aU1 a b c).2.1)) (S.leaves a))
def aWx(a b c:O):=S.len (S.ccP a b c)
def a2r(a b:O)(c:Nat):=S.auw (S.ajL a (aYO a b c).1 (a0y a b c)) (S.ajL b (aYO a b c).1 (a0y a b c))
def aWj(a:O)(b:Nat):=toNat (mB a-1-b)
def aZN(a:B8)(b:Int)(c d:O)(e:O×M Bool×O×Int)(f:Nat):=bif getD e.2.1 (aWj d f) false then S.cL (S.leaf a) b (S.len c) d f else ap2 d f
def aVs(a:O×M Bool×O×Int):=S.split (mB a.2.2.1)
def aZO(a:B8)(b:Int)(c d:O)(e:O×M Bool×O×Int)(f:Nat):=bif getD e.2.1 (aWj d f) false then ap2 d f else S.cL (S.leaf a) b (S.len c) d f
def a0A(a:B8)(b:Int)(c d:O)(e:Nat):=Vg.aE.first (Vg.aE.put (S.rG c b a d e) (toNat (mB d)) (S.iy (S.bB 0 a) (S.bB 0 (ap2 c b))) (an7 (S.bt (S.bB 0 a) (S.bB 0 (ap2 c b))).1 (S.bt (S.bB 0 a) (S.bB 0 (ap2 c b)))))
def aVO(a:M (Int×Int×Int×Int×Bool)×Int×Int×Int):=S.split a.2.2.2
def aYP(a:M (Int×Int×Int×Int×Bool)×Int×Int×Int):=decide (aVO a<a.2.2.1)
def a0B(a:O):=toNat (S.split (mB a))
def a2s(a:O):=S.kI (take (a0B a) a)++S.kI (drop (a0B a) a)
def aQa(a:O):=S.split (mB a)
def aWy(a b:O):=S.akf (S.dpI a (aQa a)) (S.dpI b (aQa a))
def aWz(a:O):=toNat (aQa a)
def aWA(a b:O):=S.akf (S.tkI a (aQa a)) (S.tkI b (aQa a))
def aWB(a b:O):=S.bt (S.wE a) (S.wE b)
def aZP(a:B8):=(S.Ě a).1.2.2.2.2
def aZQ(a:B8):=S.qV (S.Ě a).1.2.2.2.1 (aZP a).1 (aZP a).2.1
def a1n(a b:B8):=S.EH (S.Ě a).1.1 (S.Ě a).1.2.1 (S.Ě a).1.2.2.1 b
def a1o(a:B8):=alU (S.J7 (S.Ě a).1.1 (S.Ě a).1.2.2.2.1 (S.Ě a).1.2.1 (aZP a).1 (aZP a).2.2)
def a2t(a b:B8):Int:=bif fU (a1n a b) (fU (a1o a) (q81 (alU (aZQ a).2) false)) then 0 else 6
def aVD(a:B8):=(S.aI a).1.2.2.1
def aWm(a:B8):=(S.aI a).1.2.2.2
def aXj(a:B8):=(S.aI a).1.2.1
def a1p(a:B8)(b:M (Int×B8))(c:B8)(d:Nat):=S.conds 36 3 c (S.aI a).1.1 (aXj a) (aVD a) (aWm a) (S.al b) d
def aZR(a:B8)(b:M (Int×B8))(c:B8)(d:Nat):=Vg.aE.run (a1p a b c d) (Vg.Z.g 36 3 (Vg.aE.L9 (toNat (mB (S.al b)))))
def a1q(a:B8)(b:M (Int×B8))(c:B8)(d:Nat×Nat):=S.ra 36 3 c (S.aI a).1.1 (aXj a) (aVD a) (aWm a) (S.al b) d.1 d.2
def a0C(a:B8)(b:Nat):=getD (aVD a) (toNat b) (0,0,0,[])
def aWC(a:M (M (Int×B8×B8×B8×O×B8)))(b c:Int):=getD (getD a (toNat b) []) (toNat c) (0,[],[],[],[],[])
def a0D(a:M (M (Int×B8×B8×B8×O×B8)))(b:Int)(c:B8)(d e:Int)(f:B8):=S.jr c b f ((aWC a d e).1,(aWC a d e).2.1,(aWC a d e).2.2.1,(aWC a d e).2.2.2.1,(aWC a d e).2.2.2.2.1,(aWC a d e).2.2.2.2.2)
def aWD(a:M (M (Int×B8×B8×B8×O×B8)))(b c:Int):=getD (getD a (toNat b) []) (toNat c) (0,[],[],[],[],[])
def aZS(a:M (M (Int×B8×B8×B8×O×B8)))(b:Int)(c:B8)(d e:Int)(f:B8):=S.jr c b f ((aWD a d e).1,(aWD a d e).2.1,(aWD a d e).2.2.1,(aWD a d e).2.2.2.1,(aWD a d e).2.2.2.2.1,(aWD a d e).2.2.2.2.2)
def aWn(a:B8):=(S.bx a).1.2
def aXk(a:B8):=(aWn a).2.2.2
def aTq(a:B8)(b:Int)(c:B8):Int:=bif fU (S.EH (S.bx a).1.1 (aWn a).1 (aWn a).2.1 c) (fU (decide ((aWn a).2.2.1=b)) (q81 (S.Ky (S.bx a).1.1 (aWn a).1 (aXk a).1 (aXk a).2 b) false)) then 0 else 6
def a1r(a:B8)(b:Int)(c:Nat):=Vg.aT (aTm a (b+c) 0) 127*2^toNat (7*c)
def a0F(a:B8)(b:Int)(c:Nat):=Vg.cv (S.gP a b c) (a1r a b c)
def aZT(a:B8)(b:Int):=(S.aQ a b).2.1+(S.aQ a b).1
def aZU(a:O):=drop (toNat 1) a
def aVt(a:O):=S.split (mB a)
def aXl(a:O):=drop (toNat (aVt a)) a
def aX7(a:O):=take (toNat (aVt a)) a
def aVE(a:M (B8×U)):=a.length
def a2u(a:M (B8×U))(b:Nat):=[S.dw (bif decide ((b:Int)<aVE a) then bif aRO b then(Bz a (b-1)).1 else [] else bif aRO b then(Bz a (b-1)).1 else []) (bif decide ((b:Int)<aVE a) then(Bz a b).1 else bif aRO b then [] else []) (S.vY (bif aRO b then(Bz a (b-1)).2 else []))]
def aZV(a:B8):=S.ao (S.ao a 0 0 64).1.1 (S.ao a 0 0 64).1.2.1 (S.ao a 0 0 64).1.2.2 64
def aX8(a:B8):=S.aF (aZV a).1.1 (aZV a).1.2.1 (aZV a).1.2.2
def aVl(a:M (Int×B8))(b:Nat):=getD a (toNat b) (0,[])
def aVu(a:M U)(b:M (Int×B8))(c:O)(d:Nat):=S.jU (S.od c a) b d
def aWE(a:M U):=a.length
def aWF(a:M U):=a.length
def aWG(a:M U):=a.length
def aX9(a:B8):=(S.Ě a).1
def a9a(a:B8)(b:O)(c:M (Int×Int×M (B8×U))):=S.sI (aX9 a).1 (aX9 a).2.1 (aX9 a).2.2.1 b c
def aYk(a:B8):=(aX9 a).2.2.2
def a9b(a:B8)(b:O)(c:M (Int×Int×M (B8×U))):=S.sI (aYk a).1 (aYk a).2.1 (aYk a).2.2.1 b c
def a9c(a:B8)(b:O)(c:M (Int×Int×M (B8×U)))(d:O)(e:M (Int×Int×M (B8×U))):=S.at6 (aX9 a).1 (aX9 a).2.1 (aX9 a).2.2.1 b c (aYk a).1 (aYk a).2.1 (aYk a).2.2.1 d e (aYk a).2.2.2
def aS3(a:B8):=(S.aI a).1
def aWH(a:B8)(b:M (Int×B8))(c:O)(d:M (Int×Int×M (B8×U))):=S.lf (aS3 a).1 (aS3 a).2.1 (aS3 a).2.2.1 c d (S.al b) (aS3 a).2.2.2
def aWI(a:B8)(b:O)(c:M (Int×Int×M (B8×U))):=S.sI (aS3 a).1 (aS3 a).2.1 (aS3 a).2.2.1 b c
def aZW(a:B8):=(S.bx a).1.2.2.2.2.1
def aWJ(a:B8)(b:O)(c:M (Int×Int×M (B8×U))):=S.sI (S.bx a).1.1 (S.bx a).1.2.1 (S.bx a).1.2.2.1 b c
def aZX(a:B8):=(S.bx a).1.2.2.2.2.2
def aWK(a:B8)(b:Int)(c:O)(d:M (Int×Int×M (B8×U))):=S.QV (S.bx a).1.1 (S.bx a).1.2.1 (S.bx a).1.2.2.1 c d b (aZW a) (aZX a)
def aVm(a:B8):=(S.iA a).1
def a1s(a:B8):=S.aF a (S.ag a 0 0).1.2.1 (S.ag a 0 0).1.2.2
def a0G(a:B8):=S.ag a (a1s a).1.2.1 (a1s a).1.2.2
def aYQ(a:B8)(b:Nat):=S.wj a (S.jP a b).1.1 (S.jP a b).1.2 (S.jP a b).2.1
def a2v(a:B8)(b:Nat):=[((S.jP a b).2.1,(aYQ a b).2.2.1,(aYQ a b).2.2.2.1,(aYQ a b).2.2.2.2)]
def aZY(a:B8)(b c:Int):=S.ag a (S.ag a b c).1.2.1 (S.ag a b c).1.2.2
def Rt(a:M (Int×Int×Int×B8))(b:Nat):=(getD a (toNat b) (0,0,0,[])).2
def KQ(a:Int):=Vg.aT (gJ a) 31
def Xi(a:M (Int×Int×M (B8×U)))(b:Nat):=getD a (toNat b) (0,0,[])
def Ru(a:M (Int×Int×M (B8×U)))(b:Nat):=getD a (toNat b) (0,0,[])
def yv(a:M (Int×Int×M (B8×U)))(b:Nat):=length (S.mA a b)
def Xj(a:M (Int×Int×M (B8×U)))(b:Nat×Nat):=S.aSh a (S.mA a b.2) b.1
def sf(a:M (Int×Int×M (B8×U)))(b:Nat×Nat):=(getD a (toNat (Xj a b)) (0,0,[])).2.2
def KT(a:M (Int×Int×M (B8×U)))(b:Nat×Nat):=S.ajF a b.2 b.1
def aar(a:Nat×Nat):=toNat a.1
def KU(a:M (Int×Int×M (B8×U)))(b:Nat×Nat):=S.aQY a (S.uAt a b.2) b.1
def Rv(a:M (Int×Int×M (B8×U))):=a.length
def Xk(a:M (Int×Int×M (B8×U)))(b:Nat×Nat):=aTR (KT a b) (aar b)
def Dr(a:M (Int×Int×M (B8×U)))(b:Nat×Nat):=(getD a (aar b) (0,0,[])).2.2
def KV(a:O)(b:M (Int×Int×M (B8×U))):=S.dp (S.ak a b).1 (S.dD (S.ak a b).2) (mB (S.ak a b).1)
def AR(a b:Int)(c:O)(d:M (Int×Int×M (B8×U))):=drop (toNat a) (take (toNat (a+b)) (S.ak c d).2)
def Rx(a:M (Int×Int×M (B8×U)))(b:Nat):=getD a (toNat b) (0,0,[])
def KW(a:O)(b:M (Int×Int×M (B8×U)))(c:M (Int×Int)):=S.AD (S.fT (S.bC (S.ak a b).1 c))
def AS(a:O)(b:M (Int×Int×M (B8×U)))(c:M (Int×Int)):=take (toNat ((KW a b c).1+2)-toNat (KW a b c).1) (drop (toNat (KW a b c).1) (S.bC (S.ak a b).1 c))
def aaY(a:O)(b:M (Int×Int×M (B8×U)))(c:Nat):=getD (S.ak a b).2 (toNat c) (0,0,[])
def KX(a:O)(b:M (Int×Int×M (B8×U)))(c:Nat):=(S.tB (aaY a b c).1 (aaY a b c).2.1 (aaY a b c).2.2).1
def KY(a:M (Int×Int×M (B8×U)))(b:Nat):=getD a (toNat b) (0,0,[])
def tQ(a:B8)(b:Nat×Int×Int×Int×U):=S.ag a b.2.1 b.2.2.1
def Dt(a:U×U×U):=getD a.2.1 (toNat 0) 0
def aaZ(a:U×U×U):=anl (aRO (fK a.2.1)) (alU (fK a.1)) (Dt a) (getD a.1 (toNat 0) 0)
def aYR(a:U×U×U):=anl (aRO (fK a.1)) (alU (fK a.2.1)) (getD a.1 (toNat 0) 0) (Dt a)
def Ry(a:U×U×U):=anl (aRO (fK a.2.1)) (alU (fK a.1)) (getD a.2.1 (toNat 0) 0) (getD a.1 (toNat 0) 0)
def Rz(a:U×U×U):=anl (aRO (fK a.1)) (alU (fK a.2.1)) (getD a.1 (toNat 0) 0) (getD a.2.1 (toNat 0) 0)
def sh(a:U×U×U):=[Rn (Ry a) (getD a.2.1 (toNat 0) 0) (Rz a) (getD a.1 (toNat 0) 0) 0]
def aa1(a:U×U×U):=anl (aRO (fK a.1)) (alU (fK a.2.1)) (getD a.1 (toNat 0) 0) (getD a.2.1 (toNat 0) 0)
def aa2(a:U×U×U):=anl (aRO (fK a.2.1)) (alU (fK a.1)) (getD a.2.1 (toNat 0) 0) (getD a.1 (toNat 0) 0)
def rm(a:U×U×U):=[Rn (aa2 a) (getD a.2.1 (toNat 0) 0) (aa1 a) (getD a.1 (toNat 0) 0) 0]
def AU(a:U×U):=getD a.1 (toNat 0) 0
def jg(a:U×U):=anl (aRO (fK a.1)) (alU aZe) (AU a) (a3m 0)
def AT(a:U×U):=fU (decide (0<aZe)) (q81 (alU (fK a.1)) (decide (a3m 0<=AU a)))
def K1(a:U×U):=Rn (AT a) (a3m 0) (jg a) (AU a) 0
def AW(a:M (B8×U))(b:B8):=[((S.wv a b).1.1,(S.wv a b).1.2.1,(S.wv a b).1.2.2.1,(S.wv a b).1.2.2.2.1,(S.wv a b).1.2.2.2.2.1,(S.wv a b).1.2.2.2.2.2)]
def AX(a:M (B8×U))(b:B8):=[((S.wv a b).1.1,(S.wv a b).1.2.1,(S.wv a b).1.2.2.1,(S.wv a b).1.2.2.2.1,(S.wv a b).1.2.2.2.2.1,(S.wv a b).1.2.2.2.2.2)]
def aa3(a:M (Int×B8))(b:Nat):=getD a (toNat b) (0,[])
def G1(a:M (Int×B8))(b:Nat):=q81 (ö (aa3 a b).2 []) (decide (S.c9 a b<2))
def Xl(a:B8)(b:Nat):=aTR (S.decode a) (toNat b)
def yy(a:B8)(b:Nat×Nat):=S.I4 a b.2 b.1
def aYl(a:B8)(b:Nat×Nat):=S.jc a (yy a b).1.1 (yy a b).1.2
def RC(a:B8)(b:Nat×Nat):=[((aYl a b).2.1,(aYl a b).2.2.1,(aYl a b).2.2.2.1,(aYl a b).2.2.2.2.1,(aYl a b).2.2.2.2.2.1,(aYl a b).2.2.2.2.2.2)]
def AZ(a:B8):=S.ag a (S.ajM a 1 0).1.1 (S.ajM a 1 0).1.2
def aav(a:B8):=S.ao a (AZ a).1.2.1 (AZ a).1.2.2 2000
def AY(a:B8):=S.aur a (aav a).1.2.1 (aav a).1.2.2
def RD(a:B8):=S.ajM a (S.ajM a 1 0).1.1 (S.ajM a 1 0).1.2
def aZZ(a:B8):=S.aur a (RD a).1.1 (RD a).1.2
def aYm(a:M (M (Int×B8×B8×B8×O×B8)))(b:Nat)(c:Nat×Nat):=getD (getD a (toNat b) []) (toNat c.1) (0,[],[],[],[],[])
def A3(a:M (M (Int×B8×B8×B8×O×B8)))(b:Nat)(c:Nat×Nat):=S.aof ((aYm a b c).1,(aYm a b c).2.1,(aYm a b c).2.2.1,(aYm a b c).2.2.2.1,(aYm a b c).2.2.2.2.1,(aYm a b c).2.2.2.2.2)
def aaH(a:M (M (Int×B8×B8×B8×O×B8)))(b:Nat):Int:=length (getD a (toNat b) [])
def K3(a:M (Int×Int×Int×B8))(b:Nat):=getD a (toNat b) (0,0,0,[])
def K5(a:M (Int×Int×Int×B8))(b:Nat):=(S.pH (S.mT ([],[]) a b).1 (S.mT ([],[]) a b).2 (K3 a b).1 (K3 a b).2.1 (K3 a b).2.2.1 (K3 a b).2.2.2).1
def aa6(a:M (Int×Int×Int×B8))(b:Nat):=getD a (toNat b) (0,0,0,[])
def aa5(a b:M (Int×Int×Int×B8))(c:Nat):=(S.pH (S.aEE a b c).1 (S.aEE a b c).2 (aa6 b c).1 (aa6 b c).2.1 (aa6 b c).2.2.1 (aa6 b c).2.2.2).1
def RE(a b:M (Int×Int×Int×B8))(c:Nat):=(S.bS (S.aEE a b c).1 (S.aEE a b c).2).1
def K6(a b:M (Int×Int×Int×B8))(c:Nat):=Bool.not (S.alN (S.hx a).1 (S.hx a).2 (RE a b c).1 (RE a b c).2 (S.aRL (S.hx a).1 (S.hx a).2 (RE a b c).1 (RE a b c).2).1).2
def K8(a:M (Int×Int×Int×B8)):=(S.bS (S.eZ a).1 (S.eZ a).2).1
def Xo(a:Int)(b:M (Int×Int×Int×B8)):=Bool.not (S.mX (S.hx b).1 (S.hx b).2 a (S.oC (S.hx b).1 (S.hx b).2 a).1).2
def aa7(a:M (Int×Int×Int×B8))(b:Nat):=getD a (toNat b) (0,0,0,[])
def aIl(a:B8):=a.length
def aa8(a:B8)(b:Int)(c:B8):=q81 (Bool.not (S.qI c b)) (decide (1099511627776-b<aIl a))
def nE(a:B8)(b:Int)(c:B8):=bif aa8 a b c then [] else c
def Xp(a:Int)(b:B8):=Bool.not (S.qI b a)
def aWL(a b c d e f g h i:Int)(j:B8)(k:Nat):=S.cb (a10 (Xp a j) b c d e f g h i) (S.pA j a k)
def aam(a:Int)(b:B8)(c:Nat):=[aZg (aSn (gJ (gJ (bif Xp a b then 0 else a)*8)) (56-8*c))]
def aa9(a b c d e f g h i:Int)(j:B8)(k l:Nat):=aVC [(aWL a b c d e f g h i j k).1,(aWL a b c d e f g h i j k).2.1,(aWL a b c d e f g h i j k).2.2.1,(aWL a b c d e f g h i j k).2.2.2.1,(aWL a b c d e f g h i j k).2.2.2.2.1,(aWL a b c d e f g h i j k).2.2.2.2.2.1,(aWL a b c d e f g h i j k).2.2.2.2.2.2.1,(aWL a b c d e f g h i j k).2.2.2.2.2.2.2] l
def a2w(a b c d e f g h i:Int)(j:B8)(k l:Nat):=[aZg (aSn (aa9 a b c d e f g h i j k l) 24),aZg (aSn (aa9 a b c d e f g h i j k l) 16),aZg (aSn (aa9 a b c d e f g h i j k l) 8),aZg (aa9 a b c d e f g h i j k l)]
def Du(a:B8):=(S.cb aYM a).2.2.2.2
def Dv(a:B8):=((S.cb aYM a).1,(S.cb aYM a).2.1,(S.cb aYM a).2.2.1,(S.cb aYM a).2.2.2.1,(Du a).1,(Du a).2.1,(Du a).2.2.1,(Du a).2.2.2)
def Xq(a:B8):=S.sched a 64
def La(a:B8)(b c d e f g h i:Int)(j:Nat):=S.gz (Xq a) (b,c,d,e,f,g,h,i) j
def Xr(a:B8)(b c d e f g h i:Int)(j k:Nat):=Rm (Rm (Rm (Rm (La a b c d e f g h i k).2.2.2.2.2.2.2 (a1Z (La a b c d e f g h i k).2.2.2.2.1 6 11 (S.rotl (La a b c d e f g h i k).2.2.2.2.1 (-25)))) (Vg.e9 (Vg.aT (La a b c d e f g h i k).2.2.2.2.1 (La a b c d e f g h i k).2.2.2.2.2.1) (Vg.aT (4294967296-1-(La a b c d e f g h i k).2.2.2.2.1) (La a b c d e f g h i k).2.2.2.2.2.2.1))) (getD S.Bo (toNat k) 0)) (getD (S.bf a j) (0+toNat k*1) 0)
def K9(a:B8)(b:Nat):=length (S.bf a b)
def Dw(a:Nat):=0+toNat (a-2)*1
def aba(a:Nat):=0+toNat (a-15)*1
def abb(a:B8)(b c d e f g h i:Int)(j:Nat):=((S.proc (b,c,d,e,f,g,h,i) a j).1,(S.proc (b,c,d,e,f,g,h,i) a j).2.1,(S.proc (b,c,d,e,f,g,h,i) a j).2.2.1,(S.proc (b,c,d,e,f,g,h,i) a j).2.2.2.1,(S.proc (b,c,d,e,f,g,h,i) a j).2.2.2.2.1,(S.proc (b,c,d,e,f,g,h,i) a j).2.2.2.2.2.1,(S.proc (b,c,d,e,f,g,h,i) a j).2.2.2.2.2.2.1,(S.proc (b,c,d,e,f,g,h,i) a j).2.2.2.2.2.2.2)
def aWM(a:Int×Int):=aSn (gJ (a.1+a.2)) 1
def aVv(a:Nat):=toNat a
def a1t(a:Nat)(b:Nat×Nat×O×Nat):=ö (yb b.2.2.1 (aVv a+toNat b.2.1)) (yb b.2.2.1 (aVv a+toNat (b.2.1-1)))
def Dx(a:Nat×Nat×O×Nat):=length a.2.2.1
def abc(a:Nat×Nat×O×Nat):=toNat a.1
def A4(a:Nat×Nat×O×Nat):=take (abc a) a.2.2.1++replicate (Dx a-abc a) aUQ++drop (abc a+(Dx a-abc a)) a.2.2.1
def abd(a:O):=a.length
def A5(a:Nat×Nat×O×Nat):=toNat a.1
def abe(a:Nat×Nat×O×Nat):=length a.2.2.1
def Lb(a:Nat×Nat×O×Nat):=take (A5 a) a.2.2.1++replicate (abe a-A5 a) aUQ++drop (A5 a+(abe a-A5 a)) a.2.2.1
def tS(a:Nat):=toNat a
def wO(a:O):=a.length
def jN(a:Nat)(b:Nat×Nat×O×Nat):=ö (yb b.2.2.1 (tS a+toNat b.2.1)) (yb b.2.2.1 (tS a+toNat (b.2.1-1)))
def G2(a:M (B8×U))(b:B8):=yb (S.bn a) (toNat (S.bo a b+1))
def abf(a:B8):=length (S.aS a)
def abg(a:B8)(b:Nat×O×U):=aTR (S.decode a) (toNat b.1)
def abh(a:U)(b:Nat×B8):=S.im (S.aX (aVC a b.1))
def arP(a b:Int):=length (S.cq a b)
def G4(a b:Int)(c:Nat):=getD (S.cq a b) (toNat (arP a b-1-c)) false
def A6(a:O×Int×O):=S.split (mB a.1)
def aL5(a:O×Int×O):=drop (toNat (A6 a)) a.1
def abi(a:O×Int×O):=take (toNat (A6 a)) a.1
def A7(a:O):=a.length
def auu(a:O):=List.set a (toNat (A7 a-2)) (S.bz (yb a (toNat (A7 a-2))) (yb a (toNat (A7 a-2+1))))
theorem au {p q:Prop}(h:q)(e:p=q:=by(try delta q0 q2 q4 q7 q11 q18 q32 ò q42 q43 q44 q45 q46 q47 a2n a02 a03 q56 q57 q60 q72 cE q76 mB q81 jz mC q85 wK fU cV q98 q99 eN fK yb bY ap2 anS a0s arQ FC anG aVo lJ aUQ aMG Jo aVj gg aVL aVp aHz aPv aST arR aVe nD aWT ME qh aUT xQ gJ Dm aVq aWr aVz aPz aI5 FF aZb MH Rk aWU US qi aV4 aQ8 Rl a0t aWV anP aLW UT aYD aZe Jq aub aTm a1T mZ Bz õ Rm alU aVk Rn aSV aW6 aRi dz ö aYE aYF aYG a3j a1U aZf a3k aRM Ju gW an7 aZg aZ2 anl aSi a0u Jw a0v aVf aZ3 baI a04 a1V aSn aZh aWa a1W a3l a3m a1X aVg aW9 a1Y a1Z a10 a3n a0w a3o a3p aRO aWs aZH aZI aU6 a2o a1k aXa a2p a2q aYM aTR aYN aZJ aXb pM aZK aZL aVC a0x KP aZM a1l aVb aWi a1m aYO aVM aU1 aU2 aXi aWw a0y a0z aWx a2r aWj aZN aVs aZO a0A aVO aYP a0B a2s aQa aWy aWz aWA aWB aZP aZQ a1n a1o a2t aVD aWm aXj a1p aZR a1q a0C aWC a0D aWD aZS aWn aXk aTq a1r a0F aZT aZU aVt aXl aX7 aVE a2u aZV aX8 aVl aVu aWE aWF aWG aX9 a9a aYk a9b a9c aS3 aWH aWI aZW aWJ aZX aWK aVm a1s a0G aYQ a2v aZY Rt KQ Xi Ru yv Xj sf KT aar KU Rv Xk Dr KV AR Rx KW AS aaY KX KY tQ Dt aaZ aYR Ry Rz sh aa1 aa2 rm AU jg AT K1 AW AX aa3 G1 Xl yy aYl RC AZ aav AY RD aZZ aYm A3 aaH K3 K5 aa6 aa5 RE K6 K8 Xo aa7 aIl aa8 nE Xp aWL aam aa9 a2w Du Dv Xq La Xr K9 Dw aba abb aWM aVv a1t Dx abc A4 abd A5 abe Lb tS wO jN G2 abf abg abh arP G4 A6 aL5 abi A7 auu);exact rfl):p:=e.mpr h
variable {a0 a1 a2 a3 a4 a5:Prop}
theorem la(h:a0)(H:a1):a0/\a1:=⟨h,H⟩
theorem cj1(h:a0)(H:a1)(a:a2):a0/\a1/\a2:=⟨h,H,a⟩
theorem cj2(h:a0)(H:a1)(a:a2)(b:a3):(a0/\a1)/\a2/\a3:=⟨⟨h,H⟩,a,b⟩
theorem cj3(h:a0)(H:a1)(a:a2):(a0/\a1)/\a2:=⟨⟨h,H⟩,a⟩
theorem cj4(h:a0)(H:a1)(a:a2)(b:a3):a0/\a1/\a2/\a3:=⟨h,H,a,b⟩
theorem SU(h:a0)(H:a1)(a:a2)(b:a3)(c:a4):(a0/\a1/\a2)/\a3/\a4:=⟨⟨h,H,a⟩,b,c⟩
theorem cj6(h:a0)(H:a1)(a:a2)(b:a3)(c:a4):(a0/\a1)/\(a2/\a3)/\a4:=⟨⟨h,H⟩,⟨a,b⟩,c⟩
theorem cj7(h:a0)(H:a1)(a:a2)(b:a3)(c:a4)(d:a5):(a0/\a1)/\(a2/\a3)/\a4/\a5:=⟨⟨h,H⟩,⟨a,b⟩,c,d⟩
theorem cj8(h:a0)(H:a1)(a:a2)(b:a3)(c:a4):(a0/\a1)/\a2/\a3/\a4:=⟨⟨h,H⟩,a,b,c⟩
theorem cj9(h:a0)(H:a1)(a:a2)(b:a3)(c:a4):a0/\(a1/\a2)/\a3/\a4:=⟨h,⟨H,a⟩,b,c⟩
theorem aZi(h:a0)(H:a1)(a:a2)(b:a3)(c:a4):a0/\a1/\(a2/\a3)/\a4:=⟨h,H,⟨a,b⟩,c⟩
theorem aZn(h:a0)(H:a1)(a:a2)(b:a3):a0/\(a1/\a2)/\a3:=⟨h,⟨H,a⟩,b⟩
theorem aZo {a:Prop}(h:a0)(H:a1)(b:a2)(c:a3)(d:a4)(e:a5)(f:a):(a0/\a1/\a2/\a3/\a4)/\a5/\a:=⟨⟨h,H,b,c,d⟩,e,f⟩
theorem aZ4(h:a0)(H:a1)(a:a2)(b:a3)(c:a4):a0/\a1/\a2/\a3/\a4:=⟨h,H,a,b,c⟩
theorem a0M(h:a0)(H:a1)(a:a2)(b:a3)(c:a4)(d:a5):a0/\a1/\a2/\a3/\a4/\a5:=⟨h,H,a,b,c,d⟩
def a05(h:a0)(H:a1)(a:a2)(b:a3)(c:a4)(d:a5):(a0/\a1)/\a2/\(a3/\a4)/\a5:=⟨⟨h,H⟩,a,⟨b,c⟩,d⟩
theorem a06(h:a0)(H:a1)(a:a2)(b:a3):(a0/\a1/\a2)/\a3:=⟨⟨h,H,a⟩,b⟩
def a11 {a:Prop}(h:a0)(H:a1)(b:a2)(c:a3)(d:a4)(e:a5)(f:a):(a0/\a1)/\(a2/\a3)/\(a4/\a5)/\a:=⟨⟨h,H⟩,⟨b,c⟩,⟨d,e⟩,f⟩
theorem a13 {a:Prop}(h:a0)(H:a1)(b:a2)(c:a3)(d:a4)(e:a5)(f:a):a0/\a1/\a2/\a3/\a4/\a5/\a:=⟨h,H,b,c,d,e,f⟩
theorem a14(h:a0)(H:a1)(a:a2)(b:a3)(c:a4)(d:a5):(a0/\a1/\a2/\a3/\a4)/\a5:=⟨⟨h,H,a,b,c⟩,d⟩
end Go
